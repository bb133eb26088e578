import PyProof.Rows.All
import Wide.All
import OpenK.AllK
import Wide.FinOn
import KE.KStateDown
import HandS.ForMost
import HandS.Exc
import HandS.WordsExc
import HandS.Defaults
import HandS.Evl
import HandS.Flow
import HandS.Conv
import HandS.IsInst
import HandS.TupMul
import HandS.TupAny
import HandS.Wide
import HandS.WideBits
import HandS.Property
import HandS.Star
import HandS.OwnEq
import HandS.Flt
import KE.KSuper
import HandS.ClsMeth
import HandS.Nested
import HandS.Style
import HandS.Head0
import HandS.Head1
import HandS.Head2
import HandS.HeadEnd
import HandS.EndBits
import HandS.HeadHook1
import HandS.HeadHook2
import HandS.Text
import HandS.Iter
import HandS.Walk
import HandS.Deep
import KE.DataFind
import HandS.ExcOwn
import HandS.ExcInit
import HandS.ExcField
import HandS.TryMany
import KE.KExcSuper
import HandS.FStr
import KE.KExcIs
import HandS.ExcIs
import HandS.Codes
import PyProof.Draws
import PyProof.EnumMake
import PyProof.TupleIter
import KE.GoesMore
import PyProof.AutoSeq1
import PySem.Challenge.RW_rosterneed_k28_whole_makers_of_tables
set_option Elab.async false
set_option linter.all false
set_option maxRecDepth 100000
set_option maxHeartbeats 4000000
/-! ### part A: defs by name, calls, unions of rules (own layer over HandS) -/
namespace M
open PySem PySem.Spec PyProof.Rows L2 Evl

section
variable {P : Program} {w : World} {K : PySem.W.Frag} {mg : Str → Option Value} {base : Heap}
/-- a def of the module under its name, with its promise -/
structure Fn (P : Program) (w : World) (K : PySem.W.Frag) (mg : Str → Option Value) (base : Heap) (CX : CXT) (k : Nat) (x : Str) (sp : Sp) : Prop where
  ex : ∃ (f : Addr) (fd : FuncData) (ps : List Str), FnOk P w K mg base CX k f fd ps sp ∧ mg x = some (.ref f) ∧ PySem.W.keepIn K (.ref f) = true ∧ Binds K fd ps []
/-- a method of the class at C -/
structure Mt (P : Program) (w : World) (K : PySem.W.Frag) (mg : Str → Option Value) (base : Heap) (CX : CXT) (k : Nat) (C : Addr) (m : Str) (sp : Sp) : Prop where
  ex : ∃ (f : Addr) (fd : FuncData) (ps : List Str), Cls K C ∧ Meth K C m f ∧ FnOk P w K mg base CX k f fd ps sp ∧ Binds K fd ps []

def sp1 (F : V → Hp → VK → XK → Prop) : Sp := fun vs H Q E => ∃ a, vs = [a] ∧ F a H Q E
def sp2 (F : V → V → Hp → VK → XK → Prop) : Sp := fun vs H Q E => ∃ a b, vs = [a, b] ∧ F a b H Q E
def sp3 (F : V → V → V → Hp → VK → XK → Prop) : Sp := fun vs H Q E => ∃ a b c, vs = [a, b, c] ∧ F a b c H Q E
def sp4 (F : V → V → V → V → Hp → VK → XK → Prop) : Sp := fun vs H Q E => ∃ a b c d, vs = [a, b, c, d] ∧ F a b c d H Q E
def sp5 (F : V → V → V → V → V → Hp → VK → XK → Prop) : Sp := fun vs H Q E => ∃ a b c d e, vs = [a, b, c, d, e] ∧ F a b c d e H Q E

theorem sp1_len {F} {p : Str} : ∀ vs H Q E, sp1 F vs H Q E → vs.length = [p].length := fun vs H Q E ⟨a, e, _⟩ => by rw [e]; rfl
theorem sp2_len {F} {p q : Str} : ∀ vs H Q E, sp2 F vs H Q E → vs.length = [p, q].length := fun vs H Q E ⟨a, b, e, _⟩ => by rw [e]; rfl
theorem sp3_len {F} {p q r : Str} : ∀ vs H Q E, sp3 F vs H Q E → vs.length = [p, q, r].length := fun vs H Q E ⟨a, b, c, e, _⟩ => by rw [e]; rfl
theorem sp4_len {F} {p q r u : Str} : ∀ vs H Q E, sp4 F vs H Q E → vs.length = [p, q, r, u].length := fun vs H Q E ⟨a, b, c, d, e, _⟩ => by rw [e]; rfl
theorem sp5_len {F} {p q r u v : Str} : ∀ vs H Q E, sp5 F vs H Q E → vs.length = [p, q, r, u, v].length := fun vs H Q E ⟨a, b, c, d, _, e, _⟩ => by rw [e]; rfl

/-- a def of which nothing is promised (the floor of a recursion) -/
theorem Fn.never {x qual : Str} {params : Arguments} {body : List Stmt} {scope : Scope} {f : Addr} {fd : FuncData} {ps : List Str} {k : Nat}
    (F : FunD K x qual params body scope [] [] f fd) (hm : mg x = some (.ref f))
    (hb : ∀ (kV doc pm : Value) (an : Option Addr) (cdv ct : Value) (us : List Value), us.length = ps.length → bindArgs (PySem.W.fnOf x qual params body scope .none kV doc pm an cdv ct) ⟨us, []⟩ = pure (ps.zip us)) :
    Fn P w K mg base CX0 k x (fun _ _ _ _ => False) :=
  ⟨f, fd, ps, ⟨fun _ _ _ _ h => h.elim, fun _ _ _ _ _ _ _ _ _ _ _ _ _ h => h.elim⟩, hm, F.kp, F.bindsN hb⟩
theorem fnok0 {x qual : Str} {params : Arguments} {body : List Stmt} {scope : Scope} {dvs : List V} {f : Addr} {fd : FuncData} {N ps : List Str} {k : Nat} {sp : Sp}
    (F : FunD K x qual params body scope dvs [] f fd) (S : FnScope N ps scope) (len : ∀ vs H Q E, sp vs H Q E → vs.length = ps.length)
    (hbody : ∀ (cdv : Value) (A : Around) (outer : List Env) (s : Shared) (H : Hp) (vs : List V) (Q : VK) (E : XK), Room k (A.deeper (envOfC qual scope s.heap.objs.size f cdv)) → sp vs H Q E →
      ∃ t, PSs (cxOf CX0 P w K mg base N qual scope f cdv A outer s H E).nox body t ∧ t { nx := fun _ H' => Q .non H', rt := Q } (start N vs) H) :
    FnOk P w K mg base CX0 (k + 1) f fd ps sp := F.ok S len fun cdv A outer s H vs Q E hr h => by
  obtain ⟨t, h1, h2⟩ := hbody cdv A outer s H vs Q E hr h
  exact ⟨t, h1.nox, h2⟩
/-- a def that lets nothing out, by its body -/
theorem Fn.mk0 {x qual : Str} {params : Arguments} {body : List Stmt} {scope : Scope} {f : Addr} {fd : FuncData} {N ps : List Str} {k : Nat} {sp : Sp}
    (F : FunD K x qual params body scope [] [] f fd) (hm : mg x = some (.ref f)) (S : FnScope N ps scope) (len : ∀ vs H Q E, sp vs H Q E → vs.length = ps.length)
    (hb : ∀ (kV doc pm : Value) (an : Option Addr) (cdv ct : Value) (us : List Value), us.length = ps.length → bindArgs (PySem.W.fnOf x qual params body scope .none kV doc pm an cdv ct) ⟨us, []⟩ = pure (ps.zip us))
    (hbody : ∀ (cdv : Value) (A : Around) (outer : List Env) (s : Shared) (H : Hp) (vs : List V) (Q : VK) (E : XK), Room k (A.deeper (envOfC qual scope s.heap.objs.size f cdv)) → sp vs H Q E →
      ∃ t, PSs (cxOf CX0 P w K mg base N qual scope f cdv A outer s H E).nox body t ∧ t { nx := fun _ H' => Q .non H', rt := Q } (start N vs) H) :
    Fn P w K mg base CX0 (k + 1) x sp :=
  ⟨f, fd, ps, F.ok S len fun cdv A outer s H vs Q E hr h => by
    obtain ⟨t, h1, h2⟩ := hbody cdv A outer s H vs Q E hr h
    exact ⟨t, h1.nox, h2⟩, hm, F.kp, F.bindsN hb⟩
theorem Mt.mk0 {x qual : Str} {params : Arguments} {body : List Stmt} {scope : Scope} {f C : Addr} {fd : FuncData} {N ps : List Str} {k : Nat} {sp : Sp} {m : Str}
    (F : FunD K x qual params body scope [] [] f fd) (c : Cls K C) (hm : Meth K C m f) (S : FnScope N ps scope) (len : ∀ vs H Q E, sp vs H Q E → vs.length = ps.length)
    (hb : ∀ (kV doc pm : Value) (an : Option Addr) (cdv ct : Value) (us : List Value), us.length = ps.length → bindArgs (PySem.W.fnOf x qual params body scope .none kV doc pm an cdv ct) ⟨us, []⟩ = pure (ps.zip us))
    (hbody : ∀ (cdv : Value) (A : Around) (outer : List Env) (s : Shared) (H : Hp) (vs : List V) (Q : VK) (E : XK), Room k (A.deeper (envOfC qual scope s.heap.objs.size f cdv)) → sp vs H Q E →
      ∃ t, PSs (cxOf CX0 P w K mg base N qual scope f cdv A outer s H E).nox body t ∧ t { nx := fun _ H' => Q .non H', rt := Q } (start N vs) H) :
    Mt P w K mg base CX0 (k + 1) C m sp :=
  ⟨f, fd, ps, c, hm, F.ok S len fun cdv A outer s H vs Q E hr h => by
    obtain ⟨t, h1, h2⟩ := hbody cdv A outer s H vs Q E hr h
    exact ⟨t, h1.nox, h2⟩, F.bindsN hb⟩
end

section
variable {X : Cx} {CX : CXT} {k j : Nat} {C : Addr} {x m : Str} {sp : Sp} {E : XK} {p pos apos : Pos} {e o : Expr} {es : List Expr} {ta : TE} {t : TA}
theorem pc (c : Fn X.prog X.w X.K X.mg X.base CX k x sp) (hr : Room j X.A) (hk : k ≤ j) (hx : Passes CX X E) (hg : Gl X x) (ha : PA X (e :: es) t)
    (hdb : (x == ("__debug__" : Str)) = false := by decide) (he : starEach (e :: es) X.env = (false, eval e X.env) :: starEach es X.env := by rfl) (hpl : (backTo pos (starEach es X.env)).any (·.1) = false := by rfl) :
    PE X (.Call (.Name x p) (e :: es) [] pos) (tCall sp [] E t) := by
  obtain ⟨f, fd, ps, F, hm, hkp, hb⟩ := c.ex
  exact pe_call F (hr.mono hk) hg hm hkp hb .nil hx ha hdb he hpl
theorem pc0 (c : Fn X.prog X.w X.K X.mg X.base CX k x sp) (hr : Room j X.A) (hk : k ≤ j) (hx : Passes CX X E) (hg : Gl X x)
    (hdb : (x == ("__debug__" : Str)) = false := by decide) :
    PE X (.Call (.Name x p) [] [] pos) (tCall sp [] E tNil) := by
  obtain ⟨f, fd, ps, F, hm, hkp, hb⟩ := c.ex
  exact pe_call0 F (hr.mono hk) hg hm hkp hb .nil hx hdb
end

/-! unions -/
section
variable {X : Cx}
def rAdd (K : PySem.W.Frag) : R2 := fun x y H Q => (rI0 fun i j => .int (i + j)) x y H Q ∨ rCat x y H Q ∨ rCatA K x y H Q ∨ ∃ i j, x = .str i ∧ y = .str j ∧ i.length + j.length ≤ sizeLine ∧ Q (.str (i ++ j)) H
theorem xAdd : OpR X (binaryOp .Add) (rAdd X.K) := op_add.or (op_cat.or (op_catA.or op_add_str))
def rMul (K : PySem.W.Frag) : R2 := fun x y H Q => (rI CMul fun i j => .int (i * j)) x y H Q ∨ rRep x y H Q ∨ rRepT K x y H Q
theorem xMul : OpR X (binaryOp .Mult) (rMul X.K) := op_mul.or (op_rep.or op_repT)
abbrev rDiv : R2 := rI CDivW fun i j => .int (i / j)
theorem xDiv : OpR X (binaryOp .FloorDiv) rDiv := op_fdivW
abbrev rMod : R2 := rI (fun _ j => 0 < j) fun i j => .int (i % j)
theorem xMod : OpR X (binaryOp .Mod) rMod := op_mod
abbrev rSubI : R2 := rI0 fun i j => .int (i - j)
theorem xSub : OpR X (binaryOp .Sub) rSubI := op_sub
abbrev rShl : R2 := rI CShl fun i j => .int (i * 2 ^ j.toNat)
theorem xShl : OpR X (binaryOp .LShift) rShl := op_shlW
abbrev rShr : R2 := rI (fun _ j => 0 ≤ j) fun i j => .int (i / 2 ^ j.toNat)
theorem xShr : OpR X (binaryOp .RShift) rShr := op_shr
abbrev rPow : R2 := rI CPow fun i j => .int (i ^ j.toNat)
theorem xPow : OpR X (binaryOp .Pow) rPow := op_pow
def rEqU (K : PySem.W.Frag) : R2 := fun x y H Q => rEq x y H Q ∨ rEqD K x y H Q
theorem xEq {j : Nat} (hr : Room j X.A) : OpR X (compareOp .Eq) (rEqU X.K) := op_eq.or (op_eqD (by have := hr.un; omega))
def rNeU (K : PySem.W.Frag) : R2 := fun x y H Q => rNe x y H Q ∨ rNeD K x y H Q
theorem xNe {j : Nat} (hr : Room j X.A) : OpR X (compareOp .NotEq) (rNeU X.K) := op_ne.or (op_neD (by have := hr.un; omega))
def rSl (K : PySem.W.Frag) : V → Option Int → Option Int → Hp → VK → Prop := fun x lo hi H Q => rSlL K x lo hi H Q ∨ rSlA K x lo hi H Q ∨ rSlS x lo hi H Q
theorem xSl : SlR X (rSl X.K) := sl_list.or (sl_tupA.or sl_str)
theorem PI.or {tg iter : Expr} {w1 w2 : TI} (h1 : PI X tg iter w1) (h2 : PI X tg iter w2) : PI X tg iter (fun σ H R => w1 σ H R ∨ w2 σ H R) :=
  ⟨fun pins s σ H R I h => h.elim (h1.run pins s σ H R I) (h2.run pins s σ H R I)⟩
def iSeq (K : PySem.W.Frag) (tl : TE) : TI := fun σ H R => iList K tl σ H R ∨ iTup K tl σ H R
theorem pi_seq {tg l : Expr} {tl : TE} (hl : PE X l tl) : PI X tg l (iSeq X.K tl) := PI.or (pi_list hl) (pi_tup hl)
end
end M

/-! ### part B: readings step by step -/
namespace M
open PySem PySem.Spec PyProof.Rows L2 Evl
section
variable {K : PySem.W.Frag} {σ : L2.St} {H : Hp} {Q : VK} {D : Ends} {t u : TS} {te ta tb : TE} {tt tu : TT} {g : TG} {v : V} {r : R2}
theorem w_cut {M : L2.St → Hp → Prop} (h : t { nx := M, rt := D.rt, bk := D.bk, ct := D.ct } σ H) (h2 : ∀ σ' H', M σ' H' → u D σ' H') : tCut t u D σ H := ⟨M, h, h2⟩
theorem w_seq (h : t { nx := u D, rt := D.rt, bk := D.bk, ct := D.ct } σ H) : tSeq t u D σ H := h
theorem w_drop (h : te σ H fun _ H1 => D.nx σ H1) : tDrop te D σ H := h
theorem w_asg (h : te σ H fun x H1 => g x σ H1 D.nx) : tAsg te g D σ H := h
theorem w_ret (h : te σ H D.rt) : tRet te D σ H := h
theorem w_retN (h : D.rt .non H) : tRetN D σ H := h
theorem w_next (h : D.nx σ H) : tNext D σ H := h
theorem w_break (h : D.bk σ H) : tBreak D σ H := h
theorem w_ifS (h : tt σ H fun b H1 => if b = true then t D σ H1 else u D σ H1) : tIfS tt t u D σ H := h
theorem w_op (h : ta σ H fun x H1 => tb σ H1 fun y H2 => r x y H2 Q) : tOp r ta tb σ H Q := h
theorem w_un {r : V → Hp → VK → Prop} (h : ta σ H fun x H1 => r x H1 Q) : tUn r ta σ H Q := h
theorem w_c (h : Q v H) : tC v σ H Q := h
theorem w_test {Q : Bool → Hp → Prop} (h : te σ H fun x H' => ∃ k, x = .bl k ∧ Q k H') : tTest te σ H Q := h
theorem w_tB {Q : Bool → Hp → Prop} (h : te σ H fun x H' => ∃ k, x = .bl k ∧ Q k H') : tB te σ H Q := h
theorem w_exbl {Q : Bool → Hp → Prop} {b : Bool} (h : Q b H) : ∃ k, V.bl b = .bl k ∧ Q k H := ⟨b, rfl, h⟩
theorem w_exbl2 {Q : Bool → Prop} {b : Bool} (h : Q b) : ∃ k, V.bl b = .bl k ∧ Q k := ⟨b, rfl, h⟩
theorem w_and {Q : Bool → Hp → Prop} (h : tt σ H fun c H1 => if c = true then tu σ H1 Q else Q false H1) : tAnd tt tu σ H Q := h
theorem w_or {Q : Bool → Hp → Prop} (h : tt σ H fun c H1 => if c = true then Q true H1 else tu σ H1 Q) : tOr tt tu σ H Q := h
theorem w_not {Q : Bool → Hp → Prop} (h : tt σ H fun c H1 => Q (!c) H1) : tNot tt σ H Q := h
theorem w_andV (h : ta σ H fun x H1 => ∃ c, x = .bl c ∧ if c = true then tb σ H1 Q else Q (.bl false) H1) : tAndV ta tb σ H Q := h
theorem w_orV (h : ta σ H fun x H1 => ∃ c, x = .bl c ∧ if c = true then Q (.bl true) H1 else tb σ H1 Q) : tOrV ta tb σ H Q := h
theorem w_notV (h : ta σ H fun x H1 => ∃ c, x = .bl c ∧ Q (.bl (!c)) H1) : tNotV ta σ H Q := h
theorem w_ifE (h : tt σ H fun c H1 => if c = true then ta σ H1 Q else tb σ H1 Q) : tIf tt ta tb σ H Q := h
theorem w_chain {r' : R2} {tc : TE} (h : ta σ H fun x H1 => tb σ H1 fun y H2 => r x y H2 fun z H3 => ∃ k, z = .bl k ∧ (if k = true then tc σ H3 fun w' H4 => r' y w' H4 Q else Q (.bl false) H3)) : tChain r r' ta tb tc σ H Q := h
theorem w_nil {Q : List V → Hp → Prop} (h : Q [] H) : tNil σ H Q := h
theorem w_cons {tr : TA} {Q : List V → Hp → Prop} (h : ta σ H fun x H1 => tr σ H1 fun xs H2 => Q (x :: xs) H2) : tCons ta tr σ H Q := h
theorem w_cb {r : List V → Hp → VK → Prop} {t : TA} (h : t σ H fun vs H1 => r vs H1 Q) : tCB r t σ H Q := h
theorem w_call {sp : Sp} {E : XK} {t : TA} (h : t σ H fun vs H1 => sp (vs ++ []) H1 Q E) : tCall sp [] E t σ H Q := h
theorem w_call1 {F} {E : XK} {a : V} (h : F a H Q E) : sp1 F ([a] ++ []) H Q E := ⟨a, rfl, h⟩
theorem w_call2 {F} {E : XK} {a b : V} (h : F a b H Q E) : sp2 F ([a, b] ++ []) H Q E := ⟨a, b, rfl, h⟩
theorem w_call3 {F} {E : XK} {a b c : V} (h : F a b c H Q E) : sp3 F ([a, b, c] ++ []) H Q E := ⟨a, b, c, rfl, h⟩
theorem w_call4 {F} {E : XK} {a b c d : V} (h : F a b c d H Q E) : sp4 F ([a, b, c, d] ++ []) H Q E := ⟨a, b, c, d, rfl, h⟩
theorem w_call5 {F} {E : XK} {a b c d e : V} (h : F a b c d e H Q E) : sp5 F ([a, b, c, d, e] ++ []) H Q E := ⟨a, b, c, d, e, rfl, h⟩
theorem w_callM1 {F} {E : XK} {x : V} (h : F x H Q E) : sp1 F (x :: ([] ++ [])) H Q E := ⟨x, rfl, h⟩
theorem w_callM2 {F} {E : XK} {x a : V} (h : F x a H Q E) : sp2 F (x :: ([a] ++ [])) H Q E := ⟨x, a, rfl, h⟩
theorem w_callM3 {F} {E : XK} {x a b : V} (h : F x a b H Q E) : sp3 F (x :: ([a, b] ++ [])) H Q E := ⟨x, a, b, rfl, h⟩
theorem w_callM4 {F} {E : XK} {x a b c : V} (h : F x a b c H Q E) : sp4 F (x :: ([a, b, c] ++ [])) H Q E := ⟨x, a, b, c, rfl, h⟩
/-- a new tuple, a new list: what is asked, named -/
def NewT (xs : List V) (H : Hp) (Q : VK) : Prop := xs.length ≤ sizeLine ∧ ∀ p, H p = none → Q (.ref p) (upd H p (.tup xs))
def NewL (xs : List V) (H : Hp) (Q : VK) : Prop := xs.length ≤ sizeLine ∧ ∀ p, H p = none → Q (.ref p) (upd H p (.lst xs))
theorem w_tup {t : TA} (h : t σ H fun xs H1 => NewT xs H1 Q) : tTup t σ H Q := h
theorem w_lst {t : TA} (h : t σ H fun xs H1 => NewL xs H1 Q) : tLst t σ H Q := h
theorem w_newT {xs : List V} (hz : xs.length ≤ sizeLine) (h : ∀ p H1, H p = none → Ex H H1 → H1 p = some (.tup xs) → Q (.ref p) H1) : NewT xs H Q :=
  ⟨hz, fun p hp => h p _ hp (Ex.new hp) upd_same⟩
theorem w_newL {xs : List V} (hz : xs.length ≤ sizeLine) (h : ∀ p H1, H p = none → Ex H H1 → H1 p = some (.lst xs) → Q (.ref p) H1) : NewL xs H Q :=
  ⟨hz, fun p hp => h p _ hp (Ex.new hp) upd_same⟩
theorem w_sl {r : V → Option Int → Option Int → Hp → VK → Prop} {tl th : TO} (h : te σ H fun x H1 => tl σ H1 fun l H2 => th σ H2 fun u H3 => r x l u H3 Q) : tSl r te tl th σ H Q := h
theorem w_part {Q : Option Int → Hp → Prop} (h : te σ H fun x H1 => ∃ i, x = .int i ∧ Q (some i) H1) : tPart te σ H Q := h
theorem w_noPart {Q : Option Int → Hp → Prop} (h : Q none H) : tNoPart σ H Q := h
theorem w_exint {Q : Int → Prop} {i : Int} (h : Q i) : ∃ k, V.int i = .int k ∧ Q k := ⟨i, rfl, h⟩
theorem w_gsub {to ti : TE} {s : TSet} {Q : L2.St → Hp → Prop} (h : to σ H fun o H1 => ti σ H1 fun i H2 => s o i v H2 fun H3 => Q σ H3) : gSub to ti s v σ H Q := h
theorem w_par {i j : Nat} {ta : TA} (h : ta σ H fun vs H1 => ∃ v w, vs = [v, w] ∧ D.nx ((List.set σ i (some v)).set j (some w)) H1) : tPar i j ta D σ H := h
theorem w_yes {Q : Bool → Hp → Prop} (h : Q true H) : tYes σ H Q := h
/-! tuples unpacked -/
theorem w_gtup {n : Nat} {t : TGs} {a : Addr} {xs : List V} {Q : L2.St → Hp → Prop} (hs : SqT K H a xs) (hl : xs.length = n) (h : t xs σ H Q) : gTup K n t (.ref a) σ H Q := ⟨a, xs, rfl, hs, hl, h⟩
theorem w_gcons {g : TG} {us : TGs} {x : V} {xs : List V} {Q : L2.St → Hp → Prop} (h : g x σ H fun σ' H' => us xs σ' H' Q) : gCons g us (x :: xs) σ H Q := ⟨x, xs, rfl, h⟩
theorem w_gnil {Q : L2.St → Hp → Prop} (h : Q σ H) : gNil [] σ H Q := ⟨rfl, h⟩
/-! ifs -/
theorem w_ite {c A B : Prop} [Decidable c] (h1 : c → A) (h2 : ¬ c → B) : if decide c = true then A else B := by
  by_cases h : c
  · rw [if_pos (decide_eq_true h)]; exact h1 h
  · rw [if_neg (by rw [decide_eq_false h]; exact Bool.false_ne_true)]; exact h2 h
theorem w_iteN {c A B : Prop} [Decidable c] (h1 : ¬ c → A) (h2 : c → B) : if (!decide c) = true then A else B := by
  by_cases h : c
  · rw [decide_eq_true h, if_neg (by decide)]; exact h2 h
  · rw [decide_eq_false h, if_pos (by decide)]; exact h1 h
theorem w_dT {c A B : Prop} [Decidable c] (h : c) (h1 : A) : if decide c = true then A else B := w_ite (fun _ => h1) fun n => absurd h n
theorem w_dF {c A B : Prop} [Decidable c] (h : ¬ c) (h1 : B) : if decide c = true then A else B := w_ite (fun n => absurd n h) fun _ => h1
theorem w_nT {c A B : Prop} [Decidable c] (h : ¬ c) (h1 : A) : if (!decide c) = true then A else B := w_iteN (fun _ => h1) fun n => absurd n h
theorem w_nF {c A B : Prop} [Decidable c] (h : c) (h1 : B) : if (!decide c) = true then A else B := w_iteN (fun n => absurd h n) fun _ => h1
theorem w_bT {b : Bool} {A B : Prop} (h : b = true) (h1 : A) : if b = true then A else B := by rw [if_pos h]; exact h1
theorem w_bF {b : Bool} {A B : Prop} (h : b = false) (h1 : B) : if b = true then A else B := by rw [if_neg (by rw [h]; decide)]; exact h1
theorem w_b2 {b : Bool} {A B : Prop} (h1 : b = true → A) (h2 : b = false → B) : if b = true then A else B := by
  cases b
  · exact iteF (h2 rfl)
  · exact iteT (h1 rfl)

/-- a store, named -/
def SetN (i : Nat) (v : V) (l : L2.St) (H : Hp) (Q : L2.St → Hp → Prop) : Prop := Q (l.set i (some v)) H
theorem w_nn {i : Nat} {Q : L2.St → Hp → Prop} (h : SetN i v σ H Q) : gName i v σ H Q := h
def GetN (i : Nat) (l : L2.St) (H : Hp) (Q : VK) : Prop := ∃ v, l[i]? = some (some v) ∧ Q v H
theorem w_vv {i : Nat} (h : GetN i σ H Q) : tVar i σ H Q := h
theorem w_v0 {l : L2.St} (h : Q v H) : GetN 0 (some v :: l) H Q := ⟨v, rfl, h⟩
theorem w_n0 {y : Option V} {l : L2.St} {Q : L2.St → Hp → Prop} (h : Q (some v :: l) H) : SetN 0 v (y :: l) H Q := h
theorem w_v1 {x0 : Option V} {l : L2.St} (h : Q v H) : GetN 1 (x0 :: some v :: l) H Q := ⟨v, rfl, h⟩
theorem w_n1 {x0 : Option V} {y : Option V} {l : L2.St} {Q : L2.St → Hp → Prop} (h : Q (x0 :: some v :: l) H) : SetN 1 v (x0 :: y :: l) H Q := h
theorem w_v2 {x0 x1 : Option V} {l : L2.St} (h : Q v H) : GetN 2 (x0 :: x1 :: some v :: l) H Q := ⟨v, rfl, h⟩
theorem w_n2 {x0 x1 : Option V} {y : Option V} {l : L2.St} {Q : L2.St → Hp → Prop} (h : Q (x0 :: x1 :: some v :: l) H) : SetN 2 v (x0 :: x1 :: y :: l) H Q := h
theorem w_v3 {x0 x1 x2 : Option V} {l : L2.St} (h : Q v H) : GetN 3 (x0 :: x1 :: x2 :: some v :: l) H Q := ⟨v, rfl, h⟩
theorem w_n3 {x0 x1 x2 : Option V} {y : Option V} {l : L2.St} {Q : L2.St → Hp → Prop} (h : Q (x0 :: x1 :: x2 :: some v :: l) H) : SetN 3 v (x0 :: x1 :: x2 :: y :: l) H Q := h
theorem w_v4 {x0 x1 x2 x3 : Option V} {l : L2.St} (h : Q v H) : GetN 4 (x0 :: x1 :: x2 :: x3 :: some v :: l) H Q := ⟨v, rfl, h⟩
theorem w_n4 {x0 x1 x2 x3 : Option V} {y : Option V} {l : L2.St} {Q : L2.St → Hp → Prop} (h : Q (x0 :: x1 :: x2 :: x3 :: some v :: l) H) : SetN 4 v (x0 :: x1 :: x2 :: x3 :: y :: l) H Q := h
theorem w_v5 {x0 x1 x2 x3 x4 : Option V} {l : L2.St} (h : Q v H) : GetN 5 (x0 :: x1 :: x2 :: x3 :: x4 :: some v :: l) H Q := ⟨v, rfl, h⟩
theorem w_n5 {x0 x1 x2 x3 x4 : Option V} {y : Option V} {l : L2.St} {Q : L2.St → Hp → Prop} (h : Q (x0 :: x1 :: x2 :: x3 :: x4 :: some v :: l) H) : SetN 5 v (x0 :: x1 :: x2 :: x3 :: x4 :: y :: l) H Q := h
theorem w_v6 {x0 x1 x2 x3 x4 x5 : Option V} {l : L2.St} (h : Q v H) : GetN 6 (x0 :: x1 :: x2 :: x3 :: x4 :: x5 :: some v :: l) H Q := ⟨v, rfl, h⟩
theorem w_n6 {x0 x1 x2 x3 x4 x5 : Option V} {y : Option V} {l : L2.St} {Q : L2.St → Hp → Prop} (h : Q (x0 :: x1 :: x2 :: x3 :: x4 :: x5 :: some v :: l) H) : SetN 6 v (x0 :: x1 :: x2 :: x3 :: x4 :: x5 :: y :: l) H Q := h
theorem w_v7 {x0 x1 x2 x3 x4 x5 x6 : Option V} {l : L2.St} (h : Q v H) : GetN 7 (x0 :: x1 :: x2 :: x3 :: x4 :: x5 :: x6 :: some v :: l) H Q := ⟨v, rfl, h⟩
theorem w_n7 {x0 x1 x2 x3 x4 x5 x6 : Option V} {y : Option V} {l : L2.St} {Q : L2.St → Hp → Prop} (h : Q (x0 :: x1 :: x2 :: x3 :: x4 :: x5 :: x6 :: some v :: l) H) : SetN 7 v (x0 :: x1 :: x2 :: x3 :: x4 :: x5 :: x6 :: y :: l) H Q := h
theorem w_v8 {x0 x1 x2 x3 x4 x5 x6 x7 : Option V} {l : L2.St} (h : Q v H) : GetN 8 (x0 :: x1 :: x2 :: x3 :: x4 :: x5 :: x6 :: x7 :: some v :: l) H Q := ⟨v, rfl, h⟩
theorem w_n8 {x0 x1 x2 x3 x4 x5 x6 x7 : Option V} {y : Option V} {l : L2.St} {Q : L2.St → Hp → Prop} (h : Q (x0 :: x1 :: x2 :: x3 :: x4 :: x5 :: x6 :: x7 :: some v :: l) H) : SetN 8 v (x0 :: x1 :: x2 :: x3 :: x4 :: x5 :: x6 :: x7 :: y :: l) H Q := h
theorem w_v9 {x0 x1 x2 x3 x4 x5 x6 x7 x8 : Option V} {l : L2.St} (h : Q v H) : GetN 9 (x0 :: x1 :: x2 :: x3 :: x4 :: x5 :: x6 :: x7 :: x8 :: some v :: l) H Q := ⟨v, rfl, h⟩
theorem w_n9 {x0 x1 x2 x3 x4 x5 x6 x7 x8 : Option V} {y : Option V} {l : L2.St} {Q : L2.St → Hp → Prop} (h : Q (x0 :: x1 :: x2 :: x3 :: x4 :: x5 :: x6 :: x7 :: x8 :: some v :: l) H) : SetN 9 v (x0 :: x1 :: x2 :: x3 :: x4 :: x5 :: x6 :: x7 :: x8 :: y :: l) H Q := h
theorem w_v10 {x0 x1 x2 x3 x4 x5 x6 x7 x8 x9 : Option V} {l : L2.St} (h : Q v H) : GetN 10 (x0 :: x1 :: x2 :: x3 :: x4 :: x5 :: x6 :: x7 :: x8 :: x9 :: some v :: l) H Q := ⟨v, rfl, h⟩
theorem w_n10 {x0 x1 x2 x3 x4 x5 x6 x7 x8 x9 : Option V} {y : Option V} {l : L2.St} {Q : L2.St → Hp → Prop} (h : Q (x0 :: x1 :: x2 :: x3 :: x4 :: x5 :: x6 :: x7 :: x8 :: x9 :: some v :: l) H) : SetN 10 v (x0 :: x1 :: x2 :: x3 :: x4 :: x5 :: x6 :: x7 :: x8 :: x9 :: y :: l) H Q := h
theorem w_v11 {x0 x1 x2 x3 x4 x5 x6 x7 x8 x9 x10 : Option V} {l : L2.St} (h : Q v H) : GetN 11 (x0 :: x1 :: x2 :: x3 :: x4 :: x5 :: x6 :: x7 :: x8 :: x9 :: x10 :: some v :: l) H Q := ⟨v, rfl, h⟩
theorem w_n11 {x0 x1 x2 x3 x4 x5 x6 x7 x8 x9 x10 : Option V} {y : Option V} {l : L2.St} {Q : L2.St → Hp → Prop} (h : Q (x0 :: x1 :: x2 :: x3 :: x4 :: x5 :: x6 :: x7 :: x8 :: x9 :: x10 :: some v :: l) H) : SetN 11 v (x0 :: x1 :: x2 :: x3 :: x4 :: x5 :: x6 :: x7 :: x8 :: x9 :: x10 :: y :: l) H Q := h
theorem w_v12 {x0 x1 x2 x3 x4 x5 x6 x7 x8 x9 x10 x11 : Option V} {l : L2.St} (h : Q v H) : GetN 12 (x0 :: x1 :: x2 :: x3 :: x4 :: x5 :: x6 :: x7 :: x8 :: x9 :: x10 :: x11 :: some v :: l) H Q := ⟨v, rfl, h⟩
theorem w_n12 {x0 x1 x2 x3 x4 x5 x6 x7 x8 x9 x10 x11 : Option V} {y : Option V} {l : L2.St} {Q : L2.St → Hp → Prop} (h : Q (x0 :: x1 :: x2 :: x3 :: x4 :: x5 :: x6 :: x7 :: x8 :: x9 :: x10 :: x11 :: some v :: l) H) : SetN 12 v (x0 :: x1 :: x2 :: x3 :: x4 :: x5 :: x6 :: x7 :: x8 :: x9 :: x10 :: x11 :: y :: l) H Q := h
theorem w_v13 {x0 x1 x2 x3 x4 x5 x6 x7 x8 x9 x10 x11 x12 : Option V} {l : L2.St} (h : Q v H) : GetN 13 (x0 :: x1 :: x2 :: x3 :: x4 :: x5 :: x6 :: x7 :: x8 :: x9 :: x10 :: x11 :: x12 :: some v :: l) H Q := ⟨v, rfl, h⟩
theorem w_n13 {x0 x1 x2 x3 x4 x5 x6 x7 x8 x9 x10 x11 x12 : Option V} {y : Option V} {l : L2.St} {Q : L2.St → Hp → Prop} (h : Q (x0 :: x1 :: x2 :: x3 :: x4 :: x5 :: x6 :: x7 :: x8 :: x9 :: x10 :: x11 :: x12 :: some v :: l) H) : SetN 13 v (x0 :: x1 :: x2 :: x3 :: x4 :: x5 :: x6 :: x7 :: x8 :: x9 :: x10 :: x11 :: x12 :: y :: l) H Q := h
theorem w_v14 {x0 x1 x2 x3 x4 x5 x6 x7 x8 x9 x10 x11 x12 x13 : Option V} {l : L2.St} (h : Q v H) : GetN 14 (x0 :: x1 :: x2 :: x3 :: x4 :: x5 :: x6 :: x7 :: x8 :: x9 :: x10 :: x11 :: x12 :: x13 :: some v :: l) H Q := ⟨v, rfl, h⟩
theorem w_n14 {x0 x1 x2 x3 x4 x5 x6 x7 x8 x9 x10 x11 x12 x13 : Option V} {y : Option V} {l : L2.St} {Q : L2.St → Hp → Prop} (h : Q (x0 :: x1 :: x2 :: x3 :: x4 :: x5 :: x6 :: x7 :: x8 :: x9 :: x10 :: x11 :: x12 :: x13 :: some v :: l) H) : SetN 14 v (x0 :: x1 :: x2 :: x3 :: x4 :: x5 :: x6 :: x7 :: x8 :: x9 :: x10 :: x11 :: x12 :: x13 :: y :: l) H Q := h
theorem w_v15 {x0 x1 x2 x3 x4 x5 x6 x7 x8 x9 x10 x11 x12 x13 x14 : Option V} {l : L2.St} (h : Q v H) : GetN 15 (x0 :: x1 :: x2 :: x3 :: x4 :: x5 :: x6 :: x7 :: x8 :: x9 :: x10 :: x11 :: x12 :: x13 :: x14 :: some v :: l) H Q := ⟨v, rfl, h⟩
theorem w_n15 {x0 x1 x2 x3 x4 x5 x6 x7 x8 x9 x10 x11 x12 x13 x14 : Option V} {y : Option V} {l : L2.St} {Q : L2.St → Hp → Prop} (h : Q (x0 :: x1 :: x2 :: x3 :: x4 :: x5 :: x6 :: x7 :: x8 :: x9 :: x10 :: x11 :: x12 :: x13 :: x14 :: some v :: l) H) : SetN 15 v (x0 :: x1 :: x2 :: x3 :: x4 :: x5 :: x6 :: x7 :: x8 :: x9 :: x10 :: x11 :: x12 :: x13 :: x14 :: y :: l) H Q := h

/-! rules by values -/
theorem r_addI {i j : Int} (h : Q (.int (i + j)) H) : rAdd K (.int i) (.int j) H Q := .inl ⟨i, j, rfl, rfl, h⟩
theorem r_subI {i j : Int} (h : Q (.int (i - j)) H) : rSubI (.int i) (.int j) H Q := ⟨i, j, rfl, rfl, h⟩
theorem r_mulI {i j : Int} (hc : CMul i j) (h : Q (.int (i * j)) H) : rMul K (.int i) (.int j) H Q := .inl ⟨i, j, rfl, rfl, hc, h⟩
theorem r_divI {i j : Int} (h0 : 0 < j) (h1 : j < 2 ^ 62) (h : Q (.int (i / j)) H) : rDiv (.int i) (.int j) H Q := ⟨i, j, rfl, rfl, ⟨h0, by
  have h2 : j.natAbs < 2 ^ 62 := by omega
  have h3 : j.natAbs.log2 < 62 := (Nat.log2_lt (by omega)).mpr h2
  omega⟩, h⟩
theorem r_modI {i j : Int} (h0 : 0 < j) (h : Q (.int (i % j)) H) : rMod (.int i) (.int j) H Q := ⟨i, j, rfl, rfl, h0, h⟩
theorem r_addL {a b : Addr} {xs ys : List V} (ha : H a = some (.lst xs)) (hb : H b = some (.lst ys)) (hz : xs.length + ys.length ≤ sizeLine) (h : ∀ p H1, H p = none → Ex H H1 → H1 p = some (.lst (xs ++ ys)) → Q (.ref p) H1) : rAdd K (.ref a) (.ref b) H Q :=
  .inr (.inl ⟨a, b, xs, ys, rfl, rfl, ha, hb, hz, fun p hp => h p _ hp (Ex.new hp) upd_same⟩)
theorem r_addT {a b : Addr} {xs ys : List V} (ha : SqT K H a xs) (hb : SqT K H b ys) (hz : xs.length + ys.length ≤ sizeLine) (h : ∀ p H1, Ex H H1 → SqT K H1 p (xs ++ ys) → Q (.ref p) H1) : rAdd K (.ref a) (.ref b) H Q :=
  .inr (.inr (.inl ⟨a, b, xs, ys, rfl, rfl, ha, hb, hz, fun e => h b H (Ex.refl H) (by rw [e]; exact hb), fun _ e => h a H (Ex.refl H) (by rw [e, List.append_nil]; exact ha), fun _ _ p hp => h p _ (Ex.new hp) (st_of upd_same)⟩))
theorem r_neg {i : Int} (h : Q (.int (-i)) H) : (rU fun i => .int (-i)) (.int i) H Q := ⟨i, rfl, h⟩
theorem r_lt {i j : Int} (h : Q (.bl (decide (i < j))) H) : (rI0 fun i j => .bl (decide (i < j))) (.int i) (.int j) H Q := ⟨i, j, rfl, rfl, h⟩
theorem r_le {i j : Int} (h : Q (.bl (decide (i ≤ j))) H) : (rI0 fun i j => .bl (decide (i ≤ j))) (.int i) (.int j) H Q := ⟨i, j, rfl, rfl, h⟩
theorem r_gt {i j : Int} (h : Q (.bl (decide (j < i))) H) : (rI0 fun i j => .bl (decide (j < i))) (.int i) (.int j) H Q := ⟨i, j, rfl, rfl, h⟩
theorem r_ge {i j : Int} (h : Q (.bl (decide (j ≤ i))) H) : (rI0 fun i j => .bl (decide (j ≤ i))) (.int i) (.int j) H Q := ⟨i, j, rfl, rfl, h⟩
end
end M

/-! ### part C: data, equality, built-ins, comprehensions -/
namespace M
open PySem PySem.Spec PyProof.Rows L2 Evl

abbrev dInts (ns : List Int) : PyData := .tuple (ns.map .int)
abbrev dIntL (ns : List Int) : PyData := .list (ns.map .int)
def dOpt : Option Int → PyData
  | none => .none
  | some i => .int i
def optV : Option Int → V
  | none => .non
  | some i => .int i
abbrev vI (ns : List Int) : List V := ns.map V.int
abbrev dRaw (h l : List Int) (r : Int) : PyData := .tuple [dInts h, dInts l, .int r]

section
variable {K : PySem.W.Frag} {H H' : Hp} {v : V} {Q : VK}
mutual
theorem dp_ex (e : Ex H H') : ∀ {d : PyData} {v : V}, Dp K H v d → Dp K H' v d
  | _, _, .non => .non
  | _, _, .bl b => .bl b
  | _, _, .int i => .int i
  | _, _, .str x => .str x
  | _, _, .lst h a => .lst (ex_l e h) (dpAll_ex e a)
  | _, _, .tup h a => .tup (ex_t e h) (dpAll_ex e a)
theorem dpAll_ex (e : Ex H H') : ∀ {ds : List PyData} {vs : List V}, DpAll K H vs ds → DpAll K H' vs ds
  | _, _, .nil => .nil
  | _, _, .cons a r => .cons (dp_ex e a) (dpAll_ex e r)
end
theorem dpAll_ints : ∀ {ns : List Int} {vs : List V}, DpAll K H vs (ns.map .int) → vs = vI ns
  | [], _, .nil => rfl
  | _ :: _, _, .cons (.int _) r => by rw [dpAll_ints r]; rfl
theorem dpAll_of_ints : ∀ {ns : List Int}, DpAll K H (vI ns) (ns.map .int)
  | [] => .nil
  | n :: _ => .cons (.int n) dpAll_of_ints
theorem dp_ints {ns : List Int} (h : Dp K H v (dInts ns)) : ∃ a, v = .ref a ∧ SqT K H a (vI ns) := by
  cases h with
  | tup h a => rw [dpAll_ints a] at h; exact ⟨_, rfl, h⟩
theorem dp_intL {ns : List Int} (h : Dp K H v (dIntL ns)) : ∃ a, v = .ref a ∧ SqL K H a (vI ns) := by
  cases h with
  | lst h a => rw [dpAll_ints a] at h; exact ⟨_, rfl, h⟩
theorem dp_of_ints {a : Addr} {ns : List Int} (h : SqT K H a (vI ns)) : Dp K H (.ref a) (dInts ns) := .tup h dpAll_of_ints
theorem dp_of_intL {a : Addr} {ns : List Int} (h : SqL K H a (vI ns)) : Dp K H (.ref a) (dIntL ns) := .lst h dpAll_of_ints
theorem dp_opt {p : Option Int} (h : Dp K H v (dOpt p)) : v = optV p := by
  cases p with
  | none => cases h; rfl
  | some i => cases h; rfl
theorem dp_of_opt {p : Option Int} : Dp K H (optV p) (dOpt p) := by
  cases p with
  | none => exact .non
  | some i => exact .int i
theorem dp_toInt {i : Int} (h : Dp K H v (.int i)) : v = .int i := by cases h; rfl
theorem dp_toBl {b : Bool} (h : Dp K H v (.bool b)) : v = .bl b := by cases h; rfl
theorem dp_toNon (h : Dp K H v .none) : v = .non := by cases h; rfl
/-- a raw table: a triple of two tuples of ints and an int -/
structure RawAt (K : PySem.W.Frag) (H : Hp) (a : Addr) (h l : List Int) (r : Int) : Prop where
  ex : ∃ th tl, SqT K H a [.ref th, .ref tl, .int r] ∧ SqT K H th (vI h) ∧ SqT K H tl (vI l)
theorem dp_raw {h l : List Int} {r : Int} (d : Dp K H v (dRaw h l r)) : ∃ a th tl, v = .ref a ∧ SqT K H a [.ref th, .ref tl, .int r] ∧ SqT K H th (vI h) ∧ SqT K H tl (vI l) := by
  cases d with
  | tup s q =>
    cases q with
    | cons q1 q => cases q with
      | cons q2 q => cases q with
        | cons q3 q =>
          cases q
          cases q3
          obtain ⟨th, rfl, s1⟩ := dp_ints q1
          obtain ⟨tl, rfl, s2⟩ := dp_ints q2
          exact ⟨_, th, tl, rfl, s, s1, s2⟩
theorem dp_of_raw {a th tl : Addr} {h l : List Int} {r : Int} (s : SqT K H a [.ref th, .ref tl, .int r]) (s1 : SqT K H th (vI h)) (s2 : SqT K H tl (vI l)) : Dp K H (.ref a) (dRaw h l r) :=
  .tup s (.cons (dp_of_ints s1) (.cons (dp_of_ints s2) (.cons (.int r) .nil)))
theorem dp_t2 {d1 d2 : PyData} (d : Dp K H v (.tuple [d1, d2])) : ∃ a x y, v = .ref a ∧ SqT K H a [x, y] ∧ Dp K H x d1 ∧ Dp K H y d2 := by
  cases d with
  | tup s q => cases q with
    | cons q1 q => cases q with
      | cons q2 q => cases q; exact ⟨_, _, _, rfl, s, q1, q2⟩
theorem dp_t3 {d1 d2 d3 : PyData} (d : Dp K H v (.tuple [d1, d2, d3])) : ∃ a x y z, v = .ref a ∧ SqT K H a [x, y, z] ∧ Dp K H x d1 ∧ Dp K H y d2 ∧ Dp K H z d3 := by
  cases d with
  | tup s q => cases q with
    | cons q1 q => cases q with
      | cons q2 q => cases q with
        | cons q3 q => cases q; exact ⟨_, _, _, _, rfl, s, q1, q2, q3⟩
/-- what is wanted of a def that makes the value of d and leaves what stands -/
def RetD (K : PySem.W.Frag) (d : PyData) (H : Hp) (Q : VK) : Prop := ∀ v H', Ex H H' → Dp K H' v d → Q v H'
theorem RetD.int {i : Int} (k : RetD K (.int i) H Q) (e : Ex H H') : Q (.int i) H' := k _ _ e (.int i)
theorem RetD.bl {b : Bool} (k : RetD K (.bool b) H Q) (e : Ex H H') : Q (.bl b) H' := k _ _ e (.bl b)
theorem RetD.opt {p : Option Int} (k : RetD K (dOpt p) H Q) (e : Ex H H') : Q (optV p) H' := k _ _ e dp_of_opt
theorem RetD.non (k : RetD K .none H Q) (e : Ex H H') : Q .non H' := k _ _ e .non
end

/-! the type of data -/
def tyD : PyData → Value
  | .none => .type "NoneType"
  | .bool _ => .type "bool"
  | .int _ => .type "int"
  | .str _ => .type "str"
  | .list _ => .type "list"
  | .tuple _ => .type "tuple"
  | .dict _ => .type "dict"
section
variable {K : PySem.W.Frag} {H H' : Hp} {v : V} {Q : VK} {d : PyData}
theorem SqL.ty {a : Addr} {xs : List V} (h : SqL K H a xs) : TyX K H (.ref a) (.type "list") := by
  rcases h with (h | ⟨o, h⟩) | ⟨o, its, n, h, c, _⟩
  · exact .base (.lst h)
  · exact .base (.frz h)
  · exact .kList h c
theorem SqT.ty {a : Addr} {xs : List V} (h : SqT K H a xs) : TyX K H (.ref a) (.type "tuple") := by
  rcases h with (h | ⟨o, h⟩) | ⟨o, its, n, h, c, _⟩
  · exact .base (.tup h)
  · exact .fTuple h
  · exact .kTuple h c
theorem dp_ty (h : Dp K H v d) : TyX K H v (tyD d) := by
  cases h with
  | non => exact .base .non
  | bl b => exact .base (.bl b)
  | int i => exact .base (.int i)
  | str x => exact .base (.str x)
  | lst h a => exact SqL.ty h
  | tup h a => exact SqT.ty h
theorem r_isi {n : String} {b : Bool} {t : Value} (ty : TyX K H v t) (hb : PySem.W.kitOne K t (.type n) = some b) (h : Q (.bl b) H) : rIsi K [v, .ty n] H Q := ⟨v, .ty n, t, .type n, b, rfl, .ty n, ty, hb, h⟩
theorem r_isiC {C : Addr} {b : Bool} {t : Value} (ty : TyX K H v t) (hb : PySem.W.kitOne K t (.ref C) = some b) (h : Q (.bl b) H) : rIsi K [v, .ref C] H Q := ⟨v, .ref C, t, .ref C, b, rfl, .own C, ty, hb, h⟩
theorem r_isiT {tp : Addr} {n m : String} {b : Bool} {t : Value} (hT : H tp = some (.tup [.ty n, .ty m])) (ty : TyX K H v t) (hb : PySem.W.kitAny K t [.type n, .type m] = some b) (h : Q (.bl b) H) : rIsiT K [v, .ref tp] H Q :=
  ⟨v, tp, [.ty n, .ty m], t, [.type n, .type m], b, rfl, hT, .cons (.ty n) (.cons (.ty m) .nil), ty, hb, h⟩
end

/-! equality -/
theorem eqv_ints : ∀ xs ys : List Int, PyData.eqvAll (xs.map .int) (ys.map .int) = decide (xs = ys)
  | [], [] => rfl
  | [], _ :: _ => rfl
  | _ :: _, [] => rfl
  | x :: xs, y :: ys => by
    show (x == y && PyData.eqvAll (xs.map .int) (ys.map .int)) = _
    rw [eqv_ints xs ys]
    by_cases h : x = y
    · subst h; simp
    · simp [h]
theorem canLay_ints : ∀ xs : List Int, PyData.canLayAll0 (xs.map .int) = true
  | [] => rfl
  | x :: xs => by show (true && PyData.canLayAll0 (xs.map .int)) = true; rw [canLay_ints xs]; rfl
theorem depth_ints : ∀ xs : List Int, PyData.depthAll (xs.map .int) = 0
  | [] => rfl
  | x :: xs => by show max 0 (PyData.depthAll (xs.map .int)) = 0; rw [depth_ints xs]; rfl
theorem shaped_ints (xs : List Int) : SeqAt.shaped (dInts xs) = true := by
  show (PyData.canLayAll0 (xs.map .int) && decide (PyData.depthAll (xs.map .int) + 1 ≤ 64)) = true
  rw [canLay_ints, depth_ints]; rfl
theorem shaped_intL (xs : List Int) : SeqAt.shaped (dIntL xs) = true := by
  show (PyData.canLayAll0 (xs.map .int) && decide (PyData.depthAll (xs.map .int) + 1 ≤ 64)) = true
  rw [canLay_ints, depth_ints]; rfl
theorem shaped_raw (h l : List Int) (r : Int) : SeqAt.shaped (dRaw h l r) = true := by
  show (((PyData.canLayAll0 (h.map .int)) && ((PyData.canLayAll0 (l.map .int)) && (true && true))) && decide (max (PyData.depthAll (h.map .int) + 1) (max (PyData.depthAll (l.map .int) + 1) (max 0 0)) + 1 ≤ 64)) = true
  rw [canLay_ints, canLay_ints, depth_ints, depth_ints]; rfl
theorem eqv_raw (h l h' l' : List Int) (r r' : Int) : PyData.eqv (dRaw h l r) (dRaw h' l' r') = decide (h = h' ∧ l = l' ∧ r = r') := by
  show (PyData.eqvAll (h.map .int) (h'.map .int) && (PyData.eqvAll (l.map .int) (l'.map .int) && (r == r' && true))) = _
  rw [eqv_ints, eqv_ints]
  by_cases h1 : h = h' <;> by_cases h2 : l = l' <;> by_cases h3 : r = r' <;> simp [h1, h2, h3]
section
variable {K : PySem.W.Frag} {H H' : Hp} {x y : V} {Q : VK} {d e : PyData}
theorem r_eqI {i j : Int} (h : Q (.bl (decide (i = j))) H) : rEqU K (.int i) (.int j) H Q := .inl ⟨rfl, by
  have q : decide (V.int i = V.int j) = decide (i = j) := decide_eq_decide.mpr ⟨V.int.inj, congrArg _⟩
  rw [q]; exact h⟩
theorem r_neI {i j : Int} (h : Q (.bl (!decide (i = j))) H) : rNeU K (.int i) (.int j) H Q := .inl ⟨rfl, by
  have q : decide (V.int i = V.int j) = decide (i = j) := decide_eq_decide.mpr ⟨V.int.inj, congrArg _⟩
  rw [q]; exact h⟩
theorem r_eqB {i j : Bool} (h : Q (.bl (decide (i = j))) H) : rEqU K (.bl i) (.bl j) H Q := .inl ⟨rfl, by
  have q : decide (V.bl i = V.bl j) = decide (i = j) := decide_eq_decide.mpr ⟨V.bl.inj, congrArg _⟩
  rw [q]; exact h⟩
theorem optV_inj {p q : Option Int} : optV p = optV q ↔ p = q := by
  cases p <;> cases q <;> simp [optV]
theorem scal_opt (p q : Option Int) : scal (optV p) (optV q) = true := by cases p <;> cases q <;> rfl
theorem r_eqO {p q : Option Int} (h : Q (.bl (decide (p = q))) H) : rEqU K (optV p) (optV q) H Q := .inl ⟨scal_opt p q, by
  have z : decide (optV p = optV q) = decide (p = q) := decide_eq_decide.mpr optV_inj
  rw [z]; exact h⟩
theorem r_neO {p q : Option Int} (h : Q (.bl (!decide (p = q))) H) : rNeU K (optV p) (optV q) H Q := .inl ⟨scal_opt p q, by
  have z : decide (optV p = optV q) = decide (p = q) := decide_eq_decide.mpr optV_inj
  rw [z]; exact h⟩
theorem r_eqD (hd : Dp K H x d) (he : Dp K H y e) (sd : SeqAt.shaped d = true) (se : SeqAt.shaped e = true) (h : Q (.bl (PyData.eqv d e)) H) : rEqU K x y H Q := .inr ⟨d, e, hd, he, sd, se, h⟩
theorem r_neD (hd : Dp K H x d) (he : Dp K H y e) (sd : SeqAt.shaped d = true) (se : SeqAt.shaped e = true) (h : Q (.bl (!PyData.eqv d e)) H) : rNeU K x y H Q := .inr ⟨d, e, hd, he, sd, se, h⟩
theorem r_eqT {a b : Addr} {xs ys : List Int} (ha : SqT K H a (vI xs)) (hb : SqT K H b (vI ys)) (h : Q (.bl (decide (xs = ys))) H) : rEqU K (.ref a) (.ref b) H Q :=
  r_eqD (dp_of_ints ha) (dp_of_ints hb) (shaped_ints _) (shaped_ints _) (by rw [show PyData.eqv (dInts xs) (dInts ys) = decide (xs = ys) from eqv_ints xs ys]; exact h)
theorem r_neT {a b : Addr} {xs ys : List Int} (ha : SqT K H a (vI xs)) (hb : SqT K H b (vI ys)) (h : Q (.bl (!decide (xs = ys))) H) : rNeU K (.ref a) (.ref b) H Q :=
  r_neD (dp_of_ints ha) (dp_of_ints hb) (shaped_ints _) (shaped_ints _) (by rw [show PyData.eqv (dInts xs) (dInts ys) = decide (xs = ys) from eqv_ints xs ys]; exact h)
theorem r_neL {a b : Addr} {xs ys : List Int} (ha : SqL K H a (vI xs)) (hb : SqL K H b (vI ys)) (h : Q (.bl (!decide (xs = ys))) H) : rNeU K (.ref a) (.ref b) H Q :=
  r_neD (dp_of_intL ha) (dp_of_intL hb) (shaped_intL _) (shaped_intL _) (by rw [show PyData.eqv (dIntL xs) (dIntL ys) = decide (xs = ys) from eqv_ints xs ys]; exact h)
/-! is None -/
def rIs : R2 := fun x y H Q => y = .non ∧ Q (.bl (decide (x = .non))) H
def rIsNot : R2 := fun x y H Q => y = .non ∧ Q (.bl (!decide (x = .non))) H
theorem xIs {X : Cx} : OpR X (compareOp .Is) rIs := op_isN
theorem xIsNot {X : Cx} : OpR X (compareOp .IsNot) rIsNot := op_notN
theorem r_isO {p : Option Int} (h : Q (.bl (decide (p = none))) H) : rIs (optV p) .non H Q := ⟨rfl, by
  have z : decide (optV p = V.non) = decide (p = none) := decide_eq_decide.mpr (by cases p <;> simp [optV])
  rw [z]; exact h⟩
theorem r_isNotO {p : Option Int} (h : Q (.bl (!decide (p = none))) H) : rIsNot (optV p) .non H Q := ⟨rfl, by
  have z : decide (optV p = V.non) = decide (p = none) := decide_eq_decide.mpr (by cases p <;> simp [optV])
  rw [z]; exact h⟩
theorem r_isI {i : Int} (h : Q (.bl false) H) : rIs (.int i) .non H Q := ⟨rfl, h⟩
theorem r_isN (h : Q (.bl true) H) : rIs .non .non H Q := ⟨rfl, h⟩
theorem r_isR {a : Addr} (h : Q (.bl false) H) : rIs (.ref a) .non H Q := ⟨rfl, h⟩
theorem r_isNotI {i : Int} (h : Q (.bl true) H) : rIsNot (.int i) .non H Q := ⟨rfl, h⟩
theorem r_isNotN (h : Q (.bl false) H) : rIsNot .non .non H Q := ⟨rfl, h⟩
theorem r_isNotR {a : Addr} (h : Q (.bl true) H) : rIsNot (.ref a) .non H Q := ⟨rfl, h⟩
end

/-! built-ins by names of our own -/
section
variable {X : Cx} {K : PySem.W.Frag} {H : Hp} {Q : VK}
def rLenU (K : PySem.W.Frag) : List V → Hp → VK → Prop := fun xs H Q => ∃ x n, xs = [x] ∧ LenV K x H n ∧ Q (.int n) H
theorem xLen : CallR X (.builtin "len") (rLenU X.K) := call_len
theorem r_lenT {a : Addr} {xs : List V} (h : SqT K H a xs) (q : Q (.int (xs.length : Int)) H) : rLenU K [.ref a] H Q := ⟨_, xs.length, rfl, .inr ⟨xs, h, rfl⟩, q⟩
theorem r_lenL {a : Addr} {xs : List V} (h : SqL K H a xs) (q : Q (.int (xs.length : Int)) H) : rLenU K [.ref a] H Q := ⟨_, xs.length, rfl, .inl ⟨xs, h, rfl⟩, q⟩
theorem r_lenTI {a : Addr} {xs : List Int} (h : SqT K H a (vI xs)) (q : Q (.int (xs.length : Int)) H) : rLenU K [.ref a] H Q := r_lenT h (by rw [List.length_map]; exact q)
theorem r_lenLI {a : Addr} {xs : List Int} (h : SqL K H a (vI xs)) (q : Q (.int (xs.length : Int)) H) : rLenU K [.ref a] H Q := r_lenL h (by rw [List.length_map]; exact q)
def rAbsU : List V → Hp → VK → Prop := fun xs H Q => ∃ i, xs = [.int i] ∧ Q (.int (if i < 0 then -i else i)) H
theorem xAbs : CallR X (.builtin "abs") rAbsU := call_abs
theorem r_abs {i : Int} (q : Q (.int (i.natAbs : Int)) H) : rAbsU [.int i] H Q := ⟨i, rfl, by
  have e : (if i < 0 then -i else i) = (i.natAbs : Int) := by split <;> omega
  rw [e]; exact q⟩
def rMax2U : List V → Hp → VK → Prop := fun xs H Q => ∃ i j, xs = [.int i, .int j] ∧ Q (.int (if j > i then j else i)) H
theorem xMax2 (hc : X.calm = true) : CallR X (.builtin "max") rMax2U := call_max2 hc
theorem r_max2 {i j : Int} (q : Q (.int (max i j)) H) : rMax2U [.int i, .int j] H Q := ⟨i, j, rfl, by
  have e : (if j > i then j else i) = max i j := by split <;> omega
  rw [e]; exact q⟩
def rMin2U : List V → Hp → VK → Prop := fun xs H Q => ∃ i j, xs = [.int i, .int j] ∧ Q (.int (if j < i then j else i)) H
theorem xMin2 (hc : X.calm = true) : CallR X (.builtin "min") rMin2U := call_min2 hc
theorem r_min2 {i j : Int} (q : Q (.int (min i j)) H) : rMin2U [.int i, .int j] H Q := ⟨i, j, rfl, by
  have e : (if j < i then j else i) = min i j := by split <;> omega
  rw [e]; exact q⟩
def rIntU : List V → Hp → VK → Prop := fun xs H Q => (∃ i, xs = [.int i] ∧ Q (.int i) H) ∨ ∃ k, xs = [.bl k] ∧ Q (.int (if k then 1 else 0)) H
theorem xInt : CallR X (.type "int") rIntU := call_int1
theorem r_int {i : Int} (q : Q (.int i) H) : rIntU [.int i] H Q := .inl ⟨i, rfl, q⟩
def rBoolU : List V → Hp → VK → Prop := fun xs H Q => (∃ i, xs = [.int i] ∧ Q (.bl (i != 0)) H) ∨ ∃ k, xs = [.bl k] ∧ Q (.bl k) H
theorem xBool : CallR X (.type "bool") rBoolU := call_bool1
theorem r_boolB {b : Bool} (q : Q (.bl b) H) : rBoolU [.bl b] H Q := .inr ⟨b, rfl, q⟩
def rLstU (K : PySem.W.Frag) : List V → Hp → VK → Prop := fun xs H Q => ∃ p ys, xs = [.ref p] ∧ (SqL K H p ys ∨ SqT K H p ys) ∧ ∀ l, H l = none → Q (.ref l) (upd H l (.lst ys))
theorem xLst : CallR X (.type "list") (rLstU X.K) := call_list_of
theorem r_lstL {a : Addr} {xs : List V} (h : SqL K H a xs) (q : ∀ p H1, H p = none → Ex H H1 → H1 p = some (.lst xs) → Q (.ref p) H1) : rLstU K [.ref a] H Q := ⟨a, xs, rfl, .inl h, fun p hp => q p _ hp (Ex.new hp) upd_same⟩
theorem r_lstT {a : Addr} {xs : List V} (h : SqT K H a xs) (q : ∀ p H1, H p = none → Ex H H1 → H1 p = some (.lst xs) → Q (.ref p) H1) : rLstU K [.ref a] H Q := ⟨a, xs, rfl, .inr h, fun p hp => q p _ hp (Ex.new hp) upd_same⟩
def rTupU (K : PySem.W.Frag) : List V → Hp → VK → Prop := fun xs H Q => ∃ p ys, xs = [.ref p] ∧ ((SqL K H p ys ∧ ∀ l, H l = none → Q (.ref l) (upd H l (.tup ys))) ∨ (SqT K H p ys ∧ Q (.ref p) H))
theorem xTup : CallR X (.type "tuple") (rTupU X.K) := call_tuple_of
theorem r_tupL {a : Addr} {xs : List V} (h : SqL K H a xs) (q : ∀ p H1, Ex H H1 → SqT K H1 p xs → Q (.ref p) H1) : rTupU K [.ref a] H Q := ⟨a, xs, rfl, .inl ⟨h, fun p hp => q p _ (Ex.new hp) (st_of upd_same)⟩⟩
theorem r_tupT {a : Addr} {xs : List V} (h : SqT K H a xs) (q : ∀ p H1, Ex H H1 → SqT K H1 p xs → Q (.ref p) H1) : rTupU K [.ref a] H Q := ⟨a, xs, rfl, .inr ⟨h, q a H (Ex.refl H) h⟩⟩
theorem r_all {a : Addr} {bs : List Bool} {xs : List V} (h : SqL K H a xs) (e : xs = bs.map V.bl) (q : Q (.bl (bs.all id)) H) : rAll K [.ref a] H Q := ⟨a, bs, rfl, by rw [← e]; exact h, q⟩
theorem r_any {a : Addr} {bs : List Bool} {xs : List V} (h : SqL K H a xs) (e : xs = bs.map V.bl) (q : Q (.bl (bs.any id)) H) : rAny K [.ref a] H Q := ⟨a, bs, rfl, by rw [← e]; exact h, q⟩
/-! indices -/
theorem atI_pos {α : Type} {xs : List α} {i : Int} {v : α} (h0 : 0 ≤ i) (h : xs[i.toNat]? = some v) : atI xs i = some v := by
  have hl : i.toNat < xs.length := (List.getElem?_eq_some_iff.mp h).1
  unfold atI ixN
  rw [if_pos h0, if_pos (by omega)]
  exact h
theorem atI_neg {α : Type} {xs : List α} {i : Int} {v : α} (h0 : i < 0) (h1 : -(xs.length : Int) ≤ i) (h : xs[(i + xs.length).toNat]? = some v) : atI xs i = some v := by
  unfold atI ixN
  rw [if_neg (by omega), if_pos h1]
  exact h
/-- the int at a place of a list of ints -/
def gI (xs : List Int) (i : Int) : Int := xs.getD i.toNat 0
theorem atI_ints {xs : List Int} {i : Int} (h0 : 0 ≤ i) (h1 : i < xs.length) : atI (vI xs) i = some (V.int (gI xs i)) := by
  refine atI_pos h0 ?_
  have hl : i.toNat < xs.length := by omega
  rw [List.getElem?_map, List.getElem?_eq_getElem hl]
  show some (V.int xs[i.toNat]) = some (V.int (xs.getD i.toNat 0))
  rw [List.getD_eq_getElem?_getD, List.getElem?_eq_getElem hl]; rfl
theorem atI_intsN {xs : List Int} {i : Int} (h0 : i < 0) (h1 : -(xs.length : Int) ≤ i) : atI (vI xs) i = some (V.int (gI xs (i + xs.length))) := by
  have hl : (i + xs.length).toNat < xs.length := by omega
  refine atI_neg h0 (by rw [List.length_map]; exact h1) ?_
  rw [List.length_map, List.getElem?_map, List.getElem?_eq_getElem hl]
  show some (V.int xs[(i + xs.length).toNat]) = some (V.int (xs.getD (i + xs.length).toNat 0))
  rw [List.getD_eq_getElem?_getD, List.getElem?_eq_getElem hl]; rfl
theorem r_ixT {a : Addr} {xs : List V} {i : Int} {v : V} (h : SqT K H a xs) (ha : atI xs i = some v) (q : Q v H) : rIx K (.ref a) (.int i) H Q := .inr (.inl ⟨a, xs, i, v, rfl, rfl, h, ha, q⟩)
theorem r_ixL {a : Addr} {xs : List V} {i : Int} {v : V} (h : SqL K H a xs) (ha : atI xs i = some v) (q : Q v H) : rIx K (.ref a) (.int i) H Q := .inl ⟨a, xs, i, v, rfl, rfl, h, ha, q⟩
theorem r_ixTI {a : Addr} {xs : List Int} {i : Int} (h : SqT K H a (vI xs)) (h0 : 0 ≤ i) (h1 : i < xs.length) (q : Q (.int (gI xs i)) H) : rIx K (.ref a) (.int i) H Q := r_ixT h (atI_ints h0 h1) q
theorem r_ixTN {a : Addr} {xs : List Int} {i : Int} (h : SqT K H a (vI xs)) (h0 : i < 0) (h1 : -(xs.length : Int) ≤ i) (q : Q (.int (gI xs (i + xs.length))) H) : rIx K (.ref a) (.int i) H Q := r_ixT h (atI_intsN h0 h1) q
theorem r_ixLI {a : Addr} {xs : List Int} {i : Int} (h : SqL K H a (vI xs)) (h0 : 0 ≤ i) (h1 : i < xs.length) (q : Q (.int (gI xs i)) H) : rIx K (.ref a) (.int i) H Q := r_ixL h (atI_ints h0 h1) q
theorem r_ixLN {a : Addr} {xs : List Int} {i : Int} (h : SqL K H a (vI xs)) (h0 : i < 0) (h1 : -(xs.length : Int) ≤ i) (q : Q (.int (gI xs (i + xs.length))) H) : rIx K (.ref a) (.int i) H Q := r_ixL h (atI_intsN h0 h1) q
/-! slices -/
def rSlI (xs : List Int) (lo hi : Option Int) : List Int := (xs.drop (HT.sIx xs.length 0 lo)).take (HT.sIx xs.length xs.length hi - HT.sIx xs.length 0 lo)
theorem cut_ints (xs : List Int) (lo hi : Option Int) : cutV (vI xs) lo hi = vI (rSlI xs lo hi) := by
  unfold cutV rSlI
  rw [List.length_map, ← List.map_drop, ← List.map_take]
theorem r_slL {a : Addr} {xs : List V} {lo hi : Option Int} (h : SqL K H a xs) (q : ∀ p H1, H p = none → Ex H H1 → H1 p = some (.lst (cutV xs lo hi)) → Q (.ref p) H1) : rSl K (.ref a) lo hi H Q :=
  .inl ⟨a, xs, rfl, h, fun p hp => q p _ hp (Ex.new hp) upd_same⟩
theorem cut_whole {xs : List V} {lo hi : Option Int} (h1 : HT.sIx xs.length 0 lo = 0) (h2 : HT.sIx xs.length xs.length hi = xs.length) : cutV xs lo hi = xs := by
  unfold cutV
  rw [h1, h2, List.drop_zero, Nat.sub_zero, List.take_length]
theorem r_slT {a : Addr} {xs : List V} {lo hi : Option Int} (h : SqT K H a xs) (q : ∀ p H1, Ex H H1 → SqT K H1 p (cutV xs lo hi) → Q (.ref p) H1) : rSl K (.ref a) lo hi H Q :=
  .inr (.inl ⟨a, xs, rfl, h, fun e => q a H (Ex.refl H) (by rw [cut_whole e.1 e.2]; exact h), fun _ p hp => q p _ (Ex.new hp) (st_of upd_same)⟩)
theorem cutV_to {α : Type} {xs : List α} {i : Int} (h : 0 ≤ i) (f : α → V) : cutV (xs.map f) none (some i) = (xs.take i.toNat).map f := by
  have e : cutV (xs.map f) none (some i) = ((xs.map f).drop 0).take (HT.sIx (xs.map f).length (xs.map f).length (some i) - 0) := rfl
  have e2 : HT.sIx (xs.map f).length (xs.map f).length (some i) = min i.toNat (xs.map f).length := if_neg (by omega)
  rw [e, e2, List.drop_zero, Nat.sub_zero, List.map_take]
  rcases Nat.le_total i.toNat (xs.map f).length with h1 | h1
  · rw [Nat.min_eq_left h1]
  · rw [Nat.min_eq_right h1, List.take_length, List.take_of_length_le h1]
theorem cutV_from {α : Type} {xs : List α} {i : Int} (h : 0 ≤ i) (f : α → V) : cutV (xs.map f) (some i) none = (xs.drop i.toNat).map f := by
  have e : cutV (xs.map f) (some i) none = ((xs.map f).drop (HT.sIx (xs.map f).length 0 (some i))).take ((xs.map f).length - HT.sIx (xs.map f).length 0 (some i)) := rfl
  have e2 : HT.sIx (xs.map f).length 0 (some i) = min i.toNat (xs.map f).length := if_neg (by omega)
  rw [e, e2, List.map_drop]
  rcases Nat.le_total i.toNat (xs.map f).length with h1 | h1
  · rw [Nat.min_eq_left h1, List.take_of_length_le (by rw [List.length_drop]; omega)]
  · rw [Nat.min_eq_right h1, List.drop_eq_nil_of_le h1, List.drop_eq_nil_of_le (Nat.le_refl _), List.take_nil]
theorem cutV_mid {α : Type} {xs : List α} {i j : Int} (h : 0 ≤ i) (hij : i ≤ j) (hj : j ≤ xs.length) (f : α → V) : cutV (xs.map f) (some i) (some j) = ((xs.drop i.toNat).take (j - i).toNat).map f := by
  have e : cutV (xs.map f) (some i) (some j) = ((xs.map f).drop (HT.sIx (xs.map f).length 0 (some i))).take (HT.sIx (xs.map f).length (xs.map f).length (some j) - HT.sIx (xs.map f).length 0 (some i)) := rfl
  have e2 : HT.sIx (xs.map f).length 0 (some i) = min i.toNat (xs.map f).length := if_neg (by omega)
  have e3 : HT.sIx (xs.map f).length (xs.map f).length (some j) = min j.toNat (xs.map f).length := if_neg (by omega)
  rw [e, e2, e3, List.length_map, Nat.min_eq_left (by omega), Nat.min_eq_left (by omega), List.map_take, List.map_drop, show (j - i).toNat = j.toNat - i.toNat by omega]

theorem r_slTto {a : Addr} {xs : List Int} {i : Int} (h : SqT K H a (vI xs)) (h0 : 0 ≤ i) (q : ∀ p H1, Ex H H1 → SqT K H1 p (vI (xs.take i.toNat)) → Q (.ref p) H1) : rSl K (.ref a) none (some i) H Q := r_slT h (by rw [cutV_to h0]; exact q)
theorem r_slTfrom {a : Addr} {xs : List Int} {i : Int} (h : SqT K H a (vI xs)) (h0 : 0 ≤ i) (q : ∀ p H1, Ex H H1 → SqT K H1 p (vI (xs.drop i.toNat)) → Q (.ref p) H1) : rSl K (.ref a) (some i) none H Q := r_slT h (by rw [cutV_from h0]; exact q)
theorem r_slLto {a : Addr} {xs : List Int} {i : Int} (h : SqL K H a (vI xs)) (h0 : 0 ≤ i) (q : ∀ p H1, H p = none → Ex H H1 → H1 p = some (.lst (vI (xs.take i.toNat))) → Q (.ref p) H1) : rSl K (.ref a) none (some i) H Q := r_slL h (by rw [cutV_to h0]; exact q)
theorem r_slLfrom {a : Addr} {xs : List Int} {i : Int} (h : SqL K H a (vI xs)) (h0 : 0 ≤ i) (q : ∀ p H1, H p = none → Ex H H1 → H1 p = some (.lst (vI (xs.drop i.toNat))) → Q (.ref p) H1) : rSl K (.ref a) (some i) none H Q := r_slL h (by rw [cutV_from h0]; exact q)
theorem r_slLmid {a : Addr} {xs : List Int} {i j : Int} (h : SqL K H a (vI xs)) (h0 : 0 ≤ i) (hij : i ≤ j) (hj : j ≤ xs.length) (q : ∀ p H1, H p = none → Ex H H1 → H1 p = some (.lst (vI ((xs.drop i.toNat).take (j - i).toNat))) → Q (.ref p) H1) : rSl K (.ref a) (some i) (some j) H Q := r_slL h (by rw [cutV_mid h0 hij hj]; exact q)
/-! comprehensions whose parts leave what stands -/
theorem w_lc {wi : TI} {g : TG} {tt : TT} {te : TE} {vs : List Nat} {σ : L2.St} (h : wi σ H fun J H1 => ∀ D, H1 D = none → ∃ W : Nat → Nat → Hp → Prop, (∃ m, W 0 m (upd H1 D (.lst []))) ∧ ∀ i m H, W i m H →
  (J.stop i H ∧ Q (.ref D) H) ∨ (J.go i H ∧ ∃ Nx : Hp → Prop, (∀ H', Nx H' → ∃ m', m' < m ∧ W (i + 1) m' H') ∧ ∀ x H', J.yld i H x H' → g x (wipe σ vs) H' fun σ2 H2 => wipe σ2 vs = wipe σ vs ∧ tt σ2 H2 fun b H3 =>
    if b = true then te σ2 H3 fun y H4 => ∃ acc, H4 D = some (.lst acc) ∧ acc.length < sizeLine ∧ Nx (upd H4 D (.lst (acc ++ [y]))) else Nx H3)) : tLc wi g tt te vs σ H Q := h
/-- what a comprehension over J asks, J named -/
def LcJ (J : It) (g : TG) (tt : TT) (te : TE) (vs : List Nat) (σ : L2.St) (H1 : Hp) (Q : VK) : Prop := ∀ D, H1 D = none → ∃ W : Nat → Nat → Hp → Prop, (∃ m, W 0 m (upd H1 D (.lst []))) ∧ ∀ i m H, W i m H →
  (J.stop i H ∧ Q (.ref D) H) ∨ (J.go i H ∧ ∃ Nx : Hp → Prop, (∀ H', Nx H' → ∃ m', m' < m ∧ W (i + 1) m' H') ∧ ∀ x H', J.yld i H x H' → g x (wipe σ vs) H' fun σ2 H2 => wipe σ2 vs = wipe σ vs ∧ tt σ2 H2 fun b H3 =>
    if b = true then te σ2 H3 fun y H4 => ∃ acc, H4 D = some (.lst acc) ∧ acc.length < sizeLine ∧ Nx (upd H4 D (.lst (acc ++ [y]))) else Nx H3)
theorem w_lcJ {wi : TI} {g : TG} {tt : TT} {te : TE} {vs : List Nat} {σ : L2.St} (h : wi σ H fun J H1 => LcJ J g tt te vs σ H1 Q) : tLc wi g tt te vs σ H Q := h
/-- over a range, every item kept, item i giving v i -/
theorem lcJ_range {lo : Int} {n j : Nat} {te : TE} {vs : List Nat} {σ : L2.St} (v : Nat → V) (hn : n ≤ 100000) (σ' : V → L2.St) (hσ : ∀ x, (wipe σ vs).set j (some x) = σ' x) (hw : ∀ x, wipe ((wipe σ vs).set j (some x)) vs = wipe σ vs)
    (he : ∀ (i : Nat) (H1 : Hp) (Q' : VK), Ex H H1 → i < n → (∀ H2, Ex H1 H2 → Q' (v i) H2) → te (σ' (.int (lo + (i : Int)))) H1 Q')
    (hq : ∀ p H2, H p = none → Ex H H2 → H2 p = some (.lst ((List.range n).map v)) → Q (.ref p) H2) : LcJ (Itr lo n) (gName j) tYes te vs σ H Q := fun D hD =>
  lc_range (Pv := fun i H' => Ex H H' ∧ H' D = some (.lst ((List.range i).map v))) ⟨Ex.new hD, upd_same⟩ (fun i H' hi p => ⟨hw _, by
    show te ((wipe σ vs).set j _) H' _
    rw [hσ]
    refine he i H' _ p.1 hi fun H2 e2 => ⟨(List.range i).map v, e2 D _ p.2, sz_lt (by simp only [List.length_map, List.length_range]; omega), Ex.mut (p.1.trans e2) hD, ?_⟩
    rw [List.range_succ, List.map_append]
    exact upd_same⟩) fun H' p => hq D H' hD p.1 p.2
theorem lcJ_r0 {n j : Nat} {te : TE} {vs : List Nat} {σ : L2.St} (v : Nat → V) (hn : n ≤ 100000) (σ' : V → L2.St) (hσ : ∀ x, (wipe σ vs).set j (some x) = σ' x) (hw : ∀ x, wipe ((wipe σ vs).set j (some x)) vs = wipe σ vs)
    (he : ∀ (i : Nat) (H1 : Hp) (Q' : VK), Ex H H1 → i < n → (∀ H2, Ex H1 H2 → Q' (v i) H2) → te (σ' (.int (i : Int))) H1 Q')
    (hq : ∀ p H2, H p = none → Ex H H2 → H2 p = some (.lst ((List.range n).map v)) → Q (.ref p) H2) : LcJ (Itr 0 n) (gName j) tYes te vs σ H Q :=
  lcJ_range v hn σ' hσ hw (fun i H1 Q' e hi k => by rw [Int.zero_add]; exact he i H1 Q' e hi k) hq
/-- over a list or a tuple -/
theorem lcJ_list {a : Addr} {xs : List V} {j : Nat} {te : TE} {vs : List Nat} {σ : L2.St} (v : V → V) (hx : SqL K H a xs) (hn : xs.length ≤ 100000) (σ' : V → L2.St) (hσ : ∀ x, (wipe σ vs).set j (some x) = σ' x) (hw : ∀ x, wipe ((wipe σ vs).set j (some x)) vs = wipe σ vs)
    (he : ∀ (x : V) (H1 : Hp) (Q' : VK), Ex H H1 → x ∈ xs → (∀ H2, Ex H1 H2 → Q' (v x) H2) → te (σ' x) H1 Q')
    (hq : ∀ p H2, H p = none → Ex H H2 → H2 p = some (.lst (xs.map v)) → Q (.ref p) H2) : LcJ (Itl K a) (gName j) tYes te vs σ H Q := fun D hD =>
  lc_list (xs := xs) (Pv := fun i H' => Ex H H' ∧ H' D = some (.lst ((xs.take i).map v))) ⟨Ex.new hD, upd_same⟩ (fun i H' _ p => ex_l p.1 hx) (fun i x H' hi p => ⟨hw _, by
    show te ((wipe σ vs).set j _) H' _
    rw [hσ]
    refine he x H' _ p.1 (List.mem_of_getElem? hi) fun H2 e2 => ⟨(xs.take i).map v, e2 D _ p.2, sz_lt (by rw [List.length_map, List.length_take]; have := (List.getElem?_eq_some_iff.mp hi).1; omega), Ex.mut (p.1.trans e2) hD, ?_⟩
    rw [List.take_add_one, hi, List.map_append]
    exact upd_same⟩) fun H' p => hq D H' hD p.1 (by rw [List.take_length] at p; exact p.2)
theorem lcJ_tup {a : Addr} {xs : List V} {j : Nat} {te : TE} {vs : List Nat} {σ : L2.St} (v : V → V) (hx : SqT K H a xs) (hn : xs.length ≤ 100000) (σ' : V → L2.St) (hσ : ∀ x, (wipe σ vs).set j (some x) = σ' x) (hw : ∀ x, wipe ((wipe σ vs).set j (some x)) vs = wipe σ vs)
    (he : ∀ (x : V) (H1 : Hp) (Q' : VK), Ex H H1 → x ∈ xs → (∀ H2, Ex H1 H2 → Q' (v x) H2) → te (σ' x) H1 Q')
    (hq : ∀ p H2, H p = none → Ex H H2 → H2 p = some (.lst (xs.map v)) → Q (.ref p) H2) : LcJ (Itt K a) (gName j) tYes te vs σ H Q := fun D hD =>
  lc_tup (xs := xs) (Pv := fun i H' => Ex H H' ∧ H' D = some (.lst ((xs.take i).map v))) ⟨Ex.new hD, upd_same⟩ (fun i H' _ p => ex_t p.1 hx) (fun i x H' hi p => ⟨hw _, by
    show te ((wipe σ vs).set j _) H' _
    rw [hσ]
    refine he x H' _ p.1 (List.mem_of_getElem? hi) fun H2 e2 => ⟨(xs.take i).map v, e2 D _ p.2, sz_lt (by rw [List.length_map, List.length_take]; have := (List.getElem?_eq_some_iff.mp hi).1; omega), Ex.mut (p.1.trans e2) hD, ?_⟩
    rw [List.take_add_one, hi, List.map_append]
    exact upd_same⟩) fun H' p => hq D H' hD p.1 (by rw [List.take_length] at p; exact p.2)
/-! what is walked -/
def SeqLi (K : PySem.W.Frag) (R : It → Hp → Prop) (x : V) (H1 : Hp) : Prop := ∃ a, x = .ref a ∧ (∃ xs, SqL K H1 a xs) ∧ R (Itl K a) H1
def SeqTi (K : PySem.W.Frag) (R : It → Hp → Prop) (x : V) (H1 : Hp) : Prop := ∃ a, x = .ref a ∧ (∃ xs, SqT K H1 a xs) ∧ R (Itt K a) H1
theorem i_seqL {tl : TE} {σ : L2.St} {R : It → Hp → Prop} (h : tl σ H fun x H1 => SeqLi K R x H1) : iSeq K tl σ H R := .inl h
theorem i_seqT {tl : TE} {σ : L2.St} {R : It → Hp → Prop} (h : tl σ H fun x H1 => SeqTi K R x H1) : iSeq K tl σ H R := .inr h
theorem i_xL {a : Addr} {xs : List V} {R : It → Hp → Prop} (hx : SqL K H a xs) (h : R (Itl K a) H) : SeqLi K R (.ref a) H := ⟨a, rfl, ⟨xs, hx⟩, h⟩
theorem i_xT {a : Addr} {xs : List V} {R : It → Hp → Prop} (hx : SqT K H a xs) (h : R (Itt K a) H) : SeqTi K R (.ref a) H := ⟨a, rfl, ⟨xs, hx⟩, h⟩
def Rng1 (R : It → Hp → Prop) (vs : List V) (H1 : Hp) : Prop := ∃ j : Int, vs = [.int j] ∧ -(2 ^ 62) ≤ j ∧ j < 2 ^ 62 ∧ R (Itr 0 j.toNat) H1
def Rng2 (R : It → Hp → Prop) (vs : List V) (H1 : Hp) : Prop := ∃ i j : Int, vs = [.int i, .int j] ∧ (-(2 ^ 62) ≤ i ∧ i < 2 ^ 62 ∧ -(2 ^ 62) ≤ j ∧ j < 2 ^ 62) ∧ R (Itr i (j - i).toNat) H1
theorem i_r1 {ta : TA} {σ : L2.St} {R : It → Hp → Prop} (h : ta σ H fun vs H1 => Rng1 R vs H1) : iRng1 ta σ H R := h
theorem i_r2 {ta : TA} {σ : L2.St} {R : It → Hp → Prop} (h : ta σ H fun vs H1 => Rng2 R vs H1) : iRng2 ta σ H R := h
theorem i_x1 {j : Int} {R : It → Hp → Prop} (hj : -1000000000 ≤ j ∧ j ≤ 1000000000) (h : R (Itr 0 j.toNat) H) : Rng1 R [V.int j] H := ⟨j, rfl, by omega, by omega, h⟩
theorem i_x2 {i j : Int} {R : It → Hp → Prop} (hij : -1000000000 ≤ i ∧ i ≤ 1000000000 ∧ -1000000000 ≤ j ∧ j ≤ 1000000000) (h : R (Itr i (j - i).toNat) H) : Rng2 R [V.int i, V.int j] H := ⟨i, j, rfl, by omega, h⟩
/-! loops, J named -/
def ForJ (J : It) (g : TG) (tb : TS) (D : Ends) (σ : L2.St) (H1 : Hp) : Prop := ∃ W : Nat → Nat → L2.St → Hp → Prop, (∃ m, W 0 m σ H1) ∧ ∀ i m σ H, W i m σ H →
  (J.stop i H ∧ D.nx σ H) ∨ (J.go i H ∧ ∃ N : L2.St → Hp → Prop, (∀ σ' H', N σ' H' → ∃ m', m' < m ∧ W (i + 1) m' σ' H') ∧ ∀ x H', J.yld i H x H' → g x σ H' fun σ2 H2 => tb { D with nx := N, ct := N, bk := D.nx } σ2 H2)
theorem w_forJ {wi : TI} {g : TG} {tb : TS} {D : Ends} {σ : L2.St} (h : wi σ H fun J H1 => ForJ J g tb D σ H1) : tFor wi g tb D σ H := h
end
end M

/-! ### part D: the rules with the written part said -/
namespace M
open PySem PySem.Spec PyProof.Rows L2 Evl
section
variable {X : Cx} (K : PySem.W.Frag)
theorem kIx (h : X.K = K := by rfl) : IxR X (rIx K) := by subst h; exact ix_seq
theorem kAdd (h : X.K = K := by rfl) : OpR X (binaryOp .Add) (rAdd K) := by subst h; exact xAdd
theorem kMul (h : X.K = K := by rfl) : OpR X (binaryOp .Mult) (rMul K) := by subst h; exact xMul
theorem kEq {j : Nat} (hr : Room j X.A) (h : X.K = K := by rfl) : OpR X (compareOp .Eq) (rEqU K) := by subst h; exact xEq hr
theorem kNe {j : Nat} (hr : Room j X.A) (h : X.K = K := by rfl) : OpR X (compareOp .NotEq) (rNeU K) := by subst h; exact xNe hr
theorem kSl (h : X.K = K := by rfl) : SlR X (rSl K) := by subst h; exact xSl
theorem kLen (h : X.K = K := by rfl) : CallR X (.builtin "len") (rLenU K) := by subst h; exact xLen
theorem kLst (h : X.K = K := by rfl) : CallR X (.type "list") (rLstU K) := by subst h; exact xLst
theorem kTup (h : X.K = K := by rfl) : CallR X (.type "tuple") (rTupU K) := by subst h; exact xTup
theorem kAll (hc : X.calm = true) (h : X.K = K := by rfl) : CallR X (.builtin "all") (rAll K) := by subst h; exact cr_all hc
theorem kAny (hc : X.calm = true) (h : X.K = K := by rfl) : CallR X (.builtin "any") (rAny K) := by subst h; exact cr_any hc
theorem kSum (hc : X.calm = true) (h : X.K = K := by rfl) : CallR X (.builtin "sum") (rSum K) := by subst h; exact cr_sum hc
theorem kIsi (h : X.K = K := by rfl) : CallR X (.builtin "isinstance") (rIsi K) := by subst h; exact call_isi
theorem kIsiT (h : X.K = K := by rfl) : CallR X (.builtin "isinstance") (rIsiT K) := by subst h; exact call_isiT
theorem kSeq {tg l : Expr} {tl : TE} (hl : PE X l tl) (h : X.K = K := by rfl) : PI X tg l (iSeq K tl) := by subst h; exact pi_seq hl
theorem kFld {o : Expr} {f : Str} {pos : Pos} {ta : TE} (ha : PE X o ta) (hb : attributeBase o f X.env (eval o X.env) = eval o X.env) (h : X.K = K := by rfl) : PE X (.Attribute o f pos) (tFld K ta f) := by subst h; exact pe_fld ha hb
theorem kGtup {es : List Expr} {k : Nat} {t : TGs} {n : Nat} {pos : Pos} (hc : X.calm = true) (h : PGs X es t)
    (hn : (assignEach es X.env).length = n := by rfl) (hst : (assignEach es X.env).findIdx? (·.1) = none := by rfl) (hK : X.K = K := by rfl) : PG X (.Tuple es k pos) (gTup K n t) := by subst hK; exact pg_tup hc h hn hst
theorem kBM {e0 : Expr} {to : TE} {t : TA} {T : String} {r : V → List V → Hp → VK → Prop} (h0 : PE X e0 (tBM X.K T r to t)) (h : X.K = K := by rfl) : PE X e0 (tBM K T r to t) := by subst h; exact h0
theorem kFldS {st : Stmt} {ta tv : TE} {f : Str} (h0 : PS X st (sFld X.K ta tv f)) (h : X.K = K := by rfl) : PS X st (sFld K ta tv f) := by subst h; exact h0
/-! truth of any value, named -/
end
def TruX (K : PySem.W.Frag) (x : V) (H : Hp) (Q : Bool → Hp → Prop) : Prop := ∃ k, TruV K x H k ∧ Q k H
def tTru (K : PySem.W.Frag) (te : TE) : TT := fun σ H Q => te σ H fun x H' => TruX K x H' Q
section
variable {X : Cx} (K : PySem.W.Frag)
theorem kTru {a : Expr} {ta : TE} (ha : PE X a ta) (he : ∀ whole, isTrue a X.env whole = (do let v ← whole; standAt a.pos; holding [v] (truthy v))) (h : X.K = K := by rfl) : PT X a (tTru K ta) := by subst h; exact pt_truth ha he
end
section
variable {K : PySem.W.Frag} {σ : L2.St} {H : Hp} {te : TE} {Q : Bool → Hp → Prop}
theorem w_tru (h : te σ H fun x H' => TruX K x H' Q) : tTru K te σ H Q := h
theorem r_truB {b : Bool} (h : Q b H) : TruX K (.bl b) H Q := ⟨b, rfl, h⟩
theorem r_truI {i : Int} (h : Q (!decide (i = 0)) H) : TruX K (.int i) H Q := ⟨(i != 0), rfl, by
  have e : (i != 0) = (!decide (i = 0)) := by
    by_cases c : i = 0
    · subst c; rfl
    · simp [c]
  rw [e]; exact h⟩
theorem r_truN (h : Q false H) : TruX K .non H Q := ⟨false, rfl, h⟩
/-- all of a list of truths -/
theorem all_range {n : Nat} {p : Nat → Prop} [DecidablePred p] : ((List.range n).map fun i => decide (p i)).all id = decide (∀ i, i < n → p i) := by
  rw [Bool.eq_iff_iff]
  simp
theorem map_bl_range {n : Nat} {p : Nat → Prop} [DecidablePred p] : (List.range n).map (fun i => V.bl (decide (p i))) = ((List.range n).map fun i => decide (p i)).map V.bl := by
  rw [List.map_map]; rfl
end
end M

/-! ### part E: data without lists; comprehensions that make data -/
namespace M
open PySem PySem.Spec PyProof.Rows L2 Evl
mutual
def imm : PyData → Bool
  | .list _ => false
  | .dict _ => false
  | .tuple xs => immAll xs
  | _ => true
def immAll : List PyData → Bool
  | [] => true
  | x :: xs => imm x && immAll xs
end
/-- tuples stand -/
def TEx (H H' : Hp) : Prop := ∀ a xs, Rd H a (.tup xs) → Rd H' a (.tup xs)
theorem TEx.of {H H' : Hp} (e : Ex H H') : TEx H H' := fun _ _ h => ex_rd e h
theorem TEx.trans {H H1 H2 : Hp} (a : TEx H H1) (b : TEx H1 H2) : TEx H H2 := fun x o h => b x o (a x o h)
theorem TEx.refl (H : Hp) : TEx H H := fun _ _ h => h
theorem TEx.upd {H : Hp} {p : Addr} {xs : List V} {o : HO} (h : H p = some (.lst xs)) : TEx H (upd H p o) := fun a ys q => by
  have hne : a ≠ p := by
    rintro rfl
    rcases q with q | ⟨o', q⟩ <;> rw [h] at q <;> cases q
  rcases q with q | ⟨o', q⟩
  · exact .inl (by rw [upd_ne hne]; exact q)
  · exact .inr ⟨o', by rw [upd_ne hne]; exact q⟩
section
variable {K : PySem.W.Frag} {H H' : Hp}
theorem tex_t (e : TEx H H') {a : Addr} {xs : List V} (h : SqT K H a xs) : SqT K H' a xs := by
  rcases h with h | h
  · exact .inl (e a xs h)
  · exact .inr h
mutual
theorem dp_tex (e : TEx H H') : ∀ {d : PyData} {v : V}, imm d = true → Dp K H v d → Dp K H' v d
  | _, _, _, .non => .non
  | _, _, _, .bl b => .bl b
  | _, _, _, .int i => .int i
  | _, _, _, .str x => .str x
  | _, _, h, .lst _ _ => nomatch h
  | _, _, h, .tup s a => .tup (tex_t e s) (dpAll_tex e h a)
theorem dpAll_tex (e : TEx H H') : ∀ {ds : List PyData} {vs : List V}, immAll ds = true → DpAll K H vs ds → DpAll K H' vs ds
  | _, _, _, .nil => .nil
  | _, _, h, .cons a r => .cons (dp_tex e (Bool.and_eq_true_iff.mp h).1 a) (dpAll_tex e (Bool.and_eq_true_iff.mp h).2 r)
end
theorem dpAll_len : ∀ {vs : List V} {ds : List PyData}, DpAll K H vs ds → vs.length = ds.length
  | _, _, .nil => rfl
  | _, _, .cons _ r => congrArg Nat.succ (dpAll_len r)
theorem dpAll_app : ∀ {vs ws : List V} {ds es : List PyData}, DpAll K H vs ds → DpAll K H ws es → DpAll K H (vs ++ ws) (ds ++ es)
  | _, _, _, _, .nil, h => h
  | _, _, _, _, .cons a r, h => .cons a (dpAll_app r h)
theorem dpAll_get : ∀ {vs : List V} {ds : List PyData} {i : Nat} {x : V}, DpAll K H vs ds → vs[i]? = some x → ∃ d, ds[i]? = some d ∧ Dp K H x d
  | _, _, 0, _, .cons a _, e => by simp at e; subst e; exact ⟨_, rfl, a⟩
  | _, _, i + 1, x, .cons _ r, e => by
    obtain ⟨d, h1, h2⟩ := dpAll_get (i := i) (x := x) r (by simpa using e)
    exact ⟨d, by simpa using h1, h2⟩
theorem immAll_app : ∀ {ds es : List PyData}, immAll ds = true → immAll es = true → immAll (ds ++ es) = true
  | [], _, _, h => h
  | _ :: _, _, h, h' => Bool.and_eq_true_iff.mpr ⟨(Bool.and_eq_true_iff.mp h).1, immAll_app (Bool.and_eq_true_iff.mp h).2 h'⟩
theorem immAll_map {f : Nat → PyData} (h : ∀ i, imm (f i) = true) : ∀ l : List Nat, immAll (l.map f) = true
  | [] => rfl
  | i :: l => Bool.and_eq_true_iff.mpr ⟨h i, immAll_map h l⟩
variable {Q : VK}
/-- over a list: item i gives data f i (without lists) -/
theorem lcD_list {a : Addr} {xs : List V} {j : Nat} {te : TE} {vs : List Nat} {σ : L2.St} (f : Nat → PyData) (hf : ∀ i, imm (f i) = true) (hx : SqL K H a xs) (hn : xs.length ≤ 100000) (σ' : V → L2.St) (hσ : ∀ x, (wipe σ vs).set j (some x) = σ' x) (hw : ∀ x, wipe ((wipe σ vs).set j (some x)) vs = wipe σ vs)
    (he : ∀ (i : Nat) (x : V) (H1 : Hp) (Q' : VK), Ex H H1 → xs[i]? = some x → (∀ y H2, Ex H1 H2 → Dp K H2 y (f i) → Q' y H2) → te (σ' x) H1 Q')
    (hq : ∀ p H2 ys, H p = none → Ex H H2 → H2 p = some (.lst ys) → DpAll K H2 ys ((List.range xs.length).map f) → Q (.ref p) H2) : LcJ (Itl K a) (gName j) tYes te vs σ H Q := fun D hD =>
  lc_list (xs := xs) (Pv := fun i H' => Ex H H' ∧ ∃ ys, H' D = some (.lst ys) ∧ DpAll K H' ys ((List.range i).map f)) ⟨Ex.new hD, [], upd_same, .nil⟩ (fun i H' _ p => ex_l p.1 hx) (fun i x H' hi ⟨p1, ys, p2, p3⟩ => ⟨hw x, by
    show te ((wipe σ vs).set j _) H' _
    rw [hσ]
    have hi' := (List.getElem?_eq_some_iff.mp hi).1
    refine he i x H' _ p1 hi fun y H2 e2 d2 => ⟨ys, e2 D _ p2, sz_lt (by rw [dpAll_len p3, List.length_map, List.length_range]; omega), Ex.mut (p1.trans e2) hD, ys ++ [y], upd_same, ?_⟩
    have t := TEx.upd (o := .lst (ys ++ [y])) (e2 D _ p2)
    rw [List.range_succ, List.map_append]
    exact dpAll_app (dpAll_tex t (immAll_map hf _) (dpAll_ex e2 p3)) (.cons (dp_tex t (hf i) d2) .nil)⟩) fun H' ⟨p1, ys, p2, p3⟩ => hq D H' ys hD p1 p2 p3
theorem lcD_tup {a : Addr} {xs : List V} {j : Nat} {te : TE} {vs : List Nat} {σ : L2.St} (f : Nat → PyData) (hf : ∀ i, imm (f i) = true) (hx : SqT K H a xs) (hn : xs.length ≤ 100000) (σ' : V → L2.St) (hσ : ∀ x, (wipe σ vs).set j (some x) = σ' x) (hw : ∀ x, wipe ((wipe σ vs).set j (some x)) vs = wipe σ vs)
    (he : ∀ (i : Nat) (x : V) (H1 : Hp) (Q' : VK), Ex H H1 → xs[i]? = some x → (∀ y H2, Ex H1 H2 → Dp K H2 y (f i) → Q' y H2) → te (σ' x) H1 Q')
    (hq : ∀ p H2 ys, H p = none → Ex H H2 → H2 p = some (.lst ys) → DpAll K H2 ys ((List.range xs.length).map f) → Q (.ref p) H2) : LcJ (Itt K a) (gName j) tYes te vs σ H Q := fun D hD =>
  lc_tup (xs := xs) (Pv := fun i H' => Ex H H' ∧ ∃ ys, H' D = some (.lst ys) ∧ DpAll K H' ys ((List.range i).map f)) ⟨Ex.new hD, [], upd_same, .nil⟩ (fun i H' _ p => ex_t p.1 hx) (fun i x H' hi ⟨p1, ys, p2, p3⟩ => ⟨hw x, by
    show te ((wipe σ vs).set j _) H' _
    rw [hσ]
    have hi' := (List.getElem?_eq_some_iff.mp hi).1
    refine he i x H' _ p1 hi fun y H2 e2 d2 => ⟨ys, e2 D _ p2, sz_lt (by rw [dpAll_len p3, List.length_map, List.length_range]; omega), Ex.mut (p1.trans e2) hD, ys ++ [y], upd_same, ?_⟩
    have t := TEx.upd (o := .lst (ys ++ [y])) (e2 D _ p2)
    rw [List.range_succ, List.map_append]
    exact dpAll_app (dpAll_tex t (immAll_map hf _) (dpAll_ex e2 p3)) (.cons (dp_tex t (hf i) d2) .nil)⟩) fun H' ⟨p1, ys, p2, p3⟩ => hq D H' ys hD p1 p2 p3
/-! deep: tuples in the place of lists -/
end
mutual
def dDeep : PyData → PyData
  | .list xs => .tuple (dDeepAll xs)
  | .tuple xs => .tuple (dDeepAll xs)
  | .none => .none
  | .bool b => .bool b
  | .int i => .int i
  | .str s => .str s
  | .dict _ => .none
def dDeepAll : List PyData → List PyData
  | [] => []
  | x :: xs => dDeep x :: dDeepAll xs
end
mutual
theorem imm_deep : ∀ d, imm (dDeep d) = true
  | .list xs => immAll_deep xs
  | .tuple xs => immAll_deep xs
  | .none => rfl
  | .bool _ => rfl
  | .int _ => rfl
  | .str _ => rfl
  | .dict _ => rfl
theorem immAll_deep : ∀ ds, immAll (dDeepAll ds) = true
  | [] => rfl
  | x :: xs => Bool.and_eq_true_iff.mpr ⟨imm_deep x, immAll_deep xs⟩
end
theorem dDeepAll_eq : ∀ ds, dDeepAll ds = ds.map dDeep
  | [] => rfl
  | x :: xs => by show dDeep x :: dDeepAll xs = _; rw [dDeepAll_eq xs]; rfl
theorem dDeep_ints (ns : List Int) : dDeepAll (ns.map .int) = ns.map .int := by
  rw [dDeepAll_eq, List.map_map]; rfl
mutual
/-- depth at most n, each row at most so long -/
def shp : Nat → PyData → Bool
  | 0, .list _ => false
  | 0, .tuple _ => false
  | n + 1, .list xs => decide (xs.length ≤ 50000) && shpAll n xs
  | n + 1, .tuple xs => decide (xs.length ≤ 50000) && shpAll n xs
  | _, .dict _ => false
  | _, _ => true
def shpAll : Nat → List PyData → Bool
  | _, [] => true
  | n, x :: xs => shp n x && shpAll n xs
end
theorem shpAll_get {n : Nat} : ∀ {ds : List PyData} {i : Nat} {d : PyData}, shpAll n ds = true → ds[i]? = some d → shp n d = true
  | _ :: _, 0, _, h, e => by
    simp at e; subst e
    unfold shpAll at h
    exact (Bool.and_eq_true_iff.mp h).1
  | _ :: _, i + 1, d, h, e => by
    unfold shpAll at h
    exact shpAll_get (i := i) (d := d) (Bool.and_eq_true_iff.mp h).2 (by simpa using e)
theorem shpAll_ints : ∀ ns : List Int, shpAll 0 (ns.map .int) = true
  | [] => rfl
  | n :: ns => by show (shp 0 (.int n) && shpAll 0 (ns.map .int)) = true; rw [shpAll_ints ns]; rfl
end M

/-! ### part F: a list or a tuple -/
namespace M
open PySem PySem.Spec PyProof.Rows L2 Evl
def SqE (K : PySem.W.Frag) (H : Hp) (a : Addr) (xs : List V) : Prop := SqL K H a xs ∨ SqT K H a xs
section
variable {K : PySem.W.Frag} {H H' : Hp} {Q : VK}
theorem ex_e {a : Addr} {xs : List V} (e : Ex H H') (h : SqE K H a xs) : SqE K H' a xs := h.elim (fun h => .inl (ex_l e h)) (fun h => .inr (ex_t e h))
theorem r_lenEI {a : Addr} {xs : List Int} (h : SqE K H a (vI xs)) (q : Q (.int (xs.length : Int)) H) : rLenU K [.ref a] H Q := h.elim (fun h => r_lenLI h q) (fun h => r_lenTI h q)
theorem r_ixEI {a : Addr} {xs : List Int} {i : Int} (h : SqE K H a (vI xs)) (h0 : 0 ≤ i) (h1 : i < xs.length) (q : Q (.int (gI xs i)) H) : rIx K (.ref a) (.int i) H Q := h.elim (fun h => r_ixLI h h0 h1 q) (fun h => r_ixTI h h0 h1 q)
theorem r_ixEN {a : Addr} {xs : List Int} {i : Int} (h : SqE K H a (vI xs)) (h0 : i < 0) (h1 : -(xs.length : Int) ≤ i) (q : Q (.int (gI xs (i + xs.length))) H) : rIx K (.ref a) (.int i) H Q := h.elim (fun h => r_ixLN h h0 h1 q) (fun h => r_ixTN h h0 h1 q)
end
end M

/-! ### part G: fields, instances made, methods, properties, instances called, own == -/
namespace M
open PySem PySem.Spec PyProof.Rows L2 Evl
def GetF (K : PySem.W.Frag) (f : Str) (x : V) (H : Hp) (Q : VK) : Prop := ∃ a C dx fs v, x = .ref a ∧ H a = some (.ins C dx fs) ∧ Cls K C ∧ NoAttr K C f ∧ fs.lookup f = some v ∧ Q v H
def PutF (K : PySem.W.Frag) (f : Str) (y x : V) (H : Hp) (R : Hp → Prop) : Prop := ∃ a C dx fs, x = .ref a ∧ H a = some (.ins C dx fs) ∧ Cls K C ∧ NoAttr K C f ∧ fs.length < 1000 ∧ R (upd H a (.ins C dx (putF f y fs)))
section
variable {K : PySem.W.Frag} {σ : L2.St} {H : Hp} {Q : VK} {D : Ends} {ta tv : TE} {f : Str}
theorem w_fld (h : ta σ H fun x H1 => GetF K f x H1 Q) : tFld K ta f σ H Q := h
theorem w_fldS (h : tv σ H fun y H1 => ta σ H1 fun x H2 => PutF K f y x H2 fun H3 => D.nx σ H3) : sFld K ta tv f D σ H := h
theorem r_getF {a C dx : Addr} {fs : List (Str × V)} {v : V} (h : H a = some (.ins C dx fs)) (c : Cls K C) (n : NoAttr K C f) (e : fs.lookup f = some v) (q : Q v H) : GetF K f (.ref a) H Q := ⟨a, C, dx, fs, v, rfl, h, c, n, e, q⟩
theorem r_putF {a C dx : Addr} {fs : List (Str × V)} {y : V} {R : Hp → Prop} (h : H a = some (.ins C dx fs)) (c : Cls K C) (n : NoAttr K C f) (hl : fs.length < 1000) (q : R (upd H a (.ins C dx (putF f y fs)))) : PutF K f y (.ref a) H R := ⟨a, C, dx, fs, rfl, h, c, n, hl, q⟩
end
/-- a class made by its name: dvs the defaults that fill up -/
structure Mkc (P : Program) (w : World) (K : PySem.W.Frag) (mg : Str → Option Value) (base : Heap) (CX : CXT) (k : Nat) (x : Str) (C : Addr) (sp : Sp) (dvs : List V) : Prop where
  ex : ∃ (f : Addr) (fd : FuncData) (ps : List Str) (ds : List Value), Mk K C f ∧ FnOk P w K mg base CX k f fd ps sp ∧ mg x = some (.ref C) ∧ Binds K fd ps ds ∧ Vals dvs ds
section
variable {X : Cx} {CX : CXT} {k j : Nat} {C : Addr} {x m : Str} {sp : Sp} {dvs : List V} {E : XK} {p pos apos : Pos} {e o : Expr} {es : List Expr} {ta : TE} {t : TA}
theorem pmk (c : Mkc X.prog X.w X.K X.mg X.base CX k x C sp dvs) (hr : Room j X.A) (hk : k + 1 ≤ j) (hx : Passes CX X E) (hg : Gl X x) (ha : PA X (e :: es) t)
    (hdb : (x == ("__debug__" : Str)) = false := by decide) (he : starEach (e :: es) X.env = (false, eval e X.env) :: starEach es X.env := by rfl) (hpl : (backTo pos (starEach es X.env)).any (·.1) = false := by rfl) :
    PE X (.Call (.Name x p) (e :: es) [] pos) (tMake C sp dvs E t) := by
  obtain ⟨f, fd, ps, ds, M, F, hm, hb, hd⟩ := c.ex
  exact pe_make M F (hr.mono hk) hg hm hb hd hx ha hdb he hpl
theorem pmt {pl : Sem Bool} (c : Mt X.prog X.w X.K X.mg X.base CX k C m sp) (hr : Room j X.A) (hk : k ≤ j) (hx : Passes CX X E) (ho : PE X o ta) (ha : PA X (e :: es) t)
    (he : starEach (e :: es) X.env = (false, eval e X.env) :: starEach es X.env := by rfl) (hpl : (backTo pos (starEach es X.env)).any (·.1) = false := by rfl)
    (ht : eval (.Call (.Attribute o m apos) (e :: es) [] pos) X.env = (do let ov ← eval o X.env; standAt apos.atName; let (f, first) ← holding [ov] (getMethod ov m pl); callWith pos f first (backTo pos (starEach (e :: es) X.env)) (backToKw pos (keywordEach [] X.env))) := by rfl) :
    PE X (.Call (.Attribute o m apos) (e :: es) [] pos) (tMeth C m sp [] E ta t) := by
  obtain ⟨f, fd, ps, cl, hm, F, hb⟩ := c.ex
  exact pe_meth ho cl hm F (hr.mono hk) hb .nil hx ha he hpl ht
theorem pmt0 {pl : Sem Bool} (c : Mt X.prog X.w X.K X.mg X.base CX k C m sp) (hr : Room j X.A) (hk : k ≤ j) (hx : Passes CX X E) (ho : PE X o ta)
    (ht : eval (.Call (.Attribute o m apos) [] [] pos) X.env = (do let ov ← eval o X.env; standAt apos.atName; let (f, first) ← holding [ov] (getMethod ov m pl); callWith pos f first (backTo pos (starEach [] X.env)) (backToKw pos (keywordEach [] X.env))) := by rfl) :
    PE X (.Call (.Attribute o m apos) [] [] pos) (tMeth C m sp [] E ta tNil) := by
  obtain ⟨f, fd, ps, cl, hm, F, hb⟩ := c.ex
  exact pe_meth0 ho cl hm F (hr.mono hk) hb .nil hx ht
end
/-- a property of the class at C -/
structure Prp (P : Program) (w : World) (K : PySem.W.Frag) (mg : Str → Option Value) (base : Heap) (k : Nat) (C : Addr) (m : Str) (sp : Sp) : Prop where
  ex : ∃ (p g : Addr) (fd : FuncData) (ps : List Str), Cls K C ∧ PropOf K C m p g ∧ FnOk P w K mg base CX0 k g fd ps sp ∧ Binds K fd ps []
def PropI (C : Addr) (sp : Sp) (x : V) (H1 : Hp) (Q : VK) (E : XK) : Prop := ∃ a dx fs, x = .ref a ∧ H1 a = some (.ins C dx fs) ∧ sp (.ref a :: []) H1 Q E
section
variable {X : Cx} {k j : Nat} {C : Addr} {m : Str} {sp : Sp} {E : XK} {pos : Pos} {e : Expr} {ta : TE} {σ : L2.St} {H : Hp} {Q : VK}
theorem ppr (c : Prp X.prog X.w X.K X.mg X.base k C m sp) (hr : Room j X.A) (hk : k + 1 ≤ j) (he : PE X e ta) (hab : attributeBase e m X.env (eval e X.env) = eval e X.env) : PE X (.Attribute e m pos) (tProp C sp [] E0 ta) := by
  obtain ⟨p, g, fd, ps, cl, hp, F, hb⟩ := c.ex
  exact pe_prop he cl hp F (hr.mono hk) hb .nil pass0 hab
theorem w_prop (h : ta σ H fun x H1 => PropI C sp x H1 Q E) : tProp C sp [] E ta σ H Q := h
theorem r_prop {F} {a dx : Addr} {fs : List (Str × V)} (h : H a = some (.ins C dx fs)) (q : F (.ref a) H Q E) : PropI C (sp1 F) (.ref a) H Q E := ⟨a, dx, fs, rfl, h, _, rfl, q⟩
def MethI (C : Addr) (m : Str) (sp : Sp) (E : XK) (t : TA) (σ : L2.St) (x : V) (H1 : Hp) (Q : VK) : Prop := ∃ a dx fs, x = .ref a ∧ H1 a = some (.ins C dx fs) ∧ fs.lookup m = none ∧ t σ H1 fun vs H2 => sp (x :: (vs ++ [])) H2 Q E
theorem w_meth {t : TA} (h : ta σ H fun x H1 => MethI C m sp E t σ x H1 Q) : tMeth C m sp [] E ta t σ H Q := h
theorem r_meth {t : TA} {a dx : Addr} {fs : List (Str × V)} (h : H a = some (.ins C dx fs)) (n : fs.lookup m = none) (q : t σ H fun vs H2 => sp (.ref a :: (vs ++ [])) H2 Q E) : MethI C m sp E t σ (.ref a) H Q := ⟨a, dx, fs, rfl, h, n, q⟩
def MakeI (C : Addr) (sp : Sp) (dvs : List V) (E : XK) (vs : List V) (H1 : Hp) (Q : VK) : Prop := ∀ (x dx : Addr), H1 x = none → H1 dx = none → dx ≠ x → sp (.ref x :: (vs ++ dvs)) (upd (upd H1 dx (.own x)) x (.ins C dx [])) (fun v H2 => v = .non ∧ Q (.ref x) H2) E
theorem w_make {t : TA} {dvs : List V} (h : t σ H fun vs H1 => MakeI C sp dvs E vs H1 Q) : tMake C sp dvs E t σ H Q := h
/-- an instance called -/
structure Cli (P : Program) (w : World) (K : PySem.W.Frag) (mg : Str → Option Value) (base : Heap) (k : Nat) (C : Addr) (sp : Sp) : Prop where
  ex : ∃ (g : Addr) (fd : FuncData) (ps : List Str), StX.CallO K C g ∧ FnOk P w K mg base CX0 k g fd ps sp ∧ Binds K fd ps []
def CallI (C : Addr) (sp : Sp) (E : XK) (t : TA) (σ : L2.St) (y : V) (H1 : Hp) (Q : VK) : Prop := ∃ a, y = V.ref a ∧ t σ H1 fun vs H2 => (∃ dx fs, H2 a = some (.ins C dx fs)) ∧ sp (V.ref a :: vs) H2 Q E
def tCallI (C : Addr) (sp : Sp) (E : XK) (tf : TE) (t : TA) : TE := fun σ H Q => tf σ H fun y H1 => CallI C sp E t σ y H1 Q
end
section
variable {X : Cx} {k j : Nat} {C : Addr} {sp : Sp} {pos : Pos} {fe e : Expr} {es : List Expr} {tf : TE} {t : TA}
theorem pcl (c : Cli X.prog X.w X.K X.mg X.base k C sp) (hr : Room j X.A) (hk : k ≤ j) (hf : PE X fe tf) (ha : PA X (e :: es) t)
    (ht : eval (.Call fe (e :: es) [] pos) X.env = (do callWith pos (← eval fe X.env) [] (backTo pos (starEach (e :: es) X.env)) (backToKw pos (keywordEach [] X.env))) := by rfl)
    (he : starEach (e :: es) X.env = (false, eval e X.env) :: starEach es X.env := by rfl) (hpl : (backTo pos (starEach es X.env)).any (·.1) = false := by rfl) : PE X (.Call fe (e :: es) [] pos) (StX.tCallO X C sp E0 tf t) := by
  obtain ⟨g, fd, ps, co, F, hb⟩ := c.ex
  exact StX.pe_callO hf co ((F.raw hb .nil).imp fun vs H Q E h => by rw [List.append_nil]; exact h) (hr.mono hk) pass0 ha ht he hpl
def CallOI (X : Cx) (C : Addr) (sp : Sp) (t : TA) (σ : L2.St) (y : V) (H1 : Hp) (Q : VK) : Prop := ∃ a, y = V.ref a ∧ t σ H1 fun vs H2 => StX.InsC X H2 a C ∧ sp (V.ref a :: vs) H2 Q E0
variable {σ : L2.St} {H : Hp} {Q : VK}
theorem w_callO (h : tf σ H fun y H1 => CallOI X C sp t σ y H1 Q) : StX.tCallO X C sp E0 tf t σ H Q := h
def CallOJ (X : Cx) (C a : Addr) (sp : Sp) (vs : List V) (H2 : Hp) (Q : VK) : Prop := StX.InsC X H2 a C ∧ sp (V.ref a :: vs) H2 Q E0
theorem w_callOI {a : Addr} (h : t σ H fun vs H2 => CallOJ X C a sp vs H2 Q) : CallOI X C sp t σ (.ref a) H Q := ⟨a, rfl, h⟩
theorem r_callO1 {F} {a dx : Addr} {fs : List (Str × V)} {x : V} (hi : H a = some (.ins C dx fs)) (h : F (.ref a) x H Q E0) : CallOJ X C a (sp2 F) [x] H Q := ⟨.inr ⟨dx, fs, hi⟩, _, _, rfl, h⟩
end
/-! own == : x an instance of the class at C, y any value whose type is known -/
section
variable {X : Cx} {n : Nat} {C : Addr} {sp : Sp}
def rOwnEq (K : PySem.W.Frag) (C : Addr) (sp : Sp) : R2 := fun x y H Q => ∃ a dx fs t, x = .ref a ∧ H a = some (.ins C dx fs) ∧ TyX K H y t ∧ PySem.W.notFirst K C t = true ∧ sp [x, y] H (fun v H' => (∃ b, v = .bl b) ∧ Q v H') E0
end
section
variable {X : Cx} {n : Nat} {C : Addr} {sp : Sp}
/-- what == needs of the class at C -/
structure EqOf (P : Program) (w : World) (K : PySem.W.Frag) (mg : Str → Option Value) (base : Heap) (k : Nat) (C : Addr) (sp : Sp) : Prop where
  ex : ∃ (g : Addr) (fd : FuncData) (ps : List Str), PySem.W.findIn K (.ref C) "__eq__" = some (some (.ref g)) ∧ PySem.W.isFn K (.ref g) = true ∧ FnOk P w K mg base CX0 k g fd ps sp ∧ Binds K fd ps []
theorem op_ownEq {j : Nat} (c : EqOf X.prog X.w X.K X.mg X.base n C sp) (hr : Room j X.A) (hn : n ≤ j) : OpR X (compareOp .Eq) (rOwnEq X.K C sp) := by
  obtain ⟨g, fd, ps, hs, hf, F, hb⟩ := c.ex
  intro pins s σ H x y v u Q I rx ry h
  obtain ⟨a, dx, fs, t, rfl, ha, ty, hnf, q⟩ := h
  cases (show v = Value.ref a from rx)
  obtain ⟨mA, O, _⟩ := ins_get I.hok ha
  obtain ⟨od, J, _⟩ := O.look
  obtain ⟨m, hF⟩ := I.fr
  obtain ⟨Pk, kit, hk, _⟩ := kit_of I ry ty
  show wpAny _ _ (richCompare .Eq (.ref a) u) _ _ _
  refine PySem.W.cmp_K (op := .Eq) (tb := t) (hr.mono hn).units0 hF I.ok.mod.kin J (kit.ty _ _ I.kIn hk) hnf hs hf ?_
  refine wpAny_mono (run_fn (us := [.ref a, u]) (vs := [.ref a, y]) (dvs := []) (ds := []) F (hr.mono hn) hb .nil pass0 I (.cons rfl (.cons ry .nil)) q) (fun z s' hz => ?_) fun _ _ x => x
  obtain ⟨zv, H', I', rz, ⟨b, hb⟩, qz⟩ := hz
  subst hb
  cases (show z = Value.bool b from rz)
  exact ⟨.bl b, H', I', rfl, qz⟩
def rEqO (K : PySem.W.Frag) (C : Addr) (sp : Sp) : R2 := fun x y H Q => rEqU K x y H Q ∨ rOwnEq K C sp x y H Q
theorem kEqO (K : PySem.W.Frag) {j : Nat} (c : EqOf X.prog X.w X.K X.mg X.base n C sp) (hr : Room j X.A) (hn : n ≤ j) (h : X.K = K := by rfl) : OpR X (compareOp .Eq) (rEqO K C sp) := by subst h; exact (xEq hr).or (op_ownEq c hr hn)
end
section
variable {K : PySem.W.Frag} {C : Addr} {sp : Sp} {H : Hp} {Q : VK} {x y : V}
theorem w_eqO (h : rEqU K x y H Q) : rEqO K C sp x y H Q := .inl h
theorem r_ownEq {F} {a dx : Addr} {fs : List (Str × V)} {t : Value} (ha : H a = some (.ins C dx fs)) (ty : TyX K H y t) (hn : PySem.W.notFirst K C t = true) (q : F (.ref a) y H (fun v H' => (∃ b, v = .bl b) ∧ Q v H') E0) : rEqO K C (sp2 F) (.ref a) y H Q :=
  .inr ⟨a, dx, fs, t, rfl, ha, ty, hn, _, _, rfl, q⟩
end
end M

/-! ### part H: the head's facts, functions by any address -/
namespace M
open PySem PySem.Spec PyProof.Rows L2 Evl
/-- a def: where its function stands -/
structure DX where
  adr : PySem.W.Frag → Addr
  name : Str
  qual : Str
  params : Arguments
  body : List Stmt
  scope : Scope
  dfl : List He.Dv := []
  clo : Bool := false
/-- the parts of a function; of a closure the names alone -/
def fnA (K : PySem.W.Frag) (a : Addr) (c : Bool) : He.FnW := match K.lookup a with
  | some ⟨_, _, .func q, _⟩ => some (q.name, q.qualname, q.params, q.body, q.scope, q.globals, (if c = true then q.closure.map fun p => (p.1, 0) else q.closure), q.builtins)
  | _ => none
def DX.val (d : DX) : He.FnW := some (d.name, d.qual, d.params, .stmts d.body, d.scope, mainGlobals, (if d.clo = true then [("__class__", 0)] else []), builtinsNs)
def DX.dvs (K : PySem.W.Frag) (d : DX) : List V := d.dfl.map (He.Dv.v K)
def DX.ok (K : PySem.W.Frag) (d : DX) : Bool := PySem.W.keepIn K (.ref (d.adr K)) && (match K.lookup (d.adr K) with
  | some ⟨_, _, .func q, _⟩ => PySem.W.codeIn K q.code d.qual && He.dflB K q.defaults (d.dvs K)
  | _ => false)
theorem DX.fun_ {K : PySem.W.Frag} {d : DX} (n : d.clo = false) (e : fnA K (d.adr K) d.clo = d.val) (c : d.ok K = true) : ∃ fd, FunD K d.name d.qual d.params d.body d.scope (d.dvs K) [] (d.adr K) fd := by
  have c0 := Bool.and_eq_true_iff.mp c
  have c1 := c0.2
  unfold fnA DX.val at e
  rw [n] at e
  simp only [Bool.false_eq_true, if_false] at e
  cases q : K.lookup (d.adr K) with
  | none => rw [q] at c1; cases c1
  | some o =>
    obtain ⟨oc, od, dt, osl⟩ := o
    rw [q] at c1 e
    cases dt with
    | func fd =>
      obtain ⟨m1, m2, m3, m4, m5, m6, m7, m8, m9, m10, m11, m12, m13, m14, m15⟩ := fd
      have e2 : (some (m1, m2, m3, m4, m5, m6, m7, m15) : He.FnW) = some (d.name, d.qual, d.params, .stmts d.body, d.scope, mainGlobals, [], builtinsNs) := e
      simp only [Option.some.injEq, Prod.mk.injEq] at e2
      obtain ⟨g1, g2, g3, g4, g5, g6, g7, g8⟩ := e2
      subst g1 g2 g3 g4 g5 g6 g7 g8
      have c2 := Bool.and_eq_true_iff.mp (show (PySem.W.codeIn K m13 d.qual && He.dflB K m8 (d.dvs K)) = true from c1)
      exact ⟨_, ⟨oc, od, m8, m9, m10, m11, m12, m13, m14, osl, rfl, q, c2.1, He.dflB_ok c2.2, .inl rfl⟩, c0.1⟩
    | _ => cases c1
/-- a def that names super(), as it stands -/
structure FunS (K : PySem.W.Frag) (x qual : Str) (params : Arguments) (body : List Stmt) (scope : Scope) (f : Addr) (fd : FuncData) (cc cda : Addr) : Prop where
  ex : ∃ (oc : Value) (od : Option Addr) (dV kV doc pm : Value) (an : Option Addr) (ct : Value) (osl : Array (Option Value)),
    fd = PySem.W.ksFn x qual params body scope dV kV doc pm an (.ref cda) ct cc ∧ K.lookup f = some ⟨oc, od, .func fd, osl⟩ ∧ PySem.W.codeIn K (.ref cda) qual = true ∧ DflV K dV []
  kp : PySem.W.keepIn K (.ref f) = true
def cellOf (K : PySem.W.Frag) (a : Addr) : Addr := match K.lookup a with
  | some ⟨_, _, .func q, _⟩ => (match q.closure with
    | (_, c) :: _ => c
    | _ => 0)
  | _ => 0
def codeOf (K : PySem.W.Frag) (a : Addr) : Addr := match K.lookup a with
  | some ⟨_, _, .func q, _⟩ => (match q.code with
    | .ref c => c
    | _ => 0)
  | _ => 0
theorem DX.funS_ {K : PySem.W.Frag} {d : DX} (n : d.clo = true) (nd : d.dvs K = []) (e : fnA K (d.adr K) d.clo = d.val) (c : d.ok K = true) : ∃ fd, FunS K d.name d.qual d.params d.body d.scope (d.adr K) fd (cellOf K (d.adr K)) (codeOf K (d.adr K)) := by
  have c0 := Bool.and_eq_true_iff.mp c
  have c1 := c0.2
  unfold fnA DX.val at e
  rw [n] at e
  simp only [if_true] at e
  unfold cellOf codeOf
  cases q : K.lookup (d.adr K) with
  | none => rw [q] at c1; cases c1
  | some o =>
    obtain ⟨oc, od, dt, osl⟩ := o
    rw [q] at c1 e
    cases dt with
    | func fd =>
      obtain ⟨m1, m2, m3, m4, m5, m6, m7, m8, m9, m10, m11, m12, m13, m14, m15⟩ := fd
      have e2 : (some (m1, m2, m3, m4, m5, m6, (m7.map fun p => ((p.1, 0) : Str × Addr)), m15) : He.FnW) = (some (d.name, d.qual, d.params, FuncBody.stmts d.body, d.scope, mainGlobals, [(("__class__" : Str), (0 : Addr))], builtinsNs) : He.FnW) := e
      simp only [Option.some.injEq, Prod.mk.injEq] at e2
      obtain ⟨g1, g2, g3, g4, g5, g6, g7, g8⟩ := e2
      have c2 := Bool.and_eq_true_iff.mp (show (PySem.W.codeIn K m13 d.qual && He.dflB K m8 (d.dvs K)) = true from c1)
      obtain ⟨cda, rfl⟩ : ∃ c, m13 = .ref c := by
        have := c2.1
        unfold PySem.W.codeIn at this
        split at this
        · exact ⟨_, rfl⟩
        · cases this
      have h7 : ∃ c, m7 = [(("__class__" : Str), c)] := by
        rcases m7 with _ | ⟨⟨z1, z2⟩, _ | ⟨y, m7⟩⟩
        · exact absurd (congrArg List.length g7) (by simp)
        · have g8 : z1 = ("__class__" : Str) := congrArg Prod.fst (List.cons.inj g7).1
          exact ⟨z2, by rw [g8]⟩
        · exact absurd (congrArg List.length g7) (by simp)
      obtain ⟨z2, h7⟩ := h7
      subst g1 g2 g3 g4 g5 g6 g8 h7
      have dd := He.dflB_ok c2.2
      rw [nd] at dd
      exact ⟨_, ⟨oc, od, m8, m9, m10, m11, m12, m14, osl, rfl, q, c2.1, dd⟩, c0.1⟩
    | _ => cases c1
abbrev AlM : Type := Bool × List He.FnW
def obsM (fa : List He.Fa) (fn : List DX) (ex : PySem.W.Frag → Bool) (K : PySem.W.Frag) : AlM := ((fa.all fun f => f.ok K) && ((fn.all fun d => d.ok K) && ex K), fn.map fun d => fnA K (d.adr K) d.clo)
def valM (fn : List DX) : AlM := (true, fn.map DX.val)
def SaysM (fa : List He.Fa) (fn : List DX) (ex : PySem.W.Frag → Bool) (K : PySem.W.Frag) : Prop := obsM fa fn ex K = valM fn
/-- the cells of closures, too, and the table of the statics -/
def asX (g : Addr → Option Obj) (n : Nat) : List Addr := cStatics :: (He.asD g n ++ (He.asD g n).flatMap fun a => match g a with
  | some ⟨_, _, .func q, _⟩ => q.closure.map fun p => p.2
  | _ => [])
def obsMG (n : Nat) (fa : List He.Fa) (fn : List DX) (ex : PySem.W.Frag → Bool) (g : Addr → Option Obj) : AlM := obsM fa fn ex (He.frG g (asX g n))
def hookM (n : Nat) (fa : List He.Fa) (fn : List DX) (ex : PySem.W.Frag → Bool) : PySem.W.Hook where
  α := AlM
  obs := fun s => obsMG n fa fn ex s.heap.get?
  val := fun _ => valM fn
  says := fun _ h => ∃ K : PySem.W.Frag, K.In h ∧ SaysM fa fn ex K
  of := fun _ _ e => ⟨_, He.frG_in, e⟩
  keeps := fun _ _ _ ⟨K, hK, c⟩ k => ⟨K, PySem.W.Frag.In.keeps hK k, c⟩
theorem obsMG_eq {n : Nat} {fa : List He.Fa} {fn : List DX} {ex : PySem.W.Frag → Bool} {g : Addr → Option Obj} {s : Shared} (h : ∀ a, g a = s.heap.get? a) : obsMG n fa fn ex g = (hookM n fa fn ex).obs s := by
  rw [show g = s.heap.get? from funext h] <;> rfl
section
variable {fa : List He.Fa} {fn : List DX} {ex : PySem.W.Frag → Bool} {K : PySem.W.Frag}
theorem SaysM.fact (c : SaysM fa fn ex K) (i : Nat) {f : He.Fa} (h : fa[i]? = some f := by rfl) : f.ok K = true :=
  List.all_eq_true.mp (Bool.and_eq_true_iff.mp (show ((fa.all fun f => f.ok K) && ((fn.all fun d => d.ok K) && ex K)) = true from congrArg Prod.fst c)).1 f (List.mem_of_getElem? h)
theorem SaysM.more (c : SaysM fa fn ex K) : ex K = true :=
  (Bool.and_eq_true_iff.mp (Bool.and_eq_true_iff.mp (show ((fa.all fun f => f.ok K) && ((fn.all fun d => d.ok K) && ex K)) = true from congrArg Prod.fst c)).2).2
theorem SaysM.look (c : SaysM fa fn ex K) (i : Nat) {d : DX} (h : fn[i]? = some d := by rfl) : fnA K (d.adr K) d.clo = d.val ∧ d.ok K = true := by
  have c2 := (Bool.and_eq_true_iff.mp (Bool.and_eq_true_iff.mp (show ((fa.all fun f => f.ok K) && ((fn.all fun d => d.ok K) && ex K)) = true from congrArg Prod.fst c)).2).1
  have e : fn.map (fun d => fnA K (d.adr K) d.clo) = fn.map DX.val := congrArg Prod.snd c
  have e2 : (fn.map fun d => fnA K (d.adr K) d.clo)[i]? = (fn.map DX.val)[i]? := by rw [e]
  rw [List.getElem?_map, List.getElem?_map, h] at e2
  exact ⟨Option.some.inj e2, List.all_eq_true.mp c2 d (List.mem_of_getElem? h)⟩
theorem SaysM.def_ (c : SaysM fa fn ex K) (i : Nat) {d : DX} (h : fn[i]? = some d := by rfl) (n : d.clo = false := by rfl) : ∃ fd, FunD K d.name d.qual d.params d.body d.scope (d.dvs K) [] (d.adr K) fd :=
  let ⟨e, c2⟩ := c.look i h
  DX.fun_ n e c2
theorem SaysM.defS (c : SaysM fa fn ex K) (i : Nat) {d : DX} (h : fn[i]? = some d := by rfl) (n : d.clo = true := by rfl) (nd : d.dvs K = [] := by rfl) : ∃ fd, FunS K d.name d.qual d.params d.body d.scope (d.adr K) fd (cellOf K (d.adr K)) (codeOf K (d.adr K)) :=
  let ⟨e, c2⟩ := c.look i h
  DX.funS_ n nd e c2
end
/-! facts beyond He.Fa, told by a Bool -/
/-- the property m of the class x: its object, its getter -/
def prA (x m : Str) (K : PySem.W.Frag) : Addr := He.ma K (He.ga K x) m
def prG (x m : Str) (K : PySem.W.Frag) : Addr := match PySem.W.recIn K (prA x m K) "property" with
  | some (.ref g :: _) => g
  | _ => 0
def propB (x m : Str) (K : PySem.W.Frag) : Bool := decide (PySem.W.findIn K (.ref (He.ga K x)) m = some (some (.ref (prA x m K)))) && (decide (PySem.W.specialIn K (.ref (prA x m K)) "__get__" = some (some (.builtin "property.__get__"))) &&
  (decide (PySem.W.takesIn K (.ref (prA x m K)) = some true) && (match PySem.W.recIn K (prA x m K) "property" with
    | some (.ref g :: _) => true
    | _ => false)))
theorem propB_ok {x m : Str} {K : PySem.W.Frag} (h : propB x m K = true) : PropOf K (He.ga K x) m (prA x m K) (prG x m K) := by
  obtain ⟨h1, h⟩ := Bool.and_eq_true_iff.mp h
  obtain ⟨h2, h⟩ := Bool.and_eq_true_iff.mp h
  obtain ⟨h3, h⟩ := Bool.and_eq_true_iff.mp h
  refine ⟨of_decide_eq_true h1, of_decide_eq_true h2, of_decide_eq_true h3, ?_⟩
  unfold prG
  split at h
  · rename_i g r e
    rw [e]
    exact ⟨_, rfl⟩
  · cases h
/-- an empty tuple stands at an address of the written part -/
def tup0B (K : PySem.W.Frag) (a : Addr) : Bool := match K.lookup a with
  | some ⟨.type c, _, .seq its _, _⟩ => decide (c = "tuple") && decide (its.size = 0)
  | _ => false
theorem tup0B_ok {K : PySem.W.Frag} {a : Addr} (h : tup0B K a = true) (H : Hp) : SqT K H a [] := by
  unfold tup0B at h
  split at h
  · rename_i c od its n sl e
    obtain ⟨h1, h2⟩ := Bool.and_eq_true_iff.mp h
    have h3 : its = #[] := Array.eq_empty_of_size_eq_zero (of_decide_eq_true h2)
    subst h3
    exact .inr ⟨_, #[], n, e, congrArg Value.type (of_decide_eq_true h1), rfl, by decide, .nil⟩
  · cases h
/-- an instance of the class may be called -/
def callB (x : Str) (K : PySem.W.Frag) : Bool := decide (PySem.W.findIn K (.ref (He.ga K x)) "__call__" = some (some (.ref (He.ma K (He.ga K x) "__call__")))) && (PySem.W.isFn K (.ref (He.ma K (He.ga K x) "__call__")) && PySem.W.fnIn K (He.ma K (He.ga K x) "__call__"))
theorem callB_ok {x : Str} {K : PySem.W.Frag} (h : callB x K = true) : StX.CallO K (He.ga K x) (He.ma K (He.ga K x) "__call__") := by
  obtain ⟨h1, h⟩ := Bool.and_eq_true_iff.mp h
  obtain ⟨h2, h3⟩ := Bool.and_eq_true_iff.mp h
  exact ⟨of_decide_eq_true h1, h2, h3⟩
/-- the class of an instance, for isinstance and ==: what TyOf asks -/
def insB (x : Str) (K : PySem.W.Frag) : Bool := decide (PySem.W.findIn K (.ref (He.ga K x)) "__class__" = some (some (.builtin "object.__class__"))) && (decide (PySem.W.specialIn K (.builtin "object.__class__") "__get__" = some (some (.builtin "getset_descriptor.__get__"))) &&
  (decide (PySem.W.takesIn K (.builtin "object.__class__") = some true) && decide (PySem.W.mroIn K (He.ga K x) (.type "object") = some true)))
theorem insB_ok {x : Str} {K : PySem.W.Frag} (h : insB x K = true) (c : Cls K (He.ga K x)) {H : Hp} {a dx : Addr} {fs : List (Str × V)} (e : H a = some (.ins (He.ga K x) dx fs)) : TyX K H (.ref a) (.ref (He.ga K x)) := by
  obtain ⟨h1, h⟩ := Bool.and_eq_true_iff.mp h
  obtain ⟨h2, h⟩ := Bool.and_eq_true_iff.mp h
  obtain ⟨h3, h4⟩ := Bool.and_eq_true_iff.mp h
  exact .base (.ins e c (of_decide_eq_true h1) (of_decide_eq_true h2) (of_decide_eq_true h3) (of_decide_eq_true h4))
/-- isinstance's answers of the class, == of others -/
def kitB (x : Str) (n : String) (b : Bool) (K : PySem.W.Frag) : Bool := decide (PySem.W.kitOne K (.type n) (.ref (He.ga K x)) = some b)
def kitSB (x : Str) (K : PySem.W.Frag) : Bool := decide (PySem.W.kitOne K (.ref (He.ga K x)) (.ref (He.ga K x)) = some true)
def nfB (x : Str) (n : String) (K : PySem.W.Frag) : Bool := PySem.W.notFirst K (He.ga K x) (.type n)
end M

/-! ### part I: a source of draws; frames -/
namespace M
open PySem PySem.Spec PyProof.Rows L2 Evl
/-- all but what stands at a is as it was -/
def Fr (a : Addr) (H H' : Hp) : Prop := ∀ b o, b ≠ a → H b = some o → H' b = some o
theorem Fr.refl (a : Addr) (H : Hp) : Fr a H H := fun _ _ _ h => h
theorem Fr.trans {a : Addr} {H H1 H2 : Hp} (x : Fr a H H1) (y : Fr a H1 H2) : Fr a H H2 := fun b o n h => y b o n (x b o n h)
theorem Fr.of {a : Addr} {H H' : Hp} (e : Ex H H') : Fr a H H' := fun b o _ h => e b o h
theorem Fr.upd {a : Addr} {H : Hp} {o : HO} : Fr a H (upd H a o) := fun b o n h => by rw [upd_ne n]; exact h
/-- a list of three: the digits that are left, the seed, the count -/
def SrcAt (H : Hp) (a : Addr) : Prop := ∃ d s c : Int, H a = some (.lst [.int d, .int s, .int c]) ∧ 0 ≤ d ∧ 0 ≤ s ∧ s < 2147483629 ∧ 0 ≤ c
theorem SrcAt.ex {H H' : Hp} {a : Addr} (e : Ex H H') (h : SrcAt H a) : SrcAt H' a := by
  obtain ⟨d, s, c, h1, h2⟩ := h
  exact ⟨d, s, c, e _ _ h1, h2⟩
theorem SrcAt.ne {H : Hp} {a b : Addr} (h : SrcAt H a) (n : H b = none) : b ≠ a := by
  obtain ⟨d, s, c, h1, _⟩ := h
  rintro rfl
  rw [n] at h1; cases h1
/-- a change of the source alone leaves the tuples -/
theorem Fr.tex {a : Addr} {H H' : Hp} (f : Fr a H H') (h : SrcAt H a) : TEx H H' := fun b xs q => by
  obtain ⟨d, s, c, h1, _⟩ := h
  have hb : b ≠ a := by
    rintro rfl
    rcases q with q | ⟨o', q⟩ <;> rw [h1] at q <;> cases q
  rcases q with q | ⟨o', q⟩
  · exact .inl (f b _ hb q)
  · exact .inr ⟨o', f b _ hb q⟩
theorem fr_t {K : PySem.W.Frag} {a b : Addr} {H H' : Hp} {xs : List V} (f : Fr a H H') (h : SrcAt H a) (s : SqT K H b xs) : SqT K H' b xs := tex_t (f.tex h) s
theorem fr_dp {K : PySem.W.Frag} {a : Addr} {H H' : Hp} {v : V} {d : PyData} (f : Fr a H H') (h : SrcAt H a) (hi : imm d = true) (s : Dp K H v d) : Dp K H' v d := dp_tex (f.tex h) hi s
section
variable {H : Hp} {v : V}
theorem r_set {p : Addr} {xs : List V} {k : Int} {j : Nat} {R : Hp → Prop} (h : H p = some (.lst xs)) (hj : ixN xs.length k = some j) (q : R (upd H p (.lst (xs.set j v)))) : rSetL (.ref p) (.int k) v H R := ⟨p, xs, k, j, rfl, rfl, h, hj, q⟩
theorem r_app {K : PySem.W.Frag} {p : Addr} {xs : List V} {Q : VK} (h : H p = some (.lst xs)) (hz : xs.length < sizeLine) (q : Q .non (upd H p (.lst (xs ++ [v])))) : rAppend (.ref p) [v] H Q := ⟨p, xs, v, rfl, rfl, h, hz, q⟩
end
/-- a built-in method of a list: its receiver stands -/
def BmI (K : PySem.W.Frag) (T : String) (r : V → List V → Hp → VK → Prop) (t : TA) (σ : L2.St) (x : V) (H1 : Hp) (Q : VK) : Prop := tyV K T x H1 ∧ t σ H1 fun xs H2 => r x xs H2 Q
theorem w_bm {K : PySem.W.Frag} {T : String} {r : V → List V → Hp → VK → Prop} {to : TE} {t : TA} {σ : L2.St} {H : Hp} {Q : VK} (h : to σ H fun x H1 => BmI K T r t σ x H1 Q) : tBM K T r to t σ H Q := h
theorem r_bmL {K : PySem.W.Frag} {r : V → List V → Hp → VK → Prop} {t : TA} {σ : L2.St} {p : Addr} {xs : List V} {H : Hp} {Q : VK} (h : SqL K H p xs) (q : t σ H fun vs H2 => r (.ref p) vs H2 Q) : BmI K "list" r t σ (.ref p) H Q := ⟨.inl ⟨rfl, xs, h⟩, q⟩
section
variable {H : Hp} {Q : VK}
theorem r_shr {i j : Int} (h0 : 0 ≤ j) (h : Q (.int (i / 2 ^ j.toNat)) H) : rShr (.int i) (.int j) H Q := ⟨i, j, rfl, rfl, h0, h⟩
theorem r_shl {i j : Int} (hc : CShl i j) (h : Q (.int (i * 2 ^ j.toNat)) H) : rShl (.int i) (.int j) H Q := ⟨i, j, rfl, rfl, hc, h⟩
theorem r_pow {i j : Int} (hc : CPow i j) (h : Q (.int (i ^ j.toNat)) H) : rPow (.int i) (.int j) H Q := ⟨i, j, rfl, rfl, hc, h⟩
end
end M

/-! ### part J: a def whose last statement is super().__init__(..) -/
namespace M
open PySem PySem.Spec PyProof.Rows L2 Evl
namespace MS
open NdefX ClX
theorem execs_app (a b : List Stmt) (env : Env) : execs (a ++ b) env = (do match ← execs a env with | .next => execs b env | f => pure f) := by
  induction a with
  | nil => rw [List.nil_append, execs_nil, pure_bind]
  | cons st a ih =>
    rw [List.cons_append, execs_cons, execs_cons, bind_assoc]
    congr 1
    funext f
    cases f with
    | next => exact ih
    | _ => rw [pure_bind]
/-- what super().__init__ needs of the text: the class at D, its cell cc, the code object cda, the next __init__ at f2 -/
structure SupOf (P : Program) (K : PySem.W.Frag) (mg : Str → Option Value) (D cc cda f2 : Addr) : Prop where
  cell : ∃ cl cld csl, K.lookup cc = some ⟨cl, cld, .cell (some (.ref D)), csl⟩
  cls : ∃ cd, PySem.W.clsIn K D = some cd
  sub : PySem.W.mroIn K D (.ref D) = some true
  code : ∃ ccl cdd vs ccs file tf, K.lookup cda = some ⟨ccl, cdd, .fields vs, ccs⟩ ∧ vs[2]? = some (.str file tf) ∧ ((P.main.file : Str) == file) = true
  gl : mg "super" = none
  any : PySem.W.nsIn K cStatics "thirdparty.any" = some none
  nx : PySem.W.ks_superIn K D D "__init__" = some (some (.ref f2))
  ty : PySem.W.typeIn K (.ref f2) = some (.type "function")
  fi : PySem.W.fnIn K f2 = true
  top : (P.main.scope.names.lookup ("super" : Str)).isSome = false
section
variable {X : Cx} {pins : List (Addr × Obj)} {σ : L2.St} {H : Hp} {s : Shared} {D cc cda f f2 x dx : Addr} {fs : List (Str × V)} {sp2 : Sp} {k2 : Nat} {R : Hp → Prop}
theorem super_stmt {pl : Sem Bool} {ta : TE} {body : List Stmt} {p0 p1 p2 p3 p4 : Pos} {arg : Expr} {fd : FuncData} {of : Obj} {ar : Arg} (U : SupOf X.prog X.K X.mg D cc cda f2) (F2 : FnR X.prog X.w X.K X.mg X.base CX0 k2 f2 sp2) (hr : Room k2 X.A)
    (hks : X.env.kindOf "super" = some .globalImplicit) (hkc : X.env.kindOf "__class__" = some .free) (hfu : X.env.func = some f) (hf : X.K.lookup f = some of) (hfd : of.data = .func fd)
    (hp : (fd.params.posonlyargs ++ fd.params.args).head? = some ar) (har : X.env.scope.names.lookup ar.arg = some .local) (hN : X.N[0]? = some ar.arg) (hco : X.env.code = .ref cda) (hcl : X.env.cells.lookup ("__class__" : Str) = some cc)
    (ha : PE X arg ta) (I : Inv X pins σ H s) (hσ : σ[0]? = some (some (.ref x))) (hx : H x = some (.ins D dx fs))
    (h : ta σ H fun v H2 => sp2 [.ref x, v] H2 (fun _ H3 => R H3) E0)
    (he : starEach [arg] X.env = (false, eval arg X.env) :: starEach [] X.env := by rfl) (hpl : (backTo p3 (starEach ([] : List Expr) X.env)).any (·.1) = false := by rfl)
    (ht : eval (.Call (.Attribute (.Call (.Name "super" p0) [] [] p1) "__init__" p2) [arg] [] p3) X.env = (do
      let ov ← attributeBase (.Call (.Name "super" p0) [] [] p1) "__init__" X.env (eval (.Call (.Name "super" p0) [] [] p1) X.env)
      standAt p2.atName
      let (f, first) ← holding [ov] (getMethod ov "__init__" pl)
      callWith p3 f first (backTo p3 (starEach [arg] X.env)) []) := by rfl)
    (hi : interactive X.env = false := by rfl) (hs : swapsWith (.Call (.Attribute (.Call (.Name "super" p0) [] [] p1) "__init__" p2) [arg] [] p3) none p4.line X.env = pure false := by rfl) :
    PySem.wpAt (model X.prog X.w) X.A (.func body X.env) (exec (.Expr (.Call (.Attribute (.Call (.Name "super" p0) [] [] p1) "__init__" p2) [arg] [] p3) p4) X.env) (fun fl s' => fl = .next ∧ ∃ H', Inv X pins σ H' s' ∧ R H') X.xe s := by
  obtain ⟨cl, cld, csl, hcell⟩ := U.cell
  obtain ⟨cd, hD⟩ := U.cls
  obtain ⟨ccl, cdd, vs, ccs, file, tf, hcode, hvs, hfile⟩ := U.code
  have KX := I.kIn
  obtain ⟨oD, hD1, hD2⟩ : ∃ oD, s.heap.get? D = some oD ∧ oD.data = .cls cd := by
    have hD' := hD
    unfold PySem.W.clsIn at hD'
    split at hD'
    · rename_i c d cd' sl ho
      cases hD'
      exact ⟨_, KX _ _ ho, rfl⟩
    · cases hD'
  obtain ⟨mA, O, _⟩ := ins_get I.hok hx
  obtain ⟨od, J, _⟩ := O.look
  refine ks_wpAt_Expr_any ?_ hi hs
  refine ks_wpAt_MethodCall (pl := pl) ?_ ht
  refine ks_wpAt_super_base (env := X.env) hks hkc rfl hfu (KX _ _ hf) hfd hp hco (KX _ _ hcode) rfl hvs hfile U.top ?_
  obtain ⟨mb, h1, h2⟩ := I.mod.blt
  refine PySem.W.ks_loadName_global I.ok.kind hks (Calls.loadGlobal_builtin (by rw [I.ok.glob]; exact I.mod.glob.keeps I.bk) U.gl (by rw [I.ok.blt]; exact h1.keeps I.bk) ((h2 "super" (by decide)).trans (by decide +kernel)) ⟨rfl, ?_⟩)
  refine wpAny_loadName_free I.ok.kind hkc hcl ⟨_, KX _ _ hcell, rfl⟩ ?_
  obtain ⟨m, hn, hl⟩ := id I.loc
  obtain ⟨u, ru, lo⟩ := hl 0 ar.arg (.ref x) hN hσ (.inl har)
  cases (show u = Value.ref x from ru)
  have hm : m ar.arg = some (.ref x) := by
    rcases lo with ⟨_, hm⟩ | ⟨hk, _⟩
    · exact hm
    · rcases hk with hk | hk
      · have : X.env.scope.names.lookup ar.arg = some .cell := hk
        rw [har] at this; cases this
      · have : X.env.scope.names.lookup ar.arg = some .free := hk
        rw [har] at this; cases this
  refine wpAny_loadName_local I.ok.kind har hn hm ?_
  refine ks_wpAny_isType_cls hD1 hD2 ⟨rfl, ?_⟩
  obtain ⟨hh, g, d, t, os⟩ := s
  refine ks_wpAny_call_super hD1 hD2 J.at_ J.cls (fun c e => ?_) (PySem.W.looks_mroIn KX U.sub) (fun h' e k => ?_)
  · have := J.no
    unfold PySem.W.notCls at this
    rw [e] at this
    exact Bool.noConfusion this
  have I1 := pin_new (t' := t) I k (Nat.le_refl _) e (fun v z => by cases z)
  have KX1 := I1.kIn
  have hnx := U.nx
  unfold PySem.W.ks_superIn at hnx
  rw [hD] at hnx
  obtain ⟨of2, hof, hofc⟩ : ∃ of, h'.get? f2 = some of ∧ of.cls = .type "function" := by
    have ht' : (X.K.lookup f2).map (·.cls) = some (.type "function") := U.ty
    cases z : X.K.lookup f2 with
    | none => rw [z] at ht'; cases ht'
    | some of => rw [z] at ht'; exact ⟨of, KX1 _ _ z, Option.some.inj ht'⟩
  refine ks_wpAny_getMethod_super (l₀ := cd.mro) e (PySem.W.looks_opaque KX1 U.any) ?_ rfl KX1 hnx hof hofc (PySem.W.ks_ne KX J hD) (by decide) ?_
  · exact fun A Q E s k q => wpAny_bind ((PySem.W.looks_clsIn KX1 hD) A _ E s k (wpAny_pure q))
  have I2 := met_new (g := f2) (C := x) I1
  have h' : tCons ta tNil σ H (fun vs H2 => sp2 (.ref x :: vs) H2 (fun _ H3 => R H3) E0) := h
  refine callwith_cm I2 (base_none I1 (Nat.le_refl _)) U.fi (thn ((pa_cons ha pa_nil he).run p3 _ _ σ H _ I2 h') fun us s3 ⟨vs', H2, I3, rv, q2⟩ => ⟨⟨pin_at I3, I3.kIn⟩, ?_⟩) he hpl
  refine thn (run_cm F2 hr pass0 I3 rv q2) fun u s4 ⟨w, H3, I4, _, q3⟩ => ⟨rfl, H3, unpin I4, q3⟩
end
/-- a def whose last statement is super().__init__(arg) keeps its promise -/
theorem fnsup {P : Program} {w : World} {K : PySem.W.Frag} {mg : Str → Option Value} {base : Heap} {name qual self : Str} {params : Arguments} {body pre : List Stmt} {scope : Scope} {f cc cda D f2 : Addr} {fd : FuncData} {N ps : List Str} {k k2 : Nat} {sp sp2 : Sp} {arg : Expr} {p0 p1 p2 p3 p4 : Pos} {ar : Arg}
    (F : FunS K name qual params body scope f fd cc cda) (U : SupOf P K mg D cc cda f2) (F2 : FnR P w K mg base CX0 k2 f2 sp2) (hk : k2 ≤ k)
    (hbody : body = pre ++ [.Expr (.Call (.Attribute (.Call (.Name "super" p0) [] [] p1) "__init__" p2) [arg] [] p3) p4])
    (S : NScope N (self :: ps) ["__class__"] scope) (hks : scope.names.lookup ("super" : Str) = some .globalImplicit)
    (hp : (params.posonlyargs ++ params.args).head? = some ar) (hs : ar.arg = self) (hN : N[0]? = some self)
    (len : ∀ vs H Q E, sp vs H Q E → vs.length = (self :: ps).length)
    (hgo : ∀ (A : Around) (outer : List Env) (s : Shared) (H : Hp) (vs : List V) (Q : VK) (E : XK), Room k (A.deeper (envF ⟨name, qual, params, body, scope, [("__class__", cc)], cda⟩ f s.heap.objs.size)) → sp vs H Q E →
      ∃ t ta, PSs (ncx CX0 P w K mg base N ⟨name, qual, params, body, scope, [("__class__", cc)], cda⟩ f A outer s H E).nox pre t ∧ PE (ncx CX0 P w K mg base N ⟨name, qual, params, body, scope, [("__class__", cc)], cda⟩ f A outer s H E).nox arg ta ∧
        t { nx := fun σ H' => ∃ x dx fs, σ[0]? = some (some (.ref x)) ∧ H' x = some (.ins D dx fs) ∧ ta σ H' fun v H2 => sp2 [.ref x, v] H2 (fun _ H3 => Q .non H3) E0, rt := fun _ _ => False } (startF N vs [some (.ref D)]) H)
    (hst : ∀ (X : Cx), starEach [arg] X.env = (false, eval arg X.env) :: starEach [] X.env := by intro _; rfl) (hpl : ∀ (X : Cx), (backTo p3 (starEach ([] : List Expr) X.env)).any (·.1) = false := by intro _; rfl)
    {pl : Cx → Sem Bool}
    (ht : ∀ (X : Cx), eval (.Call (.Attribute (.Call (.Name "super" p0) [] [] p1) "__init__" p2) [arg] [] p3) X.env = (do
      let ov ← attributeBase (.Call (.Name "super" p0) [] [] p1) "__init__" X.env (eval (.Call (.Name "super" p0) [] [] p1) X.env)
      standAt p2.atName
      let (f, first) ← holding [ov] (getMethod ov "__init__" (pl X))
      callWith p3 f first (backTo p3 (starEach [arg] X.env)) []) := by intro _; rfl)
    (hsw : ∀ (X : Cx), swapsWith (.Call (.Attribute (.Call (.Name "super" p0) [] [] p1) "__init__" p2) [arg] [] p3) none p4.line X.env = pure false := by intro _; rfl) :
    FnOk P w K mg base CX0 (k + 1) f fd (self :: ps) sp := by
  obtain ⟨oc, od, dV, kV, doc, pm, an, ct, osl, rfl, lk, hcd, _⟩ := F.ex
  refine ⟨len, fun A outer s H args us vs Q E hr e0 hb r hsp => ?_⟩
  have KX : K.In s.heap := e0.mod.kin.keeps fun b o e => (e0.bs b o e).1
  have hl := len _ _ _ _ hsp
  have lim : s.heap.NoLimit := e0.mod.nolimit.keeps fun b o e => (e0.bs b o e).1
  obtain ⟨cl, cld, csl, hcell⟩ := U.cell
  refine codeAny_call_function hr.depth (KX _ _ lk) rfl S.co S.gen rfl (PySem.W.codeRec_of KX hcd) (hb _ _ _ _ ?_)
  refine wpAny_newFunctionEnv S.nocell (fun ⟨n, _⟩ hy => S.par n (List.of_mem_zip hy).1) (fun h₁ hns hsb => ⟨lim.fresh _ hsb, ?_⟩) S.kind
  show codeAny _ _ (.func body (envF ⟨name, qual, params, body, scope, [("__class__", cc)], cda⟩ f s.heap.objs.size)) _ _
  refine ks_codeAny_funcAt ?_
  have kp : ∀ b o, s.heap.get? b = some o → h₁.get? b = some o := fun b o e => hsb.extBut b o (Nat.ne_of_lt (Heap.lt_size e)) (Heap.get?_push_of_some _ e)
  have hcc : H cc = none := (e0.bs _ _ (e0.mod.kin _ _ hcell)).2
  have look1 : ∀ y c, List.lookup y [(("__class__" : Str), cc)] = some c → y = "__class__" ∧ c = cc := fun y c e => by
    unfold List.lookup at e
    split at e
    · rename_i q
      cases e
      exact ⟨beq_iff_eq.mp q, rfl⟩
    · cases e
  have C : CellsAt [(("__class__" : Str), cc)] ["__class__"] [some (.ref D)] s.heap H := by
    refine ⟨rfl, fun y c e => ?_, fun x y c e e' => ?_, fun i y e => ?_⟩
    · obtain ⟨_, rfl⟩ := look1 y c e
      exact ⟨hcc, _, ⟨_, KX _ _ hcell, rfl⟩⟩
    · exact (look1 _ _ e).1.trans (look1 _ _ e').1.symm
    · rcases i with _ | i
      · cases e
        refine ⟨cc, by unfold List.lookup; rw [beq_self_eq_true], fun v e => ?_⟩
        cases e
        exact ⟨.ref D, rfl, ⟨_, KX _ _ hcell, rfl⟩⟩
      · cases e
  have hroom := hr.deeper (envF ⟨name, qual, params, body, scope, [("__class__", cc)], cda⟩ f s.heap.objs.size)
  obtain ⟨t, ta, h1, h2, h3⟩ := hgo A outer s H vs Q E hroom hsp
  have I : Inv (ncx CX0 P w K mg base N ⟨name, qual, params, body, scope, [("__class__", cc)], cda⟩ f A outer s H E) [] (startF N vs [some (.ref D)]) H { s with heap := h₁, toks := s.toks + ((self :: ps).zip us).length } := inv_startN S hr.hd e0 hl r C hns kp
  have ebody : execs body (envF ⟨name, qual, params, body, scope, [("__class__", cc)], cda⟩ f s.heap.objs.size) = execs (pre ++ [.Expr (.Call (.Attribute (.Call (.Name "super" p0) [] [] p1) "__init__" p2) [arg] [] p3) p4]) (envF ⟨name, qual, params, body, scope, [("__class__", cc)], cda⟩ f s.heap.objs.size) := congrArg (fun b => execs b _) hbody
  rw [ebody, execs_app]
  refine _root_.PySem.wpAt_bind (_root_.PySem.wpAt_of_wpAny (wpAny_mono (h1.nox.run [] _ _ H _ I h3) (fun fl s' hs' => ?_) fun e s' he => he))
  have fin : ∀ {σ' : L2.St} {H' : Hp} {v : V} {u : Value} {s' : Shared}, Inv (ncx CX0 P w K mg base N ⟨name, qual, params, body, scope, [("__class__", cc)], cda⟩ f A outer s H E) [] σ' H' s' → L2.RelV v u → Q v H' → CE outer P w H s Q u s' :=
    fun {σ' H' v u s'} J rv q => ⟨v, H', J.os, J.bare, J.base, J.hok, rv, q⟩
  cases fl with
  | ret u =>
    obtain ⟨_, _, _, _, _, q⟩ := hs'
    exact q.elim
  | next =>
    obtain ⟨σ', H', J, x, dx, fs, hσ, hx, hta⟩ := hs'
    refine ks_wpAt_execs_cons (ks_wpAt_mono (super_stmt (X := ncx CX0 P w K mg base N ⟨name, qual, params, body, scope, [("__class__", cc)], cda⟩ f A outer s H E) (f := f) (cda := cda) (cc := cc) (D := D) (R := fun H3 => Q .non H3) U F2 (hroom.mono hk) hks (S.frk _ List.mem_cons_self) rfl lk rfl hp (by rw [hs]; exact S.par _ List.mem_cons_self) (by rw [hs]; exact hN) rfl (by show List.lookup ("__class__" : Str) [(("__class__" : Str), cc)] = some cc; unfold List.lookup; rw [beq_self_eq_true]) h2.nox J hσ hx hta (hst _) (hpl _) (ht _) (by show interactive (envF ⟨name, qual, params, body, scope, [("__class__", cc)], cda⟩ f s.heap.objs.size) = false; unfold interactive; rw [show (envF ⟨name, qual, params, body, scope, [("__class__", cc)], cda⟩ f s.heap.objs.size).scope.kind = .function from S.kind]; first | rfl | decide) (hsw _)) (fun fl2 s2 h4 => ?_) fun e s2 h4 => h4)
    obtain ⟨rfl, H3, J3, q3⟩ := h4
    exact _root_.PySem.wpAt_of_wpAny (wpAny_pure (fin (v := .non) (u := Value.none) J3 rfl q3))
  | brk =>
    obtain ⟨_, _, _, q⟩ := hs'
    exact q.elim
  | cont =>
    obtain ⟨_, _, _, q⟩ := hs'
    exact q.elim
end MS
open MS
/-- what the text must have for super().__init__, told by a Bool -/
def cellB (K : PySem.W.Frag) (c D : Addr) : Bool := match K.lookup c with
  | some ⟨_, _, .cell (some (.ref d)), _⟩ => d == D
  | _ => false
theorem cellB_ok {K : PySem.W.Frag} {c D : Addr} (h : cellB K c D = true) : ∃ cl cld csl, K.lookup c = some ⟨cl, cld, .cell (some (.ref D)), csl⟩ := by
  unfold cellB at h
  split at h
  · rename_i e
    rw [beq_iff_eq.mp h] at e
    exact ⟨_, _, _, e⟩
  · cases h
def codeB (mf : Str) (K : PySem.W.Frag) (c : Addr) : Bool := match K.lookup c with
  | some ⟨_, _, .fields vs, _⟩ => (match (vs[2]? : Option Value) with
    | some (Value.str f _) => mf == f
    | _ => false)
  | _ => false
theorem codeB_ok {mf : Str} {K : PySem.W.Frag} {c : Addr} (h : codeB mf K c = true) : ∃ ccl cdd vs ccs file tf, K.lookup c = some ⟨ccl, cdd, .fields vs, ccs⟩ ∧ vs[2]? = some (.str file tf) ∧ (mf == file) = true := by
  unfold codeB at h
  split at h
  · rename_i e
    split at h
    · rename_i e2
      exact ⟨_, _, _, _, _, _, e, e2, h⟩
    · cases h
  · cases h
def someNone (o : Option (Option Value)) : Bool := match o with
  | some none => true
  | _ => false
theorem someNone_ok {o : Option (Option Value)} (h : someNone o = true) : o = some none := by
  unfold someNone at h
  split at h
  · rfl
  · cases h
def supB0 (mf : Str) (K : PySem.W.Frag) (D f f2 : Addr) : Bool := cellB K (cellOf K f) D && ((PySem.W.clsIn K D).isSome && (decide (PySem.W.mroIn K D (.ref D) = some true) && (codeB mf K (codeOf K f) && (someNone (PySem.W.nsIn K cStatics "thirdparty.any") &&
  (He.eqO (PySem.W.ks_superIn K D D "__init__") (some (some (.ref f2))) && (decide (PySem.W.typeIn K (.ref f2) = some (.type "function")) && PySem.W.fnIn K f2))))))
theorem supB0_ok {P : Program} {K : PySem.W.Frag} {mg : Str → Option Value} {D f f2 : Addr} (mf : Str) (pf : ((P.main.file : Str) == mf) = true) (top : (P.main.scope.names.lookup ("super" : Str)).isSome = false) (gl : mg "super" = none) (h : supB0 mf K D f f2 = true) : SupOf P K mg D (cellOf K f) (codeOf K f) f2 := by
  unfold supB0 at h
  simp only [Bool.and_eq_true] at h
  obtain ⟨h1, h2, h3, h4, h5, h6, h7, h8⟩ := h
  refine ⟨cellB_ok h1, Option.isSome_iff_exists.mp h2, of_decide_eq_true h3, ?_, gl, someNone_ok h5, He.eqO_ok h6, of_decide_eq_true h7, h8, top⟩
  rw [beq_iff_eq.mp pf]
  exact codeB_ok h4
theorem FunS.bindsN {K : PySem.W.Frag} {x qual : Str} {params : Arguments} {body : List Stmt} {scope : Scope} {f cc cda : Addr} {fd : FuncData} {ps : List Str} (F : FunS K x qual params body scope f fd cc cda)
    (h : ∀ (kV doc pm : Value) (an : Option Addr) (cdv ct : Value) (us : List Value), us.length = ps.length → bindArgs (PySem.W.ksFn x qual params body scope .none kV doc pm an cdv ct cc) ⟨us, []⟩ = pure (ps.zip us)) : Binds K fd ps [] := by
  obtain ⟨oc, od, dV, kV, doc, pm, an, ct, osl, rfl, lk, hcd, hD⟩ := F.ex
  rcases hD with ⟨_, rfl⟩ | ⟨e, _⟩
  · exact .all (h kV doc pm an (.ref cda) ct)
  · exact absurd rfl e
end M

/-! ### part K: the greatest of three ints, the least of a list, truth of an instance -/
namespace M
open PySem PySem.Spec PyProof.Rows L2 Evl
section
variable {X : Cx} {H : Hp} {Q : VK}
def rMax3U : List V → Hp → VK → Prop := fun xs H Q => ∃ i j k, xs = [.int i, .int j, .int k] ∧ Q (.int (max (max i j) k)) H
theorem xMax3 (hc : X.calm = true) : CallR X (.builtin "max") rMax3U := by
  intro pins s σ H xs us Q I r h
  obtain ⟨i, j, k, rfl, q⟩ := h
  have m2 : ∀ a b : Int, nuMax2 (.int a) (.int b) = some (.int (max a b)) := fun a b => by
    show Option.map _ (some (decide (a < b))) = _
    by_cases c : a < b
    · rw [decide_eq_true c, Int.max_eq_right (by omega)]; rfl
    · rw [decide_eq_false c, Int.max_eq_left (by omega)]; rfl
  exact call_max3Nu hc pins s σ H _ us Q I r ⟨_, _, _, _, rfl, by unfold nuMax3; rw [m2]; exact m2 _ _, q⟩
theorem r_max3 {i j k : Int} (q : Q (.int (max (max i j) k)) H) : rMax3U [.int i, .int j, .int k] H Q := ⟨i, j, k, rfl, q⟩
theorem kMinL (K : PySem.W.Frag) (hc : X.calm = true) (h : X.K = K := by rfl) : CallR X (.builtin "min") (rMin K) := by subst h; exact cr_min hc
theorem kMaxL (K : PySem.W.Frag) (hc : X.calm = true) (h : X.K = K := by rfl) : CallR X (.builtin "max") (rMax K) := by subst h; exact cr_max hc
theorem r_minL {K : PySem.W.Frag} {a : Addr} {ns : List Int} (h : SqL K H a (vI ns)) (hn : 0 < ns.length) (q : ∀ m, m ∈ ns → (∀ y, y ∈ ns → m ≤ y) → Q (.int m) H) : rMin K [.ref a] H Q := ⟨a, ns, rfl, h, hn, q⟩
theorem r_maxL {K : PySem.W.Frag} {a : Addr} {ns : List Int} (h : SqL K H a (vI ns)) (hn : 0 < ns.length) (q : ∀ m, m ∈ ns → (∀ y, y ∈ ns → y ≤ m) → Q (.int m) H) : rMax K [.ref a] H Q := ⟨a, ns, rfl, h, hn, q⟩
end
end M

/-! ### part L: static methods of a class -/
namespace M
open PySem PySem.Spec PyProof.Rows L2 Evl
def smF (x m : Str) (K : PySem.W.Frag) : Addr := match PySem.W.recIn K (He.ma K (He.ga K x) m) "staticmethod" with
  | some (.ref f :: _) => f
  | _ => 0
structure SMet (K : PySem.W.Frag) (C : Addr) (m : Str) (p g : Addr) : Prop where
  rd : ClX.CRead K C (.type "type")
  at_ : PySem.W.findCls K (.ref C) (.type "type") m = some (.get (.builtin "staticmethod.__get__") (.ref p) .none (.ref C))
  rc : ∃ rest, PySem.W.recIn K p "staticmethod" = some (.ref g :: rest)
  kp : PySem.W.keepIn K (.ref g) = true
def smB (x m : Str) (K : PySem.W.Frag) : Bool := (match PySem.W.findCls K (.ref (He.ga K x)) (.type "type") m with
    | some (.get (.builtin g) (.ref p) .none (.ref D)) => decide (g = "staticmethod.__get__") && (decide (p = He.ma K (He.ga K x) m) && decide (D = He.ga K x))
    | _ => false) && ((match PySem.W.recIn K (He.ma K (He.ga K x) m) "staticmethod" with
    | some (.ref _ :: _) => true
    | _ => false) && (PySem.W.keepIn K (.ref (smF x m K)) && (PySem.W.readsIn K (He.ga K x) (.type "type") && He.eqO (PySem.W.specialIn K (.ref (He.ga K x)) "__getattribute__") (some (some (.builtin "type.__getattribute__"))))))
theorem smB_ok {x m : Str} {K : PySem.W.Frag} (h : smB x m K = true) : SMet K (He.ga K x) m (He.ma K (He.ga K x) m) (smF x m K) := by
  obtain ⟨h1, h⟩ := Bool.and_eq_true_iff.mp h
  obtain ⟨h2, h⟩ := Bool.and_eq_true_iff.mp h
  obtain ⟨h3, h⟩ := Bool.and_eq_true_iff.mp h
  obtain ⟨h4, h5⟩ := Bool.and_eq_true_iff.mp h
  refine ⟨⟨h4, He.eqO_ok h5⟩, ?_, ?_, h3⟩
  · clear h2 h3
    split at h1
    · rename_i g p D e
      obtain ⟨k1, k⟩ := Bool.and_eq_true_iff.mp h1
      obtain ⟨k2, k3⟩ := Bool.and_eq_true_iff.mp k
      rw [e, of_decide_eq_true k1, of_decide_eq_true k2, of_decide_eq_true k3]
    · cases h1
  · unfold smF
    split at h2
    · rename_i f r e
      exact ⟨r, by rw [e]⟩
    · cases h2
/-- C.m(..), m a staticmethod of the class at C -/
def tSMeth (C : Addr) (sp : Sp) (E : XK) (ta : TE) (t : TA) : TE := fun σ H Q => ta σ H fun x H1 => x = .ref C ∧ t σ H1 fun vs H2 => sp vs H2 Q E
theorem w_smeth {C : Addr} {sp : Sp} {E : XK} {t : TA} {σ : L2.St} {H : Hp} {Q : VK} (h : t σ H fun vs H2 => sp vs H2 Q E) : tSMeth C sp E (tC (.ref C)) t σ H Q := ⟨rfl, h⟩
structure Stm (P : Program) (w : World) (K : PySem.W.Frag) (mg : Str → Option Value) (base : Heap) (k : Nat) (C : Addr) (m : Str) (sp : Sp) : Prop where
  ex : ∃ (p g : Addr) (fd : FuncData) (ps : List Str), SMet K C m p g ∧ FnOk P w K mg base CX0 k g fd ps sp ∧ Binds K fd ps []
section
variable {X : Cx} {CX : CXT} {k j : Nat} {C p g : Addr} {sp : Sp} {E : XK} {o e : Expr} {es : List Expr} {m : Str} {pos apos : Pos} {ta : TE} {t : TA} {pl : Sem Bool}
theorem pe_smeth (he : PE X o ta) (c : SMet X.K C m p g) (F : FnR X.prog X.w X.K X.mg X.base CX k g sp) (hr : Room k X.A) (hx : Passes CX X E) (ha : PA X (e :: es) t)
    (hst : starEach (e :: es) X.env = (false, eval e X.env) :: starEach es X.env := by rfl) (hpl : (backTo pos (starEach es X.env)).any (·.1) = false := by rfl)
    (ht : eval (.Call (.Attribute o m apos) (e :: es) [] pos) X.env = (do
      let ov ← eval o X.env
      standAt apos.atName
      let (f, first) ← holding [ov] (getMethod ov m pl)
      callWith pos f first (backTo pos (starEach (e :: es) X.env)) (backToKw pos (keywordEach [] X.env))) := by rfl) :
    PE X (.Call (.Attribute o m apos) (e :: es) [] pos) (tSMeth C sp E ta t) := by
  refine ⟨fun pins s σ H Q I h => ?_⟩
  refine PySem.W.methodCall_KW (pl := pl) (thn (he.run pins s σ H _ I h) fun u s1 ⟨x, H1, I1, rx, ex, q⟩ => ?_) ht
  subst ex
  obtain rfl : u = Value.ref C := rx
  obtain ⟨rest, hp⟩ := c.rc
  refine PySem.W.method_cls I1.kIn c.rd.ga (PySem.W.cls_bind I1.kIn c.rd.rd c.at_ ?_)
  refine wpAny_call (PySem.W.sm_get (s := { s1 with toks := s1.toks + 1 }) I1.kIn hp (PySem.W.handed_on rfl ?_))
  have I2 := I1.tok (s1.toks + 1)
  refine PySem.W.callWith_K (h₀ := X.base) I.ok.mod.kin c.kp (thn (ha.run pos pins _ σ H1 _ I2 q) fun us s3 ⟨vs, H2, I3, rv, q2⟩ => ⟨I3.kIn, ?_⟩) hst hpl
  exact wpAny_call (run_fnR F hr hx I3 rv q2)
theorem psm (c : Stm X.prog X.w X.K X.mg X.base k C m sp) (hr : Room j X.A) (hk : k ≤ j) (he : PE X o ta) (ha : PA X (e :: es) t)
    (hst : starEach (e :: es) X.env = (false, eval e X.env) :: starEach es X.env := by rfl) (hpl : (backTo pos (starEach es X.env)).any (·.1) = false := by rfl)
    (ht : eval (.Call (.Attribute o m apos) (e :: es) [] pos) X.env = (do
      let ov ← eval o X.env
      standAt apos.atName
      let (f, first) ← holding [ov] (getMethod ov m pl)
      callWith pos f first (backTo pos (starEach (e :: es) X.env)) (backToKw pos (keywordEach [] X.env))) := by rfl) :
    PE X (.Call (.Attribute o m apos) (e :: es) [] pos) (tSMeth C sp E0 ta t) := by
  obtain ⟨p, g, fd, ps, sm, F, hb⟩ := c.ex
  exact pe_smeth (pl := pl) he sm ((F.raw hb .nil).imp fun vs H Q E h => by rw [List.append_nil]; exact h) (hr.mono hk) pass0 ha hst hpl ht
end
end M

namespace M
open PySem PySem.Spec PyProof.Rows L2 Evl MS
--@import HandS.Text
--@import HandS.Iter
--@import HandS.Walk
/-! texts: comparing, joining, splitting, reading and writing numbers, walking the signs -/
def rLeU : R2 := fun x y H Q => rI0 (fun i j => .bl (decide (i ≤ j))) x y H Q ∨ ∃ i j, x = .str i ∧ y = .str j ∧ Q (.bl (!decide (j.cps.toList < i.cps.toList))) H
theorem xLeS {X : Cx} : OpR X (compareOp .LtE) rLeU := op_le.or op_le_str
def rJoin (K : PySem.W.Frag) : V → List V → Hp → VK → Prop := fun x xs H Q => ∃ a p, ∃ ys : List Str, x = .str a ∧ xs = [.ref p] ∧ (SqL K H p (ys.map V.str) ∨ SqT K H p (ys.map V.str)) ∧ (ys.map (·.length)).sum + ys.length * a.length ≤ 16777216 ∧ Q (.str (Txt.join a ys)) H
def rSplit : V → List V → Hp → VK → Prop := fun x xs H Q => ∃ a b, x = .str a ∧ xs = [.str b] ∧ (b.length == 0) = false ∧ a.length + 2 ≤ sizeLine ∧ rNewStrs (Txt.split a b) H Q
section
variable {X : Cx} {o e : Expr} {to te : TE} {apos pos : Pos}
theorem kJoin (K : PySem.W.Frag) (ho : PE X o to) (he : PE X e te) (hs : starEach [e] X.env = [(false, eval e X.env)] := by rfl) (hbase : attributeBase o "join" X.env (eval o X.env) = eval o X.env := by rfl) (hline : (apos.endLine == pos.line) = true := by rfl) (h : X.K = K := by rfl) :
    PE X (.Call (.Attribute o "join" apos) [e] [] pos) (tM1 (rJoin K) to te) := by subst h; exact pe_join ho he hs hbase hline
theorem xSplit (ho : PE X o to) (he : PE X e te) (hs : starEach [e] X.env = [(false, eval e X.env)] := by rfl) (hbase : attributeBase o "split" X.env (eval o X.env) = eval o X.env := by rfl) (hline : (apos.endLine == pos.line) = true := by rfl) :
    PE X (.Call (.Attribute o "split" apos) [e] [] pos) (tM1 rSplit to te) := pe_split ho he hs hbase hline
end
def rIntS : List V → Hp → VK → Prop := fun xs H Q => ∃ a n, xs = [.str a] ∧ PySem.intText? a = some n ∧ a.length ≤ 640 ∧ Q (.int n) H
theorem xIntS {X : Cx} : CallR X (.type "int") rIntS := call_int_str
def rStrI : List V → Hp → VK → Prop := fun xs H Q => ∃ i, xs = [.int i] ∧ i.natAbs.log2 < 1920 ∧ Q (.str (toString i)) H
theorem xStrI {X : Cx} : CallR X (.type "str") rStrI := call_str_int
def rLenS : List V → Hp → VK → Prop := fun xs H Q => ∃ z, xs = [.str z] ∧ z.length ≤ sizeLine ∧ Q (.int z.length) H
theorem xLenS {X : Cx} : CallR X (.builtin "len") rLenS := call_len_str
theorem kFldAug (K : PySem.W.Frag) {X : Cx} {o value : Expr} {f : Str} {op : Operator} {pos tpos : Pos} {ta tv : TE} {rd : V → V → Hp → VK → Prop} (ha : PE X o ta) (hv : PE X value tv) (hop : InOp X op rd) (h : X.K = K := by rfl) : PS X (.AugAssign (.Attribute o f tpos) op value pos) (sFldAug K ta tv rd f) := by
  subst h
  exact ps_fldaug ha hv hop
section
variable {K : PySem.W.Frag} {H : Hp} {Q : VK} {σ : L2.St}
theorem r_leUI {i j : Int} (h : Q (.bl (decide (i ≤ j))) H) : rLeU (.int i) (.int j) H Q := .inl ⟨i, j, rfl, rfl, h⟩
theorem r_leUS {i j : Str} (h : Q (.bl (!decide (j.cps.toList < i.cps.toList))) H) : rLeU (.str i) (.str j) H Q := .inr ⟨i, j, rfl, rfl, h⟩
theorem w_m1 {r : V → List V → Hp → VK → Prop} {to te : TE} (h : to σ H fun x H1 => (∃ a, x = .str a) ∧ te σ H1 fun y H2 => r x [y] H2 Q) : tM1 r to te σ H Q := h
theorem r_joinL {a : Str} {p : Addr} {ys : List Str} (h : SqL K H p (ys.map V.str)) (hz : (ys.map (·.length)).sum + ys.length * a.length ≤ 16777216) (q : Q (.str (Txt.join a ys)) H) : rJoin K (.str a) [.ref p] H Q := ⟨a, p, ys, rfl, rfl, .inl h, hz, q⟩
theorem r_split {a b : Str} (hb : (b.length == 0) = false) (hz : a.length + 2 ≤ sizeLine) (q : ∀ p H1, H p = none → Ex H H1 → H1 p = some (.lst ((Txt.split a b).map V.str)) → Q (.ref p) H1) : rSplit (.str a) [.str b] H Q :=
  ⟨a, b, rfl, rfl, hb, hz, fun p hp => q p _ hp (Ex.new hp) upd_same⟩
theorem r_strI {i : Int} (hz : i.natAbs.log2 < 1920) (q : Q (.str (toString i)) H) : rStrI [.int i] H Q := ⟨i, rfl, hz, q⟩
theorem r_intS {a : Str} {n : Int} (hn : PySem.intText? a = some n) (hz : a.length ≤ 640) (q : Q (.int n) H) : rIntS [.str a] H Q := ⟨a, n, rfl, hn, hz, q⟩
theorem r_lenS {a : Str} (hz : a.length ≤ sizeLine) (q : Q (.int a.length) H) : rLenS [.str a] H Q := ⟨a, rfl, hz, q⟩
theorem r_ixS {z : Str} {i : Int} {c : Nat} (hz : z.length ≤ sizeLine) (ha : atI z.cps.toList i = some c) (q : Q (.str ⟨#[c]⟩) H) : rIx K (.str z) (.int i) H Q := .inr (.inr ⟨z, i, c, rfl, rfl, hz, ha, q⟩)
theorem w_fldAug {a C dx dx' : Addr} {fs fs' : List (Str × V)} {ta tv : TE} {rd : V → V → Hp → VK → Prop} {f : Str} {D : Ends}
    (h : ta σ H fun x H1 => ∃ a C dx fs v, x = .ref a ∧ H1 a = some (.ins C dx fs) ∧ Cls K C ∧ NoAttr K C f ∧ fs.lookup f = some v ∧ tv σ H1 fun y H2 => rd v y H2 fun z H3 => ∃ dx' fs', H3 a = some (.ins C dx' fs') ∧ fs'.length < 1000 ∧ D.nx σ (upd H3 a (.ins C dx' (putF f z fs')))) : sFldAug K ta tv rd f D σ H := h
theorem i_str {te : TE} {R : It → Hp → Prop} (h : te σ H fun v H1 => ∃ x, v = .str x ∧ R (Its x) H1) : iStr te σ H R := h
/-- a comprehension over a text's signs -/
theorem lcJ_str {z : Str} {j : Nat} {te : TE} {vs : List Nat} (v : Nat → V) (hn : z.cps.size ≤ 100000) (σ' : V → L2.St) (hσ : ∀ x, (wipe σ vs).set j (some x) = σ' x) (hw : ∀ x, wipe ((wipe σ vs).set j (some x)) vs = wipe σ vs)
    (he : ∀ (c : Nat) (H1 : Hp) (Q' : VK), Ex H H1 → c ∈ z.cps.toList → (∀ H2, Ex H1 H2 → Q' (v c) H2) → te (σ' (.str ⟨#[c]⟩)) H1 Q')
    (hq : ∀ p H2, H p = none → Ex H H2 → H2 p = some (.lst (z.cps.toList.map v)) → Q (.ref p) H2) : LcJ (Its z) (gName j) tYes te vs σ H Q := fun D hD => by
  have hsz : z.cps.toList.length = z.cps.size := Array.length_toList
  have key := lc_it (J := Its z) (n := z.cps.size) (G := fun _ => True) (Y := fun i H x H' => H' = H ∧ ∃ c, z.cps[i]? = some c ∧ x = .str ⟨#[c]⟩) ⟨fun _ _ hi _ => hi, fun _ _ => Nat.le_refl _, fun _ _ _ _ _ _ y => y⟩
    (g := gName j) (tt := tYes) (te := te) (vs := vs) (σ := σ) (H1 := H) (D := D) (Qd := Q (.ref D)) (fun i H' => Ex H H' ∧ H' D = some (.lst ((z.cps.toList.take i).map v))) ⟨Ex.new hD, upd_same⟩ (fun _ _ _ _ => trivial) ?_ (fun H' p => hq D H' hD p.1 (by
      have e := p.2
      rwa [← hsz, List.take_length] at e))
  · exact key
  · rintro i x H' H'' hi p ⟨rfl, c, hc, rfl⟩
    refine ⟨hw _, ?_⟩
    show te ((wipe σ vs).set j _) H'' _
    rw [hσ]
    have hcl : z.cps.toList[i]? = some c := by rw [Array.getElem?_toList]; exact hc
    refine he c H'' _ p.1 (List.mem_of_getElem? hcl) fun H2 e2 => ⟨(z.cps.toList.take i).map v, e2 D _ p.2, sz_lt (by rw [List.length_map, List.length_take]; omega), Ex.mut (p.1.trans e2) hD, ?_⟩
    rw [List.take_add_one, hcl, List.map_append]
    exact upd_same
end

end M
namespace M
open PySem PySem.Spec PyProof.Rows L2 Evl MS
--@import HandS.Deep
--@import KE.DataFind
/-! t.count(x) of a tuple; x in t of a tuple, by data -/
def rCountT (K : PySem.W.Frag) : V → List V → Hp → VK → Prop := fun x xs H Q => ∃ (a : Addr) (y : V) (d : PyData) (ds : List PyData), x = V.ref a ∧ xs = [y] ∧ Dp K H (V.ref a) (.tuple ds) ∧ Dp K H y d ∧ SeqAt.shaped (.tuple ds) = true ∧ SeqAt.shaped d = true ∧ Q (.int ((ds.countP fun z => PyData.eqv z d : Nat) : Int)) H
theorem mt_countT {X : Cx} (hu : X.A.units + 65 < cLine) : MtR X "tuple.count" (rCountT X.K) := by
  intro pins s σ H x xs v us Q I rx rxs h
  obtain ⟨a, y, d, ds, rfl, rfl, hl, hy, sl, sd, q⟩ := h
  cases rx
  cases rxs with
  | cons ry rt =>
    rename_i uy ut
    cases rt
    obtain ⟨bs, r1⟩ := Dp.reads I d y uy hy ry
    have hxs : PyData.canLayAll0 ds = true := SeqAt.canLay_of_shaped sl
    have hroom : X.A.units + 1 + min (PyData.depthAll ds) d.depth < cLine := by
      have := SeqAt.depth_of_shaped sd
      omega
    cases hl with
    | tup hs ha =>
      obtain ⟨its, rv, p, hlen⟩ := I.tuple hs
      obtain ⟨as, h4⟩ := Dp.readsAll I ds _ its ha rv
      exact SeqAt.count_tuple_data p (show ReadsAll s.heap its.toArray.toList ds as from h4) r1 (PyData.plainAll_of_canLay0 ds hxs) (PyData.plain_of_canLay0 d (SeqAt.canLay_of_shaped sd)) hroom ⟨.int _, H, I.tok _, ⟨_, rfl⟩, q⟩
theorem kCountT (K : PySem.W.Frag) {X : Cx} {j : Nat} (hr : Room j X.A) (h : X.K = K := by rfl) : MtR X "tuple.count" (rCountT K) := by subst h; exact mt_countT (by have := hr.un; omega)
def rInT (K : PySem.W.Frag) : R2 := fun x y H Q => ∃ d ds, Dp K H x d ∧ Dp K H y (.tuple ds) ∧ SeqAt.shaped d = true ∧ SeqAt.shaped (.tuple ds) = true ∧ Q (.bl (ds.any fun z => PyData.eqv z d)) H
theorem op_inT {X : Cx} (hu : X.A.units + 65 < cLine) : OpR X (compareOp .In) (rInT X.K) := by
  intro pins s σ H x y v u Q I rx ry h
  obtain ⟨d, ds, hd, he, sd, se, q⟩ := h
  obtain ⟨as, r1⟩ := Dp.reads I d x v hd rx
  obtain ⟨bs, r2⟩ := Dp.reads I (.tuple ds) y u he ry
  exact SeqAt.in_tuple_reads r2 r1 (SeqAt.canLay_of_shaped se) (SeqAt.canLay_of_shaped sd) (room_in_shaped sd hu) ⟨.bl _, H, I, rfl, q⟩
theorem kInT (K : PySem.W.Frag) {X : Cx} {j : Nat} (hr : Room j X.A) (h : X.K = K := by rfl) : OpR X (compareOp .In) (rInT K) := by subst h; exact op_inT (by have := hr.un; omega)

end M
namespace M
open PySem PySem.Spec PyProof.Rows L2 Evl MS
--@import HandS.ExcOwn
/-! an instance made inside try, where what its __init__ raises is wished for at the caller's slots -/
section
variable {X : Cx} {CX : CXT} {k j : Nat} {f C : Addr} {fd : FuncData} {ps : List Str} {sp : Sp} {E : L2.St → XK} {W : WX} {x : Str} {ds : List Value} {dvs : List V} {p pos : Pos} {e : Expr} {es : List Expr} {t : TA}
theorem run_makeS {pins : List (Addr × Obj)} {σ : L2.St} {H : Hp} {s : Shared} {Q : VK} {us : List Value} {vs : List V} (M : Mk X.K C f) (F : FnOk X.prog X.w X.K X.mg X.base CX k f fd ps sp) (hr : Room (k + 1) X.A) (hb : Binds X.K fd ps ds) (hd : Vals dvs ds)
    (hx : PassesAt CX X σ (E σ)) (I : Inv X pins σ H s) (r : Vals vs us)
    (h : ∀ x dx, H x = none → H dx = none → dx ≠ x → sp (.ref x :: (vs ++ dvs)) (upd (upd H dx (.own x)) x (.ins C dx [])) (fun v H2 => v = .non ∧ Q (.ref x) H2) (E σ)) :
    wpAny (model X.prog X.w) X.A (call (.ref C) us) (EP X pins σ Q) X.xe s := by
  have hq := h (s.heap.objs.size + 1) s.heap.objs.size (I.hok.fresh (Nat.le_succ _)) (I.hok.fresh (Nat.le_refl _)) (Nat.ne_of_lt (Nat.lt_succ_self _))
  have I2 := Inv.made (C := C) I
  have r2 : Vals (V.ref (s.heap.objs.size + 1) :: (vs ++ dvs)) (Value.ref (s.heap.objs.size + 1) :: (us ++ ds)) := .cons rfl (r.append hd)
  have hl : (Value.ref (s.heap.objs.size + 1) :: us ++ ds).length = ps.length := by
    have e := r2.length
    rw [F.len _ _ _ _ hq] at e
    exact e.symm
  refine wpAny_call (make_map (f := f) I.kIn M.makes M.init (beq_iff_eq.mp M.fn) (codeAny_mono (F.run _ X.stack _ _ ⟨Value.ref (s.heap.objs.size + 1) :: us, []⟩ (Value.ref (s.heap.objs.size + 1) :: (us ++ ds)) _ _ (E σ) (hr.make C us [])
    (I2.env0.make C us []) (hb _ (Value.ref (s.heap.objs.size + 1) :: us) I2.kIn hl) r2 hq) fun r s' hq' => ?_))
  cases r with
  | error e => exact hx pins _ _ e s' I2 hq'
  | ok fl =>
    cases fl with
    | ret u =>
      obtain ⟨v, H', I3, rv, ev, q3⟩ := I2.after hq'
      subst ev
      exact ⟨rv, ⟨V.ref (s.heap.objs.size + 1), H', I3, rfl, q3⟩⟩
    | next => exact False.elim hq'
    | brk => exact False.elim hq'
    | cont => exact False.elim hq'
def tMakeS (C : Addr) (sp : Sp) (dvs : List V) (W : WX) (t : TA) : TE := fun σ H Q => t σ H fun vs H1 => ∀ x dx, H1 x = none → H1 dx = none → dx ≠ x → sp (.ref x :: (vs ++ dvs)) (upd (upd H1 dx (.own x)) x (.ins C dx [])) (fun v H2 => v = .non ∧ Q (.ref x) H2) (WE W σ)
theorem pmkS (c : Mkc X.prog X.w X.K X.mg X.base (L2.CX X.prog X.w) k x C sp dvs) (hr : Room j X.A) (hk : k + 1 ≤ j) (tk : Takes X W) (hg : Gl X x) (ha : PA X (e :: es) t)
    (hdb : (x == ("__debug__" : Str)) = false := by decide) (he : starEach (e :: es) X.env = (false, eval e X.env) :: starEach es X.env := by rfl) (hpl : (backTo pos (starEach es X.env)).any (·.1) = false := by rfl) :
    PE X (.Call (.Name x p) (e :: es) [] pos) (tMakeS C sp dvs W t) := by
  obtain ⟨f, fd, ps, ds, M, F, hm, hb, hd⟩ := c.ex
  refine ⟨fun pins s σ H Q I h => ?_⟩
  refine wpAny_Call_Name_kw (ld_glob I hg hm ?_ hdb)
  refine PySem.W.callWith_K (h₀ := X.base) I.ok.mod.kin M.kp (thn (ha.run pos pins s σ H _ I h) fun us s1 ⟨vs, H1, I1, r, q⟩ => ⟨I1.kIn, ?_⟩) he hpl
  exact run_makeS (E := WE W) M F (hr.mono hk) hb hd (passAt tk σ) I1 r q
theorem w_makeS {σ : L2.St} {H : Hp} {Q : VK} (h : t σ H fun vs H1 => ∀ x dx, H1 x = none → H1 dx = none → dx ≠ x → sp (.ref x :: (vs ++ dvs)) (upd (upd H1 dx (.own x)) x (.ins C dx [])) (fun v H2 => v = .non ∧ Q (.ref x) H2) (WE W σ)) : tMakeS C sp dvs W t σ H Q := h
end

end M
namespace M
open PySem PySem.Spec PyProof.Rows L2 Evl MS
--@import HandS.ExcInit
--@import HandS.ExcField
--@import HandS.ExcOwn
--@import HandS.TryMany
--@import KE.KExcSuper
/-! own exceptions whose __init__ begins with super().__init__(..) -/
namespace XS
open NdefX ClX
/-- what super() asks of the text: D the class around the def, cc its cell, cda the def's code -/
structure SupX (P : Program) (K : PySem.W.Frag) (mg : Str → Option Value) (D cc cda : Addr) : Prop where
  cell : ∃ cl cld csl, K.lookup cc = some ⟨cl, cld, .cell (some (.ref D)), csl⟩
  cls : ∃ cd, PySem.W.clsIn K D = some cd
  code : ∃ ccl cdd vs ccs file tf, K.lookup cda = some ⟨ccl, cdd, .fields vs, ccs⟩ ∧ vs[2]? = some (.str file tf) ∧ ((P.main.file : Str) == file) = true
  gl : mg "super" = none
  any : PySem.W.nsIn K cStatics "thirdparty.any" = some none
  top : (P.main.scope.names.lookup ("super" : Str)).isSome = false
/-- what the instance's class C has: D above it, and ValueError's __init__ behind D -/
structure SupC (K : PySem.W.Frag) (D C : Addr) : Prop where
  sub : PySem.W.mroIn K C (.ref D) = some true
  nx : PySem.W.ks_superIn K C D "__init__" = some (some (.builtin "ValueError.__init__"))
  ve : PySem.W.subIn K (.ref C) (.type "ValueError") = some true
section
variable {X : Cx} {pins : List (Addr × Obj)} {σ : L2.St} {H : Hp} {s : Shared} {D C cc cda f x u : Addr} {R : Hp → Prop}
/-- the bound __init__ called: nothing that is told changes -/
theorem call_mw {A : Around} {E : Value → Shared → Prop} {us : List Value} {Q : Value → Shared → Prop} (T : OexC X.K C) (I : Inv X pins σ H s) (hx : H x = some (exo x C none)) (hu : s.heap.get? u = some (PySem.W.kxs_mw "ValueError.__init__" x)) (hl : us.length ≤ sizeLine)
    (h : ∀ s', Inv X pins σ H s' → Q .none s') : wpAny (model X.prog X.w) A (call (.ref u) us) Q E s := by
  obtain ⟨nm, q, N, bs, bm, sn, sub, ab, col, dd, k0, k1, k2, k3, k5, hC, _⟩ := T.cls
  obtain ⟨t1, ho⟩ := exo_at I.hok hx
  obtain ⟨hp, g, d, t, os⟩ := s
  refine wpAny_call (codeAny_of_tree ?_)
  show wpAny _ A.in1 (callAny (.ref u) ⟨us, []⟩) _ _ _
  simp only [callAny]
  refine wpAny_bind (wpAny_load hu ?_)
  simp only [PySem.W.kxs_mw]
  rw [if_pos (by decide)]
  refine PySem.W.KFB.if_so (by decide) (wpAny_bind (PySem.W.check_bound_init F.excBase_ValueError.toExcCallFacts (I.kIn _ _ hC) ho rfl ?_))
  refine wpAny_bind (wpAny_pure (wpAny_pure ⟨PySem.plainId_quiet F.excBase_ValueError.init.plain _, codeAny_builtin F.excBase_ValueError.initEntry ?_⟩))
  refine PySem.W.exc_init_tree (cls := .ref C) (t0 := t1) (dv := none) (c2 := .none) (c3 := .none) (b4 := .bool false) ho hl fun h' k hx' _ => ?_
  have J := I.write (t' := t) (x := x) (e := x) (o := exo x C none) (by rw [hx]; exact True.intro) (.inl rfl) k ⟨_, hx'⟩ (exo_ok hx')
  have eu : upd H x (exo x C none) = H := funext fun b => by
    by_cases hb : b = x
    · rw [hb, upd_same, hx]
    · exact upd_ne hb
  rw [eu] at J
  exact h _ J
theorem mw_call1 {M : Model} {A : Around} {E : Value → Shared → Prop} {s : Shared} {pos : Pos} {env : Env} {e : Expr} {rest : List Expr} {Q : Value → Shared → Prop} {i : String}
    (h : wpAny M A (spliced (backTo pos (starEach (e :: rest) env))) (fun vs s₁ => PySem.W.KxsAt i u x s₁.heap ∧ wpAny M A (call (.ref u) vs) Q E s₁) E s)
    (he : starEach (e :: rest) env = (false, eval e env) :: starEach rest env) (hpl : (backTo pos (starEach rest env)).any (·.1) = false) : wpAny M A (callWith pos (.ref u) [] (backTo pos (starEach (e :: rest) env)) []) Q E s := by
  rw [he] at h ⊢
  exact PySem.W.kxs_callWith (i := i) (x := x) (by show (false || (backTo pos (starEach rest env)).any (·.1)) = false; rw [hpl]; rfl) (PySem.Calls.evalArgs_plain h)
theorem super_exc {pl : Sem Bool} {ta : TE} {p0 p1 p2 p3 p4 : Pos} {arg : Expr} {fd : FuncData} {of : Obj} {ar : Arg} (U : SupX X.prog X.K X.mg D cc cda) (UC : SupC X.K D C) (T : OexC X.K C)
    (hks : X.env.kindOf "super" = some .globalImplicit) (hkc : X.env.kindOf "__class__" = some .free) (hfu : X.env.func = some f) (hf : X.K.lookup f = some of) (hfd : of.data = .func fd)
    (hp : (fd.params.posonlyargs ++ fd.params.args).head? = some ar) (har : X.env.scope.names.lookup ar.arg = some .local) (hN : X.N[0]? = some ar.arg) (hco : X.env.code = .ref cda) (hcl : X.env.cells.lookup ("__class__" : Str) = some cc)
    (ha : PE X arg ta) (I : Inv X pins σ H s) (hσ : σ[0]? = some (some (.ref x))) (hx : H x = some (exo x C none))
    (h : ta σ H fun v H2 => [v].length = 1 ∧ H2 x = some (exo x C none) ∧ R H2)
    (he : starEach [arg] X.env = (false, eval arg X.env) :: starEach [] X.env := by rfl) (hpl : (backTo p3 (starEach ([] : List Expr) X.env)).any (·.1) = false := by rfl)
    (ht : eval (.Call (.Attribute (.Call (.Name "super" p0) [] [] p1) "__init__" p2) [arg] [] p3) X.env = (do
      let ov ← attributeBase (.Call (.Name "super" p0) [] [] p1) "__init__" X.env (eval (.Call (.Name "super" p0) [] [] p1) X.env)
      standAt p2.atName
      let (f, first) ← holding [ov] (getMethod ov "__init__" pl)
      callWith p3 f first (backTo p3 (starEach [arg] X.env)) []) := by rfl)
    (hi : interactive X.env = false := by rfl) (hs : swapsWith (.Call (.Attribute (.Call (.Name "super" p0) [] [] p1) "__init__" p2) [arg] [] p3) none p4.line X.env = pure false := by rfl) :
    PySem.wpAt (model X.prog X.w) X.A (.func body X.env) (exec (.Expr (.Call (.Attribute (.Call (.Name "super" p0) [] [] p1) "__init__" p2) [arg] [] p3) p4) X.env) (fun fl s' => fl = .next ∧ ∃ H', Inv X pins σ H' s' ∧ R H') X.xe s := by
  obtain ⟨cl, cld, csl, hcell⟩ := U.cell
  obtain ⟨cd, hD⟩ := U.cls
  obtain ⟨ccl, cdd, vs, ccs, file, tf, hcode, hvs, hfile⟩ := U.code
  have KX := I.kIn
  obtain ⟨oD, hD1, hD2⟩ : ∃ oD, s.heap.get? D = some oD ∧ oD.data = .cls cd := by
    have q := hD
    unfold PySem.W.clsIn at q
    split at q
    · rename_i ho
      cases q
      exact ⟨_, KX _ _ ho, rfl⟩
    · cases q
  obtain ⟨t1, ho⟩ := exo_at I.hok hx
  refine ks_wpAt_Expr_any ?_ hi hs
  refine ks_wpAt_MethodCall (pl := pl) ?_ ht
  refine ks_wpAt_super_base (env := X.env) hks hkc rfl hfu (KX _ _ hf) hfd hp hco (KX _ _ hcode) rfl hvs hfile U.top ?_
  obtain ⟨mb, h1, h2⟩ := I.mod.blt
  refine PySem.W.ks_loadName_global I.ok.kind hks (Calls.loadGlobal_builtin (by rw [I.ok.glob]; exact I.mod.glob.keeps I.bk) U.gl (by rw [I.ok.blt]; exact h1.keeps I.bk) ((h2 "super" (by decide)).trans (by decide +kernel)) ⟨rfl, ?_⟩)
  refine wpAny_loadName_free I.ok.kind hkc hcl ⟨_, KX _ _ hcell, rfl⟩ ?_
  obtain ⟨m, hn, hl⟩ := id I.loc
  obtain ⟨u, ru, lo⟩ := hl 0 ar.arg (.ref x) hN hσ (.inl har)
  cases (show u = Value.ref x from ru)
  have hm : m ar.arg = some (.ref x) := by
    rcases lo with ⟨_, hm⟩ | ⟨hk, _⟩
    · exact hm
    · exfalso
      rcases hk with hk | hk
      · have e : X.env.scope.names.lookup ar.arg = some .cell := hk
        rw [har] at e
        cases e
      · have e : X.env.scope.names.lookup ar.arg = some .free := hk
        rw [har] at e
        cases e
  refine wpAny_loadName_local I.ok.kind har hn hm ?_
  refine ks_wpAny_isType_cls hD1 hD2 ⟨rfl, ?_⟩
  obtain ⟨hh, g, d, t, os⟩ := s
  refine ks_wpAny_call_super (C := C) hD1 hD2 ho rfl (fun c e => by cases e) (PySem.W.looks_mroIn KX UC.sub) (fun h' e k => ?_)
  have I1 := pin_new (t' := t) I k (Nat.le_refl _) e (fun v z => by cases z)
  have KX1 := I1.kIn
  obtain ⟨nm, q, N, bs, bm, sn, sub, ab, col, dd, k0, k1, k2, k3, k5, hC, _⟩ := T.cls
  have hcC : PySem.W.clsIn X.K C = some { name := nm, bases := bs, mro := .ref C :: bm, ns := N, qualname := q, hasDict := true, slotNames := sn, subclasses := sub, abstract := ab, collection := col, hasDel := false } := by
    unfold PySem.W.clsIn
    rw [hC] <;> rfl
  have hnx := UC.nx
  unfold PySem.W.ks_superIn at hnx
  rw [hcC] at hnx
  have J : PySem.W.InstAt h' x { cls := .ref C, dict := none, data := .fields #[.ref t1, .none, .none, .none, .bool false, .none] } C none := ⟨k _ _ ho, rfl, rfl, trivial⟩
  refine PySem.W.kxs_getMethod PySem.W.kxs_ValueError e (PySem.W.looks_opaque KX1 U.any) (l₀ := .ref C :: bm) ?_ rfl KX1 hnx (J.type.andThen (PySem.W.looks_subIn KX1 UC.ve)) (PySem.W.ks_ne KX1 J hcC) (by decide) ?_
  · exact fun A Q E s k q => wpAny_bind ((PySem.W.looks_clsIn KX1 hcC) A _ E s k (wpAny_pure q))
  have I2 := pin_new (a := h'.objs.size) (o := PySem.W.kxs_mw "ValueError.__init__" x) (h' := h'.push (PySem.W.kxs_mw "ValueError.__init__" x)) (t' := t + 1) I1 (fun _ _ z => Heap.get?_push_of_some _ z) (Nat.le_refl _) (Heap.get?_push_size h' rfl) (fun v z => nomatch z)
  have h' : tCons ta tNil σ H (fun vs H2 => vs.length = 1 ∧ H2 x = some (exo x C none) ∧ R H2) := h
  refine mw_call1 (i := "ValueError.__init__") (x := x) ?_ he hpl
  refine thn ((pa_cons ha pa_nil he).run p3 _ _ σ H _ I2 h') fun us s3 ⟨vs', H2, I3, rv, hz, hx2, q2⟩ => ⟨pin_at I3, ?_⟩
  refine call_mw T I3 hx2 (pin_at I3) ?_ fun s4 I4 => ⟨rfl, H2, unpin (unpin I4), q2⟩
  show us.length ≤ sizeLine
  rw [← Paired.length rv, hz, sizeLine_eq]
  decide
end
/-- a def whose first statement is super().__init__(arg), self an exception being made, keeps its promise -/
theorem fnsupx {P : Program} {w : World} {K : PySem.W.Frag} {mg : Str → Option Value} {base : Heap} {name qual self : Str} {params : Arguments} {body rest : List Stmt} {scope : Scope} {f cc cda D : Addr} {fd : FuncData} {N ps : List Str} {k : Nat} {sp : Sp} {arg : Expr} {p0 p1 p2 p3 p4 : Pos} {ar : Arg}
    (F : FunS K name qual params body scope f fd cc cda) (U : SupX P K mg D cc cda)
    (hbody : body = .Expr (.Call (.Attribute (.Call (.Name "super" p0) [] [] p1) "__init__" p2) [arg] [] p3) p4 :: rest)
    (S : NScope N (self :: ps) ["__class__"] scope) (hks : scope.names.lookup ("super" : Str) = some .globalImplicit)
    (hp : (params.posonlyargs ++ params.args).head? = some ar) (hs : ar.arg = self) (hN : N[0]? = some self)
    (len : ∀ vs H Q E, sp vs H Q E → vs.length = (self :: ps).length)
    (hgo : ∀ (A : Around) (outer : List Env) (s : Shared) (H : Hp) (vs : List V) (Q : VK) (E : XK), Room k (A.deeper (envF ⟨name, qual, params, body, scope, [("__class__", cc)], cda⟩ f s.heap.objs.size)) → sp vs H Q E →
      ∃ (t : TS) (ta : TE) (x C : Addr), PE (ncx CX0 P w K mg base N ⟨name, qual, params, body, scope, [("__class__", cc)], cda⟩ f A outer s H E).nox arg ta ∧ PSs (ncx CX0 P w K mg base N ⟨name, qual, params, body, scope, [("__class__", cc)], cda⟩ f A outer s H E).nox rest t ∧
        (startF N vs [some (.ref D)])[0]? = some (some (.ref x)) ∧ H x = some (exo x C none) ∧ OexC K C ∧ SupC K D C ∧
        ta (startF N vs [some (.ref D)]) H fun v H2 => [v].length = 1 ∧ H2 x = some (exo x C none) ∧ t { nx := fun _ H' => Q .non H', rt := Q } (startF N vs [some (.ref D)]) H2)
    (hst : ∀ (X : Cx), starEach [arg] X.env = (false, eval arg X.env) :: starEach [] X.env := by intro _; rfl) (hpl : ∀ (X : Cx), (backTo p3 (starEach ([] : List Expr) X.env)).any (·.1) = false := by intro _; rfl)
    {pl : Cx → Sem Bool}
    (ht : ∀ (X : Cx), eval (.Call (.Attribute (.Call (.Name "super" p0) [] [] p1) "__init__" p2) [arg] [] p3) X.env = (do
      let ov ← attributeBase (.Call (.Name "super" p0) [] [] p1) "__init__" X.env (eval (.Call (.Name "super" p0) [] [] p1) X.env)
      standAt p2.atName
      let (f, first) ← holding [ov] (getMethod ov "__init__" (pl X))
      callWith p3 f first (backTo p3 (starEach [arg] X.env)) []) := by intro _; rfl)
    (hsw : ∀ (X : Cx), swapsWith (.Call (.Attribute (.Call (.Name "super" p0) [] [] p1) "__init__" p2) [arg] [] p3) none p4.line X.env = pure false := by intro _; rfl) :
    FnOk P w K mg base CX0 (k + 1) f fd (self :: ps) sp := by
  obtain ⟨oc, od, dV, kV, doc, pm, an, ct, osl, rfl, lk, hcd, _⟩ := F.ex
  refine ⟨len, fun A outer s H args us vs Q E hr e0 hb r hsp => ?_⟩
  have KX : K.In s.heap := e0.mod.kin.keeps fun b o e => (e0.bs b o e).1
  have hl := len _ _ _ _ hsp
  have lim : s.heap.NoLimit := e0.mod.nolimit.keeps fun b o e => (e0.bs b o e).1
  obtain ⟨cl, cld, csl, hcell⟩ := U.cell
  refine codeAny_call_function hr.depth (KX _ _ lk) rfl S.co S.gen rfl (PySem.W.codeRec_of KX hcd) (hb _ _ _ _ ?_)
  refine wpAny_newFunctionEnv S.nocell (fun ⟨n, _⟩ hy => S.par n (List.of_mem_zip hy).1) (fun h₁ hns hsb => ⟨lim.fresh _ hsb, ?_⟩) S.kind
  show codeAny _ _ (.func body (envF ⟨name, qual, params, body, scope, [("__class__", cc)], cda⟩ f s.heap.objs.size)) _ _
  refine ks_codeAny_funcAt ?_
  have kp : ∀ b o, s.heap.get? b = some o → h₁.get? b = some o := fun b o e => hsb.extBut b o (Nat.ne_of_lt (Heap.lt_size e)) (Heap.get?_push_of_some _ e)
  have hcc : H cc = none := (e0.bs _ _ (e0.mod.kin _ _ hcell)).2
  have look1 : ∀ y c, List.lookup y [(("__class__" : Str), cc)] = some c → y = "__class__" ∧ c = cc := fun y c e => by
    unfold List.lookup at e
    split at e
    · rename_i q
      cases e
      exact ⟨beq_iff_eq.mp q, rfl⟩
    · cases e
  have C0 : CellsAt [(("__class__" : Str), cc)] ["__class__"] [some (.ref D)] s.heap H := by
    refine ⟨rfl, fun y c e => ?_, fun x y c e e' => ?_, fun i y e => ?_⟩
    · obtain ⟨_, rfl⟩ := look1 y c e
      exact ⟨hcc, _, ⟨_, KX _ _ hcell, rfl⟩⟩
    · exact (look1 _ _ e).1.trans (look1 _ _ e').1.symm
    · rcases i with _ | i
      · cases e
        refine ⟨cc, by unfold List.lookup; rw [beq_self_eq_true], fun v e => ?_⟩
        cases e
        exact ⟨.ref D, rfl, ⟨_, KX _ _ hcell, rfl⟩⟩
      · cases e
  have hroom := hr.deeper (envF ⟨name, qual, params, body, scope, [("__class__", cc)], cda⟩ f s.heap.objs.size)
  obtain ⟨t, ta, x, C, h1, h2, hx0, hx, T, UC, h3⟩ := hgo A outer s H vs Q E hroom hsp
  have I : Inv (ncx CX0 P w K mg base N ⟨name, qual, params, body, scope, [("__class__", cc)], cda⟩ f A outer s H E) [] (startF N vs [some (.ref D)]) H { s with heap := h₁, toks := s.toks + ((self :: ps).zip us).length } := inv_startN S hr.hd e0 hl r C0 hns kp
  have ebody : execs body (envF ⟨name, qual, params, body, scope, [("__class__", cc)], cda⟩ f s.heap.objs.size) = execs (.Expr (.Call (.Attribute (.Call (.Name "super" p0) [] [] p1) "__init__" p2) [arg] [] p3) p4 :: rest) (envF ⟨name, qual, params, body, scope, [("__class__", cc)], cda⟩ f s.heap.objs.size) := congrArg (fun b => execs b _) hbody
  rw [ebody]
  have fin : ∀ {σ' : L2.St} {H' : Hp} {v : V} {u : Value} {s' : Shared}, Inv (ncx CX0 P w K mg base N ⟨name, qual, params, body, scope, [("__class__", cc)], cda⟩ f A outer s H E) [] σ' H' s' → L2.RelV v u → Q v H' → CE outer P w H s Q u s' :=
    fun {σ' H' v u s'} J rv q => ⟨v, H', J.os, J.bare, J.base, J.hok, rv, q⟩
  refine ks_wpAt_execs_cons (ks_wpAt_mono (super_exc (X := ncx CX0 P w K mg base N ⟨name, qual, params, body, scope, [("__class__", cc)], cda⟩ f A outer s H E) (f := f) (cda := cda) (cc := cc) (D := D) (C := C) (x := x) (R := fun H2 => t { nx := fun _ H' => Q .non H', rt := Q } (startF N vs [some (.ref D)]) H2) U UC T hks (S.frk _ List.mem_cons_self) rfl lk rfl hp (by rw [hs]; exact S.par _ List.mem_cons_self) (by rw [hs]; exact hN) rfl
    (by show List.lookup ("__class__" : Str) [(("__class__" : Str), cc)] = some cc; unfold List.lookup; rw [beq_self_eq_true]) h1.nox I hx0 hx h3 (hst _) (hpl _) (ht _) (by show interactive (envF ⟨name, qual, params, body, scope, [("__class__", cc)], cda⟩ f s.heap.objs.size) = false; unfold interactive; rw [show (envF ⟨name, qual, params, body, scope, [("__class__", cc)], cda⟩ f s.heap.objs.size).scope.kind = .function from S.kind]; first | rfl | decide) (hsw _)) (fun fl2 s2 h4 => ?_) fun e s2 h4 => h4)
  obtain ⟨rfl, H3, J3, q3⟩ := h4
  refine _root_.PySem.wpAt_of_wpAny (wpAny_mono (h2.nox.run [] _ _ H3 _ J3 q3) (fun fl s' hs' => ?_) fun e s' he => he)
  cases fl with
  | ret u =>
    obtain ⟨v, σ', H', J, rv, q⟩ := hs'
    exact fin J rv q
  | next =>
    obtain ⟨σ', H', J, q⟩ := hs'
    exact fin (v := .non) (u := Value.none) J rfl q
  | brk =>
    obtain ⟨_, _, _, q⟩ := hs'
    exact q.elim
  | cont =>
    obtain ⟨_, _, _, q⟩ := hs'
    exact q.elim
end XS
/-! what the written part must say, as a Bool -/
def oexB (K : PySem.W.Frag) (C : Addr) : Bool := (match K.lookup C with
  | some ⟨.type "type", _, .cls cd, sl⟩ => (match cd.mro, sl.toList with
    | .ref D :: bm, [_, _, _, _, some (.builtin n), _] => D == C && (n == "ValueError.__new__" && (!cd.hasDel && (cd.hasDict && PySem.HandSPX.refsVE bm)))
    | _, _ => false)
  | _ => false) && (He.eqO (PySem.W.findIn K (.ref C) "__setattr__") (some (some (.builtin "object.__setattr__"))) && (decide (PySem.W.subIn K (.ref C) (.type "BaseException") = some true) && (decide (PySem.W.typeIn K (.ref C) = some (.type "type")) && PySem.W.keepIn K (.ref C))))
theorem oexB_ok {K : PySem.W.Frag} {C : Addr} (h : oexB K C = true) : OexC K C := by
  unfold oexB at h
  simp only [Bool.and_eq_true] at h
  obtain ⟨h1, h2, h3, h4, h5⟩ := h
  refine ⟨?_, He.eqO_ok h2, of_decide_eq_true h3, of_decide_eq_true h4, h5⟩
  split at h1
  · rename_i dd cd sl ho
    split at h1
    · rename_i D bm k0 k1 k2 k3 n k5 hm hs
      simp only [Bool.and_eq_true, beq_iff_eq, Bool.not_eq_true'] at h1
      obtain ⟨rfl, rfl, e1, e2, e3⟩ := h1
      obtain ⟨nm, bs, mro, ns, qn, hd, sn, sub, ab, col, del⟩ := cd
      dsimp only at hm e1 e2
      subst hm e1 e2
      obtain ⟨l⟩ := sl
      dsimp only at hs
      subst hs
      exact ⟨nm, qn, ns, bs, bm, sn, sub, ab, col, dd, k0, k1, k2, k3, k5, ho, e3⟩
    · cases h1
  · cases h1
namespace XS
def supXB (mf : Str) (K : PySem.W.Frag) (D f : Addr) : Bool := cellB K (cellOf K f) D && ((PySem.W.clsIn K D).isSome && (codeB mf K (codeOf K f) && someNone (PySem.W.nsIn K cStatics "thirdparty.any")))
theorem supXB_ok {P : Program} {K : PySem.W.Frag} {mg : Str → Option Value} {D f : Addr} (mf : Str) (pf : ((P.main.file : Str) == mf) = true) (top : (P.main.scope.names.lookup ("super" : Str)).isSome = false) (gl : mg "super" = none) (h : supXB mf K D f = true) : SupX P K mg D (cellOf K f) (codeOf K f) := by
  unfold supXB at h
  simp only [Bool.and_eq_true] at h
  obtain ⟨h1, h2, h3, h4⟩ := h
  refine ⟨cellB_ok h1, Option.isSome_iff_exists.mp h2, ?_, gl, someNone_ok h4, top⟩
  rw [beq_iff_eq.mp pf]
  exact codeB_ok h3
def supCB (K : PySem.W.Frag) (D C : Addr) : Bool := decide (PySem.W.mroIn K C (.ref D) = some true) && (He.eqO (PySem.W.ks_superIn K C D "__init__") (some (some (.builtin "ValueError.__init__"))) && decide (PySem.W.subIn K (.ref C) (.type "ValueError") = some true))
theorem supCB_ok {K : PySem.W.Frag} {D C : Addr} (h : supCB K D C = true) : SupC K D C := by
  unfold supCB at h
  simp only [Bool.and_eq_true] at h
  exact ⟨of_decide_eq_true h.1, He.eqO_ok h.2.1, of_decide_eq_true h.2.2⟩
end XS
/-- an own exception class under its name, its __init__ with its promise -/
structure Xcl (P : Program) (w : World) (K : PySem.W.Frag) (mg : Str → Option Value) (base : Heap) (k : Nat) (x : Str) (C : Addr) (sp : Sp) : Prop where
  ex : ∃ (fI : Addr) (fd : FuncData) (ps : List Str), OexC K C ∧ PySem.W.findIn K (.ref C) "__init__" = some (some (.ref fI)) ∧ PySem.W.typeIn K (.ref fI) = some (.type "function") ∧ FnOk P w K mg base CX0 k fI fd ps sp ∧ mg x = some (.ref C) ∧ Binds K fd ps []
section
variable {X : Cx} {W : WX} {k j : Nat} {C : Addr} {x m : Str} {sp : Sp} {p pos pos' apos : Pos} {e o : Expr} {es : List Expr} {ta : TE} {t : TA}
def tRaise (C : Addr) (sp : Sp) (t : TA) (W : WX) : TS := fun _ σ H => tMkO C sp [] t σ H fun cls d H' => W cls d σ H'
/-- raise C(e, ..) -/
theorem praise (c : Xcl X.prog X.w X.K X.mg X.base k x C sp) (hr : Room j X.A) (hk : k + 1 ≤ j) (hc : X.calm = true) (tk : Takes X W) (hg : Gl X x) (ha : PA X (e :: es) t)
    (hdb : (x == ("__debug__" : Str)) = false := by decide) (he : starEach (e :: es) X.env = (false, eval e X.env) :: starEach es X.env := by rfl) (hpl : (backTo pos (starEach es X.env)).any (·.1) = false := by rfl) :
    PS X (.Raise (some (.Call (.Name x p) (e :: es) [] pos)) none pos') (tRaise C sp t W) := by
  obtain ⟨fI, fd, ps, T, iC, tI, F, hm, hb⟩ := c.ex
  exact ps_raise hc tk (pmk_oex T iC tI F (hr.mono hk) hb .nil (fun _ _ _ _ _ _ _ h => h.elim) hg hm ha hdb he hpl)
/-- o.m(e, ..), where what is raised is wished for at the caller's slots -/
def tMethS (C : Addr) (m : Str) (sp : Sp) (W : WX) (ta : TE) (t : TA) : TE := fun σ H Q => ta σ H fun y H1 => ∃ a dx fs, y = .ref a ∧ H1 a = some (.ins C dx fs) ∧ fs.lookup m = none ∧ t σ H1 fun vs H2 => sp (y :: vs) H2 Q (WE W σ)
theorem pmtS {pl : Sem Bool} (c : Mt X.prog X.w X.K X.mg X.base (L2.CX X.prog X.w) k C m sp) (hr : Room j X.A) (hk : k ≤ j) (tk : Takes X W) (ho : PE X o ta) (ha : PA X (e :: es) t)
    (he : starEach (e :: es) X.env = (false, eval e X.env) :: starEach es X.env := by rfl) (hpl : (backTo pos (starEach es X.env)).any (·.1) = false := by rfl)
    (ht : eval (.Call (.Attribute o m apos) (e :: es) [] pos) X.env = (do let ov ← eval o X.env; standAt apos.atName; let (f, first) ← holding [ov] (getMethod ov m pl); callWith pos f first (backTo pos (starEach (e :: es) X.env)) (backToKw pos (keywordEach [] X.env))) := by rfl) :
    PE X (.Call (.Attribute o m apos) (e :: es) [] pos) (tMethS C m sp W ta t) := by
  obtain ⟨f, fd, ps, cl, hm, F, hb⟩ := c.ex
  refine ⟨fun pins s σ H Q I h => ?_⟩
  refine PySem.W.methodCall_KW (pl := pl) (thn (ho.run pins s σ H _ I h) fun u s1 ⟨y, H1, I1, ry, a, dx, fs, ey, ea, l, q⟩ => ?_) ht
  subst ey
  obtain rfl : u = Value.ref a := ry
  refine getmeth_ok I1 ea cl hm l (PySem.W.callWith_K (first := [.ref a]) (h₀ := X.base) I.ok.mod.kin hm.kp (thn (ha.run pos pins s1 σ H1 _ I1 q) fun us s2 ⟨vs, H2, I2, r, q2⟩ => ⟨I2.kIn, ?_⟩) he hpl)
  exact run_fnS (E := WE W) (us := .ref a :: us) (vs := .ref a :: vs) F (hr.mono hk) hb (passAt tk σ) I2 (.cons rfl r) q2
/-- a call in a place where nothing is let out -/
theorem passN : Passes (L2.CX X.prog X.w) X E0 := fun _ _ _ _ _ _ _ ⟨_, _, _, _, _, _, _, _, _, _, _, _, h⟩ => h.elim
end
section
variable {P : Program} {w : World} {K : PySem.W.Frag} {mg : Str → Option Value} {base : Heap}
/-- a def that may let exceptions out -/
theorem fnokX {x qual : Str} {params : Arguments} {body : List Stmt} {scope : Scope} {dvs : List V} {f : Addr} {fd : FuncData} {N ps : List Str} {k : Nat} {sp : Sp}
    (F : FunD K x qual params body scope dvs [] f fd) (S : FnScope N ps scope) (len : ∀ vs H Q E, sp vs H Q E → vs.length = ps.length)
    (hbody : ∀ (cdv : Value) (A : Around) (outer : List Env) (s : Shared) (H : Hp) (vs : List V) (Q : VK) (E : XK), Room k (A.deeper (envOfC qual scope s.heap.objs.size f cdv)) → sp vs H Q E →
      Takes (cxOf (L2.CX P w) P w K mg base N qual scope f cdv A outer s H E) (fun cls d _ H => E cls d H) →
      ∃ t, PSs (cxOf (L2.CX P w) P w K mg base N qual scope f cdv A outer s H E) body t ∧ t { nx := fun _ H' => Q .non H', rt := Q } (start N vs) H) :
    FnOk P w K mg base (L2.CX P w) (k + 1) f fd ps sp := F.ok S len fun cdv A outer s H vs Q E hr h =>
  hbody cdv A outer s H vs Q E hr h (takes_of (X := cxOf (L2.CX P w) P w K mg base N qual scope f cdv A outer s H E) rfl rfl rfl rfl)
end
section
variable {K : PySem.W.Frag} {C : Addr} {H : Hp} {σ : L2.St}
/-- WrongThing(thing), WrongWord(word): one field -/
def spXI (K : PySem.W.Frag) (D : Addr) (f : Str) : Sp := sp2 fun self v H Q _ => ∃ x C, self = .ref x ∧ H x = some (exo x C none) ∧ OexC K C ∧ XS.SupC K D C ∧ PySem.W.findIn K (.ref C) f = some none ∧
  ∀ dx, H dx = none → dx ≠ x → Q .non (upd (upd H dx (exd dx [(f, v)])) x (exo x C (some dx)))
def MkOI (C : Addr) (sp : Sp) (vs : List V) (H1 : Hp) (Q : XK) : Prop := vs.length ≤ 1000 ∧ ∀ a, H1 a = none → sp (.ref a :: (vs ++ [])) (upd H1 a (exo a C none))
  (fun v H2 => v = .non ∧ ∃ (d : Addr) (fs : List (Str × V)), H2 a = some (exo a C (some d)) ∧ H2 d = some (exd d fs) ∧ H1 d = none ∧ Q (.ref C) (some d) (upd (del H2 a) d (.xd fs))) (fun _ _ _ => False)
theorem w_raise {sp : Sp} {W : WX} {D : Ends} {t : TA} (h : t σ H fun vs H1 => MkOI C sp vs H1 fun cls d H' => W cls d σ H') : tRaise C sp t W D σ H := h
theorem r_mkO {D : Addr} {f : Str} {v : V} {Q : XK} (T : OexC K C) (U : XS.SupC K D C) (hf : PySem.W.findIn K (.ref C) f = some none) (h : ∀ d H', H d = none → Ex H H' → H' d = some (.xd [(f, v)]) → Q (.ref C) (some d) H') : MkOI C (spXI K D f) [v] H Q := by
  refine ⟨(by decide : 1 ≤ 1000), fun a na => ⟨.ref a, v, rfl, a, C, rfl, upd_same, T, U, hf, fun dx ndx dne => ⟨rfl, dx, [(f, v)], upd_same, by rw [upd_ne dne]; exact upd_same, ?_, ?_⟩⟩⟩
  · rwa [upd_ne dne] at ndx
  · have nd : H dx = none := by rwa [upd_ne dne] at ndx
    have e : upd (del (upd (upd (upd H a (exo a C none)) dx (exd dx [(f, v)])) a (exo a C (some dx))) a) dx (.xd [(f, v)]) = upd H dx (.xd [(f, v)]) := funext fun b => by
      by_cases hb : b = dx
      · rw [hb, upd_same, upd_same]
      · rw [upd_ne hb, upd_ne hb]
        by_cases ha : b = a
        · rw [ha, del_same, na]
        · rw [del_ne ha, upd_ne ha, upd_ne hb, upd_ne ha]
    rw [e]
    exact h dx _ nd (Ex.new nd) upd_same
/-- try: .. except c as x: .. -/
def tTryAs (K : PySem.W.Frag) (c : Value) (i : Nat) (ts : Addr → Value → Option Addr → TS) (tb : WX → TS) : TS := fun D σ H => tb (wAs K c i ts (fun _ _ _ _ => False) D) D σ H
theorem w_tryAs {c : Value} {i : Nat} {ts : Addr → Value → Option Addr → TS} {tb : WX → TS} {D : Ends} (h : tb (wAs K c i ts (fun _ _ _ _ => False) D) D σ H) : tTryAs K c i ts tb D σ H := h
theorem w_was {c : Value} {i : Nat} {ts : Addr → Value → Option Addr → TS} {D : Ends} {cls : Value} {d : Option Addr} (e : PySem.W.exmOne K cls c = some true)
    (h : ∀ a, H a = none → ts a cls d { nx := fun σ' H' => D.nx (σ'.set i none) H', rt := D.rt, bk := fun σ' H' => D.bk (σ'.set i none) H', ct := fun σ' H' => D.ct (σ'.set i none) H' } (σ.set i (some (.ref a))) H) : wAs K c i ts (fun _ _ _ _ => False) D cls d σ H :=
  ⟨true, e, fun _ => h, fun z => by cases z⟩
theorem w_methS {m : Str} {F : V → V → Hp → VK → XK → Prop} {W : WX} {ta : TE} {t : TA} {Q : VK} (h : ta σ H fun y H1 => ∃ a dx fs, y = .ref a ∧ H1 a = some (.ins C dx fs) ∧ fs.lookup m = none ∧ t σ H1 fun vs H2 => sp2 F (y :: vs) H2 Q (WE W σ)) : tMethS C m (sp2 F) W ta t σ H Q := h
theorem w_xf {a dd : Addr} {cls : Value} {f : Str} {te : TE} {fs : List (Str × V)} {v : V} {Q : VK} (h : te σ H fun x H1 => x = .ref a ∧ cls = .ref C ∧ ∃ (dd' : Addr) (fs : List (Str × V)) (v : V), some dd = some dd' ∧ H1 dd' = some (.xd fs) ∧ fs.lookup f = some v ∧ Q v H1) : tXf a cls (some dd) C f te σ H Q := h
end
section
variable {X : Cx} {x n : Str} {c : Value} {i : Nat} {body suite : List Stmt} {b₀ : Stmt} {np pos pos' : Pos} {tb : WX → TS} {ts : Addr → Value → Option Addr → TS}
theorem ptryas (K : PySem.W.Frag) (hs : X.stack = X.env :: X.outer) (hf : X.env.frame = some X.env.locals) (hN : X.N.Nodup) (hi : X.N[i]? = some n) (hln : X.env.kindOf n = some .local) (hc : Names X x c)
    (hb : ∀ (W : WX) (pn : List (Addr × Obj)) (xe : Value → Shared → Prop), Takes (X.tr pn xe) W → PSs (X.tr pn xe) body (tb W))
    (hsu : ∀ (a : Addr) (oe : Obj) (cls : Value) (d : Option Addr) (pn : List (Addr × Obj)), Zc cls d oe → (∃ vs, oe.data = .fields vs) → PSs (X.suite a ((a, oe) :: pn)) (b₀ :: suite) (ts a cls d)) (hK : X.K = K := by rfl) :
    PS X (.Try body [.ExceptHandler (some (.Name x np)) (some n) (b₀ :: suite) pos'] [] [] pos) (tTryAs K c i ts tb) := by
  subst hK
  exact ps_try_as hs hf hN hi hln hc takes_none5 (fun W pn xe tk _ => hb W pn xe tk) hsu
end
theorem kNeS (K : PySem.W.Frag) {X : Cx} {a : Addr} {pn : List (Addr × Obj)} {j : Nat} (hr : Room j X.A) (h : X.K = K := by rfl) : OpR (X.suite a pn) (compareOp .NotEq) (rNeU K) := by
  subst h
  exact op_ne.or (op_neD (by have := hr.un; show X.A.units + 64 < cLine; omega))

end M
namespace M
open PySem PySem.Spec PyProof.Rows L2 Evl MS
--@import HandS.FStr
--@import HandS.Text
/-! own exceptions whose text is an f-string of a word -/
theorem sapp_len (a b : Str) : (a ++ b).length = a.length + b.length := by rw [TL.len_tl, TL.tl_append, List.length_append, ← TL.len_tl, ← TL.len_tl]
/-- WrongWord(word), TooMany(word): one field, a text -/
def spXS (K : PySem.W.Frag) (D : Addr) (f : Str) : Sp := sp2 fun self v H Q _ => ∃ x C, ∃ w : Str, self = .ref x ∧ v = .str w ∧ w.length ≤ 1000 ∧ H x = some (exo x C none) ∧ OexC K C ∧ XS.SupC K D C ∧ PySem.W.findIn K (.ref C) f = some none ∧
  ∀ dx, H dx = none → dx ≠ x → Q .non (upd (upd H dx (exd dx [(f, v)])) x (exo x C (some dx)))
theorem r_mkOS {K : PySem.W.Frag} {C : Addr} {H : Hp} {D : Addr} {f : Str} {w : Str} {Q : XK} (T : OexC K C) (U : XS.SupC K D C) (hf : PySem.W.findIn K (.ref C) f = some none) (hz : w.length ≤ 1000) (h : ∀ d H', H d = none → Ex H H' → H' d = some (.xd [(f, .str w)]) → Q (.ref C) (some d) H') : MkOI C (spXS K D f) [.str w] H Q := by
  obtain ⟨z, k⟩ := r_mkO (v := .str w) T U hf h
  refine ⟨z, fun a na => ?_⟩
  obtain ⟨s, v, e, x, C', h1, h2, h3, h4, h5, h6⟩ := k a na
  cases e
  exact ⟨_, _, rfl, x, C', w, h1, rfl, hz, h2, h3, h4, h5, h6⟩
section
variable {σ : L2.St} {H : Hp} {t : TE} {ts : List TE} {acc : Str} {Q : Str → Hp → Prop} {R : VK}
theorem w_js (h : t σ H fun x H1 => ∃ y : Str, x = .str y ∧ (acc ++ y).length ≤ sizeLine ∧ tJs ts (acc ++ y) σ H1 Q) : tJs (t :: ts) acc σ H Q := h
theorem w_js0 (h : Q acc H) : tJs [] acc σ H Q := h
theorem w_fmtV {i : Nat} {y : Str} (hv : σ[i]? = some (some (.str y))) (hz : y.length ≤ sizeLine) (q : R (.str y) H) : tFmt (tVar i) σ H R := ⟨.str y, hv, .inl ⟨y, rfl, hz, q⟩⟩
end

end M
namespace M
open PySem PySem.Spec PyProof.Rows L2 Evl MS
--@import KE.KExcIs
--@import HandS.ExcIs
--@import HandS.ExcField
/-! isinstance of a caught own exception that has fields -/
def rIsEd (K : PySem.W.Frag) (cls : Value) (d : Option Addr) (D a : Addr) : List V → Hp → VK → Prop := fun xs H Q => cls = .ref D ∧ ∃ dd, d = some dd ∧ (∃ fs, H dd = some (.xd fs)) ∧ rIsE K D a xs H Q
theorem isEd {X : Cx} {a D : Addr} {oe : Obj} {cls : Value} {d : Option Addr} {pn : List (Addr × Obj)} (C : ExcC X.K D) (hz : Zc cls d oe) (hf : ∃ vs, oe.data = .fields vs) :
    CallR (X.suite a ((a, oe) :: pn)) (.builtin "isinstance") (rIsEd X.K cls d D a) := by
  intro pins s σ H xs us Q I r h
  obtain ⟨rfl, dd, rfl, ⟨fs, ea⟩, c, cv, b, rfl, hcv, e, q⟩ := h
  cases r with
  | cons rx rr =>
    cases rr with
    | cons rt rr =>
      cases rr
      cases rx
      have ec := hcv _ rt
      subst ec
      obtain ⟨ha, _⟩ := I.pin (a, oe) (List.mem_append_left _ List.mem_cons_self)
      obtain ⟨vs, hd⟩ := hf
      have hx : ObjOk X.prog X.w H s.heap dd (.xd fs) := I.hok dd _ ea
      obtain ⟨mA, hns, hr⟩ := hx
      obtain ⟨od, ho, hl⟩ := lookIn_ns hns
      have J : PySem.W.InstAt s.heap a oe D (some od) := ⟨ha, hz.1, by unfold PySem.W.notCls; rw [hd] <;> rfl, by rw [hz.2]; exact ho⟩
      obtain ⟨cd, hc, _⟩ := PySem.W.any_some C.hd
      exact PySem.W.kia_one (PySem.W.kitx_exc (by rw [hc]; rfl) C.hg C.hk C.hs C.ha C.hn C.ht C.hm) I.kIn J e (fun z => nomatch z) fun tk => ⟨.bl b, H, I.kept (t' := tk) fun _ _ z => z, rfl, q⟩
theorem kIsEd (K : PySem.W.Frag) {X : Cx} {a D : Addr} {oe : Obj} {cls : Value} {d : Option Addr} {pn : List (Addr × Obj)} (C : ExcC K D) (hz : Zc cls d oe) (hf : ∃ vs, oe.data = .fields vs) (h : X.K = K := by rfl) :
    CallR (X.suite a ((a, oe) :: pn)) (.builtin "isinstance") (rIsEd K cls d D a) := by subst h; exact isEd C hz hf
def excB (K : PySem.W.Frag) (D : Addr) : Bool := He.eqO (PySem.W.findIn K (.ref D) "__getattribute__") (some (some (.builtin "BaseException.__getattribute__"))) && (someNone (PySem.W.findIn K (.ref D) "__getattr__") && (decide (PySem.W.subIn K (.ref D) (.type "BaseException") = some true) && (PySem.W.hasDictIn K D && (He.eqO (PySem.W.findIn K (.ref D) "__class__") (some (some (.builtin "object.__class__"))) && (He.eqO (PySem.W.specialIn K (.builtin "object.__class__") "__get__") (some (some (.builtin "getset_descriptor.__get__"))) && (decide (PySem.W.takesIn K (.builtin "object.__class__") = some true) && decide (PySem.W.mroIn K D (.type "object") = some true)))))))
theorem excB_ok {K : PySem.W.Frag} {D : Addr} (h : excB K D = true) : ExcC K D := by
  unfold excB at h
  simp only [Bool.and_eq_true] at h
  obtain ⟨h1, h2, h3, h4, h5, h6, h7, h8⟩ := h
  exact ⟨He.eqO_ok h1, someNone_ok h2, of_decide_eq_true h3, h4, He.eqO_ok h5, He.eqO_ok h6, of_decide_eq_true h7, of_decide_eq_true h8⟩
theorem r_isEd {K : PySem.W.Frag} {D C a dd : Addr} {b : Bool} {fs : List (Str × V)} {H : Hp} {Q : VK} (g : H dd = some (.xd fs)) (e : PySem.W.kitOne K (.ref D) (.ref C) = some b) (q : Q (.bl b) H) : rIsEd K (.ref D) (some dd) D a [.ref a, .ref C] H Q :=
  ⟨rfl, dd, rfl, ⟨fs, g⟩, .ref C, .ref C, b, rfl, fun u hu => hu, e, q⟩

end M
namespace M
open PySem PySem.Spec PyProof.Rows L2 Evl MS
--@import HandS.FStr
--@import HandS.Text
--@import HandS.Codes
/-! more of texts: +, slices, a sign in a text; own exceptions whose text is an f-string of a number -/
def rAddS : V → V → Hp → VK → Prop := fun x y H Q => ∃ i j, x = .str i ∧ y = .str j ∧ i.length + j.length ≤ sizeLine ∧ Q (.str (i ++ j)) H
theorem xAddS {X : Cx} : OpR X (binaryOp .Add) rAddS := op_add_str
def rSlS1 : V → Option Int → Option Int → Hp → VK → Prop := rSlS
theorem xSlS {X : Cx} : SlR X rSlS1 := sl_str
def rInSg : V → V → Hp → VK → Prop := fun x y H Q => ∃ (c : Nat) (z : Str), x = .str ⟨#[c]⟩ ∧ y = .str z ∧ Q (.bl (decide (c ∈ z.cps.toList))) H
theorem xInSg {X : Cx} : OpR X (compareOp .In) rInSg := op_in_sign
section
variable {H : Hp} {Q : VK}
theorem r_addS {i j : Str} (hz : i.length + j.length ≤ sizeLine) (q : Q (.str (i ++ j)) H) : rAddS (.str i) (.str j) H Q := ⟨i, j, rfl, rfl, hz, q⟩
theorem r_inSg {c : Nat} {z : Str} (q : Q (.bl (decide (c ∈ z.cps.toList))) H) : rInSg (.str ⟨#[c]⟩) (.str z) H Q := ⟨c, z, rfl, rfl, q⟩
theorem cutS_to {z : Str} {k : Nat} : cutS z none (some (k : Int)) = ⟨(z.cps.toList.take k).toArray⟩ := by
  have hl : z.length = z.cps.toList.length := by rw [Array.length_toList]; rfl
  unfold cutS
  rw [HT.sIx_none, HT.sIx_nat, Nat.sub_zero, List.drop_zero, hl]
  by_cases h : k ≤ z.cps.toList.length
  · rw [Nat.min_eq_left h]
  · rw [Nat.min_eq_right (by omega), List.take_length, List.take_of_length_le (by omega)]
theorem cutS_from {z : Str} {k : Nat} : cutS z (some (k : Int)) none = ⟨(z.cps.toList.drop k).toArray⟩ := by
  have hl : z.length = z.cps.toList.length := by rw [Array.length_toList]; rfl
  unfold cutS
  rw [HT.sIx_none, HT.sIx_nat, hl]
  by_cases h : k ≤ z.cps.toList.length
  · rw [Nat.min_eq_left h, List.take_of_length_le (by rw [List.length_drop]; omega)]
  · rw [Nat.min_eq_right (by omega), List.drop_length, List.drop_eq_nil_of_le (by omega)]
    simp
theorem r_slSto {z : Str} {k : Nat} (hz : z.length ≤ sizeLine) (q : Q (.str ⟨(z.cps.toList.take k).toArray⟩) H) : rSlS1 (.str z) none (some (k : Int)) H Q := ⟨z, rfl, hz, by rw [cutS_to]; exact q⟩
theorem r_slSfrom {z : Str} {k : Nat} (hz : z.length ≤ sizeLine) (q : Q (.str ⟨(z.cps.toList.drop k).toArray⟩) H) : rSlS1 (.str z) (some (k : Int)) none H Q := ⟨z, rfl, hz, by rw [cutS_from]; exact q⟩
end
/-- BadText(place): one field, a number -/
def spXN (K : PySem.W.Frag) (D : Addr) (f : Str) : Sp := sp2 fun self v H Q _ => ∃ x C, ∃ n : Int, self = .ref x ∧ v = .int n ∧ -1 ≤ n ∧ n ≤ 10 ^ 9 ∧ H x = some (exo x C none) ∧ OexC K C ∧ XS.SupC K D C ∧ PySem.W.findIn K (.ref C) f = some none ∧
  ∀ dx, H dx = none → dx ≠ x → Q .non (upd (upd H dx (exd dx [(f, v)])) x (exo x C (some dx)))
theorem r_mkON {K : PySem.W.Frag} {C : Addr} {H : Hp} {D : Addr} {f : Str} {n : Int} {Q : XK} (T : OexC K C) (U : XS.SupC K D C) (hf : PySem.W.findIn K (.ref C) f = some none) (h1 : -1 ≤ n) (h2 : n ≤ 10 ^ 9) (h : ∀ d H', H d = none → Ex H H' → H' d = some (.xd [(f, .int n)]) → Q (.ref C) (some d) H') : MkOI C (spXN K D f) [.int n] H Q := by
  obtain ⟨z, k⟩ := r_mkO (v := .int n) T U hf h
  refine ⟨z, fun a na => ?_⟩
  obtain ⟨s, v, e, x, C', h1', h2', h3, h4, h5, h6⟩ := k a na
  cases e
  exact ⟨_, _, rfl, x, C', n, h1', rfl, h1, h2, h2', h3, h4, h5, h6⟩
theorem w_fmtN {σ : L2.St} {H : Hp} {R : VK} {i : Nat} {n : Int} (hv : σ[i]? = some (some (.int n))) (hz : n.natAbs.log2 < 1920) (q : R (.str (toString n)) H) : tFmt (tVar i) σ H R := ⟨.int n, hv, .inr ⟨n, rfl, hz, q⟩⟩
theorem sml_log {n : Int} (h1 : -1 ≤ n) (h2 : n ≤ 10 ^ 9) : n.natAbs.log2 < 1920 := by
  by_cases c : n.natAbs = 0
  · rw [c]; decide
  · rw [Nat.log2_lt c]
    have h31 : n.natAbs < 2147483648 := by omega
    exact Nat.lt_of_lt_of_le h31 (by decide +kernel)
theorem sml_len {n : Int} (h1 : -1 ≤ n) (h2 : n ≤ 10 ^ 9) : (Str.ofString (toString n)).length ≤ 20 := by
  by_cases c : 0 ≤ n
  · obtain ⟨k, rfl⟩ := Int.eq_ofNat_of_zero_le c
    rw [TL.len_tl, TL.tl_num]
    exact Nat.le_trans (TL.numL_len (k := 10) (by decide) (by omega)) (by decide)
  · have : n = -1 := by omega
    subst this
    decide +kernel

end M
namespace M
open PySem PySem.Spec PyProof.Rows L2 Evl MS
--@import HandS.TryMany
/-! try with several clauses 'except C as n' -/
/-- what the clauses wish of an exception of the body, one after the other; slot i is the name's -/
def wMAs (K : PySem.W.Frag) (i : Nat) (Wout : WX) (D : Ends) : List (Value × (Addr → Value → Option Addr → TS)) → WX
  | [] => Wout
  | (c, ts) :: r => wAs K c i ts (wMAs K i Wout D r) D
inductive HdsAs (X : Cx) (n : Str) : List ExceptHandler → List (Value × (Addr → Value → Option Addr → TS)) → Prop
  | nil : HdsAs X n [] []
  | cons {x : Str} {c : Value} {ts : Addr → Value → Option Addr → TS} {b₀ : Stmt} {suite : List Stmt} {np pos' : Pos} {hds : List ExceptHandler} {l : List (Value × (Addr → Value → Option Addr → TS))} (hc : Names X x c)
      (hsu : ∀ (a : Addr) (oe : Obj) (cls : Value) (d : Option Addr) (pn : List (Addr × Obj)), Zc cls d oe → (∃ vs, oe.data = .fields vs) → PSs (X.suite a ((a, oe) :: pn)) (b₀ :: suite) (ts a cls d)) (r : HdsAs X n hds l) :
      HdsAs X n (.ExceptHandler (some (.Name x np)) (some n) (b₀ :: suite) pos' :: hds) ((c, ts) :: l)
section
variable {X : Cx} {n : Str} {i : Nat} {body : List Stmt} {h₀ : ExceptHandler} {hds : List ExceptHandler} {l : List (Value × (Addr → Value → Option Addr → TS))} {pos : Pos} {tb : WX → TS} {Wout : WX}
theorem ps_try_mas (hs : X.stack = X.env :: X.outer) (hf : X.env.frame = some X.env.locals) (hN : X.N.Nodup) (hi : X.N[i]? = some n) (hln : X.env.kindOf n = some .local) (tk : Takes X Wout)
    (hb : ∀ (W : WX) (pn : List (Addr × Obj)) (xe : Value → Shared → Prop), Takes (X.tr pn xe) W → PassesOwn (model X.prog X.w) X.A X.env xe → PSs (X.tr pn xe) body (tb W))
    (hh : HdsAs X n (h₀ :: hds) l) : PS X (.Try body (h₀ :: hds) [] [] pos) (fun D σ H => tb (wMAs X.K i Wout D l) D σ H) := by
  refine ⟨fun pins s σ H D I h => ?_⟩
  have ok := I.ok
  have hfr : X.A.frames = some (X.env :: X.outer) := by rw [ok.frames, hs]
  have hloc : Loc X.env.scope n := .inl hln
  refine wpAny_Try_except (wpAny_mono ((hb (wMAs X.K i Wout D l) (X.pn ++ pins) (fun e s₁ => wpAny (model X.prog X.w) X.A (noteFrame e X.env) (fun _ s₂ => wpAny (model X.prog X.w) X.A (setFlight e none) (fun _ s₃ =>
    wpAny (model X.prog X.w) X.A (handleBy e X.env (h₀ :: hds)) (SP X pins D) X.xe s₃) X.xe s₂) X.xe s₁) (fun u s' xx => ?_) PassesOwn.looking).run [] s σ H D (I.toTry _) h) (fun f s1 hsp => ?_) (fun e s1 he => he))
  · obtain ⟨a, B, sI, pins', σ', H', cls, d, rfl, J', nb, up, sky, na, os, ag, w⟩ := xx
    have J : Inv X pins σ' H' sI := J'.ofTry ok
    refine Sky.land Zc.steady hfr hf (show Sky B (X.env :: X.outer) a (Zc cls d) X.env.locals s'.heap by rw [← hs]; exact sky) fun h3 fl3 up3 => ?_
    have J3 : Inv X pins σ' H' { s' with heap := h3 } := J.landed nb fl3.1 (up.trans up3) os ag
    obtain ⟨oe3, vs3, he3, hz3, hd3⟩ := fl3.there
    have nfr : a ∉ frs (X.env :: X.outer) := fun hm => by
      obtain ⟨_, o', e', hnf⟩ := fl3.2.2.1.mem hm
      rw [he3] at e'
      cases e'
      exact hnf _ hd3
    have nL : a ≠ X.env.locals := fun z => nfr (List.mem_filterMap.mpr ⟨X.env, List.mem_cons_self, by rw [hf, z]⟩)
    have nF : a ∉ X.fs := fun hm => by
      obtain ⟨e, he, q⟩ := List.mem_filterMap.mp hm
      exact nfr (List.mem_filterMap.mpr ⟨e, List.mem_cons_of_mem _ he, q⟩)
    have S3 := J3.suite he3 hd3 na nL nF
    have go : ∀ {hds' : List ExceptHandler} {l' : List (Value × (Addr → Value → Option Addr → TS))}, HdsAs X n hds' l' → wMAs X.K i Wout D l' cls d σ' H' →
        wpAny (model X.prog X.w) X.A (handleBy (.ref a) X.env hds') (SP X pins D) X.xe { s' with heap := h3 } := by
      intro hds' l' hk
      induction hk with
      | nil =>
        intro w
        refine wpAny_handleBy_nil ?_
        obtain ⟨k1, k2, k3, oe, vs, T, oT, ts', he, hz, hd, h1, hr⟩ := id fl3
        unfold PySem.passOn
        refine wpAny_bind (wpAny_field he hd h1 ?_)
        rw [if_neg (show ¬ ((Value.ref T == Value.none) = true) from by simp)]
        have fin : wpAny (model X.prog X.w) X.A (setFlight (.ref a) X.env.frame) (fun _ s4 => wpAny (model X.prog X.w) X.A (throw (.ref a) : Sem Flow) (SP X pins D) X.xe s4) X.xe { s' with heap := h3 } := by
          rw [hf]
          refine HandSPX.setFlight_upZ fl3 fun h4 hh4 up4 => wpAny_throw (tk _ _ ?_)
          exact ⟨a, B, sI, pins, σ', H', cls, d, rfl, J, nb, (up.trans up3).trans up4, .inr (.inr (by rw [hs]; exact hh4)), na, os, ag, w⟩
        first
          | exact wpAny_bind (wpAny_pure (wpAny_bind fin))
          | exact wpAny_bind fin
      | @cons x c ts b₀ suite np pos' hds2 l2 hc hsu r ih =>
        rintro ⟨b, hb1, hyes, hno⟩
        refine wpAny_handleBy_cons (codeAny_handlers_test ?_) (by intro q; cases q)
        have LM := PySem.W.exm_one (M := model X.prog X.w) (h := h3) (J3.kIn) (fun A Q E s k q => wpAny_typeOf_ref (k _ _ he3) (by rw [hz3.1]; exact q)) hb1
        have test : ∀ {Q : Value → Shared → Prop} {E : Value → Shared → Prop}, Q c { s' with heap := h3 } → wpAny (model X.prog X.w) (X.A.mark (some (.ref a))) (eval (.Name x np) X.env) Q E { s' with heap := h3 } := fun {Q E} q => by
          obtain ⟨hg, hdbg, hm | ⟨hm, hv, hnn⟩⟩ := hc
          · exact ld_glob (X := X.suite a ((a, oe3) :: (X.pn ++ pins))) S3 hg hm q hdbg
          · exact ld_blt (X := X.suite a ((a, oe3) :: (X.pn ++ pins))) S3 hg hm hv q hnn hdbg
        refine test (LM.here ?_)
        cases b with
        | false =>
          show wpAny _ X.A (handleBy (.ref a) X.env hds2) _ _ _
          exact ih (hno rfl)
        | true =>
          refine codeAny_handlers_suite_as (HandSPX.lands_againZ fl3 fun h4 fl4 up4 => ?_)
          have J4 : Inv X pins σ' H' { s' with heap := h4 } := J.landed nb fl4.1 ((up.trans up3).trans up4) os ag
          obtain ⟨oe4, vs4, he4, hz4, hd4⟩ := fl4.there
          have S4 := J4.suite he4 hd4 na nL nF
          refine store_ok (X := X.suite a ((a, oe4) :: (X.pn ++ pins))) (v := .ref a) S4 hN hi hloc rfl (fun s5 S5 => ?_) (.inr hln)
          refine wpAny_mono ((hsu a oe4 cls d (X.pn ++ pins) hz4 ⟨_, hd4⟩).run [] s5 _ H' _ S5 (hyes rfl a na)) (fun f s6 hsp => ?_) (fun _ _ z => False.elim z)
          have out : ∀ {σ6 : L2.St} {H6 : Hp} {Q : Shared → Prop}, Inv (X.suite a ((a, oe4) :: (X.pn ++ pins))) [] σ6 H6 s6 → (∀ s7, Inv X pins (σ6.set i none) H6 s7 → Q s7) →
              wpAny (model X.prog X.w) X.A (do bindName X.env n .none; unbindBehindTheSuite X.env n pos') (fun _ s7 => Q s7) X.xe s6 := fun {σ6 H6 Q} S6 hq => gone_ok (S6.unsuite ok) hN hi hln hq
          cases f with
          | ret u =>
            obtain ⟨v6, σ6, H6, S6, r6, q6⟩ := hsp
            exact out S6 fun s7 J7 => ⟨_, _, _, J7, r6, q6⟩
          | next => obtain ⟨σ6, H6, S6, q6⟩ := hsp; exact out S6 fun s7 J7 => ⟨_, _, J7, q6⟩
          | brk => obtain ⟨σ6, H6, S6, q6⟩ := hsp; exact out S6 fun s7 J7 => ⟨_, _, J7, q6⟩
          | cont => obtain ⟨σ6, H6, S6, q6⟩ := hsp; exact out S6 fun s7 J7 => ⟨_, _, J7, q6⟩
    exact go hh w
  · cases f with
    | ret u => obtain ⟨v, σ', H', J', r, q⟩ := hsp; exact ⟨v, σ', H', J'.ofTry ok, r, q⟩
    | next => obtain ⟨σ', H', J', q⟩ := hsp; exact wpAny_execs_nil ⟨σ', H', J'.ofTry ok, q⟩
    | brk => obtain ⟨σ', H', J', q⟩ := hsp; exact ⟨σ', H', J'.ofTry ok, q⟩
    | cont => obtain ⟨σ', H', J', q⟩ := hsp; exact ⟨σ', H', J'.ofTry ok, q⟩
end
/-- try: .. except c as n: .. except c2 as n: .. -/
def tTryAs2 (K : PySem.W.Frag) (c c2 : Value) (i : Nat) (ts ts2 : Addr → Value → Option Addr → TS) (tb : WX → TS) : TS := fun D σ H => tb (wMAs K i (fun _ _ _ _ => False) D [(c, ts), (c2, ts2)]) D σ H
section
variable {K : PySem.W.Frag} {σ : L2.St} {H : Hp}
theorem w_tryAs2 {c c2 : Value} {i : Nat} {ts ts2 : Addr → Value → Option Addr → TS} {tb : WX → TS} {D : Ends} (h : tb (wMAs K i (fun _ _ _ _ => False) D [(c, ts), (c2, ts2)]) D σ H) : tTryAs2 K c c2 i ts ts2 tb D σ H := h
theorem w_mas1 {c : Value} {i : Nat} {ts : Addr → Value → Option Addr → TS} {l : List (Value × (Addr → Value → Option Addr → TS))} {D : Ends} {cls : Value} {d : Option Addr} (e : PySem.W.exmOne K cls c = some true)
    (h : ∀ a, H a = none → ts a cls d { nx := fun σ' H' => D.nx (σ'.set i none) H', rt := D.rt, bk := fun σ' H' => D.bk (σ'.set i none) H', ct := fun σ' H' => D.ct (σ'.set i none) H' } (σ.set i (some (.ref a))) H) : wMAs K i (fun _ _ _ _ => False) D ((c, ts) :: l) cls d σ H :=
  ⟨true, e, fun _ => h, fun z => by cases z⟩
theorem w_mas0 {c : Value} {i : Nat} {ts : Addr → Value → Option Addr → TS} {l : List (Value × (Addr → Value → Option Addr → TS))} {D : Ends} {cls : Value} {d : Option Addr} (e : PySem.W.exmOne K cls c = some false)
    (h : wMAs K i (fun _ _ _ _ => False) D l cls d σ H) : wMAs K i (fun _ _ _ _ => False) D ((c, ts) :: l) cls d σ H :=
  ⟨false, e, (fun z => nomatch z), fun _ => h⟩
end
section
variable {X : Cx} {x x2 n : Str} {c c2 : Value} {i : Nat} {body suite suite2 : List Stmt} {b₀ b₂ : Stmt} {np np2 pos pos' pos2 : Pos} {tb : WX → TS} {ts ts2 : Addr → Value → Option Addr → TS}
theorem ptryas2 (K : PySem.W.Frag) (hs : X.stack = X.env :: X.outer) (hf : X.env.frame = some X.env.locals) (hN : X.N.Nodup) (hi : X.N[i]? = some n) (hln : X.env.kindOf n = some .local) (hc : Names X x c) (hc2 : Names X x2 c2)
    (hb : ∀ (W : WX) (pn : List (Addr × Obj)) (xe : Value → Shared → Prop), Takes (X.tr pn xe) W → PSs (X.tr pn xe) body (tb W))
    (hsu : ∀ (a : Addr) (oe : Obj) (cls : Value) (d : Option Addr) (pn : List (Addr × Obj)), Zc cls d oe → (∃ vs, oe.data = .fields vs) → PSs (X.suite a ((a, oe) :: pn)) (b₀ :: suite) (ts a cls d))
    (hsu2 : ∀ (a : Addr) (oe : Obj) (cls : Value) (d : Option Addr) (pn : List (Addr × Obj)), Zc cls d oe → (∃ vs, oe.data = .fields vs) → PSs (X.suite a ((a, oe) :: pn)) (b₂ :: suite2) (ts2 a cls d)) (hK : X.K = K := by rfl) :
    PS X (.Try body [.ExceptHandler (some (.Name x np)) (some n) (b₀ :: suite) pos', .ExceptHandler (some (.Name x2 np2)) (some n) (b₂ :: suite2) pos2] [] [] pos) (tTryAs2 K c c2 i ts ts2 tb) := by
  subst hK
  exact ps_try_mas hs hf hN hi hln takes_none5 (fun W pn xe tk _ => hb W pn xe tk) (.cons hc hsu (.cons hc2 hsu2 .nil))
end
/-! defs that let exceptions out, called by name -/
theorem Fn.mkX {P : Program} {w : World} {K : PySem.W.Frag} {mg : Str → Option Value} {base : Heap} {x qual : Str} {params : Arguments} {body : List Stmt} {scope : Scope} {f : Addr} {fd : FuncData} {N ps : List Str} {k : Nat} {sp : Sp}
    (F : FunD K x qual params body scope [] [] f fd) (hm : mg x = some (.ref f)) (S : FnScope N ps scope) (len : ∀ vs H Q E, sp vs H Q E → vs.length = ps.length)
    (hb : ∀ (kV doc pm : Value) (an : Option Addr) (cdv ct : Value) (us : List Value), us.length = ps.length → bindArgs (PySem.W.fnOf x qual params body scope .none kV doc pm an cdv ct) ⟨us, []⟩ = pure (ps.zip us))
    (hbody : ∀ (cdv : Value) (A : Around) (outer : List Env) (s : Shared) (H : Hp) (vs : List V) (Q : VK) (E : XK), Room k (A.deeper (envOfC qual scope s.heap.objs.size f cdv)) → sp vs H Q E →
      Takes (cxOf (L2.CX P w) P w K mg base N qual scope f cdv A outer s H E) (fun cls d _ H => E cls d H) →
      ∃ t, PSs (cxOf (L2.CX P w) P w K mg base N qual scope f cdv A outer s H E) body t ∧ t { nx := fun _ H' => Q .non H', rt := Q } (start N vs) H) :
    Fn P w K mg base (L2.CX P w) (k + 1) x sp := ⟨f, fd, ps, fnokX F S len hbody, hm, F.kp, F.bindsN hb⟩
def tCallS (sp : Sp) (W : WX) (t : TA) : TE := fun σ H Q => t σ H fun vs H1 => sp vs H1 Q (WE W σ)
theorem pcS {X : Cx} {k j : Nat} {x : Str} {sp : Sp} {W : WX} {p pos : Pos} {e : Expr} {es : List Expr} {t : TA} (c : Fn X.prog X.w X.K X.mg X.base (L2.CX X.prog X.w) k x sp) (hr : Room j X.A) (hk : k ≤ j) (tk : Takes X W) (hg : Gl X x) (ha : PA X (e :: es) t)
    (hdb : (x == ("__debug__" : Str)) = false := by decide) (he : starEach (e :: es) X.env = (false, eval e X.env) :: starEach es X.env := by rfl) (hpl : (backTo pos (starEach es X.env)).any (·.1) = false := by rfl) :
    PE X (.Call (.Name x p) (e :: es) [] pos) (tCallS sp W t) := by
  obtain ⟨f, fd, ps, F, hm, hkp, hb⟩ := c.ex
  refine ⟨fun pins s σ H Q I h => ?_⟩
  refine wpAny_Call_Name_kw (ld_glob I hg hm ?_ hdb)
  refine PySem.W.callWith_K (h₀ := X.base) I.ok.mod.kin hkp (thn (ha.run pos pins s σ H _ I h) fun us s1 ⟨vs, H1, I1, r, q⟩ => ⟨I1.kIn, ?_⟩) he hpl
  exact run_fnS (E := WE W) F (hr.mono hk) hb (passAt tk σ) I1 r q
theorem w_callS {sp : Sp} {W : WX} {t : TA} {σ : L2.St} {H : Hp} {Q : VK} (h : t σ H fun vs H1 => sp vs H1 Q (WE W σ)) : tCallS sp W t σ H Q := h
/-- a list unpacked -/
theorem kGunl {X : Cx} {K : PySem.W.Frag} {es : List Expr} {k : Nat} {t : TGs} {n : Nat} {pos : Pos} (hc : X.calm = true) (h : PGs X es t)
    (hn : (assignEach es X.env).length = n := by rfl) (hst : (assignEach es X.env).findIdx? (·.1) = none := by rfl) (hK : X.K = K := by rfl) : PG X (.Tuple es k pos) (gLst K n t) := by subst hK; exact pg_lst hc h hn hst
theorem w_glst {K : PySem.W.Frag} {σ : L2.St} {H : Hp} {n : Nat} {t : TGs} {a : Addr} {xs : List V} {Q : L2.St → Hp → Prop} (hs : SqL K H a xs) (hl : xs.length = n) (h : t xs σ H Q) : gLst K n t (.ref a) σ H Q := ⟨a, xs, rfl, hs, hl, h⟩
/-- a for over enumerate(list) -/
theorem for_enumL {K : PySem.W.Frag} {a : Addr} {xs : List V} {g : TG} {tb : TS} {D : Ends} {σ : L2.St} {H : Hp} (Pv : Nat → L2.St → Hp → Prop) (h0 : Pv 0 σ H) (hl : ∀ i σ H, i ≤ xs.length → Pv i σ H → SqL K H a xs)
    (hs : ∀ i x σ H T, xs[i]? = some x → Pv i σ H → H T = none → g (.ref T) σ (upd H T (.tup [.int (i : Nat), x])) fun σ2 H2 => tb { D with nx := Pv (i + 1), ct := Pv (i + 1), bk := D.nx } σ2 H2) (hd : ∀ σ H, Pv xs.length σ H → D.nx σ H) : ForJ (Ite K a) g tb D σ H := by
  refine for_it (walk_enum (K := K) (a := a) (xs := xs)) Pv h0 hl ?_ hd
  rintro i v σ H H' hi p ⟨T, x, y, rfl, hT, rfl, hx, hy⟩
  cases hx
  exact hs i y σ H T hy p hT
theorem i_enumL {K : PySem.W.Frag} {ta : TA} {σ : L2.St} {H : Hp} {R : It → Hp → Prop} (h : ta σ H fun vs H1 => ∃ a xs, vs = [.ref a] ∧ SqL K H1 a xs ∧ R (Ite K a) H1) : iEnum K ta σ H R := h
/-! lists of pairs (text, number) -/
inductive Prs (K : PySem.W.Frag) (H : Hp) : List V → List (Str × Int) → Prop
  | nil : Prs K H [] []
  | cons {a : Addr} {n : Str} {m : Int} {vs : List V} {rs : List (Str × Int)} (h : SqT K H a [.str n, .int m]) (r : Prs K H vs rs) : Prs K H (.ref a :: vs) ((n, m) :: rs)
section
variable {K : PySem.W.Frag} {H H' : Hp} {vs : List V} {rs : List (Str × Int)}
theorem Prs.len (p : Prs K H vs rs) : vs.length = rs.length := by
  induction p with
  | nil => rfl
  | cons _ _ ih => rw [List.length_cons, List.length_cons, ih]
theorem Prs.map (f : ∀ a xs, SqT K H a xs → SqT K H' a xs) (p : Prs K H vs rs) : Prs K H' vs rs := by
  induction p with
  | nil => exact .nil
  | cons h _ ih => exact .cons (f _ _ h) ih
theorem Prs.ex (e : Ex H H') (p : Prs K H vs rs) : Prs K H' vs rs := p.map fun _ _ => ex_t e
theorem st_updL {p : Addr} {xs ys : List V} (hp : H p = some (.lst xs)) : ∀ a zs, SqT K H a zs → SqT K (upd H p (.lst ys)) a zs := by
  intro a zs s
  rcases s with (s | ⟨o', s⟩) | s
  · refine .inl (.inl ?_)
    rw [upd_ne (fun e => by subst e; rw [hp] at s; cases s)]
    exact s
  · refine .inl (.inr ⟨o', ?_⟩)
    rw [upd_ne (fun e => by subst e; rw [hp] at s; cases s)]
    exact s
  · exact .inr s
theorem Prs.updL {p : Addr} {xs ys : List V} (hp : H p = some (.lst xs)) (q : Prs K H vs rs) : Prs K (upd H p (.lst ys)) vs rs := q.map (st_updL hp)
theorem Prs.app {vs2 : List V} {rs2 : List (Str × Int)} (p : Prs K H vs rs) (q : Prs K H vs2 rs2) : Prs K H (vs ++ vs2) (rs ++ rs2) := by
  induction p with
  | nil => exact q
  | cons h _ ih => exact .cons h ih
theorem Prs.one {a : Addr} {n : Str} {m : Int} (h : SqT K H a [.str n, .int m]) : Prs K H [.ref a] [(n, m)] := .cons h .nil
theorem Prs.get (p : Prs K H vs rs) : ∀ {i : Nat} {v : V}, vs[i]? = some v → ∃ a n m, v = .ref a ∧ rs[i]? = some (n, m) ∧ SqT K H a [.str n, .int m] := by
  induction p with
  | nil => intro i v h; cases h
  | @cons a n m vs rs hh _ ih =>
    intro i v h
    cases i with
    | zero => cases h; exact ⟨a, n, m, rfl, rfl, hh⟩
    | succ i => exact ih h
theorem Prs.at_ (p : Prs K H vs rs) : ∀ {i : Nat} {n : Str} {m : Int}, rs[i]? = some (n, m) → ∃ a, vs[i]? = some (.ref a) ∧ SqT K H a [.str n, .int m] := by
  induction p with
  | nil => intro i n m h; cases h
  | @cons a n m vs rs hh _ ih =>
    intro i n' m' h
    cases i with
    | zero => cases h; exact ⟨a, rfl, hh⟩
    | succ i => exact ih h
/-- a comprehension over a list of pairs -/
theorem lcJ_prs {Q : VK} {a : Addr} {g : TG} {te : TE} {ws : List Nat} {σ : L2.St} (f : Str → Int → V) (hx : SqL K H a vs) (hp : Prs K H vs rs) (hn : rs.length ≤ 100000) (σ' : Str → Int → L2.St) (hw : ∀ n m, wipe (σ' n m) ws = wipe σ ws)
    (hg : ∀ (n : Str) (m : Int) (b : Addr) (H1 : Hp) (R : L2.St → Hp → Prop), SqT K H1 b [.str n, .int m] → R (σ' n m) H1 → g (.ref b) (wipe σ ws) H1 R)
    (he : ∀ (n : Str) (m : Int) (H1 : Hp) (Q' : VK), Ex H H1 → (n, m) ∈ rs → (∀ H2, Ex H1 H2 → Q' (f n m) H2) → te (σ' n m) H1 Q')
    (hq : ∀ p H2, H p = none → Ex H H2 → H2 p = some (.lst (rs.map fun r => f r.1 r.2)) → Q (.ref p) H2) : LcJ (Itl K a) g tYes te ws σ H Q := fun D hD => by
  have hl := hp.len
  refine lc_it (walk_list (K := K) (a := a) (xs := vs)) (Pv := fun i H' => Ex H H' ∧ H' D = some (.lst ((rs.take i).map fun r => f r.1 r.2))) ⟨Ex.new hD, upd_same⟩ (fun i H' _ p => ex_l p.1 hx) ?_ (fun H' p => hq D H' hD p.1 (by rw [hl, List.take_length] at p; exact p.2))
  rintro i x H1 H' hi ⟨e1, p1⟩ ⟨rfl, hv⟩
  obtain ⟨b, n, m, rfl, hr, hb⟩ := hp.get hv
  refine hg n m b H' _ (ex_t e1 hb) ⟨hw n m, ?_⟩
  show te (σ' n m) H' _
  refine he n m H' _ e1 (List.mem_of_getElem? hr) fun H2 e2 => ⟨_, e2 D _ p1, sz_lt (by rw [List.length_map, List.length_take]; omega), Ex.mut (e1.trans e2) hD, ?_⟩
  rw [List.take_add_one, hr, List.map_append]
  exact upd_same
end

end M
namespace M
open PySem PySem.Spec PyProof.Rows L2 Evl MS
--@import PyProof.Draws
--@import PyProof.EnumMake
--@import PyProof.TupleIter
--@import KE.GoesMore
--@import HandS.Iter
--@import HandS.Walk
/-! enumerate of a tuple -/
section
open AutoSeq1 (wpAny_loadPart')
set_option maxHeartbeats 1000000 in
theorem meets_enumerate_newT (l : Addr) (items : Array Value) (n : Nat) (dct : Option Addr) (sl : Array (Option Value)) :
    Meets (Builtin.«enumerate.__new__» ⟨[.type "enumerate", .ref l], []⟩) (fun _ R s => s.heap.get? l = some { cls := .type "tuple", dict := dct, data := .seq items n, slots := sl } ∧
      R (.ok (.ret (.ref (s.heap.push { cls := .type "tuple_iterator", data := .fields #[.ref l, .int 0 0] }).objs.size)))
        { s with heap := (s.heap.push { cls := .type "tuple_iterator", data := .fields #[.ref l, .int 0 0] }).push { cls := .type "enumerate", data := .fields #[.none, .bool false, .ref s.heap.objs.size, rawInt 0, .none, .none] } }) :=
  .of_wp fun prog w A R s h => by
    obtain ⟨hp, g, d, tk, os⟩ := s
    obtain ⟨hl, h⟩ := h
    have hsub := sub_enumerate
    have hL : Heap.IsTuple (Shared.heap ⟨hp, g, d, tk, os⟩) l items := ⟨_, hl, rfl, n, rfl⟩
    wp_walk using wpAny_loadPart' hl
    refine wpAny_stack_any fun st => wpAny_pure ?_
    split
    · rename_i c _ _ _ _ _
      cases (c == Value.type "enumerate")
      · wp_walk using wpAny_loadPart' hl, wpAny_pyIter_tuple hL
        exact ⟨_, rfl, h⟩
      · wp_walk using wpAny_loadPart' hl, wpAny_pyIter_tuple hL
        exact ⟨_, rfl, h⟩
    · wp_walk using wpAny_loadPart' hl, wpAny_pyIter_tuple hL
      exact ⟨_, rfl, h⟩
end
theorem call_enumerate_tuple {prog : Program} {w : World} {A : Around} {E : Value → Shared → Prop} {s : Shared} {l : Addr} {items : Array Value} {Q : Value → Shared → Prop} (hL : s.heap.IsTuple l items)
    (h : ∀ h', IsEnum h' (s.heap.objs.size + 1) s.heap.objs.size 0 .none → h'.IsTupleIter s.heap.objs.size l 0 → (∀ b o, s.heap.get? b = some o → h'.get? b = some o) → Q (.ref (s.heap.objs.size + 1)) { s with heap := h' }) :
    wpAny (model prog w) A (call (.type "enumerate") [.ref l]) Q E s := by
  obtain ⟨⟨c, dct, dt, sl⟩, hl, hc, n, hd⟩ := hL
  replace hc : c = .type "tuple" := hc
  replace hd : dt = .seq items n := hd
  subst hc hd
  refine callType_new F.called_enumerate (by decide) (F.typeCall_enumerate_1 _) (F.newCall_enumerate_1 _) (fun obj => F.args_object_init_2 obj _) F.entry_enumerate_new
    (meets_enumerate_newT l items n dct sl) ⟨hl, ?_⟩
  have hz : (s.heap.push { cls := .type "tuple_iterator", data := .fields #[.ref l, .int 0 0] }).objs.size = s.heap.objs.size + 1 := Heap.size_push ..
  show _ ∧ _
  rw [hz]
  have he : IsEnum ((s.heap.push { cls := .type "tuple_iterator", data := .fields #[.ref l, .int 0 0] }).push
      { cls := .type "enumerate", data := .fields #[.none, .bool false, .ref s.heap.objs.size, rawInt 0, .none, .none] }) (s.heap.objs.size + 1) s.heap.objs.size 0 .none := by
    have := Heap.get?_push_size (s.heap.push { cls := .type "tuple_iterator", data := .fields #[.ref l, .int 0 0] })
      (o := { cls := .type "enumerate", data := .fields #[.none, .bool false, .ref s.heap.objs.size, rawInt 0, .none, .none] }) rfl
    rw [hz] at this; exact this
  exact ⟨⟨_, he, rfl⟩, h _ he ⟨_, Heap.get?_push_of_some _ (Heap.get?_push_size _ rfl), rfl, rfl⟩ fun b o x => Heap.get?_push_of_some _ (Heap.get?_push_of_some _ x)⟩
theorem drawsT {prog : Program} {w : World} {A : Around} (hh : A.handled = none) (it l : Addr) (hne : l ≠ it) (items : Array Value) :
    Draws prog w A it [it, l] items.size (fun i v => items[i]? = some v) (fun i h => h.IsTupleIter it l i ∧ h.IsTuple l items) where
  live := fun _ _ st => let ⟨o, ho, _⟩ := st.1; ⟨o, ho⟩
  frame := fun _ _ _ st hk => ⟨st.1.at fun o e => hk it (by simp) o e, let ⟨o, ho, r⟩ := st.2; ⟨o, hk l (by simp) o ho, r⟩⟩
  item := fun i s Q E hi st hQ => by
    refine wpAny_nextOf_tuple_item st.1 st.2 (x := items[i]) (by simp [hi]) fun h' hit' hs' => ?_
    exact hQ _ h' s.toks (by simp [hi]) ⟨hit', st.2.extBut hs'.extBut hne⟩ hs'
  done := fun s Q E st hE => wpAny_nextOf_tuple_end hh st.1 st.2 (by simp) hE
/-- the tuple at a, each item in a new pair -/
def IteT (K : PySem.W.Frag) (a : Addr) : It :=
  ⟨fun i H => ∃ (xs : List V) (x : V), SqT K H a xs ∧ xs[i]? = some x, fun i H v H' => ∃ T x, v = .ref T ∧ H T = none ∧ H' = upd H T (.tup [.int (i : Nat), x]) ∧ ∀ xs, SqT K H a xs → xs[i]? = some x, fun i H => ∃ xs : List V, SqT K H a xs ∧ xs.length ≤ i⟩
theorem turn_enumT {P : Program} {w : World} {K : PySem.W.Frag} {elts : List Expr} {kk : Nat} {tpos : Pos} (a e it : Addr) (xs0 : List V) (items : Array Value) :
    Turn P w K (.Tuple elts kk tpos) (IteT K a) [e, it] e (fun i h => (∃ old, IsEnum h e it ((i : Nat) : Int) old) ∧ h.IsTupleIter it a i ∧ e ≠ it) where
  mem := by simp
  obj := fun i h st b hb => by
    obtain ⟨⟨old, he⟩, ⟨o, ho, hc, hd⟩, _⟩ := st
    have e' : b = e ∨ b = it := by simpa using hb
    rcases e' with z | z
    · rw [z]; exact ⟨_, he, fun v q => nomatch q⟩
    · rw [z]; exact ⟨o, ho, fun v q => by rw [hd] at q; cases q⟩
  keep := fun i h h' st k => let ⟨⟨old, he⟩, hi, hne⟩ := st; ⟨⟨old, k e (by simp) _ he⟩, hi.at fun o q => k it (by simp) o q, hne⟩
  item := by
    intro X hP hw hK hc i pins s σ H E I hf st hg
    subst hP hw hK
    obtain ⟨⟨old, he⟩, hit, hne⟩ := st
    obtain ⟨xs, x, hq, hx⟩ := hg
    obtain ⟨its, rv, p, hz⟩ := I.tuple hq
    obtain ⟨u, hu, ru⟩ := rv.get hx
    have hel : e < s.heap.objs.size := Heap.lt_size he
    have hil : it < s.heap.objs.size := by obtain ⟨_, q, _⟩ := hit; exact Heap.lt_size q
    have hia : a ≠ it := by
      rintro rfl
      obtain ⟨o1, h1, c1, _⟩ := hit
      obtain ⟨o2, h2, c2, _⟩ := p
      rw [h1] at h2
      cases h2
      rw [c1] at c2
      exact absurd c2 (by decide)
    have hea : e ≠ a := by
      rintro rfl
      obtain ⟨o2, h2, c2, n2, d2⟩ := p
      have h1 := he
      unfold IsEnum at h1
      rw [h1] at h2
      cases h2
      exact nomatch (show Value.type "enumerate" = Value.type "tuple" from c2)
    have hlt : i < its.toArray.size := by
      have := (List.getElem?_eq_some_iff.mp hu).1
      simpa using this
    refine wpAny_pyNext_enum_itemD (drawsT (show X.A.in1.handled = none from I.ok.hd hc) it a hia its.toArray) he ⟨hit, p⟩ hlt hne (by simp; exact ⟨hne, hea⟩) fun u' h' tk hP ho st' hT hsz hk => ?_
    obtain ⟨hit', _⟩ := st'
    have eu : u' = u := by
      have h1 : its.toArray[i]? = some u := by simpa using hu
      rw [h1] at hP
      exact (Option.some.inj hP).symm
    subst eu
    refine ⟨_, rfl, wpAny_letOwnedTupleGo_enum (s := { s with heap := h', toks := tk + 1 }) ho fun h'' he' sb => ?_⟩
    have hT2 : h''.get? s.heap.objs.size = some { cls := .type "tuple", data := .seq #[.int i tk, u'] } := (sb.2 _ (Nat.ne_of_gt hel)).trans hT
    have new : ObjOk X.prog X.w (upd H s.heap.objs.size (.tup [.int (i : Nat), x])) h'' s.heap.objs.size (.tup [.int (i : Nat), x]) :=
      ⟨by show 2 ≤ sizeLine; decide, [.int i tk, u'], .cons ⟨_, rfl⟩ (.cons ru .nil), ⟨_, hT2, rfl, _, rfl⟩⟩
    have I1 : Inv X pins σ (upd H s.heap.objs.size (.tup [.int (i : Nat), x])) { s with heap := h'', toks := tk + 1 } :=
      I.turnedNew (ch := [e, it]) (fun b ob hb q => (sb.2 b (fun z => hb (by simp [z]))).trans (hk b ob (fun z => hb (by simp [z])) (fun z => hb (by simp [z])) q)) hf (Nat.le_refl _) new
    refine ⟨.ref s.heap.objs.size, _, I1, rfl, ⟨_, x, rfl, I.hok.fresh (Nat.le_refl _), rfl, fun ys hy => by rw [I.tuple_inj hy hq]; exact hx⟩, ⟨⟨u', ?_⟩, hit'.at fun o q => (sb.2 it (Ne.symm hne)).trans q, hne⟩, fun b hb => ?_⟩
    · have e1 : ((i + 1 : Nat) : Int) = (i : Int) + 1 := by omega
      rw [e1]; exact he'
    · have hb' : b < s.heap.objs.size := by
        have e' : b = e ∨ b = it := by simpa using hb
        rcases e' with z | z
        · rw [z]; exact hel
        · rw [z]; exact hil
      rw [upd_ne (Nat.ne_of_lt hb')]
      exact (hf b hb).1
  done := by
    intro X hP hw hK hc i pins s σ H E I hf st hg
    subst hP hw hK
    obtain ⟨⟨old, he⟩, hit, hne⟩ := st
    obtain ⟨xs, hq, hx⟩ := hg
    obtain ⟨its, rv, p, hz⟩ := I.tuple hq
    obtain ⟨f0, f1, f2, f3, f4, f5⟩ := hf it (by simp)
    have hl := rv.length
    have hT : s.TypeIs (.ref e) "enumerate" := ⟨_, he, rfl⟩
    have hn : its.toArray[i]? = none := Array.getElem?_eq_none (by simp; omega)
    have fin : ∀ h', Heap.ExtBut it s.heap h' → Inv X pins σ H { s with heap := h' } := fun h' eb => I.turned (t' := s.toks) (fun b o hb q => eb b o hb q) f0 f1 f3 f4 f5
    unfold pyNext
    refine wpAny_bind (wpAny_attempt (wpAny_callSpecial?_slot (name := Str.ofString "__next__") hT F.slot_enumerate_next
      (wpAny_call_entry F.slot_enumerate_next hT F.entry_enumerate_next ?_ (F.args_enumerate_next_1 _))))
    show wpAny _ _ (field (.ref e) 2 >>= _) _ _ _
    refine wpAny_bind (wpAny_field he rfl (x := .ref it) rfl ?_)
    refine wpAny_bind (wpAny_nextOf_tuple_end (I.ok.hd hc) hit p hn fun h' z he' hx' => ?_)
    obtain ⟨o, ho, hc'⟩ := hx'
    refine wpAny_bind (wpAny_isInstance (T := "StopIteration") (b := true) ⟨o, ho, hc'⟩ isSubtype_stop ?_)
    exact wpAny_pure ⟨rfl, fin h' he'⟩
  self := fun A i s Q E st h => let ⟨⟨_, he⟩, _⟩ := st; wpAny_pyIter_enum he h
/-- enumerate of a list or a tuple -/
def iEnumE (K : PySem.W.Frag) (ta : TA) : TI := fun σ H R => ta σ H fun vs H1 => ∃ a xs, vs = [.ref a] ∧ ((SqL K H1 a xs ∧ R (Ite K a) H1) ∨ (SqT K H1 a xs ∧ R (IteT K a) H1))
theorem pi_enumE {X : Cx} (K : PySem.W.Frag) {e : Expr} {ta : TA} {p pos tpos : Pos} {elts : List Expr} {kk : Nat} (hg : Gl X "enumerate") (hm : X.mg "enumerate" = none) (ha : PA X [e] ta) (hs : starEach [e] X.env = [(false, eval e X.env)] := by rfl) (hK : X.K = K := by rfl) :
    PI X (.Tuple elts kk tpos) (.Call (.Name "enumerate" p) [e] [] pos) (iEnumE K ta) := by
  subst hK
  refine ⟨fun pins s σ H R I h => ?_⟩
  refine Call_ (ld_blt I hg hm boot_enumerate (PyProof.Rows.callWith_type1 (thn (ha.run pos pins s σ H _ I h) fun us s1 ⟨vs, H1, I1, r1, q1⟩ => ?_) hs rfl))
  obtain ⟨a, xs, ex, q⟩ := q1
  subst ex
  cases r1 with
  | cons r rr =>
    cases rr
    cases r
    have hle : ∀ b, b ∈ [s1.heap.objs.size + 1, s1.heap.objs.size] → s1.heap.objs.size ≤ b := fun b hb => by
      have e' : b = s1.heap.objs.size + 1 ∨ b = s1.heap.objs.size := by simpa using hb
      rcases e' with z | z
      · rw [z]; exact Nat.le_add_right _ _
      · rw [z]; exact Nat.le_refl _
    rcases q with ⟨hq, q⟩ | ⟨hq, q⟩
    · obtain ⟨its, rv, p', hz⟩ := I1.list hq
      refine call_enumerate_list p'.isList fun h' he hit hsz hk => wpAny_pyIter_enum he ?_
      exact ⟨s1.heap.objs.size + 1, [s1.heap.objs.size + 1, s1.heap.objs.size], _, _, H1, rfl, I1.kept (t' := s1.toks) hk, turn_enum a (s1.heap.objs.size + 1) s1.heap.objs.size, ⟨⟨.none, he⟩, hit, Nat.succ_ne_self _⟩, fun b hb => I1.fpOk (hle b hb) (I1.hok.fresh (hle b hb)), q⟩
    · obtain ⟨its, rv, p', hz⟩ := I1.tuple hq
      refine call_enumerate_tuple p' fun h' he hit hk => wpAny_pyIter_enum he ?_
      exact ⟨s1.heap.objs.size + 1, [s1.heap.objs.size + 1, s1.heap.objs.size], _, _, H1, rfl, I1.kept (t' := s1.toks) hk, turn_enumT a (s1.heap.objs.size + 1) s1.heap.objs.size [] #[], ⟨⟨.none, he⟩, hit, Nat.succ_ne_self _⟩, fun b hb => I1.fpOk (hle b hb) (I1.hok.fresh (hle b hb)), q⟩
/-- a for over enumerate(tuple) -/
theorem for_enumT {K : PySem.W.Frag} {a : Addr} {xs : List V} {g : TG} {tb : TS} {D : Ends} {σ : L2.St} {H : Hp} (Pv : Nat → L2.St → Hp → Prop) (h0 : Pv 0 σ H) (hl : ∀ i σ H, i ≤ xs.length → Pv i σ H → SqT K H a xs)
    (hs : ∀ i x σ H T, xs[i]? = some x → Pv i σ H → H T = none → g (.ref T) σ (upd H T (.tup [.int (i : Nat), x])) fun σ2 H2 => tb { D with nx := Pv (i + 1), ct := Pv (i + 1), bk := D.nx } σ2 H2) (hd : ∀ σ H, Pv xs.length σ H → D.nx σ H) : ForJ (IteT K a) g tb D σ H := by
  refine for_it (J := IteT K a) (n := xs.length) (G := fun H => SqT K H a xs) (Y := fun i H v H' => ∃ T x, v = .ref T ∧ H T = none ∧ H' = upd H T (.tup [.int (i : Nat), x]) ∧ xs[i]? = some x)
    ⟨fun i H hi h => ⟨xs, xs[i], h, List.getElem?_eq_getElem hi⟩, fun H h => ⟨xs, h, Nat.le_refl _⟩, fun i H x H' hi h y => by obtain ⟨T, z, e1, e2, e3, e4⟩ := y; exact ⟨T, z, e1, e2, e3, e4 xs h⟩⟩ Pv h0 hl ?_ hd
  rintro i v σ H H' hi p ⟨T, x, rfl, hT, rfl, hx⟩
  exact hs i x σ H T hx p hT

end M
namespace M
open PySem PySem.Spec PyProof.Rows L2 Evl MS
def top (i : Nat) : Stmt := PySem.Challenge.pw_rosterneed_k28_whole_makers_of_tables.main.body.getD i (.Pass ⟨0, 0, 0, 0⟩)
def mainFile : Str := PySem.Challenge.pw_rosterneed_k28_whole_makers_of_tables.main.file
abbrev s_is_integer : Stmt := top 14
def d_is_integer : DX := ⟨fun K => He.ga K "is_integer", "is_integer", "is_integer", defArgs s_is_integer, defBody s_is_integer, defScope s_is_integer, [], false⟩
abbrev s_is_count : Stmt := top 15
def d_is_count : DX := ⟨fun K => He.ga K "is_count", "is_count", "is_count", defArgs s_is_count, defBody s_is_count, defScope s_is_count, [], false⟩
abbrev s_is_listed : Stmt := top 16
def d_is_listed : DX := ⟨fun K => He.ga K "is_listed", "is_listed", "is_listed", defArgs s_is_listed, defBody s_is_listed, defScope s_is_listed, [], false⟩
abbrev s_is_counts : Stmt := top 17
def d_is_counts : DX := ⟨fun K => He.ga K "is_counts", "is_counts", "is_counts", defArgs s_is_counts, defBody s_is_counts, defScope s_is_counts, [], false⟩
abbrev s_deep : Stmt := top 18
def d_deep : DX := ⟨fun K => He.ga K "deep", "deep", "deep", defArgs s_deep, defBody s_deep, defScope s_deep, [], false⟩
abbrev s_at_most : Stmt := top 19
def d_at_most : DX := ⟨fun K => He.ga K "at_most", "at_most", "at_most", defArgs s_at_most, defBody s_at_most, defScope s_at_most, [], false⟩
abbrev s_common_divisor : Stmt := top 22
def d_common_divisor : DX := ⟨fun K => He.ga K "common_divisor", "common_divisor", "common_divisor", defArgs s_common_divisor, defBody s_common_divisor, defScope s_common_divisor, [], false⟩
abbrev s_common_multiple : Stmt := top 23
def d_common_multiple : DX := ⟨fun K => He.ga K "common_multiple", "common_multiple", "common_multiple", defArgs s_common_multiple, defBody s_common_multiple, defScope s_common_multiple, [], false⟩
abbrev s_end_of : Stmt := top 25
def d_end_of : DX := ⟨fun K => He.ga K "end_of", "end_of", "end_of", defArgs s_end_of, defBody s_end_of, defScope s_end_of, [], false⟩
abbrev s_value_at : Stmt := top 26
def d_value_at : DX := ⟨fun K => He.ga K "value_at", "value_at", "value_at", defArgs s_value_at, defBody s_value_at, defScope s_value_at, [], false⟩
abbrev s_short_loop : Stmt := top 27
def d_short_loop : DX := ⟨fun K => He.ga K "short_loop", "short_loop", "short_loop", defArgs s_short_loop, defBody s_short_loop, defScope s_short_loop, [], false⟩
abbrev s_plain_form : Stmt := top 28
def d_plain_form : DX := ⟨fun K => He.ga K "plain_form", "plain_form", "plain_form", defArgs s_plain_form, defBody s_plain_form, defScope s_plain_form, [], false⟩
abbrev s_is_rising : Stmt := top 39
def d_is_rising : DX := ⟨fun K => He.ga K "is_rising", "is_rising", "is_rising", defArgs s_is_rising, defBody s_is_rising, defScope s_is_rising, [], false⟩
abbrev s_checked_table : Stmt := top 40
def d_checked_table : DX := ⟨fun K => He.ga K "checked_table", "checked_table", "checked_table", defArgs s_checked_table, defBody s_checked_table, defScope s_checked_table, [], false⟩
abbrev s_is_deed : Stmt := top 51
def d_is_deed : DX := ⟨fun K => He.ga K "is_deed", "is_deed", "is_deed", defArgs s_is_deed, defBody s_is_deed, defScope s_is_deed, [], false⟩
abbrev s_is_deeds : Stmt := top 52
def d_is_deeds : DX := ⟨fun K => He.ga K "is_deeds", "is_deeds", "is_deeds", defArgs s_is_deeds, defBody s_is_deeds, defScope s_is_deeds, [], false⟩
abbrev s_is_ways : Stmt := top 53
def d_is_ways : DX := ⟨fun K => He.ga K "is_ways", "is_ways", "is_ways", defArgs s_is_ways, defBody s_is_ways, defScope s_is_ways, [], false⟩
abbrev s_is_way_numbers : Stmt := top 54
def d_is_way_numbers : DX := ⟨fun K => He.ga K "is_way_numbers", "is_way_numbers", "is_way_numbers", defArgs s_is_way_numbers, defBody s_is_way_numbers, defScope s_is_way_numbers, [], false⟩
abbrev s_is_course : Stmt := top 55
def d_is_course : DX := ⟨fun K => He.ga K "is_course", "is_course", "is_course", defArgs s_is_course, defBody s_is_course, defScope s_is_course, [], false⟩
abbrev s_takes_ahead : Stmt := top 56
def d_takes_ahead : DX := ⟨fun K => He.ga K "takes_ahead", "takes_ahead", "takes_ahead", defArgs s_takes_ahead, defBody s_takes_ahead, defScope s_takes_ahead, [], false⟩
abbrev s_check_inlet : Stmt := top 57
def d_check_inlet : DX := ⟨fun K => He.ga K "check_inlet", "check_inlet", "check_inlet", defArgs s_check_inlet, defBody s_check_inlet, defScope s_check_inlet, [], false⟩
abbrev s_need_on : Stmt := top 58
def d_need_on : DX := ⟨fun K => He.ga K "need_on", "need_on", "need_on", defArgs s_need_on, defBody s_need_on, defScope s_need_on, [], false⟩
abbrev s_extreme : Stmt := top 62
def d_extreme : DX := ⟨fun K => He.ga K "extreme", "extreme", "extreme", defArgs s_extreme, defBody s_extreme, defScope s_extreme, [], false⟩
abbrev s_least : Stmt := top 63
def d_least : DX := ⟨fun K => He.ga K "least", "least", "least", defArgs s_least, defBody s_least, defScope s_least, [], false⟩
abbrev s_greatest : Stmt := top 64
def d_greatest : DX := ⟨fun K => He.ga K "greatest", "greatest", "greatest", defArgs s_greatest, defBody s_greatest, defScope s_greatest, [], false⟩
abbrev s_check_lengths : Stmt := top 65
def d_check_lengths : DX := ⟨fun K => He.ga K "check_lengths", "check_lengths", "check_lengths", defArgs s_check_lengths, defBody s_check_lengths, defScope s_check_lengths, [], false⟩
abbrev s_deeds_to : Stmt := top 66
def d_deeds_to : DX := ⟨fun K => He.ga K "deeds_to", "deeds_to", "deeds_to", defArgs s_deeds_to, defBody s_deeds_to, defScope s_deeds_to, [], false⟩
abbrev s_maker_of : Stmt := top 67
def d_maker_of : DX := ⟨fun K => He.ga K "maker_of", "maker_of", "maker_of", defArgs s_maker_of, defBody s_maker_of, defScope s_maker_of, [], false⟩
abbrev s__law_source : Stmt := top 69
def d__law_source : DX := ⟨fun K => He.ga K "_law_source", "_law_source", "_law_source", defArgs s__law_source, defBody s__law_source, defScope s__law_source, [], false⟩
abbrev s__law_pick : Stmt := top 70
def d__law_pick : DX := ⟨fun K => He.ga K "_law_pick", "_law_pick", "_law_pick", defArgs s__law_pick, defBody s__law_pick, defScope s__law_pick, [], false⟩
abbrev s__law_is_integer : Stmt := top 71
def d__law_is_integer : DX := ⟨fun K => He.ga K "_law_is_integer", "_law_is_integer", "_law_is_integer", defArgs s__law_is_integer, defBody s__law_is_integer, defScope s__law_is_integer, [], false⟩
abbrev s__law_is_count : Stmt := top 72
def d__law_is_count : DX := ⟨fun K => He.ga K "_law_is_count", "_law_is_count", "_law_is_count", defArgs s__law_is_count, defBody s__law_is_count, defScope s__law_is_count, [], false⟩
abbrev s__law_rising : Stmt := top 73
def d__law_rising : DX := ⟨fun K => He.ga K "_law_rising", "_law_rising", "_law_rising", defArgs s__law_rising, defBody s__law_rising, defScope s__law_rising, [], false⟩
abbrev s__law_raw : Stmt := top 74
def d__law_raw : DX := ⟨fun K => He.ga K "_law_raw", "_law_raw", "_law_raw", defArgs s__law_raw, defBody s__law_raw, defScope s__law_raw, [], false⟩
abbrev s__law_end : Stmt := top 75
def d__law_end : DX := ⟨fun K => He.ga K "_law_end", "_law_end", "_law_end", defArgs s__law_end, defBody s__law_end, defScope s__law_end, [], false⟩
abbrev s__law_at : Stmt := top 76
def d__law_at : DX := ⟨fun K => He.ga K "_law_at", "_law_at", "_law_at", defArgs s__law_at, defBody s__law_at, defScope s__law_at, [], false⟩
abbrev s__law_plain : Stmt := top 77
def d__law_plain : DX := ⟨fun K => He.ga K "_law_plain", "_law_plain", "_law_plain", defArgs s__law_plain, defBody s__law_plain, defScope s__law_plain, [], false⟩
abbrev s__law_counts : Stmt := top 78
def d__law_counts : DX := ⟨fun K => He.ga K "_law_counts", "_law_counts", "_law_counts", defArgs s__law_counts, defBody s__law_counts, defScope s__law_counts, [], false⟩
abbrev s__law_same : Stmt := top 79
def d__law_same : DX := ⟨fun K => He.ga K "_law_same", "_law_same", "_law_same", defArgs s__law_same, defBody s__law_same, defScope s__law_same, [], false⟩
abbrev s__law_table : Stmt := top 80
def d__law_table : DX := ⟨fun K => He.ga K "_law_table", "_law_table", "_law_table", defArgs s__law_table, defBody s__law_table, defScope s__law_table, [], false⟩
abbrev s__law_ahead : Stmt := top 81
def d__law_ahead : DX := ⟨fun K => He.ga K "_law_ahead", "_law_ahead", "_law_ahead", defArgs s__law_ahead, defBody s__law_ahead, defScope s__law_ahead, [], false⟩
abbrev s__law_on : Stmt := top 82
def d__law_on : DX := ⟨fun K => He.ga K "_law_on", "_law_on", "_law_on", defArgs s__law_on, defBody s__law_on, defScope s__law_on, [], false⟩
abbrev s__law_ended : Stmt := top 83
def d__law_ended : DX := ⟨fun K => He.ga K "_law_ended", "_law_ended", "_law_ended", defArgs s__law_ended, defBody s__law_ended, defScope s__law_ended, [], false⟩
abbrev s__law_tables : Stmt := top 84
def d__law_tables : DX := ⟨fun K => He.ga K "_law_tables", "_law_tables", "_law_tables", defArgs s__law_tables, defBody s__law_tables, defScope s__law_tables, [], false⟩
abbrev s__law_seen : Stmt := top 85
def d__law_seen : DX := ⟨fun K => He.ga K "_law_seen", "_law_seen", "_law_seen", defArgs s__law_seen, defBody s__law_seen, defScope s__law_seen, [], false⟩
abbrev s_law : Stmt := top 86
def d_law : DX := ⟨fun K => He.ga K "law", "law", "law", defArgs s_law, defBody s_law, defScope s_law, [], false⟩
abbrev s_Table_init : Stmt := inClass (top 41) 0
def d_Table_init : DX := ⟨fun K => He.ma K (He.ga K "Table") "__init__", "__init__", "Table.__init__", defArgs s_Table_init, defBody s_Table_init, defScope s_Table_init, [.adr (He.dflAt ("Table", some "__init__") 0), .int 0], false⟩
abbrev s_Table_call : Stmt := inClass (top 41) 3
def d_Table_call : DX := ⟨fun K => He.ma K (He.ga K "Table") "__call__", "__call__", "Table.__call__", defArgs s_Table_call, defBody s_Table_call, defScope s_Table_call, [], false⟩
abbrev s_Table_eq : Stmt := inClass (top 41) 7
def d_Table_eq : DX := ⟨fun K => He.ma K (He.ga K "Table") "__eq__", "__eq__", "Table.__eq__", defArgs s_Table_eq, defBody s_Table_eq, defScope s_Table_eq, [], false⟩
abbrev s_Maker_init : Stmt := inClass (top 59) 0
def d_Maker_init : DX := ⟨fun K => He.ma K (He.ga K "Maker") "__init__", "__init__", "Maker.__init__", defArgs s_Maker_init, defBody s_Maker_init, defScope s_Maker_init, [], false⟩
abbrev s_Maker_eq : Stmt := inClass (top 59) 1
def d_Maker_eq : DX := ⟨fun K => He.ma K (He.ga K "Maker") "__eq__", "__eq__", "Maker.__eq__", defArgs s_Maker_eq, defBody s_Maker_eq, defScope s_Maker_eq, [], false⟩
abbrev s_Maker_need : Stmt := inClass (top 59) 2
def d_Maker_need : DX := ⟨fun K => He.ma K (He.ga K "Maker") "need", "need", "Maker.need", defArgs s_Maker_need, defBody s_Maker_need, defScope s_Maker_need, [], false⟩
abbrev s_WrongNumber_init : Stmt := inClass (top 5) 0
def d_WrongNumber_init : DX := ⟨fun K => He.ma K (He.ga K "WrongNumber") "__init__", "__init__", "WrongNumber.__init__", defArgs s_WrongNumber_init, defBody s_WrongNumber_init, defScope s_WrongNumber_init, [], true⟩
abbrev s_TooMany_init : Stmt := inClass (top 6) 0
def d_TooMany_init : DX := ⟨fun K => He.ma K (He.ga K "TooMany") "__init__", "__init__", "TooMany.__init__", defArgs s_TooMany_init, defBody s_TooMany_init, defScope s_TooMany_init, [], true⟩
def fn0 : List DX := [d_is_integer, d_is_count, d_is_listed, d_is_counts, d_deep, d_at_most, d_common_divisor, d_common_multiple, d_end_of, d_value_at, d_short_loop, d_plain_form]
def fn1 : List DX := [d_is_rising, d_checked_table, d_is_deed, d_is_deeds, d_is_ways, d_is_way_numbers, d_is_course, d_takes_ahead, d_check_inlet, d_need_on, d_extreme, d_least]
def fn2 : List DX := [d_greatest, d_check_lengths, d_deeds_to, d_maker_of, d__law_source, d__law_pick, d__law_is_integer, d__law_is_count, d__law_rising, d__law_raw, d__law_end, d__law_at]
def fn3 : List DX := [d__law_plain, d__law_counts, d__law_same, d__law_table, d__law_ahead, d__law_on, d__law_ended, d__law_tables, d__law_seen, d_law, d_Table_init, d_Table_call]
def fn4 : List DX := [d_Table_eq, d_Maker_init, d_Maker_eq, d_Maker_need, d_WrongNumber_init, d_TooMany_init]
def fn : List DX := fn0 ++ fn1 ++ fn2 ++ fn3 ++ fn4
def fa0 : List He.Fa := [.free "abs", .free "all", .free "any", .free "bool", .free "enumerate", .free "int", .free "isinstance", .free "len", .free "list", .free "max", .free "min", .free "range"]
def fa1 : List He.Fa := [.free "str", .free "tuple", .glo "is_integer", .glo "is_count", .glo "is_listed", .glo "is_counts", .glo "deep", .glo "at_most", .glo "common_divisor", .glo "common_multiple", .glo "end_of", .glo "value_at"]
def fa2 : List He.Fa := [.glo "short_loop", .glo "plain_form", .glo "is_rising", .glo "checked_table", .glo "is_deed", .glo "is_deeds", .glo "is_ways", .glo "is_way_numbers", .glo "is_course", .glo "takes_ahead", .glo "check_inlet", .glo "need_on"]
def fa3 : List He.Fa := [.glo "extreme", .glo "least", .glo "greatest", .glo "check_lengths", .glo "deeds_to", .glo "maker_of", .glo "_law_source", .glo "_law_pick", .glo "_law_is_integer", .glo "_law_is_count", .glo "_law_rising", .glo "_law_raw"]
def fa4 : List He.Fa := [.glo "_law_end", .glo "_law_at", .glo "_law_plain", .glo "_law_counts", .glo "_law_same", .glo "_law_table", .glo "_law_ahead", .glo "_law_on", .glo "_law_ended", .glo "_law_tables", .glo "_law_seen", .glo "law"]
def fa5 : List He.Fa := [.meth "Table" "__init__", .meth "Table" "__call__", .meth "Table" "__eq__", .meth "Maker" "__init__", .meth "Maker" "__eq__", .meth "Maker" "need", .glo "Table", .cls "Table", .mkr "Table", .noat "Table" "head", .noat "Table" "loop", .noat "Table" "rise"]
def fa6 : List He.Fa := [.glo "Maker", .cls "Maker", .mkr "Maker", .noat "Maker" "inlets", .noat "Maker" "begin", .noat "Maker" "ways", .int "MOST_INLETS" 3, .int "MOST_WAYS" 4, .int "MOST_DEEDS" 600, .int "MOST_DEEDS_EACH" 24, .int "MOST_FIRST" 200, .int "MOST_THEN" 40]
def fa7 : List He.Fa := [.str "GIVE" "give", .free "super", .glo "BadTables", .glo "TooMany"]
def fa : List He.Fa := fa0 ++ fa1 ++ fa2 ++ fa3 ++ fa4 ++ fa5 ++ fa6 ++ fa7
def exL0 : List (PySem.W.Frag → Bool) := [(insB "Table"), (kitSB "Table"), (fun K => PySem.W.notFirst K (He.ga K "Table") (.ref (He.ga K "Table"))), (fun K => He.eqO (PySem.W.findIn K (.ref (He.ga K "Table")) "__ne__") (some (some (.builtin "object.__ne__")))), (fun K => decide (PySem.W.mroIn K (He.ga K "Table") (.type "object") = some true)), (kitB "Table" "tuple" false), (nfB "Table" "tuple"), (kitB "Table" "list" false), (nfB "Table" "list"), (kitB "Table" "int" false), (nfB "Table" "int"), (kitB "Table" "NoneType" false)]
def exL1 : List (PySem.W.Frag → Bool) := [(nfB "Table" "NoneType"), (kitB "Table" "str" false), (nfB "Table" "str"), (kitB "Table" "bool" false), (nfB "Table" "bool"), (insB "Maker"), (kitSB "Maker"), (fun K => PySem.W.notFirst K (He.ga K "Maker") (.ref (He.ga K "Maker"))), (fun K => He.eqO (PySem.W.findIn K (.ref (He.ga K "Maker")) "__ne__") (some (some (.builtin "object.__ne__")))), (fun K => decide (PySem.W.mroIn K (He.ga K "Maker") (.type "object") = some true)), (kitB "Maker" "tuple" false), (nfB "Maker" "tuple")]
def exL2 : List (PySem.W.Frag → Bool) := [(kitB "Maker" "list" false), (nfB "Maker" "list"), (kitB "Maker" "int" false), (nfB "Maker" "int"), (kitB "Maker" "NoneType" false), (nfB "Maker" "NoneType"), (kitB "Maker" "str" false), (nfB "Maker" "str"), (kitB "Maker" "bool" false), (nfB "Maker" "bool"), (callB "Table"), (fun K => tup0B K (He.dflAt ("Table", some "__init__") 0 K))]
def exL3 : List (PySem.W.Frag → Bool) := [(fun K => XS.supXB mainFile K (He.ga K "TooMany") (d_TooMany_init.adr K)), (fun K => XS.supXB mainFile K (He.ga K "WrongNumber") (d_WrongNumber_init.adr K)), (fun K => oexB K (He.ga K "BadTables")), (fun K => He.eqO (PySem.W.findIn K (.ref (He.ga K "BadTables")) "__init__") (some (some (.ref (He.ma K (He.ga K "WrongNumber") "__init__"))))), (fun K => decide (PySem.W.typeIn K (.ref (He.ma K (He.ga K "WrongNumber") "__init__")) = some (.type "function"))), (fun K => XS.supCB K (He.ga K "WrongNumber") (He.ga K "BadTables")), (fun K => xfB K (He.ga K "BadTables")), (fun K => someNone (PySem.W.findIn K (.ref (He.ga K "BadTables")) "number")), (fun K => decide (PySem.W.exmOne K (.ref (He.ga K "BadTables")) (.ref (He.ga K "BadTables")) = some true)), (fun K => oexB K (He.ga K "TooMany")), (fun K => He.eqO (PySem.W.findIn K (.ref (He.ga K "TooMany")) "__init__") (some (some (.ref (He.ma K (He.ga K "TooMany") "__init__"))))), (fun K => decide (PySem.W.typeIn K (.ref (He.ma K (He.ga K "TooMany") "__init__")) = some (.type "function")))]
def exL4 : List (PySem.W.Frag → Bool) := [(fun K => XS.supCB K (He.ga K "TooMany") (He.ga K "TooMany")), (fun K => xfB K (He.ga K "TooMany")), (fun K => someNone (PySem.W.findIn K (.ref (He.ga K "TooMany")) "word")), (fun K => decide (PySem.W.exmOne K (.ref (He.ga K "TooMany")) (.ref (He.ga K "TooMany")) = some true)), (fun K => decide (PySem.W.exmOne K (.ref (He.ga K "TooMany")) (.ref (He.ga K "BadTables")) = some false))]
def exL : List (PySem.W.Frag → Bool) := exL0 ++ exL1 ++ exL2 ++ exL3 ++ exL4
def exB (K : PySem.W.Frag) : Bool := exL.all fun f => f K
/-- what the top has left -/
structure Env (P : Program) (K : PySem.W.Frag) (mg : Str → Option Value) : Prop where
  ex : ∃ h : Heap, K.In h ∧ h.Ns mainGlobals mg
  c : SaysM fa fn exB K
  pf : ((P.main.file : Str) == mainFile) = true ∧ (P.main.scope.names.lookup ("super" : Str)).isSome = false
theorem Env.x {P : Program} {K : PySem.W.Frag} {mg : Str → Option Value} (E : Env P K mg) (i : Nat) {f : PySem.W.Frag → Bool} (h : exL[i]? = some f) : f K = true := List.all_eq_true.mp (show (exL.all fun f => f K) = true from E.c.more) f (List.mem_of_getElem? h)
theorem Env.f_abs {P : Program} {K : PySem.W.Frag} {mg : Str → Option Value} (E : Env P K mg) : mg "abs" = none := by obtain ⟨h, X, G⟩ := E.ex; exact He.free_ok X G (E.c.fact 0 (f := .free "abs") rfl)
theorem Env.f_all {P : Program} {K : PySem.W.Frag} {mg : Str → Option Value} (E : Env P K mg) : mg "all" = none := by obtain ⟨h, X, G⟩ := E.ex; exact He.free_ok X G (E.c.fact 1 (f := .free "all") rfl)
theorem Env.f_any {P : Program} {K : PySem.W.Frag} {mg : Str → Option Value} (E : Env P K mg) : mg "any" = none := by obtain ⟨h, X, G⟩ := E.ex; exact He.free_ok X G (E.c.fact 2 (f := .free "any") rfl)
theorem Env.f_bool {P : Program} {K : PySem.W.Frag} {mg : Str → Option Value} (E : Env P K mg) : mg "bool" = none := by obtain ⟨h, X, G⟩ := E.ex; exact He.free_ok X G (E.c.fact 3 (f := .free "bool") rfl)
theorem Env.f_enumerate {P : Program} {K : PySem.W.Frag} {mg : Str → Option Value} (E : Env P K mg) : mg "enumerate" = none := by obtain ⟨h, X, G⟩ := E.ex; exact He.free_ok X G (E.c.fact 4 (f := .free "enumerate") rfl)
theorem Env.f_int {P : Program} {K : PySem.W.Frag} {mg : Str → Option Value} (E : Env P K mg) : mg "int" = none := by obtain ⟨h, X, G⟩ := E.ex; exact He.free_ok X G (E.c.fact 5 (f := .free "int") rfl)
theorem Env.f_isinstance {P : Program} {K : PySem.W.Frag} {mg : Str → Option Value} (E : Env P K mg) : mg "isinstance" = none := by obtain ⟨h, X, G⟩ := E.ex; exact He.free_ok X G (E.c.fact 6 (f := .free "isinstance") rfl)
theorem Env.f_len {P : Program} {K : PySem.W.Frag} {mg : Str → Option Value} (E : Env P K mg) : mg "len" = none := by obtain ⟨h, X, G⟩ := E.ex; exact He.free_ok X G (E.c.fact 7 (f := .free "len") rfl)
theorem Env.f_list {P : Program} {K : PySem.W.Frag} {mg : Str → Option Value} (E : Env P K mg) : mg "list" = none := by obtain ⟨h, X, G⟩ := E.ex; exact He.free_ok X G (E.c.fact 8 (f := .free "list") rfl)
theorem Env.f_max {P : Program} {K : PySem.W.Frag} {mg : Str → Option Value} (E : Env P K mg) : mg "max" = none := by obtain ⟨h, X, G⟩ := E.ex; exact He.free_ok X G (E.c.fact 9 (f := .free "max") rfl)
theorem Env.f_min {P : Program} {K : PySem.W.Frag} {mg : Str → Option Value} (E : Env P K mg) : mg "min" = none := by obtain ⟨h, X, G⟩ := E.ex; exact He.free_ok X G (E.c.fact 10 (f := .free "min") rfl)
theorem Env.f_range {P : Program} {K : PySem.W.Frag} {mg : Str → Option Value} (E : Env P K mg) : mg "range" = none := by obtain ⟨h, X, G⟩ := E.ex; exact He.free_ok X G (E.c.fact 11 (f := .free "range") rfl)
theorem Env.f_str {P : Program} {K : PySem.W.Frag} {mg : Str → Option Value} (E : Env P K mg) : mg "str" = none := by obtain ⟨h, X, G⟩ := E.ex; exact He.free_ok X G (E.c.fact 12 (f := .free "str") rfl)
theorem Env.f_tuple {P : Program} {K : PySem.W.Frag} {mg : Str → Option Value} (E : Env P K mg) : mg "tuple" = none := by obtain ⟨h, X, G⟩ := E.ex; exact He.free_ok X G (E.c.fact 13 (f := .free "tuple") rfl)
theorem Env.g_is_integer {P : Program} {K : PySem.W.Frag} {mg : Str → Option Value} (E : Env P K mg) : mg "is_integer" = some (.ref (He.ga K "is_integer")) := by obtain ⟨h, X, G⟩ := E.ex; exact He.glo_ok X G (E.c.fact 14 (f := .glo "is_integer") rfl)
theorem Env.g_is_count {P : Program} {K : PySem.W.Frag} {mg : Str → Option Value} (E : Env P K mg) : mg "is_count" = some (.ref (He.ga K "is_count")) := by obtain ⟨h, X, G⟩ := E.ex; exact He.glo_ok X G (E.c.fact 15 (f := .glo "is_count") rfl)
theorem Env.g_is_listed {P : Program} {K : PySem.W.Frag} {mg : Str → Option Value} (E : Env P K mg) : mg "is_listed" = some (.ref (He.ga K "is_listed")) := by obtain ⟨h, X, G⟩ := E.ex; exact He.glo_ok X G (E.c.fact 16 (f := .glo "is_listed") rfl)
theorem Env.g_is_counts {P : Program} {K : PySem.W.Frag} {mg : Str → Option Value} (E : Env P K mg) : mg "is_counts" = some (.ref (He.ga K "is_counts")) := by obtain ⟨h, X, G⟩ := E.ex; exact He.glo_ok X G (E.c.fact 17 (f := .glo "is_counts") rfl)
theorem Env.g_deep {P : Program} {K : PySem.W.Frag} {mg : Str → Option Value} (E : Env P K mg) : mg "deep" = some (.ref (He.ga K "deep")) := by obtain ⟨h, X, G⟩ := E.ex; exact He.glo_ok X G (E.c.fact 18 (f := .glo "deep") rfl)
theorem Env.g_at_most {P : Program} {K : PySem.W.Frag} {mg : Str → Option Value} (E : Env P K mg) : mg "at_most" = some (.ref (He.ga K "at_most")) := by obtain ⟨h, X, G⟩ := E.ex; exact He.glo_ok X G (E.c.fact 19 (f := .glo "at_most") rfl)
theorem Env.g_common_divisor {P : Program} {K : PySem.W.Frag} {mg : Str → Option Value} (E : Env P K mg) : mg "common_divisor" = some (.ref (He.ga K "common_divisor")) := by obtain ⟨h, X, G⟩ := E.ex; exact He.glo_ok X G (E.c.fact 20 (f := .glo "common_divisor") rfl)
theorem Env.g_common_multiple {P : Program} {K : PySem.W.Frag} {mg : Str → Option Value} (E : Env P K mg) : mg "common_multiple" = some (.ref (He.ga K "common_multiple")) := by obtain ⟨h, X, G⟩ := E.ex; exact He.glo_ok X G (E.c.fact 21 (f := .glo "common_multiple") rfl)
theorem Env.g_end_of {P : Program} {K : PySem.W.Frag} {mg : Str → Option Value} (E : Env P K mg) : mg "end_of" = some (.ref (He.ga K "end_of")) := by obtain ⟨h, X, G⟩ := E.ex; exact He.glo_ok X G (E.c.fact 22 (f := .glo "end_of") rfl)
theorem Env.g_value_at {P : Program} {K : PySem.W.Frag} {mg : Str → Option Value} (E : Env P K mg) : mg "value_at" = some (.ref (He.ga K "value_at")) := by obtain ⟨h, X, G⟩ := E.ex; exact He.glo_ok X G (E.c.fact 23 (f := .glo "value_at") rfl)
theorem Env.g_short_loop {P : Program} {K : PySem.W.Frag} {mg : Str → Option Value} (E : Env P K mg) : mg "short_loop" = some (.ref (He.ga K "short_loop")) := by obtain ⟨h, X, G⟩ := E.ex; exact He.glo_ok X G (E.c.fact 24 (f := .glo "short_loop") rfl)
theorem Env.g_plain_form {P : Program} {K : PySem.W.Frag} {mg : Str → Option Value} (E : Env P K mg) : mg "plain_form" = some (.ref (He.ga K "plain_form")) := by obtain ⟨h, X, G⟩ := E.ex; exact He.glo_ok X G (E.c.fact 25 (f := .glo "plain_form") rfl)
theorem Env.g_is_rising {P : Program} {K : PySem.W.Frag} {mg : Str → Option Value} (E : Env P K mg) : mg "is_rising" = some (.ref (He.ga K "is_rising")) := by obtain ⟨h, X, G⟩ := E.ex; exact He.glo_ok X G (E.c.fact 26 (f := .glo "is_rising") rfl)
theorem Env.g_checked_table {P : Program} {K : PySem.W.Frag} {mg : Str → Option Value} (E : Env P K mg) : mg "checked_table" = some (.ref (He.ga K "checked_table")) := by obtain ⟨h, X, G⟩ := E.ex; exact He.glo_ok X G (E.c.fact 27 (f := .glo "checked_table") rfl)
theorem Env.g_is_deed {P : Program} {K : PySem.W.Frag} {mg : Str → Option Value} (E : Env P K mg) : mg "is_deed" = some (.ref (He.ga K "is_deed")) := by obtain ⟨h, X, G⟩ := E.ex; exact He.glo_ok X G (E.c.fact 28 (f := .glo "is_deed") rfl)
theorem Env.g_is_deeds {P : Program} {K : PySem.W.Frag} {mg : Str → Option Value} (E : Env P K mg) : mg "is_deeds" = some (.ref (He.ga K "is_deeds")) := by obtain ⟨h, X, G⟩ := E.ex; exact He.glo_ok X G (E.c.fact 29 (f := .glo "is_deeds") rfl)
theorem Env.g_is_ways {P : Program} {K : PySem.W.Frag} {mg : Str → Option Value} (E : Env P K mg) : mg "is_ways" = some (.ref (He.ga K "is_ways")) := by obtain ⟨h, X, G⟩ := E.ex; exact He.glo_ok X G (E.c.fact 30 (f := .glo "is_ways") rfl)
theorem Env.g_is_way_numbers {P : Program} {K : PySem.W.Frag} {mg : Str → Option Value} (E : Env P K mg) : mg "is_way_numbers" = some (.ref (He.ga K "is_way_numbers")) := by obtain ⟨h, X, G⟩ := E.ex; exact He.glo_ok X G (E.c.fact 31 (f := .glo "is_way_numbers") rfl)
theorem Env.g_is_course {P : Program} {K : PySem.W.Frag} {mg : Str → Option Value} (E : Env P K mg) : mg "is_course" = some (.ref (He.ga K "is_course")) := by obtain ⟨h, X, G⟩ := E.ex; exact He.glo_ok X G (E.c.fact 32 (f := .glo "is_course") rfl)
theorem Env.g_takes_ahead {P : Program} {K : PySem.W.Frag} {mg : Str → Option Value} (E : Env P K mg) : mg "takes_ahead" = some (.ref (He.ga K "takes_ahead")) := by obtain ⟨h, X, G⟩ := E.ex; exact He.glo_ok X G (E.c.fact 33 (f := .glo "takes_ahead") rfl)
theorem Env.g_check_inlet {P : Program} {K : PySem.W.Frag} {mg : Str → Option Value} (E : Env P K mg) : mg "check_inlet" = some (.ref (He.ga K "check_inlet")) := by obtain ⟨h, X, G⟩ := E.ex; exact He.glo_ok X G (E.c.fact 34 (f := .glo "check_inlet") rfl)
theorem Env.g_need_on {P : Program} {K : PySem.W.Frag} {mg : Str → Option Value} (E : Env P K mg) : mg "need_on" = some (.ref (He.ga K "need_on")) := by obtain ⟨h, X, G⟩ := E.ex; exact He.glo_ok X G (E.c.fact 35 (f := .glo "need_on") rfl)
theorem Env.g_extreme {P : Program} {K : PySem.W.Frag} {mg : Str → Option Value} (E : Env P K mg) : mg "extreme" = some (.ref (He.ga K "extreme")) := by obtain ⟨h, X, G⟩ := E.ex; exact He.glo_ok X G (E.c.fact 36 (f := .glo "extreme") rfl)
theorem Env.g_least {P : Program} {K : PySem.W.Frag} {mg : Str → Option Value} (E : Env P K mg) : mg "least" = some (.ref (He.ga K "least")) := by obtain ⟨h, X, G⟩ := E.ex; exact He.glo_ok X G (E.c.fact 37 (f := .glo "least") rfl)
theorem Env.g_greatest {P : Program} {K : PySem.W.Frag} {mg : Str → Option Value} (E : Env P K mg) : mg "greatest" = some (.ref (He.ga K "greatest")) := by obtain ⟨h, X, G⟩ := E.ex; exact He.glo_ok X G (E.c.fact 38 (f := .glo "greatest") rfl)
theorem Env.g_check_lengths {P : Program} {K : PySem.W.Frag} {mg : Str → Option Value} (E : Env P K mg) : mg "check_lengths" = some (.ref (He.ga K "check_lengths")) := by obtain ⟨h, X, G⟩ := E.ex; exact He.glo_ok X G (E.c.fact 39 (f := .glo "check_lengths") rfl)
theorem Env.g_deeds_to {P : Program} {K : PySem.W.Frag} {mg : Str → Option Value} (E : Env P K mg) : mg "deeds_to" = some (.ref (He.ga K "deeds_to")) := by obtain ⟨h, X, G⟩ := E.ex; exact He.glo_ok X G (E.c.fact 40 (f := .glo "deeds_to") rfl)
theorem Env.g_maker_of {P : Program} {K : PySem.W.Frag} {mg : Str → Option Value} (E : Env P K mg) : mg "maker_of" = some (.ref (He.ga K "maker_of")) := by obtain ⟨h, X, G⟩ := E.ex; exact He.glo_ok X G (E.c.fact 41 (f := .glo "maker_of") rfl)
theorem Env.g__law_source {P : Program} {K : PySem.W.Frag} {mg : Str → Option Value} (E : Env P K mg) : mg "_law_source" = some (.ref (He.ga K "_law_source")) := by obtain ⟨h, X, G⟩ := E.ex; exact He.glo_ok X G (E.c.fact 42 (f := .glo "_law_source") rfl)
theorem Env.g__law_pick {P : Program} {K : PySem.W.Frag} {mg : Str → Option Value} (E : Env P K mg) : mg "_law_pick" = some (.ref (He.ga K "_law_pick")) := by obtain ⟨h, X, G⟩ := E.ex; exact He.glo_ok X G (E.c.fact 43 (f := .glo "_law_pick") rfl)
theorem Env.g__law_is_integer {P : Program} {K : PySem.W.Frag} {mg : Str → Option Value} (E : Env P K mg) : mg "_law_is_integer" = some (.ref (He.ga K "_law_is_integer")) := by obtain ⟨h, X, G⟩ := E.ex; exact He.glo_ok X G (E.c.fact 44 (f := .glo "_law_is_integer") rfl)
theorem Env.g__law_is_count {P : Program} {K : PySem.W.Frag} {mg : Str → Option Value} (E : Env P K mg) : mg "_law_is_count" = some (.ref (He.ga K "_law_is_count")) := by obtain ⟨h, X, G⟩ := E.ex; exact He.glo_ok X G (E.c.fact 45 (f := .glo "_law_is_count") rfl)
theorem Env.g__law_rising {P : Program} {K : PySem.W.Frag} {mg : Str → Option Value} (E : Env P K mg) : mg "_law_rising" = some (.ref (He.ga K "_law_rising")) := by obtain ⟨h, X, G⟩ := E.ex; exact He.glo_ok X G (E.c.fact 46 (f := .glo "_law_rising") rfl)
theorem Env.g__law_raw {P : Program} {K : PySem.W.Frag} {mg : Str → Option Value} (E : Env P K mg) : mg "_law_raw" = some (.ref (He.ga K "_law_raw")) := by obtain ⟨h, X, G⟩ := E.ex; exact He.glo_ok X G (E.c.fact 47 (f := .glo "_law_raw") rfl)
theorem Env.g__law_end {P : Program} {K : PySem.W.Frag} {mg : Str → Option Value} (E : Env P K mg) : mg "_law_end" = some (.ref (He.ga K "_law_end")) := by obtain ⟨h, X, G⟩ := E.ex; exact He.glo_ok X G (E.c.fact 48 (f := .glo "_law_end") rfl)
theorem Env.g__law_at {P : Program} {K : PySem.W.Frag} {mg : Str → Option Value} (E : Env P K mg) : mg "_law_at" = some (.ref (He.ga K "_law_at")) := by obtain ⟨h, X, G⟩ := E.ex; exact He.glo_ok X G (E.c.fact 49 (f := .glo "_law_at") rfl)
theorem Env.g__law_plain {P : Program} {K : PySem.W.Frag} {mg : Str → Option Value} (E : Env P K mg) : mg "_law_plain" = some (.ref (He.ga K "_law_plain")) := by obtain ⟨h, X, G⟩ := E.ex; exact He.glo_ok X G (E.c.fact 50 (f := .glo "_law_plain") rfl)
theorem Env.g__law_counts {P : Program} {K : PySem.W.Frag} {mg : Str → Option Value} (E : Env P K mg) : mg "_law_counts" = some (.ref (He.ga K "_law_counts")) := by obtain ⟨h, X, G⟩ := E.ex; exact He.glo_ok X G (E.c.fact 51 (f := .glo "_law_counts") rfl)
theorem Env.g__law_same {P : Program} {K : PySem.W.Frag} {mg : Str → Option Value} (E : Env P K mg) : mg "_law_same" = some (.ref (He.ga K "_law_same")) := by obtain ⟨h, X, G⟩ := E.ex; exact He.glo_ok X G (E.c.fact 52 (f := .glo "_law_same") rfl)
theorem Env.g__law_table {P : Program} {K : PySem.W.Frag} {mg : Str → Option Value} (E : Env P K mg) : mg "_law_table" = some (.ref (He.ga K "_law_table")) := by obtain ⟨h, X, G⟩ := E.ex; exact He.glo_ok X G (E.c.fact 53 (f := .glo "_law_table") rfl)
theorem Env.g__law_ahead {P : Program} {K : PySem.W.Frag} {mg : Str → Option Value} (E : Env P K mg) : mg "_law_ahead" = some (.ref (He.ga K "_law_ahead")) := by obtain ⟨h, X, G⟩ := E.ex; exact He.glo_ok X G (E.c.fact 54 (f := .glo "_law_ahead") rfl)
theorem Env.g__law_on {P : Program} {K : PySem.W.Frag} {mg : Str → Option Value} (E : Env P K mg) : mg "_law_on" = some (.ref (He.ga K "_law_on")) := by obtain ⟨h, X, G⟩ := E.ex; exact He.glo_ok X G (E.c.fact 55 (f := .glo "_law_on") rfl)
theorem Env.g__law_ended {P : Program} {K : PySem.W.Frag} {mg : Str → Option Value} (E : Env P K mg) : mg "_law_ended" = some (.ref (He.ga K "_law_ended")) := by obtain ⟨h, X, G⟩ := E.ex; exact He.glo_ok X G (E.c.fact 56 (f := .glo "_law_ended") rfl)
theorem Env.g__law_tables {P : Program} {K : PySem.W.Frag} {mg : Str → Option Value} (E : Env P K mg) : mg "_law_tables" = some (.ref (He.ga K "_law_tables")) := by obtain ⟨h, X, G⟩ := E.ex; exact He.glo_ok X G (E.c.fact 57 (f := .glo "_law_tables") rfl)
theorem Env.g__law_seen {P : Program} {K : PySem.W.Frag} {mg : Str → Option Value} (E : Env P K mg) : mg "_law_seen" = some (.ref (He.ga K "_law_seen")) := by obtain ⟨h, X, G⟩ := E.ex; exact He.glo_ok X G (E.c.fact 58 (f := .glo "_law_seen") rfl)
theorem Env.g_law {P : Program} {K : PySem.W.Frag} {mg : Str → Option Value} (E : Env P K mg) : mg "law" = some (.ref (He.ga K "law")) := by obtain ⟨h, X, G⟩ := E.ex; exact He.glo_ok X G (E.c.fact 59 (f := .glo "law") rfl)
theorem Env.m_Table_init {P : Program} {K : PySem.W.Frag} {mg : Str → Option Value} (E : Env P K mg) : Meth K (He.ga K "Table") "__init__" (He.ma K (He.ga K "Table") "__init__") := He.meth_ok (E.c.fact 60 (f := .meth "Table" "__init__") rfl)
theorem Env.m_Table_call {P : Program} {K : PySem.W.Frag} {mg : Str → Option Value} (E : Env P K mg) : Meth K (He.ga K "Table") "__call__" (He.ma K (He.ga K "Table") "__call__") := He.meth_ok (E.c.fact 61 (f := .meth "Table" "__call__") rfl)
theorem Env.m_Table_eq {P : Program} {K : PySem.W.Frag} {mg : Str → Option Value} (E : Env P K mg) : Meth K (He.ga K "Table") "__eq__" (He.ma K (He.ga K "Table") "__eq__") := He.meth_ok (E.c.fact 62 (f := .meth "Table" "__eq__") rfl)
theorem Env.m_Maker_init {P : Program} {K : PySem.W.Frag} {mg : Str → Option Value} (E : Env P K mg) : Meth K (He.ga K "Maker") "__init__" (He.ma K (He.ga K "Maker") "__init__") := He.meth_ok (E.c.fact 63 (f := .meth "Maker" "__init__") rfl)
theorem Env.m_Maker_eq {P : Program} {K : PySem.W.Frag} {mg : Str → Option Value} (E : Env P K mg) : Meth K (He.ga K "Maker") "__eq__" (He.ma K (He.ga K "Maker") "__eq__") := He.meth_ok (E.c.fact 64 (f := .meth "Maker" "__eq__") rfl)
theorem Env.m_Maker_need {P : Program} {K : PySem.W.Frag} {mg : Str → Option Value} (E : Env P K mg) : Meth K (He.ga K "Maker") "need" (He.ma K (He.ga K "Maker") "need") := He.meth_ok (E.c.fact 65 (f := .meth "Maker" "need") rfl)
theorem Env.g_Table {P : Program} {K : PySem.W.Frag} {mg : Str → Option Value} (E : Env P K mg) : mg "Table" = some (.ref (He.ga K "Table")) := by obtain ⟨h, X, G⟩ := E.ex; exact He.glo_ok X G (E.c.fact 66 (f := .glo "Table") rfl)
theorem Env.c_Table {P : Program} {K : PySem.W.Frag} {mg : Str → Option Value} (E : Env P K mg) : Cls K (He.ga K "Table") := He.cls_ok (E.c.fact 67 (f := .cls "Table") rfl)
theorem Env.mk_Table {P : Program} {K : PySem.W.Frag} {mg : Str → Option Value} (E : Env P K mg) : Mk K (He.ga K "Table") (He.ma K (He.ga K "Table") "__init__") := He.mkr_ok (E.c.fact 68 (f := .mkr "Table") rfl)
theorem Env.na_Table_head {P : Program} {K : PySem.W.Frag} {mg : Str → Option Value} (E : Env P K mg) : NoAttr K (He.ga K "Table") "head" := He.noat_ok (E.c.fact 69 (f := .noat "Table" "head") rfl)
theorem Env.na_Table_loop {P : Program} {K : PySem.W.Frag} {mg : Str → Option Value} (E : Env P K mg) : NoAttr K (He.ga K "Table") "loop" := He.noat_ok (E.c.fact 70 (f := .noat "Table" "loop") rfl)
theorem Env.na_Table_rise {P : Program} {K : PySem.W.Frag} {mg : Str → Option Value} (E : Env P K mg) : NoAttr K (He.ga K "Table") "rise" := He.noat_ok (E.c.fact 71 (f := .noat "Table" "rise") rfl)
theorem Env.ins_Table {P : Program} {K : PySem.W.Frag} {mg : Str → Option Value} (E : Env P K mg) : insB "Table" K = true := (E.x 0 (f := insB "Table") rfl)
theorem Env.kit_Table_self {P : Program} {K : PySem.W.Frag} {mg : Str → Option Value} (E : Env P K mg) : PySem.W.kitOne K (.ref (He.ga K "Table")) (.ref (He.ga K "Table")) = some true := of_decide_eq_true (E.x 1 (f := kitSB "Table") rfl)
theorem Env.nf_Table_self {P : Program} {K : PySem.W.Frag} {mg : Str → Option Value} (E : Env P K mg) : PySem.W.notFirst K (He.ga K "Table") (.ref (He.ga K "Table")) = true := (E.x 2 (f := fun K => PySem.W.notFirst K (He.ga K "Table") (.ref (He.ga K "Table"))) rfl)
theorem Env.ne_Table {P : Program} {K : PySem.W.Frag} {mg : Str → Option Value} (E : Env P K mg) : PySem.W.findIn K (.ref (He.ga K "Table")) "__ne__" = some (some (.builtin "object.__ne__")) := He.eqO_ok (E.x 3 (f := fun K => He.eqO (PySem.W.findIn K (.ref (He.ga K "Table")) "__ne__") (some (some (.builtin "object.__ne__")))) rfl)
theorem Env.mo_Table {P : Program} {K : PySem.W.Frag} {mg : Str → Option Value} (E : Env P K mg) : PySem.W.mroIn K (He.ga K "Table") (.type "object") = some true := of_decide_eq_true (E.x 4 (f := fun K => decide (PySem.W.mroIn K (He.ga K "Table") (.type "object") = some true)) rfl)
theorem Env.kit_Table_tuple {P : Program} {K : PySem.W.Frag} {mg : Str → Option Value} (E : Env P K mg) : PySem.W.kitOne K (.type "tuple") (.ref (He.ga K "Table")) = some false := of_decide_eq_true (E.x 5 (f := kitB "Table" "tuple" false) rfl)
theorem Env.nf_Table_tuple {P : Program} {K : PySem.W.Frag} {mg : Str → Option Value} (E : Env P K mg) : PySem.W.notFirst K (He.ga K "Table") (.type "tuple") = true := (E.x 6 (f := nfB "Table" "tuple") rfl)
theorem Env.kit_Table_list {P : Program} {K : PySem.W.Frag} {mg : Str → Option Value} (E : Env P K mg) : PySem.W.kitOne K (.type "list") (.ref (He.ga K "Table")) = some false := of_decide_eq_true (E.x 7 (f := kitB "Table" "list" false) rfl)
theorem Env.nf_Table_list {P : Program} {K : PySem.W.Frag} {mg : Str → Option Value} (E : Env P K mg) : PySem.W.notFirst K (He.ga K "Table") (.type "list") = true := (E.x 8 (f := nfB "Table" "list") rfl)
theorem Env.kit_Table_int {P : Program} {K : PySem.W.Frag} {mg : Str → Option Value} (E : Env P K mg) : PySem.W.kitOne K (.type "int") (.ref (He.ga K "Table")) = some false := of_decide_eq_true (E.x 9 (f := kitB "Table" "int" false) rfl)
theorem Env.nf_Table_int {P : Program} {K : PySem.W.Frag} {mg : Str → Option Value} (E : Env P K mg) : PySem.W.notFirst K (He.ga K "Table") (.type "int") = true := (E.x 10 (f := nfB "Table" "int") rfl)
theorem Env.kit_Table_NoneType {P : Program} {K : PySem.W.Frag} {mg : Str → Option Value} (E : Env P K mg) : PySem.W.kitOne K (.type "NoneType") (.ref (He.ga K "Table")) = some false := of_decide_eq_true (E.x 11 (f := kitB "Table" "NoneType" false) rfl)
theorem Env.nf_Table_NoneType {P : Program} {K : PySem.W.Frag} {mg : Str → Option Value} (E : Env P K mg) : PySem.W.notFirst K (He.ga K "Table") (.type "NoneType") = true := (E.x 12 (f := nfB "Table" "NoneType") rfl)
theorem Env.kit_Table_str {P : Program} {K : PySem.W.Frag} {mg : Str → Option Value} (E : Env P K mg) : PySem.W.kitOne K (.type "str") (.ref (He.ga K "Table")) = some false := of_decide_eq_true (E.x 13 (f := kitB "Table" "str" false) rfl)
theorem Env.nf_Table_str {P : Program} {K : PySem.W.Frag} {mg : Str → Option Value} (E : Env P K mg) : PySem.W.notFirst K (He.ga K "Table") (.type "str") = true := (E.x 14 (f := nfB "Table" "str") rfl)
theorem Env.kit_Table_bool {P : Program} {K : PySem.W.Frag} {mg : Str → Option Value} (E : Env P K mg) : PySem.W.kitOne K (.type "bool") (.ref (He.ga K "Table")) = some false := of_decide_eq_true (E.x 15 (f := kitB "Table" "bool" false) rfl)
theorem Env.nf_Table_bool {P : Program} {K : PySem.W.Frag} {mg : Str → Option Value} (E : Env P K mg) : PySem.W.notFirst K (He.ga K "Table") (.type "bool") = true := (E.x 16 (f := nfB "Table" "bool") rfl)
theorem Env.g_Maker {P : Program} {K : PySem.W.Frag} {mg : Str → Option Value} (E : Env P K mg) : mg "Maker" = some (.ref (He.ga K "Maker")) := by obtain ⟨h, X, G⟩ := E.ex; exact He.glo_ok X G (E.c.fact 72 (f := .glo "Maker") rfl)
theorem Env.c_Maker {P : Program} {K : PySem.W.Frag} {mg : Str → Option Value} (E : Env P K mg) : Cls K (He.ga K "Maker") := He.cls_ok (E.c.fact 73 (f := .cls "Maker") rfl)
theorem Env.mk_Maker {P : Program} {K : PySem.W.Frag} {mg : Str → Option Value} (E : Env P K mg) : Mk K (He.ga K "Maker") (He.ma K (He.ga K "Maker") "__init__") := He.mkr_ok (E.c.fact 74 (f := .mkr "Maker") rfl)
theorem Env.na_Maker_inlets {P : Program} {K : PySem.W.Frag} {mg : Str → Option Value} (E : Env P K mg) : NoAttr K (He.ga K "Maker") "inlets" := He.noat_ok (E.c.fact 75 (f := .noat "Maker" "inlets") rfl)
theorem Env.na_Maker_begin {P : Program} {K : PySem.W.Frag} {mg : Str → Option Value} (E : Env P K mg) : NoAttr K (He.ga K "Maker") "begin" := He.noat_ok (E.c.fact 76 (f := .noat "Maker" "begin") rfl)
theorem Env.na_Maker_ways {P : Program} {K : PySem.W.Frag} {mg : Str → Option Value} (E : Env P K mg) : NoAttr K (He.ga K "Maker") "ways" := He.noat_ok (E.c.fact 77 (f := .noat "Maker" "ways") rfl)
theorem Env.ins_Maker {P : Program} {K : PySem.W.Frag} {mg : Str → Option Value} (E : Env P K mg) : insB "Maker" K = true := (E.x 17 (f := insB "Maker") rfl)
theorem Env.kit_Maker_self {P : Program} {K : PySem.W.Frag} {mg : Str → Option Value} (E : Env P K mg) : PySem.W.kitOne K (.ref (He.ga K "Maker")) (.ref (He.ga K "Maker")) = some true := of_decide_eq_true (E.x 18 (f := kitSB "Maker") rfl)
theorem Env.nf_Maker_self {P : Program} {K : PySem.W.Frag} {mg : Str → Option Value} (E : Env P K mg) : PySem.W.notFirst K (He.ga K "Maker") (.ref (He.ga K "Maker")) = true := (E.x 19 (f := fun K => PySem.W.notFirst K (He.ga K "Maker") (.ref (He.ga K "Maker"))) rfl)
theorem Env.ne_Maker {P : Program} {K : PySem.W.Frag} {mg : Str → Option Value} (E : Env P K mg) : PySem.W.findIn K (.ref (He.ga K "Maker")) "__ne__" = some (some (.builtin "object.__ne__")) := He.eqO_ok (E.x 20 (f := fun K => He.eqO (PySem.W.findIn K (.ref (He.ga K "Maker")) "__ne__") (some (some (.builtin "object.__ne__")))) rfl)
theorem Env.mo_Maker {P : Program} {K : PySem.W.Frag} {mg : Str → Option Value} (E : Env P K mg) : PySem.W.mroIn K (He.ga K "Maker") (.type "object") = some true := of_decide_eq_true (E.x 21 (f := fun K => decide (PySem.W.mroIn K (He.ga K "Maker") (.type "object") = some true)) rfl)
theorem Env.kit_Maker_tuple {P : Program} {K : PySem.W.Frag} {mg : Str → Option Value} (E : Env P K mg) : PySem.W.kitOne K (.type "tuple") (.ref (He.ga K "Maker")) = some false := of_decide_eq_true (E.x 22 (f := kitB "Maker" "tuple" false) rfl)
theorem Env.nf_Maker_tuple {P : Program} {K : PySem.W.Frag} {mg : Str → Option Value} (E : Env P K mg) : PySem.W.notFirst K (He.ga K "Maker") (.type "tuple") = true := (E.x 23 (f := nfB "Maker" "tuple") rfl)
theorem Env.kit_Maker_list {P : Program} {K : PySem.W.Frag} {mg : Str → Option Value} (E : Env P K mg) : PySem.W.kitOne K (.type "list") (.ref (He.ga K "Maker")) = some false := of_decide_eq_true (E.x 24 (f := kitB "Maker" "list" false) rfl)
theorem Env.nf_Maker_list {P : Program} {K : PySem.W.Frag} {mg : Str → Option Value} (E : Env P K mg) : PySem.W.notFirst K (He.ga K "Maker") (.type "list") = true := (E.x 25 (f := nfB "Maker" "list") rfl)
theorem Env.kit_Maker_int {P : Program} {K : PySem.W.Frag} {mg : Str → Option Value} (E : Env P K mg) : PySem.W.kitOne K (.type "int") (.ref (He.ga K "Maker")) = some false := of_decide_eq_true (E.x 26 (f := kitB "Maker" "int" false) rfl)
theorem Env.nf_Maker_int {P : Program} {K : PySem.W.Frag} {mg : Str → Option Value} (E : Env P K mg) : PySem.W.notFirst K (He.ga K "Maker") (.type "int") = true := (E.x 27 (f := nfB "Maker" "int") rfl)
theorem Env.kit_Maker_NoneType {P : Program} {K : PySem.W.Frag} {mg : Str → Option Value} (E : Env P K mg) : PySem.W.kitOne K (.type "NoneType") (.ref (He.ga K "Maker")) = some false := of_decide_eq_true (E.x 28 (f := kitB "Maker" "NoneType" false) rfl)
theorem Env.nf_Maker_NoneType {P : Program} {K : PySem.W.Frag} {mg : Str → Option Value} (E : Env P K mg) : PySem.W.notFirst K (He.ga K "Maker") (.type "NoneType") = true := (E.x 29 (f := nfB "Maker" "NoneType") rfl)
theorem Env.kit_Maker_str {P : Program} {K : PySem.W.Frag} {mg : Str → Option Value} (E : Env P K mg) : PySem.W.kitOne K (.type "str") (.ref (He.ga K "Maker")) = some false := of_decide_eq_true (E.x 30 (f := kitB "Maker" "str" false) rfl)
theorem Env.nf_Maker_str {P : Program} {K : PySem.W.Frag} {mg : Str → Option Value} (E : Env P K mg) : PySem.W.notFirst K (He.ga K "Maker") (.type "str") = true := (E.x 31 (f := nfB "Maker" "str") rfl)
theorem Env.kit_Maker_bool {P : Program} {K : PySem.W.Frag} {mg : Str → Option Value} (E : Env P K mg) : PySem.W.kitOne K (.type "bool") (.ref (He.ga K "Maker")) = some false := of_decide_eq_true (E.x 32 (f := kitB "Maker" "bool" false) rfl)
theorem Env.nf_Maker_bool {P : Program} {K : PySem.W.Frag} {mg : Str → Option Value} (E : Env P K mg) : PySem.W.notFirst K (He.ga K "Maker") (.type "bool") = true := (E.x 33 (f := nfB "Maker" "bool") rfl)
theorem Env.call_Table {P : Program} {K : PySem.W.Frag} {mg : Str → Option Value} (E : Env P K mg) : StX.CallO K (He.ga K "Table") (He.ma K (He.ga K "Table") "__call__") := callB_ok (E.x 34 (f := callB "Table") rfl)
theorem Env.k_MOST_INLETS {P : Program} {K : PySem.W.Frag} {mg : Str → Option Value} (E : Env P K mg) : ∃ t, mg "MOST_INLETS" = some (.int 3 t) := by obtain ⟨h, X, G⟩ := E.ex; exact He.int_ok X G (E.c.fact 78 (f := .int "MOST_INLETS" 3) rfl)
theorem Env.k_MOST_WAYS {P : Program} {K : PySem.W.Frag} {mg : Str → Option Value} (E : Env P K mg) : ∃ t, mg "MOST_WAYS" = some (.int 4 t) := by obtain ⟨h, X, G⟩ := E.ex; exact He.int_ok X G (E.c.fact 79 (f := .int "MOST_WAYS" 4) rfl)
theorem Env.k_MOST_DEEDS {P : Program} {K : PySem.W.Frag} {mg : Str → Option Value} (E : Env P K mg) : ∃ t, mg "MOST_DEEDS" = some (.int 600 t) := by obtain ⟨h, X, G⟩ := E.ex; exact He.int_ok X G (E.c.fact 80 (f := .int "MOST_DEEDS" 600) rfl)
theorem Env.k_MOST_DEEDS_EACH {P : Program} {K : PySem.W.Frag} {mg : Str → Option Value} (E : Env P K mg) : ∃ t, mg "MOST_DEEDS_EACH" = some (.int 24 t) := by obtain ⟨h, X, G⟩ := E.ex; exact He.int_ok X G (E.c.fact 81 (f := .int "MOST_DEEDS_EACH" 24) rfl)
theorem Env.k_MOST_FIRST {P : Program} {K : PySem.W.Frag} {mg : Str → Option Value} (E : Env P K mg) : ∃ t, mg "MOST_FIRST" = some (.int 200 t) := by obtain ⟨h, X, G⟩ := E.ex; exact He.int_ok X G (E.c.fact 82 (f := .int "MOST_FIRST" 200) rfl)
theorem Env.k_MOST_THEN {P : Program} {K : PySem.W.Frag} {mg : Str → Option Value} (E : Env P K mg) : ∃ t, mg "MOST_THEN" = some (.int 40 t) := by obtain ⟨h, X, G⟩ := E.ex; exact He.int_ok X G (E.c.fact 83 (f := .int "MOST_THEN" 40) rfl)
theorem Env.k_GIVE {P : Program} {K : PySem.W.Frag} {mg : Str → Option Value} (E : Env P K mg) : ∃ t, mg "GIVE" = some (.str "give" t) := by obtain ⟨h, X, G⟩ := E.ex; exact He.str_ok X G (E.c.fact 84 (f := .str "GIVE" "give") rfl)
theorem Env.t0_Table {P : Program} {K : PySem.W.Frag} {mg : Str → Option Value} (E : Env P K mg) : ∀ H, SqT K H (He.dflAt ("Table", some "__init__") 0 K) [] := tup0B_ok (E.x 35 (f := fun K => tup0B K (He.dflAt ("Table", some "__init__") 0 K)) rfl)
theorem Env.f_super {P : Program} {K : PySem.W.Frag} {mg : Str → Option Value} (E : Env P K mg) : mg "super" = none := by obtain ⟨h, X, G⟩ := E.ex; exact He.free_ok X G (E.c.fact 85 (f := .free "super") rfl)
theorem Env.supx_TooMany {P : Program} {K : PySem.W.Frag} {mg : Str → Option Value} (E : Env P K mg) : XS.SupX P K mg (He.ga K "TooMany") (cellOf K (d_TooMany_init.adr K)) (codeOf K (d_TooMany_init.adr K)) := XS.supXB_ok mainFile E.pf.1 E.pf.2 E.f_super (E.x 36 (f := fun K => XS.supXB mainFile K (He.ga K "TooMany") (d_TooMany_init.adr K)) rfl)
theorem Env.supx_WrongNumber {P : Program} {K : PySem.W.Frag} {mg : Str → Option Value} (E : Env P K mg) : XS.SupX P K mg (He.ga K "WrongNumber") (cellOf K (d_WrongNumber_init.adr K)) (codeOf K (d_WrongNumber_init.adr K)) := XS.supXB_ok mainFile E.pf.1 E.pf.2 E.f_super (E.x 37 (f := fun K => XS.supXB mainFile K (He.ga K "WrongNumber") (d_WrongNumber_init.adr K)) rfl)
theorem Env.g_BadTables {P : Program} {K : PySem.W.Frag} {mg : Str → Option Value} (E : Env P K mg) : mg "BadTables" = some (.ref (He.ga K "BadTables")) := by obtain ⟨h, X, G⟩ := E.ex; exact He.glo_ok X G (E.c.fact 86 (f := .glo "BadTables") rfl)
theorem Env.ox_BadTables {P : Program} {K : PySem.W.Frag} {mg : Str → Option Value} (E : Env P K mg) : OexC K (He.ga K "BadTables") := oexB_ok (E.x 38 (f := fun K => oexB K (He.ga K "BadTables")) rfl)
theorem Env.xi_BadTables {P : Program} {K : PySem.W.Frag} {mg : Str → Option Value} (E : Env P K mg) : PySem.W.findIn K (.ref (He.ga K "BadTables")) "__init__" = some (some (.ref (He.ma K (He.ga K "WrongNumber") "__init__"))) := He.eqO_ok (E.x 39 (f := fun K => He.eqO (PySem.W.findIn K (.ref (He.ga K "BadTables")) "__init__") (some (some (.ref (He.ma K (He.ga K "WrongNumber") "__init__"))))) rfl)
theorem Env.xt_BadTables {P : Program} {K : PySem.W.Frag} {mg : Str → Option Value} (E : Env P K mg) : PySem.W.typeIn K (.ref (He.ma K (He.ga K "WrongNumber") "__init__")) = some (.type "function") := of_decide_eq_true (E.x 40 (f := fun K => decide (PySem.W.typeIn K (.ref (He.ma K (He.ga K "WrongNumber") "__init__")) = some (.type "function"))) rfl)
theorem Env.xs_BadTables {P : Program} {K : PySem.W.Frag} {mg : Str → Option Value} (E : Env P K mg) : XS.SupC K (He.ga K "WrongNumber") (He.ga K "BadTables") := XS.supCB_ok (E.x 41 (f := fun K => XS.supCB K (He.ga K "WrongNumber") (He.ga K "BadTables")) rfl)
theorem Env.xf_BadTables {P : Program} {K : PySem.W.Frag} {mg : Str → Option Value} (E : Env P K mg) : XfC K (He.ga K "BadTables") := xfB_ok (E.x 42 (f := fun K => xfB K (He.ga K "BadTables")) rfl)
theorem Env.nf_BadTables_number {P : Program} {K : PySem.W.Frag} {mg : Str → Option Value} (E : Env P K mg) : PySem.W.findIn K (.ref (He.ga K "BadTables")) "number" = some none := someNone_ok (E.x 43 (f := fun K => someNone (PySem.W.findIn K (.ref (He.ga K "BadTables")) "number")) rfl)
theorem Env.xe_BadTables {P : Program} {K : PySem.W.Frag} {mg : Str → Option Value} (E : Env P K mg) : PySem.W.exmOne K (.ref (He.ga K "BadTables")) (.ref (He.ga K "BadTables")) = some true := of_decide_eq_true (E.x 44 (f := fun K => decide (PySem.W.exmOne K (.ref (He.ga K "BadTables")) (.ref (He.ga K "BadTables")) = some true)) rfl)
theorem Env.g_TooMany {P : Program} {K : PySem.W.Frag} {mg : Str → Option Value} (E : Env P K mg) : mg "TooMany" = some (.ref (He.ga K "TooMany")) := by obtain ⟨h, X, G⟩ := E.ex; exact He.glo_ok X G (E.c.fact 87 (f := .glo "TooMany") rfl)
theorem Env.ox_TooMany {P : Program} {K : PySem.W.Frag} {mg : Str → Option Value} (E : Env P K mg) : OexC K (He.ga K "TooMany") := oexB_ok (E.x 45 (f := fun K => oexB K (He.ga K "TooMany")) rfl)
theorem Env.xi_TooMany {P : Program} {K : PySem.W.Frag} {mg : Str → Option Value} (E : Env P K mg) : PySem.W.findIn K (.ref (He.ga K "TooMany")) "__init__" = some (some (.ref (He.ma K (He.ga K "TooMany") "__init__"))) := He.eqO_ok (E.x 46 (f := fun K => He.eqO (PySem.W.findIn K (.ref (He.ga K "TooMany")) "__init__") (some (some (.ref (He.ma K (He.ga K "TooMany") "__init__"))))) rfl)
theorem Env.xt_TooMany {P : Program} {K : PySem.W.Frag} {mg : Str → Option Value} (E : Env P K mg) : PySem.W.typeIn K (.ref (He.ma K (He.ga K "TooMany") "__init__")) = some (.type "function") := of_decide_eq_true (E.x 47 (f := fun K => decide (PySem.W.typeIn K (.ref (He.ma K (He.ga K "TooMany") "__init__")) = some (.type "function"))) rfl)
theorem Env.xs_TooMany {P : Program} {K : PySem.W.Frag} {mg : Str → Option Value} (E : Env P K mg) : XS.SupC K (He.ga K "TooMany") (He.ga K "TooMany") := XS.supCB_ok (E.x 48 (f := fun K => XS.supCB K (He.ga K "TooMany") (He.ga K "TooMany")) rfl)
theorem Env.xf_TooMany {P : Program} {K : PySem.W.Frag} {mg : Str → Option Value} (E : Env P K mg) : XfC K (He.ga K "TooMany") := xfB_ok (E.x 49 (f := fun K => xfB K (He.ga K "TooMany")) rfl)
theorem Env.nf_TooMany_word {P : Program} {K : PySem.W.Frag} {mg : Str → Option Value} (E : Env P K mg) : PySem.W.findIn K (.ref (He.ga K "TooMany")) "word" = some none := someNone_ok (E.x 50 (f := fun K => someNone (PySem.W.findIn K (.ref (He.ga K "TooMany")) "word")) rfl)
theorem Env.xe_TooMany {P : Program} {K : PySem.W.Frag} {mg : Str → Option Value} (E : Env P K mg) : PySem.W.exmOne K (.ref (He.ga K "TooMany")) (.ref (He.ga K "TooMany")) = some true := of_decide_eq_true (E.x 51 (f := fun K => decide (PySem.W.exmOne K (.ref (He.ga K "TooMany")) (.ref (He.ga K "TooMany")) = some true)) rfl)
theorem Env.xn_TooMany_BadTables {P : Program} {K : PySem.W.Frag} {mg : Str → Option Value} (E : Env P K mg) : PySem.W.exmOne K (.ref (He.ga K "TooMany")) (.ref (He.ga K "BadTables")) = some false := of_decide_eq_true (E.x 52 (f := fun K => decide (PySem.W.exmOne K (.ref (He.ga K "TooMany")) (.ref (He.ga K "BadTables")) = some false)) rfl)
theorem Env.dd_is_integer {P : Program} {K : PySem.W.Frag} {mg : Str → Option Value} (E : Env P K mg) : ∃ fd, FunD K "is_integer" "is_integer" (defArgs s_is_integer) (defBody s_is_integer) (defScope s_is_integer) (d_is_integer.dvs K) [] (d_is_integer.adr K) fd := E.c.def_ 0 (d := d_is_integer) rfl
theorem Env.dd_is_count {P : Program} {K : PySem.W.Frag} {mg : Str → Option Value} (E : Env P K mg) : ∃ fd, FunD K "is_count" "is_count" (defArgs s_is_count) (defBody s_is_count) (defScope s_is_count) (d_is_count.dvs K) [] (d_is_count.adr K) fd := E.c.def_ 1 (d := d_is_count) rfl
theorem Env.dd_is_listed {P : Program} {K : PySem.W.Frag} {mg : Str → Option Value} (E : Env P K mg) : ∃ fd, FunD K "is_listed" "is_listed" (defArgs s_is_listed) (defBody s_is_listed) (defScope s_is_listed) (d_is_listed.dvs K) [] (d_is_listed.adr K) fd := E.c.def_ 2 (d := d_is_listed) rfl
theorem Env.dd_is_counts {P : Program} {K : PySem.W.Frag} {mg : Str → Option Value} (E : Env P K mg) : ∃ fd, FunD K "is_counts" "is_counts" (defArgs s_is_counts) (defBody s_is_counts) (defScope s_is_counts) (d_is_counts.dvs K) [] (d_is_counts.adr K) fd := E.c.def_ 3 (d := d_is_counts) rfl
theorem Env.dd_deep {P : Program} {K : PySem.W.Frag} {mg : Str → Option Value} (E : Env P K mg) : ∃ fd, FunD K "deep" "deep" (defArgs s_deep) (defBody s_deep) (defScope s_deep) (d_deep.dvs K) [] (d_deep.adr K) fd := E.c.def_ 4 (d := d_deep) rfl
theorem Env.dd_at_most {P : Program} {K : PySem.W.Frag} {mg : Str → Option Value} (E : Env P K mg) : ∃ fd, FunD K "at_most" "at_most" (defArgs s_at_most) (defBody s_at_most) (defScope s_at_most) (d_at_most.dvs K) [] (d_at_most.adr K) fd := E.c.def_ 5 (d := d_at_most) rfl
theorem Env.dd_common_divisor {P : Program} {K : PySem.W.Frag} {mg : Str → Option Value} (E : Env P K mg) : ∃ fd, FunD K "common_divisor" "common_divisor" (defArgs s_common_divisor) (defBody s_common_divisor) (defScope s_common_divisor) (d_common_divisor.dvs K) [] (d_common_divisor.adr K) fd := E.c.def_ 6 (d := d_common_divisor) rfl
theorem Env.dd_common_multiple {P : Program} {K : PySem.W.Frag} {mg : Str → Option Value} (E : Env P K mg) : ∃ fd, FunD K "common_multiple" "common_multiple" (defArgs s_common_multiple) (defBody s_common_multiple) (defScope s_common_multiple) (d_common_multiple.dvs K) [] (d_common_multiple.adr K) fd := E.c.def_ 7 (d := d_common_multiple) rfl
theorem Env.dd_end_of {P : Program} {K : PySem.W.Frag} {mg : Str → Option Value} (E : Env P K mg) : ∃ fd, FunD K "end_of" "end_of" (defArgs s_end_of) (defBody s_end_of) (defScope s_end_of) (d_end_of.dvs K) [] (d_end_of.adr K) fd := E.c.def_ 8 (d := d_end_of) rfl
theorem Env.dd_value_at {P : Program} {K : PySem.W.Frag} {mg : Str → Option Value} (E : Env P K mg) : ∃ fd, FunD K "value_at" "value_at" (defArgs s_value_at) (defBody s_value_at) (defScope s_value_at) (d_value_at.dvs K) [] (d_value_at.adr K) fd := E.c.def_ 9 (d := d_value_at) rfl
theorem Env.dd_short_loop {P : Program} {K : PySem.W.Frag} {mg : Str → Option Value} (E : Env P K mg) : ∃ fd, FunD K "short_loop" "short_loop" (defArgs s_short_loop) (defBody s_short_loop) (defScope s_short_loop) (d_short_loop.dvs K) [] (d_short_loop.adr K) fd := E.c.def_ 10 (d := d_short_loop) rfl
theorem Env.dd_plain_form {P : Program} {K : PySem.W.Frag} {mg : Str → Option Value} (E : Env P K mg) : ∃ fd, FunD K "plain_form" "plain_form" (defArgs s_plain_form) (defBody s_plain_form) (defScope s_plain_form) (d_plain_form.dvs K) [] (d_plain_form.adr K) fd := E.c.def_ 11 (d := d_plain_form) rfl
theorem Env.dd_is_rising {P : Program} {K : PySem.W.Frag} {mg : Str → Option Value} (E : Env P K mg) : ∃ fd, FunD K "is_rising" "is_rising" (defArgs s_is_rising) (defBody s_is_rising) (defScope s_is_rising) (d_is_rising.dvs K) [] (d_is_rising.adr K) fd := E.c.def_ 12 (d := d_is_rising) rfl
theorem Env.dd_checked_table {P : Program} {K : PySem.W.Frag} {mg : Str → Option Value} (E : Env P K mg) : ∃ fd, FunD K "checked_table" "checked_table" (defArgs s_checked_table) (defBody s_checked_table) (defScope s_checked_table) (d_checked_table.dvs K) [] (d_checked_table.adr K) fd := E.c.def_ 13 (d := d_checked_table) rfl
theorem Env.dd_is_deed {P : Program} {K : PySem.W.Frag} {mg : Str → Option Value} (E : Env P K mg) : ∃ fd, FunD K "is_deed" "is_deed" (defArgs s_is_deed) (defBody s_is_deed) (defScope s_is_deed) (d_is_deed.dvs K) [] (d_is_deed.adr K) fd := E.c.def_ 14 (d := d_is_deed) rfl
theorem Env.dd_is_deeds {P : Program} {K : PySem.W.Frag} {mg : Str → Option Value} (E : Env P K mg) : ∃ fd, FunD K "is_deeds" "is_deeds" (defArgs s_is_deeds) (defBody s_is_deeds) (defScope s_is_deeds) (d_is_deeds.dvs K) [] (d_is_deeds.adr K) fd := E.c.def_ 15 (d := d_is_deeds) rfl
theorem Env.dd_is_ways {P : Program} {K : PySem.W.Frag} {mg : Str → Option Value} (E : Env P K mg) : ∃ fd, FunD K "is_ways" "is_ways" (defArgs s_is_ways) (defBody s_is_ways) (defScope s_is_ways) (d_is_ways.dvs K) [] (d_is_ways.adr K) fd := E.c.def_ 16 (d := d_is_ways) rfl
theorem Env.dd_is_way_numbers {P : Program} {K : PySem.W.Frag} {mg : Str → Option Value} (E : Env P K mg) : ∃ fd, FunD K "is_way_numbers" "is_way_numbers" (defArgs s_is_way_numbers) (defBody s_is_way_numbers) (defScope s_is_way_numbers) (d_is_way_numbers.dvs K) [] (d_is_way_numbers.adr K) fd := E.c.def_ 17 (d := d_is_way_numbers) rfl
theorem Env.dd_is_course {P : Program} {K : PySem.W.Frag} {mg : Str → Option Value} (E : Env P K mg) : ∃ fd, FunD K "is_course" "is_course" (defArgs s_is_course) (defBody s_is_course) (defScope s_is_course) (d_is_course.dvs K) [] (d_is_course.adr K) fd := E.c.def_ 18 (d := d_is_course) rfl
theorem Env.dd_takes_ahead {P : Program} {K : PySem.W.Frag} {mg : Str → Option Value} (E : Env P K mg) : ∃ fd, FunD K "takes_ahead" "takes_ahead" (defArgs s_takes_ahead) (defBody s_takes_ahead) (defScope s_takes_ahead) (d_takes_ahead.dvs K) [] (d_takes_ahead.adr K) fd := E.c.def_ 19 (d := d_takes_ahead) rfl
theorem Env.dd_check_inlet {P : Program} {K : PySem.W.Frag} {mg : Str → Option Value} (E : Env P K mg) : ∃ fd, FunD K "check_inlet" "check_inlet" (defArgs s_check_inlet) (defBody s_check_inlet) (defScope s_check_inlet) (d_check_inlet.dvs K) [] (d_check_inlet.adr K) fd := E.c.def_ 20 (d := d_check_inlet) rfl
theorem Env.dd_need_on {P : Program} {K : PySem.W.Frag} {mg : Str → Option Value} (E : Env P K mg) : ∃ fd, FunD K "need_on" "need_on" (defArgs s_need_on) (defBody s_need_on) (defScope s_need_on) (d_need_on.dvs K) [] (d_need_on.adr K) fd := E.c.def_ 21 (d := d_need_on) rfl
theorem Env.dd_extreme {P : Program} {K : PySem.W.Frag} {mg : Str → Option Value} (E : Env P K mg) : ∃ fd, FunD K "extreme" "extreme" (defArgs s_extreme) (defBody s_extreme) (defScope s_extreme) (d_extreme.dvs K) [] (d_extreme.adr K) fd := E.c.def_ 22 (d := d_extreme) rfl
theorem Env.dd_least {P : Program} {K : PySem.W.Frag} {mg : Str → Option Value} (E : Env P K mg) : ∃ fd, FunD K "least" "least" (defArgs s_least) (defBody s_least) (defScope s_least) (d_least.dvs K) [] (d_least.adr K) fd := E.c.def_ 23 (d := d_least) rfl
theorem Env.dd_greatest {P : Program} {K : PySem.W.Frag} {mg : Str → Option Value} (E : Env P K mg) : ∃ fd, FunD K "greatest" "greatest" (defArgs s_greatest) (defBody s_greatest) (defScope s_greatest) (d_greatest.dvs K) [] (d_greatest.adr K) fd := E.c.def_ 24 (d := d_greatest) rfl
theorem Env.dd_check_lengths {P : Program} {K : PySem.W.Frag} {mg : Str → Option Value} (E : Env P K mg) : ∃ fd, FunD K "check_lengths" "check_lengths" (defArgs s_check_lengths) (defBody s_check_lengths) (defScope s_check_lengths) (d_check_lengths.dvs K) [] (d_check_lengths.adr K) fd := E.c.def_ 25 (d := d_check_lengths) rfl
theorem Env.dd_deeds_to {P : Program} {K : PySem.W.Frag} {mg : Str → Option Value} (E : Env P K mg) : ∃ fd, FunD K "deeds_to" "deeds_to" (defArgs s_deeds_to) (defBody s_deeds_to) (defScope s_deeds_to) (d_deeds_to.dvs K) [] (d_deeds_to.adr K) fd := E.c.def_ 26 (d := d_deeds_to) rfl
theorem Env.dd_maker_of {P : Program} {K : PySem.W.Frag} {mg : Str → Option Value} (E : Env P K mg) : ∃ fd, FunD K "maker_of" "maker_of" (defArgs s_maker_of) (defBody s_maker_of) (defScope s_maker_of) (d_maker_of.dvs K) [] (d_maker_of.adr K) fd := E.c.def_ 27 (d := d_maker_of) rfl
theorem Env.dd__law_source {P : Program} {K : PySem.W.Frag} {mg : Str → Option Value} (E : Env P K mg) : ∃ fd, FunD K "_law_source" "_law_source" (defArgs s__law_source) (defBody s__law_source) (defScope s__law_source) (d__law_source.dvs K) [] (d__law_source.adr K) fd := E.c.def_ 28 (d := d__law_source) rfl
theorem Env.dd__law_pick {P : Program} {K : PySem.W.Frag} {mg : Str → Option Value} (E : Env P K mg) : ∃ fd, FunD K "_law_pick" "_law_pick" (defArgs s__law_pick) (defBody s__law_pick) (defScope s__law_pick) (d__law_pick.dvs K) [] (d__law_pick.adr K) fd := E.c.def_ 29 (d := d__law_pick) rfl
theorem Env.dd__law_is_integer {P : Program} {K : PySem.W.Frag} {mg : Str → Option Value} (E : Env P K mg) : ∃ fd, FunD K "_law_is_integer" "_law_is_integer" (defArgs s__law_is_integer) (defBody s__law_is_integer) (defScope s__law_is_integer) (d__law_is_integer.dvs K) [] (d__law_is_integer.adr K) fd := E.c.def_ 30 (d := d__law_is_integer) rfl
theorem Env.dd__law_is_count {P : Program} {K : PySem.W.Frag} {mg : Str → Option Value} (E : Env P K mg) : ∃ fd, FunD K "_law_is_count" "_law_is_count" (defArgs s__law_is_count) (defBody s__law_is_count) (defScope s__law_is_count) (d__law_is_count.dvs K) [] (d__law_is_count.adr K) fd := E.c.def_ 31 (d := d__law_is_count) rfl
theorem Env.dd__law_rising {P : Program} {K : PySem.W.Frag} {mg : Str → Option Value} (E : Env P K mg) : ∃ fd, FunD K "_law_rising" "_law_rising" (defArgs s__law_rising) (defBody s__law_rising) (defScope s__law_rising) (d__law_rising.dvs K) [] (d__law_rising.adr K) fd := E.c.def_ 32 (d := d__law_rising) rfl
theorem Env.dd__law_raw {P : Program} {K : PySem.W.Frag} {mg : Str → Option Value} (E : Env P K mg) : ∃ fd, FunD K "_law_raw" "_law_raw" (defArgs s__law_raw) (defBody s__law_raw) (defScope s__law_raw) (d__law_raw.dvs K) [] (d__law_raw.adr K) fd := E.c.def_ 33 (d := d__law_raw) rfl
theorem Env.dd__law_end {P : Program} {K : PySem.W.Frag} {mg : Str → Option Value} (E : Env P K mg) : ∃ fd, FunD K "_law_end" "_law_end" (defArgs s__law_end) (defBody s__law_end) (defScope s__law_end) (d__law_end.dvs K) [] (d__law_end.adr K) fd := E.c.def_ 34 (d := d__law_end) rfl
theorem Env.dd__law_at {P : Program} {K : PySem.W.Frag} {mg : Str → Option Value} (E : Env P K mg) : ∃ fd, FunD K "_law_at" "_law_at" (defArgs s__law_at) (defBody s__law_at) (defScope s__law_at) (d__law_at.dvs K) [] (d__law_at.adr K) fd := E.c.def_ 35 (d := d__law_at) rfl
theorem Env.dd__law_plain {P : Program} {K : PySem.W.Frag} {mg : Str → Option Value} (E : Env P K mg) : ∃ fd, FunD K "_law_plain" "_law_plain" (defArgs s__law_plain) (defBody s__law_plain) (defScope s__law_plain) (d__law_plain.dvs K) [] (d__law_plain.adr K) fd := E.c.def_ 36 (d := d__law_plain) rfl
theorem Env.dd__law_counts {P : Program} {K : PySem.W.Frag} {mg : Str → Option Value} (E : Env P K mg) : ∃ fd, FunD K "_law_counts" "_law_counts" (defArgs s__law_counts) (defBody s__law_counts) (defScope s__law_counts) (d__law_counts.dvs K) [] (d__law_counts.adr K) fd := E.c.def_ 37 (d := d__law_counts) rfl
theorem Env.dd__law_same {P : Program} {K : PySem.W.Frag} {mg : Str → Option Value} (E : Env P K mg) : ∃ fd, FunD K "_law_same" "_law_same" (defArgs s__law_same) (defBody s__law_same) (defScope s__law_same) (d__law_same.dvs K) [] (d__law_same.adr K) fd := E.c.def_ 38 (d := d__law_same) rfl
theorem Env.dd__law_table {P : Program} {K : PySem.W.Frag} {mg : Str → Option Value} (E : Env P K mg) : ∃ fd, FunD K "_law_table" "_law_table" (defArgs s__law_table) (defBody s__law_table) (defScope s__law_table) (d__law_table.dvs K) [] (d__law_table.adr K) fd := E.c.def_ 39 (d := d__law_table) rfl
theorem Env.dd__law_ahead {P : Program} {K : PySem.W.Frag} {mg : Str → Option Value} (E : Env P K mg) : ∃ fd, FunD K "_law_ahead" "_law_ahead" (defArgs s__law_ahead) (defBody s__law_ahead) (defScope s__law_ahead) (d__law_ahead.dvs K) [] (d__law_ahead.adr K) fd := E.c.def_ 40 (d := d__law_ahead) rfl
theorem Env.dd__law_on {P : Program} {K : PySem.W.Frag} {mg : Str → Option Value} (E : Env P K mg) : ∃ fd, FunD K "_law_on" "_law_on" (defArgs s__law_on) (defBody s__law_on) (defScope s__law_on) (d__law_on.dvs K) [] (d__law_on.adr K) fd := E.c.def_ 41 (d := d__law_on) rfl
theorem Env.dd__law_ended {P : Program} {K : PySem.W.Frag} {mg : Str → Option Value} (E : Env P K mg) : ∃ fd, FunD K "_law_ended" "_law_ended" (defArgs s__law_ended) (defBody s__law_ended) (defScope s__law_ended) (d__law_ended.dvs K) [] (d__law_ended.adr K) fd := E.c.def_ 42 (d := d__law_ended) rfl
theorem Env.dd__law_tables {P : Program} {K : PySem.W.Frag} {mg : Str → Option Value} (E : Env P K mg) : ∃ fd, FunD K "_law_tables" "_law_tables" (defArgs s__law_tables) (defBody s__law_tables) (defScope s__law_tables) (d__law_tables.dvs K) [] (d__law_tables.adr K) fd := E.c.def_ 43 (d := d__law_tables) rfl
theorem Env.dd__law_seen {P : Program} {K : PySem.W.Frag} {mg : Str → Option Value} (E : Env P K mg) : ∃ fd, FunD K "_law_seen" "_law_seen" (defArgs s__law_seen) (defBody s__law_seen) (defScope s__law_seen) (d__law_seen.dvs K) [] (d__law_seen.adr K) fd := E.c.def_ 44 (d := d__law_seen) rfl
theorem Env.dd_law {P : Program} {K : PySem.W.Frag} {mg : Str → Option Value} (E : Env P K mg) : ∃ fd, FunD K "law" "law" (defArgs s_law) (defBody s_law) (defScope s_law) (d_law.dvs K) [] (d_law.adr K) fd := E.c.def_ 45 (d := d_law) rfl
theorem Env.dd_Table_init {P : Program} {K : PySem.W.Frag} {mg : Str → Option Value} (E : Env P K mg) : ∃ fd, FunD K "__init__" "Table.__init__" (defArgs s_Table_init) (defBody s_Table_init) (defScope s_Table_init) (d_Table_init.dvs K) [] (d_Table_init.adr K) fd := E.c.def_ 46 (d := d_Table_init) rfl
theorem Env.dd_Table_call {P : Program} {K : PySem.W.Frag} {mg : Str → Option Value} (E : Env P K mg) : ∃ fd, FunD K "__call__" "Table.__call__" (defArgs s_Table_call) (defBody s_Table_call) (defScope s_Table_call) (d_Table_call.dvs K) [] (d_Table_call.adr K) fd := E.c.def_ 47 (d := d_Table_call) rfl
theorem Env.dd_Table_eq {P : Program} {K : PySem.W.Frag} {mg : Str → Option Value} (E : Env P K mg) : ∃ fd, FunD K "__eq__" "Table.__eq__" (defArgs s_Table_eq) (defBody s_Table_eq) (defScope s_Table_eq) (d_Table_eq.dvs K) [] (d_Table_eq.adr K) fd := E.c.def_ 48 (d := d_Table_eq) rfl
theorem Env.dd_Maker_init {P : Program} {K : PySem.W.Frag} {mg : Str → Option Value} (E : Env P K mg) : ∃ fd, FunD K "__init__" "Maker.__init__" (defArgs s_Maker_init) (defBody s_Maker_init) (defScope s_Maker_init) (d_Maker_init.dvs K) [] (d_Maker_init.adr K) fd := E.c.def_ 49 (d := d_Maker_init) rfl
theorem Env.dd_Maker_eq {P : Program} {K : PySem.W.Frag} {mg : Str → Option Value} (E : Env P K mg) : ∃ fd, FunD K "__eq__" "Maker.__eq__" (defArgs s_Maker_eq) (defBody s_Maker_eq) (defScope s_Maker_eq) (d_Maker_eq.dvs K) [] (d_Maker_eq.adr K) fd := E.c.def_ 50 (d := d_Maker_eq) rfl
theorem Env.dd_Maker_need {P : Program} {K : PySem.W.Frag} {mg : Str → Option Value} (E : Env P K mg) : ∃ fd, FunD K "need" "Maker.need" (defArgs s_Maker_need) (defBody s_Maker_need) (defScope s_Maker_need) (d_Maker_need.dvs K) [] (d_Maker_need.adr K) fd := E.c.def_ 51 (d := d_Maker_need) rfl
theorem Env.dd_WrongNumber_init {P : Program} {K : PySem.W.Frag} {mg : Str → Option Value} (E : Env P K mg) : ∃ fd, FunS K "__init__" "WrongNumber.__init__" (defArgs s_WrongNumber_init) (defBody s_WrongNumber_init) (defScope s_WrongNumber_init) (d_WrongNumber_init.adr K) fd (cellOf K (d_WrongNumber_init.adr K)) (codeOf K (d_WrongNumber_init.adr K)) := E.c.defS 52 (d := d_WrongNumber_init) rfl
theorem Env.dd_TooMany_init {P : Program} {K : PySem.W.Frag} {mg : Str → Option Value} (E : Env P K mg) : ∃ fd, FunS K "__init__" "TooMany.__init__" (defArgs s_TooMany_init) (defBody s_TooMany_init) (defScope s_TooMany_init) (d_TooMany_init.adr K) fd (cellOf K (d_TooMany_init.adr K)) (codeOf K (d_TooMany_init.adr K)) := E.c.defS 53 (d := d_TooMany_init) rfl

end M
namespace M
open PySem PySem.Spec PyProof.Rows L2 Evl MS
def nmL0 : List Str := ["_wall", "RosterneedError", "WrongThing", "WrongWord", "WrongNumber", "TooMany", "BadCount", "BadInlet", "BadCourse", "BadTable", "BadMaker", "BadTables", "is_integer", "is_count", "is_listed", "is_counts", "deep", "at_most", "greater_of", "lesser_of", "common_divisor", "common_multiple", "end_of", "value_at", "short_loop"]
def nmL1 : List Str := ["plain_form", "formed", "until_never", "first_beyond", "behind_raw", "later_start", "joined_values", "joined_raw", "counts_below", "turned_raw", "is_rising", "checked_table", "Table", "table_from", "is_deed", "is_deeds", "is_ways", "is_way_numbers", "is_course", "takes_ahead", "check_inlet", "need_on", "Maker", "Rounds", "extreme"]
def nmL2 : List Str := ["least", "greatest", "check_lengths", "deeds_to", "maker_of", "_law_source", "_law_pick", "_law_is_integer", "_law_is_count", "_law_rising", "_law_raw", "_law_end", "_law_at", "_law_plain", "_law_counts", "_law_same", "_law_table", "_law_ahead", "_law_on", "_law_ended", "_law_tables", "_law_seen", "GIVE", "MOST_INLETS", "MOST_WAYS"]
def nmL3 : List Str := ["MOST_DEEDS", "MOST_DEEDS_EACH", "MOST_FIRST", "MOST_THEN"]
def nmL : List Str := nmL0 ++ nmL1 ++ nmL2 ++ nmL3
abbrev R : PySem.W.OpenRow := PySem.W.OpenLaw.row PySem.Challenge.rw_rosterneed_k28_whole_makers_of_tables
abbrev hk : PySem.W.Hook := hookM 6 fa fn exB
def ob (s : PySem.W.SharedT) : AlM := obsMG 6 fa fn exB (HandSHeadRun.getT s)
theorem ob_eq (s : PySem.W.SharedT) : ob s = hk.obs s.abs := obsMG_eq (HandSHeadRun.getT_eq s)
end M
/-! the head run in chunks: states at ends of statements, each chunk by one look of the kernel (own text) -/
noncomputable section
namespace HC
open PySem PySem.W PySem.Calls PyProof.Rows HandSHeadRun
def gsF (st : SharedT → Thread → Option (SharedT × Thread)) (n0 : Nat) (ann : Option Value) : Nat → SharedT → Thread → Option (Flow × SharedT × Code × Pos)
  | 0, _, _ => none
  | m + 1, s, t => match endAt 1 t with
    | some f => some (f, s, t.code, t.pos)
    | none => match stepOk n0 ann t with
      | false => none
      | true => match st s t with
        | some (s', t') => frS s' fun s' => gsF st n0 ann m s' t'
        | none => none
def gpF (st : SharedT → Thread → Option (SharedT × Thread)) (n0 : Nat) (ann : Option Value) : Nat → SharedT → Thread → Option (SharedT × Thread)
  | 0, s, t => some (s, t)
  | m + 1, s, t => match through t with
    | true => none
    | false => match stepOk n0 ann t with
      | false => none
      | true => match st s t with
        | some (s', t') => frS s' fun s' => gpF st n0 ann m s' t'
        | none => none
section
variable {tb : String → Option Builtin} {p : Program} {w : World} {n0 : Nat} {ann : Option Value}
theorem gsF_eq : ∀ (m : Nat) (s : SharedT) (t : Thread), gsF (stepT (denote tb) p w) n0 ann m s t = segRunT tb p w n0 ann 1 m s t
  | 0, _, _ => rfl
  | m + 1, s, t => by
    unfold gsF segRunT
    cases endAt 1 t with
    | some f => rfl
    | none =>
      cases stepOk n0 ann t with
      | false => rfl
      | true =>
        cases stepT (denote tb) p w s t with
        | none => rfl
        | some r =>
          obtain ⟨s', t'⟩ := r
          show frS s' (fun s' => gsF (stepT (denote tb) p w) n0 ann m s' t') = _
          rw [frS_eq, gsF_eq m s' t']
theorem gpF_ok : ∀ {m : Nat} {s s' : SharedT} {t t' : Thread}, gpF (stepT (denote tb) p w) n0 ann m s t = some (s', t') → topGo tb p w n0 ann m s.abs t = some (s'.abs, t')
  | 0, _, _, _, _, h => by cases h; rfl
  | m + 1, s, s', t, t', h => by
    unfold gpF at h
    unfold topGo
    cases ht : through t with
    | true => rw [ht] at h; cases h
    | false =>
      rw [ht] at h
      cases hk : stepOk n0 ann t with
      | false => rw [hk] at h; cases h
      | true =>
        rw [hk] at h
        cases hs : stepT (denote tb) p w s t with
        | none => rw [hs] at h; cases h
        | some r =>
          obtain ⟨s2, t2⟩ := r
          rw [hs] at h
          have h3 : (frS s2 fun s' => gpF (stepT (denote tb) p w) n0 ann m s' t2) = some (s', t') := h
          rw [frS_eq] at h3
          rw [stepT_spec hs]
          exact gpF_ok h3
end
def execsQ : List Stmt → Env → Sem Flow := PySem.W.Fast.tw12563942051412417395
theorem execsQ_eq : @PySem.execs = execsQ := PySem.W.Fast.te12563942051412417395
def startQ : List Stmt → Env → Sem Unit := PySem.W.Fast.tw1066825118222455980
theorem startQ_eq : @PySem.blockStart = startQ := PySem.W.Fast.te1066825118222455980
abbrev piecesQ (l : List Stmt) (env : Env) (c : Code) (p : Pos) (B : List Frame) : Thread := ⟨(execsQ l env).wrap doneF deadEnd id id, c, p, B⟩
abbrev blockQ (l : List Stmt) (env : Env) (c : Code) (p : Pos) (B : List Frame) : Thread := ⟨(startQ l env).wrap (fun _ => doneF .next) deadEnd id id, c, p, B⟩
section
variable {p : Program} {w : World} {n0 : Nat} {ann : Option Value} {env : Env} {q : Pos}
theorem chunk_of {n N : Nat} {s s' : SharedT} {r : Shared} {l rest : List Stmt} {c : Code} {pos p' : Pos} (h : gsF (stepQ (denQ tabQ) p w) n0 ann n s (piecesQ l env c pos [topFrame q]) = some (.next, s', c, p'))
    (k : topRun treeTable p w n0 ann N s'.abs (restOf rest env c p' [topFrame q]) = some r) : topRun treeTable p w n0 ann (n + N) s.abs (restOf (l ++ rest) env c pos [topFrame q]) = some r := by
  have h2 : gsF (stepT (denote treeTable) p w) n0 ann n s (piecesOf l env c pos [topFrame q]) = some (.next, s', c, p') := by
    rw [stepQ_eq, denQ_eq, tabQ_eq]
    show gsF _ _ _ _ _ ⟨(execs l env).wrap doneF deadEnd id id, c, pos, [topFrame q]⟩ = _
    rw [execsQ_eq]
    exact h
  rw [gsF_eq] at h2
  exact piece_app (segRun_of h2) k
theorem start_of {n N : Nat} {s s' : SharedT} {r : Shared} {b : List Stmt} {c : Code} {pos p' : Pos} (h : gsF (stepQ (denQ tabQ) p w) n0 ann n s (blockQ b env c pos [topFrame q]) = some (.next, s', c, p'))
    (k : topRun treeTable p w n0 ann N s'.abs (restOf b env c p' [topFrame q]) = some r) : topRun treeTable p w n0 ann (n + N) s.abs ⟨denote treeTable (.body b env), c, pos, [topFrame q]⟩ = some r := by
  have h2 : gsF (stepT (denote treeTable) p w) n0 ann n s (blockOf b env c pos [topFrame q]) = some (.next, s', c, p') := by
    rw [stepQ_eq, denQ_eq, tabQ_eq]
    show gsF _ _ _ _ _ ⟨(blockStart b env).wrap (fun _ => doneF .next) deadEnd id id, c, pos, [topFrame q]⟩ = _
    rw [startQ_eq]
    exact h
  rw [gsF_eq] at h2
  exact piece_block (segRun_of h2) k
theorem pre_of {n N : Nat} {s s' : SharedT} {r : Shared} {c : Code} {pos : Pos} (h : gpF (stepQ (denQ tabQ) p w) n0 ann n s (topStub p) = some (s', ⟨denQ tabQ c, c, pos, [topFrame q]⟩))
    (k : topRun treeTable p w n0 ann N s'.abs ⟨denote treeTable c, c, pos, [topFrame q]⟩ = some r) : topRun treeTable p w n0 ann (n + N) s.abs (topStub p) = some r := by
  have h2 : gpF (stepT (denote treeTable) p w) n0 ann n s (topStub p) = some (s', ⟨denote treeTable c, c, pos, [topFrame q]⟩) := by
    rw [stepQ_eq, denQ_eq, tabQ_eq]
    exact h
  exact go_top (gpF_ok h2) k
theorem fin_of {n : Nat} {s s' : SharedT} {c : Code} {pos : Pos} (h : goF (stepQ (denQ tabQ) p w) n0 ann n s ⟨doneF .next, c, pos, [topFrame q]⟩ = some s') :
    topRun treeTable p w n0 ann n s.abs (restOf [] env c pos [topFrame q]) = some s'.abs := by
  have h2 : goF (stepT (denote treeTable) p w) n0 ann n s ⟨doneF .next, c, pos, [topFrame q]⟩ = some s' := by
    rw [stepQ_eq, denQ_eq, tabQ_eq]
    exact h
  exact piece_nil (goF_ok h2)
end
theorem left_run {p q : Program} {loose : List Str} {Xt : Shared → Bool} {α : Type} {Yf : Shared → α} {Ya : World → α} {N M : Nat} {n0 : Nat} {ann : Option Value} {S0 Sk : World → OsState → SharedT}
    (e : opening p = plainProg p.main.scope.names) (hN : Nat.ble 600 N = true) (f : ∀ s, fenceModules? p s = some s) (le : Nat.ble M N = true)
    (hS0 : ∀ w os, (S0 w os).abs = ⟨boot_heap w.params, #[], boot_drawn, boot_toks, os⟩) (hn : ∀ w : World, (boot_heap w.params).objs.size = n0) (ha : ∀ w, bootAnn w = ann)
    (run : ∀ (w : World) (os : OsState), topRun treeTable p w n0 ann M (S0 w os).abs (topStub p) = some (Sk w os).abs)
    (look : ∀ (w : World) (os : OsState), (looksF p (boot_heap w.params) (Sk w os).abs, openSeen q loose (importedModules p.main.body) Xt true (Sk w os).abs, Yf (Sk w os).abs) = (true, openGood q loose, Ya w)) :
    LeftO p q loose Xt Yf Ya N true := fun w => by
  obtain ⟨⟨h, gs, d, k, os⟩, a, a'⟩ := Option.map_eq_some_iff.mp (boot_open e hN f w)
  obtain ⟨rfl, rfl, rfl, rfl⟩ : h = boot_heap w.params ∧ gs = Array.mk [] ∧ d = boot_drawn ∧ k = boot_toks := by simpa using a'
  have hr := run w os
  obtain ⟨l1, l2, l3⟩ : _ ∧ _ ∧ _ := by simpa only [Prod.mk.injEq] using look w os
  generalize (Sk w os).abs = s at *
  rw [hS0] at hr
  have r := topRun_mono (N - M) _ _ _ _ hr
  rw [show M + (N - M) = N by have := Nat.le_of_ble_eq_true le; omega] at r
  rw [← hn w, ← ha w] at r
  have l1' : (staticsOk (importedModules p.main.body) (boot_heap w.params) s.heap && namesBound p s.heap && gensDone s && laidKept (boot_heap w.params) s.heap) = true := l1
  have t : topFrom treeTable p w N ⟨boot_heap w.params, Array.mk [], boot_drawn, boot_toks, os⟩ = some s := by
    unfold topFrom
    dsimp only
    rw [boot_ns]
    show (topRun treeTable p w (boot_heap w.params).objs.size (bootAnn w) N ⟨boot_heap w.params, #[], boot_drawn, boot_toks, os⟩ (topStub p)).bind _ = _
    rw [r]
    show (match staticsOk (importedModules p.main.body) (boot_heap w.params) s.heap && namesBound p s.heap && gensDone s && laidKept (boot_heap w.params) s.heap with | true => some s | false => none) = _
    rw [l1']
  unfold openEnds
  rw [a]
  show (topFrom treeTable p w N _).map _ = _
  rw [t]
  exact congrArg some (Prod.ext l2 l3)
theorem head_run {r : OpenRow} {q : Program} {H : Hook} {ob : SharedT → H.α} {M : Nat} {loose : List PySem.Str} {d : DefRec} {kwd : List (PySem.Str × PySem.Expr)} {n0 : Nat} {ann : Option Value} {S0 Sk : World → OsState → SharedT} (ho : ∀ s : SharedT, ob s = H.obs s.abs)
    (e : opening r.prog = plainProg r.prog.main.scope.names) (f : ∀ s, fenceModules? r.prog s = some s)
    (hS0 : ∀ w os, (S0 w os).abs = ⟨boot_heap w.params, #[], boot_drawn, boot_toks, os⟩) (hn : ∀ w : World, (boot_heap w.params).objs.size = n0) (ha : ∀ w, bootAnn w = ann)
    (run : ∀ (w : World) (os : OsState), topRun treeTable r.prog w n0 ann M (S0 w os).abs (topStub r.prog) = some (Sk w os).abs)
    (look : ∀ (w : World) (os : OsState), (looksF r.prog (boot_heap w.params) (Sk w os).abs, seenQ q loose (importedModules r.prog.main.body) (fun s => xlAt q [] s && recOk r.toRowW.records s) (Sk w os).abs, ob (Sk w os)) = (true, openGood q loose, H.val w))
    (hdef : defOf q r.name = some (d, kwd)) (hp : r.prog.theDef r.name = some (d.params, d.body, d.scope)) (hk : kwWritten? d.params.kwonlyargs d.params.kw_defaults = some kwd)
    (hwr : (!r.writes || r.records.isEmpty) = true) (k1 : r.wellSaid = true) (ok : (chainsOk q && opensWell r.prog && (frees r.toRowW && r.within.isEmpty)) = true) (hb : r.prog.bare) (hw : r.toRowW.promised)
    (call : WalkO q loose (XL q []) H.says r.toRowW d kwd fun f vs => PySem.call f vs) : r.Holds := by
  have left : LeftO r.prog q loose (fun s => xlAt q [] s && recOk r.toRowW.records s) H.obs H.val (M + 600) true :=
    left_run (M := M) e (Nat.ble_eq_true_of_le (by omega)) f (Nat.ble_eq_true_of_le (by omega)) hS0 hn ha run fun w os => by
      have z := look w os
      rw [ho, ← seenQ_eq] at z
      exact z
  exact holds_open (r := r) (q := q) (loose := loose) (XP := XL q []) (YP := H.says) (d := d) (kwd := kwd) left H.of H.keeps (fun s z => xl_of s (Bool.and_eq_true_iff.mp z).1) XL.keeps hdef hp hk (fun s z => recFacts_of (Bool.and_eq_true_iff.mp z).2) hwr k1 ok hb hw call
end HC
end

namespace M
section
open PySem PySem.W PySem.Calls PyProof.Rows HandSHeadRun L2 Evl MS
noncomputable section
set_option maxHeartbeats 0
namespace HD
def prg : Program := PySem.Challenge.pw_rosterneed_k28_whole_makers_of_tables
def tpN (i : Nat) : Stmt := prg.main.body.getD i (.Pass ⟨0, 0, 0, 0⟩)
def tp0 : Stmt := tpN 0
def tp3_0 : Stmt := inClass (tpN 3) 0
def tp4_0 : Stmt := inClass (tpN 4) 0
def tp5_0 : Stmt := inClass (tpN 5) 0
def tp6_0 : Stmt := inClass (tpN 6) 0
def tp14 : Stmt := tpN 14
def tp15 : Stmt := tpN 15
def tp16 : Stmt := tpN 16
def tp17 : Stmt := tpN 17
def tp18 : Stmt := tpN 18
def tp19 : Stmt := tpN 19
def tp20 : Stmt := tpN 20
def tp21 : Stmt := tpN 21
def tp22 : Stmt := tpN 22
def tp23 : Stmt := tpN 23
def tp25 : Stmt := tpN 25
def tp26 : Stmt := tpN 26
def tp27 : Stmt := tpN 27
def tp28 : Stmt := tpN 28
def tp29 : Stmt := tpN 29
def tp30 : Stmt := tpN 30
def tp31 : Stmt := tpN 31
def tp32 : Stmt := tpN 32
def tp33 : Stmt := tpN 33
def tp34 : Stmt := tpN 34
def tp35 : Stmt := tpN 35
def tp36 : Stmt := tpN 36
def tp37 : Stmt := tpN 37
def tp39 : Stmt := tpN 39
def tp40 : Stmt := tpN 40
def tp41_0 : Stmt := inClass (tpN 41) 0
def tp41_1 : Stmt := inClass (tpN 41) 1
def tp41_2 : Stmt := inClass (tpN 41) 2
def tp41_3 : Stmt := inClass (tpN 41) 3
def tp41_4 : Stmt := inClass (tpN 41) 4
def tp41_5 : Stmt := inClass (tpN 41) 5
def tp41_6 : Stmt := inClass (tpN 41) 6
def tp41_7 : Stmt := inClass (tpN 41) 7
def tp41_8 : Stmt := inClass (tpN 41) 8
def tp41_9 : Stmt := inClass (tpN 41) 9
def tp41_10 : Stmt := inClass (tpN 41) 10
def tp41_11 : Stmt := inClass (tpN 41) 11
def tp42 : Stmt := tpN 42
def tp51 : Stmt := tpN 51
def tp52 : Stmt := tpN 52
def tp53 : Stmt := tpN 53
def tp54 : Stmt := tpN 54
def tp55 : Stmt := tpN 55
def tp56 : Stmt := tpN 56
def tp57 : Stmt := tpN 57
def tp58 : Stmt := tpN 58
def tp59_0 : Stmt := inClass (tpN 59) 0
def tp59_1 : Stmt := inClass (tpN 59) 1
def tp59_2 : Stmt := inClass (tpN 59) 2
def tp61_0 : Stmt := inClass (tpN 61) 0
def tp61_1 : Stmt := inClass (tpN 61) 1
def tp61_2 : Stmt := inClass (tpN 61) 2
def tp61_3 : Stmt := inClass (tpN 61) 3
def tp61_4 : Stmt := inClass (tpN 61) 4
def tp61_5 : Stmt := inClass (tpN 61) 5
def tp62 : Stmt := tpN 62
def tp63 : Stmt := tpN 63
def tp64 : Stmt := tpN 64
def tp65 : Stmt := tpN 65
def tp66 : Stmt := tpN 66
def tp67 : Stmt := tpN 67
def tp69 : Stmt := tpN 69
def tp70 : Stmt := tpN 70
def tp71 : Stmt := tpN 71
def tp72 : Stmt := tpN 72
def tp73 : Stmt := tpN 73
def tp74 : Stmt := tpN 74
def tp75 : Stmt := tpN 75
def tp76 : Stmt := tpN 76
def tp77 : Stmt := tpN 77
def tp78 : Stmt := tpN 78
def tp79 : Stmt := tpN 79
def tp80 : Stmt := tpN 80
def tp81 : Stmt := tpN 81
def tp82 : Stmt := tpN 82
def tp83 : Stmt := tpN 83
def tp84 : Stmt := tpN 84
def tp85 : Stmt := tpN 85
def tp86 : Stmt := tpN 86
def oa_11 (P : Params) : Obj := ⟨(.type "tuple"), none, (.seq #[] 0), #[]⟩
def oa_12 (P : Params) : Obj := ⟨.none, none, (.fields #[]), #[]⟩
def oa_13 (P : Params) : Obj := ⟨(.type "code"), none, (.fields #[(.str ("<module>" : Str) 182), (.str ("<module>" : Str) 183), (.str ("/claim/cut.py" : Str) 184), (.int 1 0), (.int 0 0), (.int 0 0), (.int 0 0), (.int 0 0), (.ref 11), (.bool false), (.int 181 0), (.ref 12), .none, .none, .none, .none, (.int 185 0), (.int 1 0), (.str ("/claim/cut.py" : Str) 186)]), #[]⟩
def oa_14 (P : Params) : Obj := ⟨(.type "frame"), none, .plain, #[(some (.ref 13)), (some (.ref 3)), (some (.ref 3)), none, (some (.str ("__main__" : Str) 164)), none, (some (.ref 0))]⟩
def ta (P : Params) : BT := (.node (boot_o_0 P) (.node (boot_o_1 P) (.node (boot_o_3 P) (.node (boot_o_7 P) .nil .nil) (.node (oa_11 P) .nil .nil)) (.node (boot_o_5 P) (.node (boot_o_9 P) .nil .nil) (.node (oa_13 P) .nil .nil))) (.node (boot_o_2 P) (.node (boot_o_4 P) (.node (boot_o_8 P) .nil .nil) (.node (oa_12 P) .nil .nil)) (.node (boot_o_6 P) (.node (boot_o_10 P) .nil .nil) (.node (oa_14 P) .nil .nil))))
def Sa (w : World) (os : OsState) : SharedT := ⟨ta w.params, 15, {}, #[], {}, 187, os⟩
def pa : Pos := ⟨0, 0, 0, 0⟩
def tb (P : Params) : BT := (.node (boot_o_0 P) (.node (boot_o_1 P) (.node (boot_o_3 P) (.node (boot_o_7 P) .nil .nil) (.node (oa_11 P) .nil .nil)) (.node (boot_o_5 P) (.node (boot_o_9 P) .nil .nil) (.node (oa_13 P) .nil .nil))) (.node (boot_o_2 P) (.node (boot_o_4 P) (.node (boot_o_8 P) .nil .nil) (.node (oa_12 P) .nil .nil)) (.node (boot_o_6 P) (.node (boot_o_10 P) .nil .nil) (.node (oa_14 P) .nil .nil))))
def Sb (w : World) (os : OsState) : SharedT := ⟨tb w.params, 15, {}, #[], {}, 187, os⟩
def pb : Pos := ⟨0, 0, 0, 0⟩
def o0_3 (P : Params) : Obj := ⟨(.type "dict"), none, (.dict #[⟨PyData.keyHash P ("__name__" : Str), (.str ("__name__" : Str) 165), (.str ("rosterneed.errors" : Str) 194)⟩, ⟨PyData.keyHash P ("__doc__" : Str), (.str ("__doc__" : Str) 166), .none⟩, ⟨PyData.keyHash P ("__package__" : Str), (.str ("__package__" : Str) 167), .none⟩, ⟨PyData.keyHash P ("__loader__" : Str), (.str ("__loader__" : Str) 168), (.builtin "__main__.__loader__#opaque")⟩, ⟨PyData.keyHash P ("__spec__" : Str), (.str ("__spec__" : Str) 169), .none⟩, ⟨PyData.keyHash P ("__annotations__" : Str), (.str ("__annotations__" : Str) 170), (.ref 6)⟩, ⟨PyData.keyHash P ("__builtins__" : Str), (.str ("__builtins__" : Str) 171), (.ref 4)⟩, ⟨PyData.keyHash P ("__file__" : Str), (.str ("__file__" : Str) 173), (.str ("/claim/cut.py" : Str) 172)⟩, ⟨PyData.keyHash P ("__cached__" : Str), (.str ("__cached__" : Str) 174), .none⟩, ⟨PyData.keyHash P ("_wall" : Str), (.str ("_wall" : Str) 193), (.ref 21)⟩, ⟨PyData.keyHash P ("RosterneedError" : Str), (.str ("RosterneedError" : Str) 213), (.ref 31)⟩, ⟨PyData.keyHash P ("WrongThing" : Str), (.str ("WrongThing" : Str) 240), (.ref 53)⟩, ⟨PyData.keyHash P ("WrongWord" : Str), (.str ("WrongWord" : Str) 267), (.ref 74)⟩, ⟨PyData.keyHash P ("WrongNumber" : Str), (.str ("WrongNumber" : Str) 294), (.ref 95)⟩, ⟨PyData.keyHash P ("TooMany" : Str), (.str ("TooMany" : Str) 321), (.ref 116)⟩, ⟨PyData.keyHash P ("BadCount" : Str), (.str ("BadCount" : Str) 337), (.ref 128)⟩, ⟨PyData.keyHash P ("BadInlet" : Str), (.str ("BadInlet" : Str) 353), (.ref 140)⟩, ⟨PyData.keyHash P ("BadCourse" : Str), (.str ("BadCourse" : Str) 369), (.ref 152)⟩, ⟨PyData.keyHash P ("BadTable" : Str), (.str ("BadTable" : Str) 385), (.ref 164)⟩, ⟨PyData.keyHash P ("BadMaker" : Str), (.str ("BadMaker" : Str) 401), (.ref 176)⟩] 20), #[]⟩
def o0_12 (P : Params) : Obj := ⟨.none, none, (.fields #[(.int 1 0), (.int 0 0), (.ref 20), (.int 5 0), (.int 0 0), (.ref 27), (.int 7 0), (.int 0 0), (.ref 41), (.int 12 0), (.int 0 0), (.ref 62), (.int 17 0), (.int 0 0), (.ref 83), (.int 22 0), (.int 0 0), (.ref 104), (.int 27 0), (.int 0 0), (.ref 124), (.int 29 0), (.int 0 0), (.ref 136), (.int 31 0), (.int 0 0), (.ref 148), (.int 33 0), (.int 0 0), (.ref 160), (.int 35 0), (.int 0 0), (.ref 172)]), #[]⟩
def o0_15 (P : Params) : Obj := ⟨(.type "tuple"), none, (.seq #[] 0), #[]⟩
def o0_16 (P : Params) : Obj := ⟨.none, none, (.fields #[]), #[]⟩
def o0_17 (P : Params) : Obj := ⟨(.type "tuple"), none, (.seq #[(.str ("k" : Str) 190)] 0), #[]⟩
def o0_18 (P : Params) : Obj := ⟨(.type "tuple"), none, (.seq #[] 0), #[]⟩
def o0_19 (P : Params) : Obj := ⟨.none, none, (.func { name := ("_wall" : Str), qualname := ("_wall" : Str), params := defArgs tp0, body := .stmts (defBody tp0), scope := defScope tp0, globals := 0, closure := [], defaults := .none, kwdefaults := .none, doc := .none, pyModule := .none, annotations := none, code := .none, closureTuple := .none, builtins := 0 }), #[]⟩
def o0_20 (P : Params) : Obj := ⟨(.type "code"), none, (.fields #[(.str ("_wall" : Str) 187), (.str ("_wall" : Str) 188), (.str ("/claim/cut.py" : Str) 189), (.int 1 0), (.int 1 0), (.int 0 0), (.int 0 0), (.int 3 0), (.ref 15), (.bool true), (.int 181 0), (.ref 16), .none, (.ref 17), (.ref 18), (.ref 19), (.int 191 0), (.int 1 0), (.str ("/claim/cut.py" : Str) 192)]), #[]⟩
def o0_21 (P : Params) : Obj := ⟨(.type "function"), none, (.func { name := ("_wall" : Str), qualname := ("_wall" : Str), params := defArgs tp0, body := .stmts (defBody tp0), scope := defScope tp0, globals := 3, closure := [], defaults := .none, kwdefaults := .none, doc := .none, pyModule := (.str ("__main__" : Str) 164), annotations := none, code := (.ref 20), closureTuple := .none, builtins := 0 }), #[]⟩
def o0_22 (P : Params) : Obj := ⟨(.type "tuple"), none, (.seq #[(.type "ValueError")] 0), #[]⟩
def o0_23 (P : Params) : Obj := ⟨(.type "builtin_function_or_method"), none, (.fields #[(.builtin "type.__prepare__"), (.type "type")]), #[]⟩
def o0_24 (P : Params) : Obj := ⟨(.type "dict"), none, (.dict #[⟨PyData.keyHash P ("__module__" : Str), (.str ("__module__" : Str) 203), (.str ("rosterneed.errors" : Str) 194)⟩, ⟨PyData.keyHash P ("__qualname__" : Str), (.str ("__qualname__" : Str) 205), (.str ("RosterneedError" : Str) 204)⟩, ⟨PyData.keyHash P ("__firstlineno__" : Str), (.str ("__firstlineno__" : Str) 207), (.int 5 206)⟩, ⟨PyData.keyHash P ("__static_attributes__" : Str), (.str ("__static_attributes__" : Str) 208), (.ref 29)⟩] 4), #[]⟩
def o0_25 (P : Params) : Obj := ⟨(.type "tuple"), none, (.seq #[] 0), #[]⟩
def o0_26 (P : Params) : Obj := ⟨.none, none, (.fields #[]), #[]⟩
def o0_27 (P : Params) : Obj := ⟨(.type "code"), none, (.fields #[(.str ("RosterneedError" : Str) 198), (.str ("RosterneedError" : Str) 199), (.str ("/claim/cut.py" : Str) 200), (.int 5 0), (.int 0 0), (.int 0 0), (.int 0 0), (.int 0 0), (.ref 25), (.bool false), (.int 181 0), (.ref 26), .none, .none, .none, .none, (.int 201 0), (.int 5 0), (.str ("/claim/cut.py" : Str) 202)]), #[]⟩
def o0_28 (P : Params) : Obj := ⟨(.type "frame"), none, .plain, #[(some (.ref 27)), (some (.ref 3)), (some (.ref 24)), none, (some (.str ("rosterneed.errors" : Str) 194)), none, (some (.ref 0))]⟩
def o0_29 (P : Params) : Obj := ⟨(.type "tuple"), none, (.seq #[] 0), #[]⟩
def o0_30 (P : Params) : Obj := ⟨(.type "dict"), none, (.dict #[⟨PyData.keyHash P ("__module__" : Str), (.str ("__module__" : Str) 203), (.str ("rosterneed.errors" : Str) 194)⟩, ⟨PyData.keyHash P ("__firstlineno__" : Str), (.str ("__firstlineno__" : Str) 207), (.int 5 206)⟩, ⟨PyData.keyHash P ("__static_attributes__" : Str), (.str ("__static_attributes__" : Str) 208), (.ref 29)⟩, ⟨PyData.keyHash P ("__weakref__" : Str), (.str ("__weakref__" : Str) 210), (.ref 32)⟩, ⟨PyData.keyHash P ("__doc__" : Str), (.str ("__doc__" : Str) 211), .none⟩] 3), #[]⟩
def o0_31 (P : Params) : Obj := ⟨(.type "type"), none, (.cls { name := ("RosterneedError" : Str), bases := [(.type "ValueError")], mro := [(.ref 31), (.type "ValueError"), (.type "Exception"), (.type "BaseException"), (.type "object")], ns := 30, qualname := ("RosterneedError" : Str), hasDict := true, slotNames := [], subclasses := [(.ref 53), (.ref 74), (.ref 95), (.ref 116)], abstract := false, collection := none, hasDel := false }), #[(some (.ref 22)), none, (some (.str ("RosterneedError" : Str) 196)), (some (.str ("RosterneedError" : Str) 204)), (some (.builtin "ValueError.__new__")), (some (.bool true))]⟩
def o0_32 (P : Params) : Obj := ⟨(.type "getset_descriptor"), none, (.fields #[(.str ("__weakref__" : Str) 209), (.ref 31), (.builtin "ExceptionGroup.__weakref__"), .none]), #[]⟩
def o0_33 (P : Params) : Obj := ⟨(.type "super"), none, (.fields #[(.ref 31), (.ref 31), (.ref 31)]), #[]⟩
def o0_34 (P : Params) : Obj := ⟨(.type "builtin_function_or_method"), none, (.fields #[(.builtin "object.__init_subclass__"), (.ref 31)]), #[]⟩
def o0_35 (P : Params) : Obj := ⟨(.type "tuple"), none, (.seq #[(.ref 31)] 0), #[]⟩
def o0_36 (P : Params) : Obj := ⟨(.type "builtin_function_or_method"), none, (.fields #[(.builtin "type.__prepare__"), (.type "type")]), #[]⟩
def o0_37 (P : Params) : Obj := ⟨(.type "dict"), none, (.dict #[⟨PyData.keyHash P ("__module__" : Str), (.str ("__module__" : Str) 221), (.str ("rosterneed.errors" : Str) 194)⟩, ⟨PyData.keyHash P ("__qualname__" : Str), (.str ("__qualname__" : Str) 223), (.str ("WrongThing" : Str) 222)⟩, ⟨PyData.keyHash P ("__firstlineno__" : Str), (.str ("__firstlineno__" : Str) 225), (.int 7 224)⟩, ⟨PyData.keyHash P ("__init__" : Str), (.str ("__init__" : Str) 234), (.ref 50)⟩, ⟨PyData.keyHash P ("__static_attributes__" : Str), (.str ("__static_attributes__" : Str) 236), (.ref 51)⟩, ⟨PyData.keyHash P ("__classcell__" : Str), (.str ("__classcell__" : Str) 237), (.ref 38)⟩] 6), #[]⟩
def o0_38 (P : Params) : Obj := ⟨(.type "cell"), none, (.cell (some (.ref 53))), #[]⟩
def o0_39 (P : Params) : Obj := ⟨(.type "tuple"), none, (.seq #[] 0), #[]⟩
def o0_40 (P : Params) : Obj := ⟨.none, none, (.fields #[(.int 9 0), (.int 4 0), (.ref 49)]), #[]⟩
def o0_41 (P : Params) : Obj := ⟨(.type "code"), none, (.fields #[(.str ("WrongThing" : Str) 216), (.str ("WrongThing" : Str) 217), (.str ("/claim/cut.py" : Str) 218), (.int 7 0), (.int 0 0), (.int 0 0), (.int 0 0), (.int 0 0), (.ref 39), (.bool false), (.int 181 0), (.ref 40), .none, .none, .none, .none, (.int 219 0), (.int 7 0), (.str ("/claim/cut.py" : Str) 220)]), #[]⟩
def o0_42 (P : Params) : Obj := ⟨(.type "frame"), none, .plain, #[(some (.ref 41)), (some (.ref 3)), (some (.ref 37)), none, (some (.str ("rosterneed.errors" : Str) 194)), none, (some (.ref 0))]⟩
def o0_43 (P : Params) : Obj := ⟨(.type "tuple"), none, (.seq #[(.ref 38)] 0), #[]⟩
def o0_44 (P : Params) : Obj := ⟨(.type "tuple"), none, (.seq #[(.str ("__class__" : Str) 229)] 0), #[]⟩
def o0_45 (P : Params) : Obj := ⟨.none, none, (.fields #[]), #[]⟩
def o0_46 (P : Params) : Obj := ⟨(.type "tuple"), none, (.seq #[(.str ("self" : Str) 230), (.str ("thing" : Str) 231)] 0), #[]⟩
def o0_47 (P : Params) : Obj := ⟨(.type "tuple"), none, (.seq #[] 0), #[]⟩
def o0_48 (P : Params) : Obj := ⟨.none, none, (.func { name := ("__init__" : Str), qualname := ("WrongThing.__init__" : Str), params := defArgs tp3_0, body := .stmts (defBody tp3_0), scope := defScope tp3_0, globals := 0, closure := [], defaults := .none, kwdefaults := .none, doc := .none, pyModule := .none, annotations := none, code := .none, closureTuple := .none, builtins := 0 }), #[]⟩
def o0_49 (P : Params) : Obj := ⟨(.type "code"), none, (.fields #[(.str ("__init__" : Str) 226), (.str ("WrongThing.__init__" : Str) 227), (.str ("/claim/cut.py" : Str) 228), (.int 9 0), (.int 2 0), (.int 0 0), (.int 0 0), (.int 3 0), (.ref 44), (.bool true), (.int 181 0), (.ref 45), .none, (.ref 46), (.ref 47), (.ref 48), (.int 232 0), (.int 9 0), (.str ("/claim/cut.py" : Str) 233)]), #[]⟩
def o0_50 (P : Params) : Obj := ⟨(.type "function"), none, (.func { name := ("__init__" : Str), qualname := ("WrongThing.__init__" : Str), params := defArgs tp3_0, body := .stmts (defBody tp3_0), scope := defScope tp3_0, globals := 3, closure := [(("__class__" : Str), 38)], defaults := .none, kwdefaults := .none, doc := .none, pyModule := (.str ("rosterneed.errors" : Str) 194), annotations := none, code := (.ref 49), closureTuple := (.ref 43), builtins := 0 }), #[]⟩
def o0_51 (P : Params) : Obj := ⟨(.type "tuple"), none, (.seq #[(.str ("thing" : Str) 235)] 0), #[]⟩
def o0_52 (P : Params) : Obj := ⟨(.type "dict"), none, (.dict #[⟨PyData.keyHash P ("__module__" : Str), (.str ("__module__" : Str) 221), (.str ("rosterneed.errors" : Str) 194)⟩, ⟨PyData.keyHash P ("__firstlineno__" : Str), (.str ("__firstlineno__" : Str) 225), (.int 7 224)⟩, ⟨PyData.keyHash P ("__init__" : Str), (.str ("__init__" : Str) 234), (.ref 50)⟩, ⟨PyData.keyHash P ("__static_attributes__" : Str), (.str ("__static_attributes__" : Str) 236), (.ref 51)⟩, ⟨PyData.keyHash P ("__doc__" : Str), (.str ("__doc__" : Str) 238), .none⟩] 3), #[]⟩
def o0_53 (P : Params) : Obj := ⟨(.type "type"), none, (.cls { name := ("WrongThing" : Str), bases := [(.ref 31)], mro := [(.ref 53), (.ref 31), (.type "ValueError"), (.type "Exception"), (.type "BaseException"), (.type "object")], ns := 52, qualname := ("WrongThing" : Str), hasDict := true, slotNames := [], subclasses := [(.ref 128), (.ref 140), (.ref 152)], abstract := false, collection := none, hasDel := false }), #[(some (.ref 35)), none, (some (.str ("WrongThing" : Str) 214)), (some (.str ("WrongThing" : Str) 222)), (some (.builtin "ValueError.__new__")), (some (.bool true))]⟩
def o0_54 (P : Params) : Obj := ⟨(.type "super"), none, (.fields #[(.ref 53), (.ref 53), (.ref 53)]), #[]⟩
def o0_55 (P : Params) : Obj := ⟨(.type "builtin_function_or_method"), none, (.fields #[(.builtin "object.__init_subclass__"), (.ref 53)]), #[]⟩
def o0_56 (P : Params) : Obj := ⟨(.type "tuple"), none, (.seq #[(.ref 31)] 0), #[]⟩
def o0_57 (P : Params) : Obj := ⟨(.type "builtin_function_or_method"), none, (.fields #[(.builtin "type.__prepare__"), (.type "type")]), #[]⟩
def o0_58 (P : Params) : Obj := ⟨(.type "dict"), none, (.dict #[⟨PyData.keyHash P ("__module__" : Str), (.str ("__module__" : Str) 248), (.str ("rosterneed.errors" : Str) 194)⟩, ⟨PyData.keyHash P ("__qualname__" : Str), (.str ("__qualname__" : Str) 250), (.str ("WrongWord" : Str) 249)⟩, ⟨PyData.keyHash P ("__firstlineno__" : Str), (.str ("__firstlineno__" : Str) 252), (.int 12 251)⟩, ⟨PyData.keyHash P ("__init__" : Str), (.str ("__init__" : Str) 261), (.ref 71)⟩, ⟨PyData.keyHash P ("__static_attributes__" : Str), (.str ("__static_attributes__" : Str) 263), (.ref 72)⟩, ⟨PyData.keyHash P ("__classcell__" : Str), (.str ("__classcell__" : Str) 264), (.ref 59)⟩] 6), #[]⟩
def o0_59 (P : Params) : Obj := ⟨(.type "cell"), none, (.cell (some (.ref 74))), #[]⟩
def o0_60 (P : Params) : Obj := ⟨(.type "tuple"), none, (.seq #[] 0), #[]⟩
def o0_61 (P : Params) : Obj := ⟨.none, none, (.fields #[(.int 14 0), (.int 4 0), (.ref 70)]), #[]⟩
def o0_62 (P : Params) : Obj := ⟨(.type "code"), none, (.fields #[(.str ("WrongWord" : Str) 243), (.str ("WrongWord" : Str) 244), (.str ("/claim/cut.py" : Str) 245), (.int 12 0), (.int 0 0), (.int 0 0), (.int 0 0), (.int 0 0), (.ref 60), (.bool false), (.int 181 0), (.ref 61), .none, .none, .none, .none, (.int 246 0), (.int 12 0), (.str ("/claim/cut.py" : Str) 247)]), #[]⟩
def o0_63 (P : Params) : Obj := ⟨(.type "frame"), none, .plain, #[(some (.ref 62)), (some (.ref 3)), (some (.ref 58)), none, (some (.str ("rosterneed.errors" : Str) 194)), none, (some (.ref 0))]⟩
def o0_64 (P : Params) : Obj := ⟨(.type "tuple"), none, (.seq #[(.ref 59)] 0), #[]⟩
def o0_65 (P : Params) : Obj := ⟨(.type "tuple"), none, (.seq #[(.str ("__class__" : Str) 256)] 0), #[]⟩
def o0_66 (P : Params) : Obj := ⟨.none, none, (.fields #[]), #[]⟩
def o0_67 (P : Params) : Obj := ⟨(.type "tuple"), none, (.seq #[(.str ("self" : Str) 257), (.str ("word" : Str) 258)] 0), #[]⟩
def o0_68 (P : Params) : Obj := ⟨(.type "tuple"), none, (.seq #[] 0), #[]⟩
def o0_69 (P : Params) : Obj := ⟨.none, none, (.func { name := ("__init__" : Str), qualname := ("WrongWord.__init__" : Str), params := defArgs tp4_0, body := .stmts (defBody tp4_0), scope := defScope tp4_0, globals := 0, closure := [], defaults := .none, kwdefaults := .none, doc := .none, pyModule := .none, annotations := none, code := .none, closureTuple := .none, builtins := 0 }), #[]⟩
def o0_70 (P : Params) : Obj := ⟨(.type "code"), none, (.fields #[(.str ("__init__" : Str) 253), (.str ("WrongWord.__init__" : Str) 254), (.str ("/claim/cut.py" : Str) 255), (.int 14 0), (.int 2 0), (.int 0 0), (.int 0 0), (.int 3 0), (.ref 65), (.bool true), (.int 181 0), (.ref 66), .none, (.ref 67), (.ref 68), (.ref 69), (.int 259 0), (.int 14 0), (.str ("/claim/cut.py" : Str) 260)]), #[]⟩
def o0_71 (P : Params) : Obj := ⟨(.type "function"), none, (.func { name := ("__init__" : Str), qualname := ("WrongWord.__init__" : Str), params := defArgs tp4_0, body := .stmts (defBody tp4_0), scope := defScope tp4_0, globals := 3, closure := [(("__class__" : Str), 59)], defaults := .none, kwdefaults := .none, doc := .none, pyModule := (.str ("rosterneed.errors" : Str) 194), annotations := none, code := (.ref 70), closureTuple := (.ref 64), builtins := 0 }), #[]⟩
def o0_72 (P : Params) : Obj := ⟨(.type "tuple"), none, (.seq #[(.str ("word" : Str) 262)] 0), #[]⟩
def o0_73 (P : Params) : Obj := ⟨(.type "dict"), none, (.dict #[⟨PyData.keyHash P ("__module__" : Str), (.str ("__module__" : Str) 248), (.str ("rosterneed.errors" : Str) 194)⟩, ⟨PyData.keyHash P ("__firstlineno__" : Str), (.str ("__firstlineno__" : Str) 252), (.int 12 251)⟩, ⟨PyData.keyHash P ("__init__" : Str), (.str ("__init__" : Str) 261), (.ref 71)⟩, ⟨PyData.keyHash P ("__static_attributes__" : Str), (.str ("__static_attributes__" : Str) 263), (.ref 72)⟩, ⟨PyData.keyHash P ("__doc__" : Str), (.str ("__doc__" : Str) 265), .none⟩] 3), #[]⟩
def o0_74 (P : Params) : Obj := ⟨(.type "type"), none, (.cls { name := ("WrongWord" : Str), bases := [(.ref 31)], mro := [(.ref 74), (.ref 31), (.type "ValueError"), (.type "Exception"), (.type "BaseException"), (.type "object")], ns := 73, qualname := ("WrongWord" : Str), hasDict := true, slotNames := [], subclasses := [(.ref 164), (.ref 176)], abstract := false, collection := none, hasDel := false }), #[(some (.ref 56)), none, (some (.str ("WrongWord" : Str) 241)), (some (.str ("WrongWord" : Str) 249)), (some (.builtin "ValueError.__new__")), (some (.bool true))]⟩
def o0_75 (P : Params) : Obj := ⟨(.type "super"), none, (.fields #[(.ref 74), (.ref 74), (.ref 74)]), #[]⟩
def o0_76 (P : Params) : Obj := ⟨(.type "builtin_function_or_method"), none, (.fields #[(.builtin "object.__init_subclass__"), (.ref 74)]), #[]⟩
def o0_77 (P : Params) : Obj := ⟨(.type "tuple"), none, (.seq #[(.ref 31)] 0), #[]⟩
def o0_78 (P : Params) : Obj := ⟨(.type "builtin_function_or_method"), none, (.fields #[(.builtin "type.__prepare__"), (.type "type")]), #[]⟩
def o0_79 (P : Params) : Obj := ⟨(.type "dict"), none, (.dict #[⟨PyData.keyHash P ("__module__" : Str), (.str ("__module__" : Str) 275), (.str ("rosterneed.errors" : Str) 194)⟩, ⟨PyData.keyHash P ("__qualname__" : Str), (.str ("__qualname__" : Str) 277), (.str ("WrongNumber" : Str) 276)⟩, ⟨PyData.keyHash P ("__firstlineno__" : Str), (.str ("__firstlineno__" : Str) 279), (.int 17 278)⟩, ⟨PyData.keyHash P ("__init__" : Str), (.str ("__init__" : Str) 288), (.ref 92)⟩, ⟨PyData.keyHash P ("__static_attributes__" : Str), (.str ("__static_attributes__" : Str) 290), (.ref 93)⟩, ⟨PyData.keyHash P ("__classcell__" : Str), (.str ("__classcell__" : Str) 291), (.ref 80)⟩] 6), #[]⟩
def o0_80 (P : Params) : Obj := ⟨(.type "cell"), none, (.cell (some (.ref 95))), #[]⟩
def o0_81 (P : Params) : Obj := ⟨(.type "tuple"), none, (.seq #[] 0), #[]⟩
def o0_82 (P : Params) : Obj := ⟨.none, none, (.fields #[(.int 19 0), (.int 4 0), (.ref 91)]), #[]⟩
def o0_83 (P : Params) : Obj := ⟨(.type "code"), none, (.fields #[(.str ("WrongNumber" : Str) 270), (.str ("WrongNumber" : Str) 271), (.str ("/claim/cut.py" : Str) 272), (.int 17 0), (.int 0 0), (.int 0 0), (.int 0 0), (.int 0 0), (.ref 81), (.bool false), (.int 181 0), (.ref 82), .none, .none, .none, .none, (.int 273 0), (.int 17 0), (.str ("/claim/cut.py" : Str) 274)]), #[]⟩
def o0_84 (P : Params) : Obj := ⟨(.type "frame"), none, .plain, #[(some (.ref 83)), (some (.ref 3)), (some (.ref 79)), none, (some (.str ("rosterneed.errors" : Str) 194)), none, (some (.ref 0))]⟩
def o0_85 (P : Params) : Obj := ⟨(.type "tuple"), none, (.seq #[(.ref 80)] 0), #[]⟩
def o0_86 (P : Params) : Obj := ⟨(.type "tuple"), none, (.seq #[(.str ("__class__" : Str) 283)] 0), #[]⟩
def o0_87 (P : Params) : Obj := ⟨.none, none, (.fields #[]), #[]⟩
def o0_88 (P : Params) : Obj := ⟨(.type "tuple"), none, (.seq #[(.str ("self" : Str) 284), (.str ("number" : Str) 285)] 0), #[]⟩
def o0_89 (P : Params) : Obj := ⟨(.type "tuple"), none, (.seq #[] 0), #[]⟩
def o0_90 (P : Params) : Obj := ⟨.none, none, (.func { name := ("__init__" : Str), qualname := ("WrongNumber.__init__" : Str), params := defArgs tp5_0, body := .stmts (defBody tp5_0), scope := defScope tp5_0, globals := 0, closure := [], defaults := .none, kwdefaults := .none, doc := .none, pyModule := .none, annotations := none, code := .none, closureTuple := .none, builtins := 0 }), #[]⟩
def o0_91 (P : Params) : Obj := ⟨(.type "code"), none, (.fields #[(.str ("__init__" : Str) 280), (.str ("WrongNumber.__init__" : Str) 281), (.str ("/claim/cut.py" : Str) 282), (.int 19 0), (.int 2 0), (.int 0 0), (.int 0 0), (.int 3 0), (.ref 86), (.bool true), (.int 181 0), (.ref 87), .none, (.ref 88), (.ref 89), (.ref 90), (.int 286 0), (.int 19 0), (.str ("/claim/cut.py" : Str) 287)]), #[]⟩
def o0_92 (P : Params) : Obj := ⟨(.type "function"), none, (.func { name := ("__init__" : Str), qualname := ("WrongNumber.__init__" : Str), params := defArgs tp5_0, body := .stmts (defBody tp5_0), scope := defScope tp5_0, globals := 3, closure := [(("__class__" : Str), 80)], defaults := .none, kwdefaults := .none, doc := .none, pyModule := (.str ("rosterneed.errors" : Str) 194), annotations := none, code := (.ref 91), closureTuple := (.ref 85), builtins := 0 }), #[]⟩
def o0_93 (P : Params) : Obj := ⟨(.type "tuple"), none, (.seq #[(.str ("number" : Str) 289)] 0), #[]⟩
def o0_94 (P : Params) : Obj := ⟨(.type "dict"), none, (.dict #[⟨PyData.keyHash P ("__module__" : Str), (.str ("__module__" : Str) 275), (.str ("rosterneed.errors" : Str) 194)⟩, ⟨PyData.keyHash P ("__firstlineno__" : Str), (.str ("__firstlineno__" : Str) 279), (.int 17 278)⟩, ⟨PyData.keyHash P ("__init__" : Str), (.str ("__init__" : Str) 288), (.ref 92)⟩, ⟨PyData.keyHash P ("__static_attributes__" : Str), (.str ("__static_attributes__" : Str) 290), (.ref 93)⟩, ⟨PyData.keyHash P ("__doc__" : Str), (.str ("__doc__" : Str) 292), .none⟩] 3), #[]⟩
def o0_95 (P : Params) : Obj := ⟨(.type "type"), none, (.cls { name := ("WrongNumber" : Str), bases := [(.ref 31)], mro := [(.ref 95), (.ref 31), (.type "ValueError"), (.type "Exception"), (.type "BaseException"), (.type "object")], ns := 94, qualname := ("WrongNumber" : Str), hasDict := true, slotNames := [], subclasses := [], abstract := false, collection := none, hasDel := false }), #[(some (.ref 77)), none, (some (.str ("WrongNumber" : Str) 268)), (some (.str ("WrongNumber" : Str) 276)), (some (.builtin "ValueError.__new__")), (some (.bool true))]⟩
def o0_96 (P : Params) : Obj := ⟨(.type "super"), none, (.fields #[(.ref 95), (.ref 95), (.ref 95)]), #[]⟩
def o0_97 (P : Params) : Obj := ⟨(.type "builtin_function_or_method"), none, (.fields #[(.builtin "object.__init_subclass__"), (.ref 95)]), #[]⟩
def o0_98 (P : Params) : Obj := ⟨(.type "tuple"), none, (.seq #[(.ref 31)] 0), #[]⟩
def o0_99 (P : Params) : Obj := ⟨(.type "builtin_function_or_method"), none, (.fields #[(.builtin "type.__prepare__"), (.type "type")]), #[]⟩
def o0_100 (P : Params) : Obj := ⟨(.type "dict"), none, (.dict #[⟨PyData.keyHash P ("__module__" : Str), (.str ("__module__" : Str) 302), (.str ("rosterneed.errors" : Str) 194)⟩, ⟨PyData.keyHash P ("__qualname__" : Str), (.str ("__qualname__" : Str) 304), (.str ("TooMany" : Str) 303)⟩, ⟨PyData.keyHash P ("__firstlineno__" : Str), (.str ("__firstlineno__" : Str) 306), (.int 22 305)⟩, ⟨PyData.keyHash P ("__init__" : Str), (.str ("__init__" : Str) 315), (.ref 113)⟩, ⟨PyData.keyHash P ("__static_attributes__" : Str), (.str ("__static_attributes__" : Str) 317), (.ref 114)⟩, ⟨PyData.keyHash P ("__classcell__" : Str), (.str ("__classcell__" : Str) 318), (.ref 101)⟩] 6), #[]⟩
def o0_101 (P : Params) : Obj := ⟨(.type "cell"), none, (.cell (some (.ref 116))), #[]⟩
def o0_102 (P : Params) : Obj := ⟨(.type "tuple"), none, (.seq #[] 0), #[]⟩
def o0_103 (P : Params) : Obj := ⟨.none, none, (.fields #[(.int 24 0), (.int 4 0), (.ref 112)]), #[]⟩
def o0_104 (P : Params) : Obj := ⟨(.type "code"), none, (.fields #[(.str ("TooMany" : Str) 297), (.str ("TooMany" : Str) 298), (.str ("/claim/cut.py" : Str) 299), (.int 22 0), (.int 0 0), (.int 0 0), (.int 0 0), (.int 0 0), (.ref 102), (.bool false), (.int 181 0), (.ref 103), .none, .none, .none, .none, (.int 300 0), (.int 22 0), (.str ("/claim/cut.py" : Str) 301)]), #[]⟩
def o0_105 (P : Params) : Obj := ⟨(.type "frame"), none, .plain, #[(some (.ref 104)), (some (.ref 3)), (some (.ref 100)), none, (some (.str ("rosterneed.errors" : Str) 194)), none, (some (.ref 0))]⟩
def o0_106 (P : Params) : Obj := ⟨(.type "tuple"), none, (.seq #[(.ref 101)] 0), #[]⟩
def o0_107 (P : Params) : Obj := ⟨(.type "tuple"), none, (.seq #[(.str ("__class__" : Str) 310)] 0), #[]⟩
def o0_108 (P : Params) : Obj := ⟨.none, none, (.fields #[]), #[]⟩
def o0_109 (P : Params) : Obj := ⟨(.type "tuple"), none, (.seq #[(.str ("self" : Str) 311), (.str ("word" : Str) 312)] 0), #[]⟩
def o0_110 (P : Params) : Obj := ⟨(.type "tuple"), none, (.seq #[] 0), #[]⟩
def o0_111 (P : Params) : Obj := ⟨.none, none, (.func { name := ("__init__" : Str), qualname := ("TooMany.__init__" : Str), params := defArgs tp6_0, body := .stmts (defBody tp6_0), scope := defScope tp6_0, globals := 0, closure := [], defaults := .none, kwdefaults := .none, doc := .none, pyModule := .none, annotations := none, code := .none, closureTuple := .none, builtins := 0 }), #[]⟩
def o0_112 (P : Params) : Obj := ⟨(.type "code"), none, (.fields #[(.str ("__init__" : Str) 307), (.str ("TooMany.__init__" : Str) 308), (.str ("/claim/cut.py" : Str) 309), (.int 24 0), (.int 2 0), (.int 0 0), (.int 0 0), (.int 3 0), (.ref 107), (.bool true), (.int 181 0), (.ref 108), .none, (.ref 109), (.ref 110), (.ref 111), (.int 313 0), (.int 24 0), (.str ("/claim/cut.py" : Str) 314)]), #[]⟩
def o0_113 (P : Params) : Obj := ⟨(.type "function"), none, (.func { name := ("__init__" : Str), qualname := ("TooMany.__init__" : Str), params := defArgs tp6_0, body := .stmts (defBody tp6_0), scope := defScope tp6_0, globals := 3, closure := [(("__class__" : Str), 101)], defaults := .none, kwdefaults := .none, doc := .none, pyModule := (.str ("rosterneed.errors" : Str) 194), annotations := none, code := (.ref 112), closureTuple := (.ref 106), builtins := 0 }), #[]⟩
def o0_114 (P : Params) : Obj := ⟨(.type "tuple"), none, (.seq #[(.str ("word" : Str) 316)] 0), #[]⟩
def o0_115 (P : Params) : Obj := ⟨(.type "dict"), none, (.dict #[⟨PyData.keyHash P ("__module__" : Str), (.str ("__module__" : Str) 302), (.str ("rosterneed.errors" : Str) 194)⟩, ⟨PyData.keyHash P ("__firstlineno__" : Str), (.str ("__firstlineno__" : Str) 306), (.int 22 305)⟩, ⟨PyData.keyHash P ("__init__" : Str), (.str ("__init__" : Str) 315), (.ref 113)⟩, ⟨PyData.keyHash P ("__static_attributes__" : Str), (.str ("__static_attributes__" : Str) 317), (.ref 114)⟩, ⟨PyData.keyHash P ("__doc__" : Str), (.str ("__doc__" : Str) 319), .none⟩] 3), #[]⟩
def o0_116 (P : Params) : Obj := ⟨(.type "type"), none, (.cls { name := ("TooMany" : Str), bases := [(.ref 31)], mro := [(.ref 116), (.ref 31), (.type "ValueError"), (.type "Exception"), (.type "BaseException"), (.type "object")], ns := 115, qualname := ("TooMany" : Str), hasDict := true, slotNames := [], subclasses := [], abstract := false, collection := none, hasDel := false }), #[(some (.ref 98)), none, (some (.str ("TooMany" : Str) 295)), (some (.str ("TooMany" : Str) 303)), (some (.builtin "ValueError.__new__")), (some (.bool true))]⟩
def o0_117 (P : Params) : Obj := ⟨(.type "super"), none, (.fields #[(.ref 116), (.ref 116), (.ref 116)]), #[]⟩
def o0_118 (P : Params) : Obj := ⟨(.type "builtin_function_or_method"), none, (.fields #[(.builtin "object.__init_subclass__"), (.ref 116)]), #[]⟩
def o0_119 (P : Params) : Obj := ⟨(.type "tuple"), none, (.seq #[(.ref 53)] 0), #[]⟩
def o0_120 (P : Params) : Obj := ⟨(.type "builtin_function_or_method"), none, (.fields #[(.builtin "type.__prepare__"), (.type "type")]), #[]⟩
def o0_121 (P : Params) : Obj := ⟨(.type "dict"), none, (.dict #[⟨PyData.keyHash P ("__module__" : Str), (.str ("__module__" : Str) 329), (.str ("rosterneed.errors" : Str) 194)⟩, ⟨PyData.keyHash P ("__qualname__" : Str), (.str ("__qualname__" : Str) 331), (.str ("BadCount" : Str) 330)⟩, ⟨PyData.keyHash P ("__firstlineno__" : Str), (.str ("__firstlineno__" : Str) 333), (.int 27 332)⟩, ⟨PyData.keyHash P ("__static_attributes__" : Str), (.str ("__static_attributes__" : Str) 334), (.ref 126)⟩] 4), #[]⟩
def o0_122 (P : Params) : Obj := ⟨(.type "tuple"), none, (.seq #[] 0), #[]⟩
def o0_123 (P : Params) : Obj := ⟨.none, none, (.fields #[]), #[]⟩
def o0_124 (P : Params) : Obj := ⟨(.type "code"), none, (.fields #[(.str ("BadCount" : Str) 324), (.str ("BadCount" : Str) 325), (.str ("/claim/cut.py" : Str) 326), (.int 27 0), (.int 0 0), (.int 0 0), (.int 0 0), (.int 0 0), (.ref 122), (.bool false), (.int 181 0), (.ref 123), .none, .none, .none, .none, (.int 327 0), (.int 27 0), (.str ("/claim/cut.py" : Str) 328)]), #[]⟩
def o0_125 (P : Params) : Obj := ⟨(.type "frame"), none, .plain, #[(some (.ref 124)), (some (.ref 3)), (some (.ref 121)), none, (some (.str ("rosterneed.errors" : Str) 194)), none, (some (.ref 0))]⟩
def o0_126 (P : Params) : Obj := ⟨(.type "tuple"), none, (.seq #[] 0), #[]⟩
def o0_127 (P : Params) : Obj := ⟨(.type "dict"), none, (.dict #[⟨PyData.keyHash P ("__module__" : Str), (.str ("__module__" : Str) 329), (.str ("rosterneed.errors" : Str) 194)⟩, ⟨PyData.keyHash P ("__firstlineno__" : Str), (.str ("__firstlineno__" : Str) 333), (.int 27 332)⟩, ⟨PyData.keyHash P ("__static_attributes__" : Str), (.str ("__static_attributes__" : Str) 334), (.ref 126)⟩, ⟨PyData.keyHash P ("__doc__" : Str), (.str ("__doc__" : Str) 335), .none⟩] 2), #[]⟩
def o0_128 (P : Params) : Obj := ⟨(.type "type"), none, (.cls { name := ("BadCount" : Str), bases := [(.ref 53)], mro := [(.ref 128), (.ref 53), (.ref 31), (.type "ValueError"), (.type "Exception"), (.type "BaseException"), (.type "object")], ns := 127, qualname := ("BadCount" : Str), hasDict := true, slotNames := [], subclasses := [], abstract := false, collection := none, hasDel := false }), #[(some (.ref 119)), none, (some (.str ("BadCount" : Str) 322)), (some (.str ("BadCount" : Str) 330)), (some (.builtin "ValueError.__new__")), (some (.bool true))]⟩
def o0_129 (P : Params) : Obj := ⟨(.type "super"), none, (.fields #[(.ref 128), (.ref 128), (.ref 128)]), #[]⟩
def o0_130 (P : Params) : Obj := ⟨(.type "builtin_function_or_method"), none, (.fields #[(.builtin "object.__init_subclass__"), (.ref 128)]), #[]⟩
def o0_131 (P : Params) : Obj := ⟨(.type "tuple"), none, (.seq #[(.ref 53)] 0), #[]⟩
def o0_132 (P : Params) : Obj := ⟨(.type "builtin_function_or_method"), none, (.fields #[(.builtin "type.__prepare__"), (.type "type")]), #[]⟩
def o0_133 (P : Params) : Obj := ⟨(.type "dict"), none, (.dict #[⟨PyData.keyHash P ("__module__" : Str), (.str ("__module__" : Str) 345), (.str ("rosterneed.errors" : Str) 194)⟩, ⟨PyData.keyHash P ("__qualname__" : Str), (.str ("__qualname__" : Str) 347), (.str ("BadInlet" : Str) 346)⟩, ⟨PyData.keyHash P ("__firstlineno__" : Str), (.str ("__firstlineno__" : Str) 349), (.int 29 348)⟩, ⟨PyData.keyHash P ("__static_attributes__" : Str), (.str ("__static_attributes__" : Str) 350), (.ref 138)⟩] 4), #[]⟩
def o0_134 (P : Params) : Obj := ⟨(.type "tuple"), none, (.seq #[] 0), #[]⟩
def o0_135 (P : Params) : Obj := ⟨.none, none, (.fields #[]), #[]⟩
def o0_136 (P : Params) : Obj := ⟨(.type "code"), none, (.fields #[(.str ("BadInlet" : Str) 340), (.str ("BadInlet" : Str) 341), (.str ("/claim/cut.py" : Str) 342), (.int 29 0), (.int 0 0), (.int 0 0), (.int 0 0), (.int 0 0), (.ref 134), (.bool false), (.int 181 0), (.ref 135), .none, .none, .none, .none, (.int 343 0), (.int 29 0), (.str ("/claim/cut.py" : Str) 344)]), #[]⟩
def o0_137 (P : Params) : Obj := ⟨(.type "frame"), none, .plain, #[(some (.ref 136)), (some (.ref 3)), (some (.ref 133)), none, (some (.str ("rosterneed.errors" : Str) 194)), none, (some (.ref 0))]⟩
def o0_138 (P : Params) : Obj := ⟨(.type "tuple"), none, (.seq #[] 0), #[]⟩
def o0_139 (P : Params) : Obj := ⟨(.type "dict"), none, (.dict #[⟨PyData.keyHash P ("__module__" : Str), (.str ("__module__" : Str) 345), (.str ("rosterneed.errors" : Str) 194)⟩, ⟨PyData.keyHash P ("__firstlineno__" : Str), (.str ("__firstlineno__" : Str) 349), (.int 29 348)⟩, ⟨PyData.keyHash P ("__static_attributes__" : Str), (.str ("__static_attributes__" : Str) 350), (.ref 138)⟩, ⟨PyData.keyHash P ("__doc__" : Str), (.str ("__doc__" : Str) 351), .none⟩] 2), #[]⟩
def o0_140 (P : Params) : Obj := ⟨(.type "type"), none, (.cls { name := ("BadInlet" : Str), bases := [(.ref 53)], mro := [(.ref 140), (.ref 53), (.ref 31), (.type "ValueError"), (.type "Exception"), (.type "BaseException"), (.type "object")], ns := 139, qualname := ("BadInlet" : Str), hasDict := true, slotNames := [], subclasses := [], abstract := false, collection := none, hasDel := false }), #[(some (.ref 131)), none, (some (.str ("BadInlet" : Str) 338)), (some (.str ("BadInlet" : Str) 346)), (some (.builtin "ValueError.__new__")), (some (.bool true))]⟩
def o0_141 (P : Params) : Obj := ⟨(.type "super"), none, (.fields #[(.ref 140), (.ref 140), (.ref 140)]), #[]⟩
def o0_142 (P : Params) : Obj := ⟨(.type "builtin_function_or_method"), none, (.fields #[(.builtin "object.__init_subclass__"), (.ref 140)]), #[]⟩
def o0_143 (P : Params) : Obj := ⟨(.type "tuple"), none, (.seq #[(.ref 53)] 0), #[]⟩
def o0_144 (P : Params) : Obj := ⟨(.type "builtin_function_or_method"), none, (.fields #[(.builtin "type.__prepare__"), (.type "type")]), #[]⟩
def o0_145 (P : Params) : Obj := ⟨(.type "dict"), none, (.dict #[⟨PyData.keyHash P ("__module__" : Str), (.str ("__module__" : Str) 361), (.str ("rosterneed.errors" : Str) 194)⟩, ⟨PyData.keyHash P ("__qualname__" : Str), (.str ("__qualname__" : Str) 363), (.str ("BadCourse" : Str) 362)⟩, ⟨PyData.keyHash P ("__firstlineno__" : Str), (.str ("__firstlineno__" : Str) 365), (.int 31 364)⟩, ⟨PyData.keyHash P ("__static_attributes__" : Str), (.str ("__static_attributes__" : Str) 366), (.ref 150)⟩] 4), #[]⟩
def o0_146 (P : Params) : Obj := ⟨(.type "tuple"), none, (.seq #[] 0), #[]⟩
def o0_147 (P : Params) : Obj := ⟨.none, none, (.fields #[]), #[]⟩
def o0_148 (P : Params) : Obj := ⟨(.type "code"), none, (.fields #[(.str ("BadCourse" : Str) 356), (.str ("BadCourse" : Str) 357), (.str ("/claim/cut.py" : Str) 358), (.int 31 0), (.int 0 0), (.int 0 0), (.int 0 0), (.int 0 0), (.ref 146), (.bool false), (.int 181 0), (.ref 147), .none, .none, .none, .none, (.int 359 0), (.int 31 0), (.str ("/claim/cut.py" : Str) 360)]), #[]⟩
def o0_149 (P : Params) : Obj := ⟨(.type "frame"), none, .plain, #[(some (.ref 148)), (some (.ref 3)), (some (.ref 145)), none, (some (.str ("rosterneed.errors" : Str) 194)), none, (some (.ref 0))]⟩
def o0_150 (P : Params) : Obj := ⟨(.type "tuple"), none, (.seq #[] 0), #[]⟩
def o0_151 (P : Params) : Obj := ⟨(.type "dict"), none, (.dict #[⟨PyData.keyHash P ("__module__" : Str), (.str ("__module__" : Str) 361), (.str ("rosterneed.errors" : Str) 194)⟩, ⟨PyData.keyHash P ("__firstlineno__" : Str), (.str ("__firstlineno__" : Str) 365), (.int 31 364)⟩, ⟨PyData.keyHash P ("__static_attributes__" : Str), (.str ("__static_attributes__" : Str) 366), (.ref 150)⟩, ⟨PyData.keyHash P ("__doc__" : Str), (.str ("__doc__" : Str) 367), .none⟩] 2), #[]⟩
def o0_152 (P : Params) : Obj := ⟨(.type "type"), none, (.cls { name := ("BadCourse" : Str), bases := [(.ref 53)], mro := [(.ref 152), (.ref 53), (.ref 31), (.type "ValueError"), (.type "Exception"), (.type "BaseException"), (.type "object")], ns := 151, qualname := ("BadCourse" : Str), hasDict := true, slotNames := [], subclasses := [], abstract := false, collection := none, hasDel := false }), #[(some (.ref 143)), none, (some (.str ("BadCourse" : Str) 354)), (some (.str ("BadCourse" : Str) 362)), (some (.builtin "ValueError.__new__")), (some (.bool true))]⟩
def o0_153 (P : Params) : Obj := ⟨(.type "super"), none, (.fields #[(.ref 152), (.ref 152), (.ref 152)]), #[]⟩
def o0_154 (P : Params) : Obj := ⟨(.type "builtin_function_or_method"), none, (.fields #[(.builtin "object.__init_subclass__"), (.ref 152)]), #[]⟩
def o0_155 (P : Params) : Obj := ⟨(.type "tuple"), none, (.seq #[(.ref 74)] 0), #[]⟩
def o0_156 (P : Params) : Obj := ⟨(.type "builtin_function_or_method"), none, (.fields #[(.builtin "type.__prepare__"), (.type "type")]), #[]⟩
def o0_157 (P : Params) : Obj := ⟨(.type "dict"), none, (.dict #[⟨PyData.keyHash P ("__module__" : Str), (.str ("__module__" : Str) 377), (.str ("rosterneed.errors" : Str) 194)⟩, ⟨PyData.keyHash P ("__qualname__" : Str), (.str ("__qualname__" : Str) 379), (.str ("BadTable" : Str) 378)⟩, ⟨PyData.keyHash P ("__firstlineno__" : Str), (.str ("__firstlineno__" : Str) 381), (.int 33 380)⟩, ⟨PyData.keyHash P ("__static_attributes__" : Str), (.str ("__static_attributes__" : Str) 382), (.ref 162)⟩] 4), #[]⟩
def o0_158 (P : Params) : Obj := ⟨(.type "tuple"), none, (.seq #[] 0), #[]⟩
def o0_159 (P : Params) : Obj := ⟨.none, none, (.fields #[]), #[]⟩
def o0_160 (P : Params) : Obj := ⟨(.type "code"), none, (.fields #[(.str ("BadTable" : Str) 372), (.str ("BadTable" : Str) 373), (.str ("/claim/cut.py" : Str) 374), (.int 33 0), (.int 0 0), (.int 0 0), (.int 0 0), (.int 0 0), (.ref 158), (.bool false), (.int 181 0), (.ref 159), .none, .none, .none, .none, (.int 375 0), (.int 33 0), (.str ("/claim/cut.py" : Str) 376)]), #[]⟩
def o0_161 (P : Params) : Obj := ⟨(.type "frame"), none, .plain, #[(some (.ref 160)), (some (.ref 3)), (some (.ref 157)), none, (some (.str ("rosterneed.errors" : Str) 194)), none, (some (.ref 0))]⟩
def o0_162 (P : Params) : Obj := ⟨(.type "tuple"), none, (.seq #[] 0), #[]⟩
def o0_163 (P : Params) : Obj := ⟨(.type "dict"), none, (.dict #[⟨PyData.keyHash P ("__module__" : Str), (.str ("__module__" : Str) 377), (.str ("rosterneed.errors" : Str) 194)⟩, ⟨PyData.keyHash P ("__firstlineno__" : Str), (.str ("__firstlineno__" : Str) 381), (.int 33 380)⟩, ⟨PyData.keyHash P ("__static_attributes__" : Str), (.str ("__static_attributes__" : Str) 382), (.ref 162)⟩, ⟨PyData.keyHash P ("__doc__" : Str), (.str ("__doc__" : Str) 383), .none⟩] 2), #[]⟩
def o0_164 (P : Params) : Obj := ⟨(.type "type"), none, (.cls { name := ("BadTable" : Str), bases := [(.ref 74)], mro := [(.ref 164), (.ref 74), (.ref 31), (.type "ValueError"), (.type "Exception"), (.type "BaseException"), (.type "object")], ns := 163, qualname := ("BadTable" : Str), hasDict := true, slotNames := [], subclasses := [], abstract := false, collection := none, hasDel := false }), #[(some (.ref 155)), none, (some (.str ("BadTable" : Str) 370)), (some (.str ("BadTable" : Str) 378)), (some (.builtin "ValueError.__new__")), (some (.bool true))]⟩
def o0_165 (P : Params) : Obj := ⟨(.type "super"), none, (.fields #[(.ref 164), (.ref 164), (.ref 164)]), #[]⟩
def o0_166 (P : Params) : Obj := ⟨(.type "builtin_function_or_method"), none, (.fields #[(.builtin "object.__init_subclass__"), (.ref 164)]), #[]⟩
def o0_167 (P : Params) : Obj := ⟨(.type "tuple"), none, (.seq #[(.ref 74)] 0), #[]⟩
def o0_168 (P : Params) : Obj := ⟨(.type "builtin_function_or_method"), none, (.fields #[(.builtin "type.__prepare__"), (.type "type")]), #[]⟩
def o0_169 (P : Params) : Obj := ⟨(.type "dict"), none, (.dict #[⟨PyData.keyHash P ("__module__" : Str), (.str ("__module__" : Str) 393), (.str ("rosterneed.errors" : Str) 194)⟩, ⟨PyData.keyHash P ("__qualname__" : Str), (.str ("__qualname__" : Str) 395), (.str ("BadMaker" : Str) 394)⟩, ⟨PyData.keyHash P ("__firstlineno__" : Str), (.str ("__firstlineno__" : Str) 397), (.int 35 396)⟩, ⟨PyData.keyHash P ("__static_attributes__" : Str), (.str ("__static_attributes__" : Str) 398), (.ref 174)⟩] 4), #[]⟩
def o0_170 (P : Params) : Obj := ⟨(.type "tuple"), none, (.seq #[] 0), #[]⟩
def o0_171 (P : Params) : Obj := ⟨.none, none, (.fields #[]), #[]⟩
def o0_172 (P : Params) : Obj := ⟨(.type "code"), none, (.fields #[(.str ("BadMaker" : Str) 388), (.str ("BadMaker" : Str) 389), (.str ("/claim/cut.py" : Str) 390), (.int 35 0), (.int 0 0), (.int 0 0), (.int 0 0), (.int 0 0), (.ref 170), (.bool false), (.int 181 0), (.ref 171), .none, .none, .none, .none, (.int 391 0), (.int 35 0), (.str ("/claim/cut.py" : Str) 392)]), #[]⟩
def o0_173 (P : Params) : Obj := ⟨(.type "frame"), none, .plain, #[(some (.ref 172)), (some (.ref 3)), (some (.ref 169)), none, (some (.str ("rosterneed.errors" : Str) 194)), none, (some (.ref 0))]⟩
def o0_174 (P : Params) : Obj := ⟨(.type "tuple"), none, (.seq #[] 0), #[]⟩
def o0_175 (P : Params) : Obj := ⟨(.type "dict"), none, (.dict #[⟨PyData.keyHash P ("__module__" : Str), (.str ("__module__" : Str) 393), (.str ("rosterneed.errors" : Str) 194)⟩, ⟨PyData.keyHash P ("__firstlineno__" : Str), (.str ("__firstlineno__" : Str) 397), (.int 35 396)⟩, ⟨PyData.keyHash P ("__static_attributes__" : Str), (.str ("__static_attributes__" : Str) 398), (.ref 174)⟩, ⟨PyData.keyHash P ("__doc__" : Str), (.str ("__doc__" : Str) 399), .none⟩] 2), #[]⟩
def o0_176 (P : Params) : Obj := ⟨(.type "type"), none, (.cls { name := ("BadMaker" : Str), bases := [(.ref 74)], mro := [(.ref 176), (.ref 74), (.ref 31), (.type "ValueError"), (.type "Exception"), (.type "BaseException"), (.type "object")], ns := 175, qualname := ("BadMaker" : Str), hasDict := true, slotNames := [], subclasses := [], abstract := false, collection := none, hasDel := false }), #[(some (.ref 167)), none, (some (.str ("BadMaker" : Str) 386)), (some (.str ("BadMaker" : Str) 394)), (some (.builtin "ValueError.__new__")), (some (.bool true))]⟩
def o0_177 (P : Params) : Obj := ⟨(.type "super"), none, (.fields #[(.ref 176), (.ref 176), (.ref 176)]), #[]⟩
def o0_178 (P : Params) : Obj := ⟨(.type "builtin_function_or_method"), none, (.fields #[(.builtin "object.__init_subclass__"), (.ref 176)]), #[]⟩
def t0 (P : Params) : BT := (.node (boot_o_0 P) (.node (boot_o_1 P) (.node (o0_3 P) (.node (boot_o_7 P) (.node (o0_15 P) (.node (o0_31 P) (.node (o0_63 P) (.node (o0_127 P) .nil .nil) .nil) (.node (o0_95 P) (.node (o0_159 P) .nil .nil) .nil)) (.node (o0_47 P) (.node (o0_79 P) (.node (o0_143 P) .nil .nil) .nil) (.node (o0_111 P) (.node (o0_175 P) .nil .nil) .nil))) (.node (o0_23 P) (.node (o0_39 P) (.node (o0_71 P) (.node (o0_135 P) .nil .nil) .nil) (.node (o0_103 P) (.node (o0_167 P) .nil .nil) .nil)) (.node (o0_55 P) (.node (o0_87 P) (.node (o0_151 P) .nil .nil) .nil) (.node (o0_119 P) .nil .nil)))) (.node (oa_11 P) (.node (o0_19 P) (.node (o0_35 P) (.node (o0_67 P) (.node (o0_131 P) .nil .nil) .nil) (.node (o0_99 P) (.node (o0_163 P) .nil .nil) .nil)) (.node (o0_51 P) (.node (o0_83 P) (.node (o0_147 P) .nil .nil) .nil) (.node (o0_115 P) .nil .nil))) (.node (o0_27 P) (.node (o0_43 P) (.node (o0_75 P) (.node (o0_139 P) .nil .nil) .nil) (.node (o0_107 P) (.node (o0_171 P) .nil .nil) .nil)) (.node (o0_59 P) (.node (o0_91 P) (.node (o0_155 P) .nil .nil) .nil) (.node (o0_123 P) .nil .nil))))) (.node (boot_o_5 P) (.node (boot_o_9 P) (.node (o0_17 P) (.node (o0_33 P) (.node (o0_65 P) (.node (o0_129 P) .nil .nil) .nil) (.node (o0_97 P) (.node (o0_161 P) .nil .nil) .nil)) (.node (o0_49 P) (.node (o0_81 P) (.node (o0_145 P) .nil .nil) .nil) (.node (o0_113 P) (.node (o0_177 P) .nil .nil) .nil))) (.node (o0_25 P) (.node (o0_41 P) (.node (o0_73 P) (.node (o0_137 P) .nil .nil) .nil) (.node (o0_105 P) (.node (o0_169 P) .nil .nil) .nil)) (.node (o0_57 P) (.node (o0_89 P) (.node (o0_153 P) .nil .nil) .nil) (.node (o0_121 P) .nil .nil)))) (.node (oa_13 P) (.node (o0_21 P) (.node (o0_37 P) (.node (o0_69 P) (.node (o0_133 P) .nil .nil) .nil) (.node (o0_101 P) (.node (o0_165 P) .nil .nil) .nil)) (.node (o0_53 P) (.node (o0_85 P) (.node (o0_149 P) .nil .nil) .nil) (.node (o0_117 P) .nil .nil))) (.node (o0_29 P) (.node (o0_45 P) (.node (o0_77 P) (.node (o0_141 P) .nil .nil) .nil) (.node (o0_109 P) (.node (o0_173 P) .nil .nil) .nil)) (.node (o0_61 P) (.node (o0_93 P) (.node (o0_157 P) .nil .nil) .nil) (.node (o0_125 P) .nil .nil)))))) (.node (boot_o_2 P) (.node (boot_o_4 P) (.node (boot_o_8 P) (.node (o0_16 P) (.node (o0_32 P) (.node (o0_64 P) (.node (o0_128 P) .nil .nil) .nil) (.node (o0_96 P) (.node (o0_160 P) .nil .nil) .nil)) (.node (o0_48 P) (.node (o0_80 P) (.node (o0_144 P) .nil .nil) .nil) (.node (o0_112 P) (.node (o0_176 P) .nil .nil) .nil))) (.node (o0_24 P) (.node (o0_40 P) (.node (o0_72 P) (.node (o0_136 P) .nil .nil) .nil) (.node (o0_104 P) (.node (o0_168 P) .nil .nil) .nil)) (.node (o0_56 P) (.node (o0_88 P) (.node (o0_152 P) .nil .nil) .nil) (.node (o0_120 P) .nil .nil)))) (.node (o0_12 P) (.node (o0_20 P) (.node (o0_36 P) (.node (o0_68 P) (.node (o0_132 P) .nil .nil) .nil) (.node (o0_100 P) (.node (o0_164 P) .nil .nil) .nil)) (.node (o0_52 P) (.node (o0_84 P) (.node (o0_148 P) .nil .nil) .nil) (.node (o0_116 P) .nil .nil))) (.node (o0_28 P) (.node (o0_44 P) (.node (o0_76 P) (.node (o0_140 P) .nil .nil) .nil) (.node (o0_108 P) (.node (o0_172 P) .nil .nil) .nil)) (.node (o0_60 P) (.node (o0_92 P) (.node (o0_156 P) .nil .nil) .nil) (.node (o0_124 P) .nil .nil))))) (.node (boot_o_6 P) (.node (boot_o_10 P) (.node (o0_18 P) (.node (o0_34 P) (.node (o0_66 P) (.node (o0_130 P) .nil .nil) .nil) (.node (o0_98 P) (.node (o0_162 P) .nil .nil) .nil)) (.node (o0_50 P) (.node (o0_82 P) (.node (o0_146 P) .nil .nil) .nil) (.node (o0_114 P) (.node (o0_178 P) .nil .nil) .nil))) (.node (o0_26 P) (.node (o0_42 P) (.node (o0_74 P) (.node (o0_138 P) .nil .nil) .nil) (.node (o0_106 P) (.node (o0_170 P) .nil .nil) .nil)) (.node (o0_58 P) (.node (o0_90 P) (.node (o0_154 P) .nil .nil) .nil) (.node (o0_122 P) .nil .nil)))) (.node (oa_14 P) (.node (o0_22 P) (.node (o0_38 P) (.node (o0_70 P) (.node (o0_134 P) .nil .nil) .nil) (.node (o0_102 P) (.node (o0_166 P) .nil .nil) .nil)) (.node (o0_54 P) (.node (o0_86 P) (.node (o0_150 P) .nil .nil) .nil) (.node (o0_118 P) .nil .nil))) (.node (o0_30 P) (.node (o0_46 P) (.node (o0_78 P) (.node (o0_142 P) .nil .nil) .nil) (.node (o0_110 P) (.node (o0_174 P) .nil .nil) .nil)) (.node (o0_62 P) (.node (o0_94 P) (.node (o0_158 P) .nil .nil) .nil) (.node (o0_126 P) .nil .nil)))))))
def S0 (w : World) (os : OsState) : SharedT := ⟨t0 w.params, 179, {}, #[], {}, 402, os⟩
def p0 : Pos := ⟨35, 0, 36, 8⟩
def o1_3 (P : Params) : Obj := ⟨(.type "dict"), none, (.dict #[⟨PyData.keyHash P ("__name__" : Str), (.str ("__name__" : Str) 165), (.str ("rosterneed.courses" : Str) 907)⟩, ⟨PyData.keyHash P ("__doc__" : Str), (.str ("__doc__" : Str) 166), .none⟩, ⟨PyData.keyHash P ("__package__" : Str), (.str ("__package__" : Str) 167), .none⟩, ⟨PyData.keyHash P ("__loader__" : Str), (.str ("__loader__" : Str) 168), (.builtin "__main__.__loader__#opaque")⟩, ⟨PyData.keyHash P ("__spec__" : Str), (.str ("__spec__" : Str) 169), .none⟩, ⟨PyData.keyHash P ("__annotations__" : Str), (.str ("__annotations__" : Str) 170), (.ref 6)⟩, ⟨PyData.keyHash P ("__builtins__" : Str), (.str ("__builtins__" : Str) 171), (.ref 4)⟩, ⟨PyData.keyHash P ("__file__" : Str), (.str ("__file__" : Str) 173), (.str ("/claim/cut.py" : Str) 172)⟩, ⟨PyData.keyHash P ("__cached__" : Str), (.str ("__cached__" : Str) 174), .none⟩, ⟨PyData.keyHash P ("_wall" : Str), (.str ("_wall" : Str) 193), (.ref 21)⟩, ⟨PyData.keyHash P ("RosterneedError" : Str), (.str ("RosterneedError" : Str) 213), (.ref 31)⟩, ⟨PyData.keyHash P ("WrongThing" : Str), (.str ("WrongThing" : Str) 240), (.ref 53)⟩, ⟨PyData.keyHash P ("WrongWord" : Str), (.str ("WrongWord" : Str) 267), (.ref 74)⟩, ⟨PyData.keyHash P ("WrongNumber" : Str), (.str ("WrongNumber" : Str) 294), (.ref 95)⟩, ⟨PyData.keyHash P ("TooMany" : Str), (.str ("TooMany" : Str) 321), (.ref 116)⟩, ⟨PyData.keyHash P ("BadCount" : Str), (.str ("BadCount" : Str) 337), (.ref 128)⟩, ⟨PyData.keyHash P ("BadInlet" : Str), (.str ("BadInlet" : Str) 353), (.ref 140)⟩, ⟨PyData.keyHash P ("BadCourse" : Str), (.str ("BadCourse" : Str) 369), (.ref 152)⟩, ⟨PyData.keyHash P ("BadTable" : Str), (.str ("BadTable" : Str) 385), (.ref 164)⟩, ⟨PyData.keyHash P ("BadMaker" : Str), (.str ("BadMaker" : Str) 401), (.ref 176)⟩, ⟨PyData.keyHash P ("BadTables" : Str), (.str ("BadTables" : Str) 417), (.ref 188)⟩, ⟨PyData.keyHash P ("is_integer" : Str), (.str ("is_integer" : Str) 426), (.ref 197)⟩, ⟨PyData.keyHash P ("is_count" : Str), (.str ("is_count" : Str) 433), (.ref 204)⟩, ⟨PyData.keyHash P ("is_listed" : Str), (.str ("is_listed" : Str) 440), (.ref 211)⟩, ⟨PyData.keyHash P ("is_counts" : Str), (.str ("is_counts" : Str) 446), (.ref 216)⟩, ⟨PyData.keyHash P ("deep" : Str), (.str ("deep" : Str) 452), (.ref 221)⟩, ⟨PyData.keyHash P ("at_most" : Str), (.str ("at_most" : Str) 460), (.ref 228)⟩, ⟨PyData.keyHash P ("greater_of" : Str), (.str ("greater_of" : Str) 468), (.ref 235)⟩, ⟨PyData.keyHash P ("lesser_of" : Str), (.str ("lesser_of" : Str) 476), (.ref 242)⟩, ⟨PyData.keyHash P ("common_divisor" : Str), (.str ("common_divisor" : Str) 484), (.ref 249)⟩, ⟨PyData.keyHash P ("common_multiple" : Str), (.str ("common_multiple" : Str) 492), (.ref 256)⟩, ⟨PyData.keyHash P ("end_of" : Str), (.str ("end_of" : Str) 504), (.ref 263)⟩, ⟨PyData.keyHash P ("value_at" : Str), (.str ("value_at" : Str) 516), (.ref 270)⟩, ⟨PyData.keyHash P ("short_loop" : Str), (.str ("short_loop" : Str) 522), (.ref 275)⟩, ⟨PyData.keyHash P ("plain_form" : Str), (.str ("plain_form" : Str) 528), (.ref 280)⟩, ⟨PyData.keyHash P ("formed" : Str), (.str ("formed" : Str) 538), (.ref 287)⟩, ⟨PyData.keyHash P ("until_never" : Str), (.str ("until_never" : Str) 547), (.ref 294)⟩, ⟨PyData.keyHash P ("first_beyond" : Str), (.str ("first_beyond" : Str) 558), (.ref 301)⟩, ⟨PyData.keyHash P ("behind_raw" : Str), (.str ("behind_raw" : Str) 564), (.ref 306)⟩, ⟨PyData.keyHash P ("later_start" : Str), (.str ("later_start" : Str) 582), (.ref 313)⟩, ⟨PyData.keyHash P ("joined_values" : Str), (.str ("joined_values" : Str) 596), (.ref 320)⟩, ⟨PyData.keyHash P ("joined_raw" : Str), (.str ("joined_raw" : Str) 602), (.ref 325)⟩, ⟨PyData.keyHash P ("counts_below" : Str), (.str ("counts_below" : Str) 614), (.ref 332)⟩, ⟨PyData.keyHash P ("turned_raw" : Str), (.str ("turned_raw" : Str) 625), (.ref 339)⟩, ⟨PyData.keyHash P ("is_rising" : Str), (.str ("is_rising" : Str) 633), (.ref 344)⟩, ⟨PyData.keyHash P ("checked_table" : Str), (.str ("checked_table" : Str) 642), (.ref 351)⟩, ⟨PyData.keyHash P ("Table" : Str), (.str ("Table" : Str) 776), (.ref 453)⟩, ⟨PyData.keyHash P ("table_from" : Str), (.str ("table_from" : Str) 783), (.ref 464)⟩, ⟨PyData.keyHash P ("GIVE" : Str), (.str ("GIVE" : Str) 787), (.str ("give" : Str) 786)⟩, ⟨PyData.keyHash P ("MOST_INLETS" : Str), (.str ("MOST_INLETS" : Str) 789), (.int 3 788)⟩, ⟨PyData.keyHash P ("MOST_WAYS" : Str), (.str ("MOST_WAYS" : Str) 791), (.int 4 790)⟩, ⟨PyData.keyHash P ("MOST_DEEDS" : Str), (.str ("MOST_DEEDS" : Str) 793), (.int 600 792)⟩, ⟨PyData.keyHash P ("MOST_DEEDS_EACH" : Str), (.str ("MOST_DEEDS_EACH" : Str) 795), (.int 24 794)⟩, ⟨PyData.keyHash P ("MOST_FIRST" : Str), (.str ("MOST_FIRST" : Str) 797), (.int 200 796)⟩, ⟨PyData.keyHash P ("MOST_THEN" : Str), (.str ("MOST_THEN" : Str) 799), (.int 40 798)⟩, ⟨PyData.keyHash P ("is_deed" : Str), (.str ("is_deed" : Str) 807), (.ref 471)⟩, ⟨PyData.keyHash P ("is_deeds" : Str), (.str ("is_deeds" : Str) 813), (.ref 476)⟩, ⟨PyData.keyHash P ("is_ways" : Str), (.str ("is_ways" : Str) 819), (.ref 481)⟩, ⟨PyData.keyHash P ("is_way_numbers" : Str), (.str ("is_way_numbers" : Str) 825), (.ref 486)⟩, ⟨PyData.keyHash P ("is_course" : Str), (.str ("is_course" : Str) 834), (.ref 493)⟩, ⟨PyData.keyHash P ("takes_ahead" : Str), (.str ("takes_ahead" : Str) 845), (.ref 500)⟩, ⟨PyData.keyHash P ("check_inlet" : Str), (.str ("check_inlet" : Str) 853), (.ref 507)⟩, ⟨PyData.keyHash P ("need_on" : Str), (.str ("need_on" : Str) 859), (.ref 512)⟩, ⟨PyData.keyHash P ("Maker" : Str), (.str ("Maker" : Str) 906), (.ref 541)⟩] 64), #[]⟩
def o1_12 (P : Params) : Obj := ⟨.none, none, (.fields #[(.int 1 0), (.int 0 0), (.ref 20), (.int 5 0), (.int 0 0), (.ref 27), (.int 7 0), (.int 0 0), (.ref 41), (.int 12 0), (.int 0 0), (.ref 62), (.int 17 0), (.int 0 0), (.ref 83), (.int 22 0), (.int 0 0), (.ref 104), (.int 27 0), (.int 0 0), (.ref 124), (.int 29 0), (.int 0 0), (.ref 136), (.int 31 0), (.int 0 0), (.ref 148), (.int 33 0), (.int 0 0), (.ref 160), (.int 35 0), (.int 0 0), (.ref 172), (.int 37 0), (.int 0 0), (.ref 184), (.int 40 0), (.int 0 0), (.ref 196), (.int 42 0), (.int 0 0), (.ref 203), (.int 44 0), (.int 0 0), (.ref 210), (.int 46 0), (.int 0 0), (.ref 215), (.int 48 0), (.int 0 0), (.ref 220), (.int 52 0), (.int 0 0), (.ref 227), (.int 54 0), (.int 0 0), (.ref 234), (.int 56 0), (.int 0 0), (.ref 241), (.int 58 0), (.int 0 0), (.ref 248), (.int 62 0), (.int 0 0), (.ref 255), (.int 65 0), (.int 0 0), (.ref 262), (.int 70 0), (.int 0 0), (.ref 269), (.int 82 0), (.int 0 0), (.ref 274), (.int 89 0), (.int 0 0), (.ref 279), (.int 101 0), (.int 0 0), (.ref 286), (.int 104 0), (.int 0 0), (.ref 293), (.int 111 0), (.int 0 0), (.ref 300), (.int 118 0), (.int 0 0), (.ref 305), (.int 136 0), (.int 0 0), (.ref 312), (.int 150 0), (.int 0 0), (.ref 319), (.int 156 0), (.int 0 0), (.ref 324), (.int 171 0), (.int 0 0), (.ref 331), (.int 181 0), (.int 0 0), (.ref 338), (.int 190 0), (.int 0 0), (.ref 343), (.int 192 0), (.int 0 0), (.ref 350), (.int 204 0), (.int 0 0), (.ref 357), (.int 253 0), (.int 0 0), (.ref 463), (.int 263 0), (.int 0 0), (.ref 470), (.int 267 0), (.int 0 0), (.ref 475), (.int 269 0), (.int 0 0), (.ref 480), (.int 273 0), (.int 0 0), (.ref 485), (.int 277 0), (.int 0 0), (.ref 492), (.int 282 0), (.int 0 0), (.ref 499), (.int 291 0), (.int 0 0), (.ref 506), (.int 294 0), (.int 0 0), (.ref 511), (.int 306 0), (.int 0 0), (.ref 518)]), #[]⟩
def o1_95 (P : Params) : Obj := ⟨(.type "type"), none, (.cls { name := ("WrongNumber" : Str), bases := [(.ref 31)], mro := [(.ref 95), (.ref 31), (.type "ValueError"), (.type "Exception"), (.type "BaseException"), (.type "object")], ns := 94, qualname := ("WrongNumber" : Str), hasDict := true, slotNames := [], subclasses := [(.ref 188)], abstract := false, collection := none, hasDel := false }), #[(some (.ref 77)), none, (some (.str ("WrongNumber" : Str) 268)), (some (.str ("WrongNumber" : Str) 276)), (some (.builtin "ValueError.__new__")), (some (.bool true))]⟩
def o1_179 (P : Params) : Obj := ⟨(.type "tuple"), none, (.seq #[(.ref 95)] 0), #[]⟩
def o1_180 (P : Params) : Obj := ⟨(.type "builtin_function_or_method"), none, (.fields #[(.builtin "type.__prepare__"), (.type "type")]), #[]⟩
def o1_181 (P : Params) : Obj := ⟨(.type "dict"), none, (.dict #[⟨PyData.keyHash P ("__module__" : Str), (.str ("__module__" : Str) 409), (.str ("rosterneed.errors" : Str) 194)⟩, ⟨PyData.keyHash P ("__qualname__" : Str), (.str ("__qualname__" : Str) 411), (.str ("BadTables" : Str) 410)⟩, ⟨PyData.keyHash P ("__firstlineno__" : Str), (.str ("__firstlineno__" : Str) 413), (.int 37 412)⟩, ⟨PyData.keyHash P ("__static_attributes__" : Str), (.str ("__static_attributes__" : Str) 414), (.ref 186)⟩] 4), #[]⟩
def o1_182 (P : Params) : Obj := ⟨(.type "tuple"), none, (.seq #[] 0), #[]⟩
def o1_183 (P : Params) : Obj := ⟨.none, none, (.fields #[]), #[]⟩
def o1_184 (P : Params) : Obj := ⟨(.type "code"), none, (.fields #[(.str ("BadTables" : Str) 404), (.str ("BadTables" : Str) 405), (.str ("/claim/cut.py" : Str) 406), (.int 37 0), (.int 0 0), (.int 0 0), (.int 0 0), (.int 0 0), (.ref 182), (.bool false), (.int 181 0), (.ref 183), .none, .none, .none, .none, (.int 407 0), (.int 37 0), (.str ("/claim/cut.py" : Str) 408)]), #[]⟩
def o1_185 (P : Params) : Obj := ⟨(.type "frame"), none, .plain, #[(some (.ref 184)), (some (.ref 3)), (some (.ref 181)), none, (some (.str ("rosterneed.errors" : Str) 194)), none, (some (.ref 0))]⟩
def o1_186 (P : Params) : Obj := ⟨(.type "tuple"), none, (.seq #[] 0), #[]⟩
def o1_187 (P : Params) : Obj := ⟨(.type "dict"), none, (.dict #[⟨PyData.keyHash P ("__module__" : Str), (.str ("__module__" : Str) 409), (.str ("rosterneed.errors" : Str) 194)⟩, ⟨PyData.keyHash P ("__firstlineno__" : Str), (.str ("__firstlineno__" : Str) 413), (.int 37 412)⟩, ⟨PyData.keyHash P ("__static_attributes__" : Str), (.str ("__static_attributes__" : Str) 414), (.ref 186)⟩, ⟨PyData.keyHash P ("__doc__" : Str), (.str ("__doc__" : Str) 415), .none⟩] 2), #[]⟩
def o1_188 (P : Params) : Obj := ⟨(.type "type"), none, (.cls { name := ("BadTables" : Str), bases := [(.ref 95)], mro := [(.ref 188), (.ref 95), (.ref 31), (.type "ValueError"), (.type "Exception"), (.type "BaseException"), (.type "object")], ns := 187, qualname := ("BadTables" : Str), hasDict := true, slotNames := [], subclasses := [], abstract := false, collection := none, hasDel := false }), #[(some (.ref 179)), none, (some (.str ("BadTables" : Str) 402)), (some (.str ("BadTables" : Str) 410)), (some (.builtin "ValueError.__new__")), (some (.bool true))]⟩
def o1_189 (P : Params) : Obj := ⟨(.type "super"), none, (.fields #[(.ref 188), (.ref 188), (.ref 188)]), #[]⟩
def o1_190 (P : Params) : Obj := ⟨(.type "builtin_function_or_method"), none, (.fields #[(.builtin "object.__init_subclass__"), (.ref 188)]), #[]⟩
def o1_191 (P : Params) : Obj := ⟨(.type "tuple"), none, (.seq #[] 0), #[]⟩
def o1_192 (P : Params) : Obj := ⟨.none, none, (.fields #[]), #[]⟩
def o1_193 (P : Params) : Obj := ⟨(.type "tuple"), none, (.seq #[(.str ("thing" : Str) 423)] 0), #[]⟩
def o1_194 (P : Params) : Obj := ⟨(.type "tuple"), none, (.seq #[] 0), #[]⟩
def o1_195 (P : Params) : Obj := ⟨.none, none, (.func { name := ("is_integer" : Str), qualname := ("is_integer" : Str), params := defArgs tp14, body := .stmts (defBody tp14), scope := defScope tp14, globals := 0, closure := [], defaults := .none, kwdefaults := .none, doc := .none, pyModule := .none, annotations := none, code := .none, closureTuple := .none, builtins := 0 }), #[]⟩
def o1_196 (P : Params) : Obj := ⟨(.type "code"), none, (.fields #[(.str ("is_integer" : Str) 420), (.str ("is_integer" : Str) 421), (.str ("/claim/cut.py" : Str) 422), (.int 40 0), (.int 1 0), (.int 0 0), (.int 0 0), (.int 3 0), (.ref 191), (.bool true), (.int 181 0), (.ref 192), .none, (.ref 193), (.ref 194), (.ref 195), (.int 424 0), (.int 40 0), (.str ("/claim/cut.py" : Str) 425)]), #[]⟩
def o1_197 (P : Params) : Obj := ⟨(.type "function"), none, (.func { name := ("is_integer" : Str), qualname := ("is_integer" : Str), params := defArgs tp14, body := .stmts (defBody tp14), scope := defScope tp14, globals := 3, closure := [], defaults := .none, kwdefaults := .none, doc := .none, pyModule := (.str ("rosterneed.plain" : Str) 418), annotations := none, code := (.ref 196), closureTuple := .none, builtins := 0 }), #[]⟩
def o1_198 (P : Params) : Obj := ⟨(.type "tuple"), none, (.seq #[] 0), #[]⟩
def o1_199 (P : Params) : Obj := ⟨.none, none, (.fields #[]), #[]⟩
def o1_200 (P : Params) : Obj := ⟨(.type "tuple"), none, (.seq #[(.str ("thing" : Str) 430)] 0), #[]⟩
def o1_201 (P : Params) : Obj := ⟨(.type "tuple"), none, (.seq #[] 0), #[]⟩
def o1_202 (P : Params) : Obj := ⟨.none, none, (.func { name := ("is_count" : Str), qualname := ("is_count" : Str), params := defArgs tp15, body := .stmts (defBody tp15), scope := defScope tp15, globals := 0, closure := [], defaults := .none, kwdefaults := .none, doc := .none, pyModule := .none, annotations := none, code := .none, closureTuple := .none, builtins := 0 }), #[]⟩
def o1_203 (P : Params) : Obj := ⟨(.type "code"), none, (.fields #[(.str ("is_count" : Str) 427), (.str ("is_count" : Str) 428), (.str ("/claim/cut.py" : Str) 429), (.int 42 0), (.int 1 0), (.int 0 0), (.int 0 0), (.int 3 0), (.ref 198), (.bool true), (.int 181 0), (.ref 199), .none, (.ref 200), (.ref 201), (.ref 202), (.int 431 0), (.int 42 0), (.str ("/claim/cut.py" : Str) 432)]), #[]⟩
def o1_204 (P : Params) : Obj := ⟨(.type "function"), none, (.func { name := ("is_count" : Str), qualname := ("is_count" : Str), params := defArgs tp15, body := .stmts (defBody tp15), scope := defScope tp15, globals := 3, closure := [], defaults := .none, kwdefaults := .none, doc := .none, pyModule := (.str ("rosterneed.plain" : Str) 418), annotations := none, code := (.ref 203), closureTuple := .none, builtins := 0 }), #[]⟩
def o1_205 (P : Params) : Obj := ⟨(.type "tuple"), none, (.seq #[] 0), #[]⟩
def o1_206 (P : Params) : Obj := ⟨.none, none, (.fields #[]), #[]⟩
def o1_207 (P : Params) : Obj := ⟨(.type "tuple"), none, (.seq #[(.str ("thing" : Str) 437)] 0), #[]⟩
def o1_208 (P : Params) : Obj := ⟨(.type "tuple"), none, (.seq #[] 0), #[]⟩
def o1_209 (P : Params) : Obj := ⟨.none, none, (.func { name := ("is_listed" : Str), qualname := ("is_listed" : Str), params := defArgs tp16, body := .stmts (defBody tp16), scope := defScope tp16, globals := 0, closure := [], defaults := .none, kwdefaults := .none, doc := .none, pyModule := .none, annotations := none, code := .none, closureTuple := .none, builtins := 0 }), #[]⟩
def o1_210 (P : Params) : Obj := ⟨(.type "code"), none, (.fields #[(.str ("is_listed" : Str) 434), (.str ("is_listed" : Str) 435), (.str ("/claim/cut.py" : Str) 436), (.int 44 0), (.int 1 0), (.int 0 0), (.int 0 0), (.int 3 0), (.ref 205), (.bool true), (.int 181 0), (.ref 206), .none, (.ref 207), (.ref 208), (.ref 209), (.int 438 0), (.int 44 0), (.str ("/claim/cut.py" : Str) 439)]), #[]⟩
def o1_211 (P : Params) : Obj := ⟨(.type "function"), none, (.func { name := ("is_listed" : Str), qualname := ("is_listed" : Str), params := defArgs tp16, body := .stmts (defBody tp16), scope := defScope tp16, globals := 3, closure := [], defaults := .none, kwdefaults := .none, doc := .none, pyModule := (.str ("rosterneed.plain" : Str) 418), annotations := none, code := (.ref 210), closureTuple := .none, builtins := 0 }), #[]⟩
def o1_212 (P : Params) : Obj := ⟨(.type "tuple"), none, (.seq #[] 0), #[]⟩
def o1_213 (P : Params) : Obj := ⟨.none, none, (.fields #[]), #[]⟩
def o1_214 (P : Params) : Obj := ⟨.none, none, (.func { name := ("is_counts" : Str), qualname := ("is_counts" : Str), params := defArgs tp17, body := .stmts (defBody tp17), scope := defScope tp17, globals := 0, closure := [], defaults := .none, kwdefaults := .none, doc := .none, pyModule := .none, annotations := none, code := .none, closureTuple := .none, builtins := 0 }), #[]⟩
def o1_215 (P : Params) : Obj := ⟨(.type "code"), none, (.fields #[(.str ("is_counts" : Str) 441), (.str ("is_counts" : Str) 442), (.str ("/claim/cut.py" : Str) 443), (.int 46 0), (.int 1 0), (.int 0 0), (.int 0 0), (.int 3 0), (.ref 212), (.bool true), (.int 181 0), (.ref 213), .none, .none, .none, (.ref 214), (.int 444 0), (.int 46 0), (.str ("/claim/cut.py" : Str) 445)]), #[]⟩
def o1_216 (P : Params) : Obj := ⟨(.type "function"), none, (.func { name := ("is_counts" : Str), qualname := ("is_counts" : Str), params := defArgs tp17, body := .stmts (defBody tp17), scope := defScope tp17, globals := 3, closure := [], defaults := .none, kwdefaults := .none, doc := .none, pyModule := (.str ("rosterneed.plain" : Str) 418), annotations := none, code := (.ref 215), closureTuple := .none, builtins := 0 }), #[]⟩
def o1_217 (P : Params) : Obj := ⟨(.type "tuple"), none, (.seq #[] 0), #[]⟩
def o1_218 (P : Params) : Obj := ⟨.none, none, (.fields #[]), #[]⟩
def o1_219 (P : Params) : Obj := ⟨.none, none, (.func { name := ("deep" : Str), qualname := ("deep" : Str), params := defArgs tp18, body := .stmts (defBody tp18), scope := defScope tp18, globals := 0, closure := [], defaults := .none, kwdefaults := .none, doc := .none, pyModule := .none, annotations := none, code := .none, closureTuple := .none, builtins := 0 }), #[]⟩
def o1_220 (P : Params) : Obj := ⟨(.type "code"), none, (.fields #[(.str ("deep" : Str) 447), (.str ("deep" : Str) 448), (.str ("/claim/cut.py" : Str) 449), (.int 48 0), (.int 1 0), (.int 0 0), (.int 0 0), (.int 3 0), (.ref 217), (.bool true), (.int 181 0), (.ref 218), .none, .none, .none, (.ref 219), (.int 450 0), (.int 48 0), (.str ("/claim/cut.py" : Str) 451)]), #[]⟩
def o1_221 (P : Params) : Obj := ⟨(.type "function"), none, (.func { name := ("deep" : Str), qualname := ("deep" : Str), params := defArgs tp18, body := .stmts (defBody tp18), scope := defScope tp18, globals := 3, closure := [], defaults := .none, kwdefaults := .none, doc := .none, pyModule := (.str ("rosterneed.plain" : Str) 418), annotations := none, code := (.ref 220), closureTuple := .none, builtins := 0 }), #[]⟩
def o1_222 (P : Params) : Obj := ⟨(.type "tuple"), none, (.seq #[] 0), #[]⟩
def o1_223 (P : Params) : Obj := ⟨.none, none, (.fields #[]), #[]⟩
def o1_224 (P : Params) : Obj := ⟨(.type "tuple"), none, (.seq #[(.str ("one" : Str) 456), (.str ("other" : Str) 457)] 0), #[]⟩
def o1_225 (P : Params) : Obj := ⟨(.type "tuple"), none, (.seq #[] 0), #[]⟩
def o1_226 (P : Params) : Obj := ⟨.none, none, (.func { name := ("at_most" : Str), qualname := ("at_most" : Str), params := defArgs tp19, body := .stmts (defBody tp19), scope := defScope tp19, globals := 0, closure := [], defaults := .none, kwdefaults := .none, doc := .none, pyModule := .none, annotations := none, code := .none, closureTuple := .none, builtins := 0 }), #[]⟩
def o1_227 (P : Params) : Obj := ⟨(.type "code"), none, (.fields #[(.str ("at_most" : Str) 453), (.str ("at_most" : Str) 454), (.str ("/claim/cut.py" : Str) 455), (.int 52 0), (.int 2 0), (.int 0 0), (.int 0 0), (.int 3 0), (.ref 222), (.bool true), (.int 181 0), (.ref 223), .none, (.ref 224), (.ref 225), (.ref 226), (.int 458 0), (.int 52 0), (.str ("/claim/cut.py" : Str) 459)]), #[]⟩
def o1_228 (P : Params) : Obj := ⟨(.type "function"), none, (.func { name := ("at_most" : Str), qualname := ("at_most" : Str), params := defArgs tp19, body := .stmts (defBody tp19), scope := defScope tp19, globals := 3, closure := [], defaults := .none, kwdefaults := .none, doc := .none, pyModule := (.str ("rosterneed.plain" : Str) 418), annotations := none, code := (.ref 227), closureTuple := .none, builtins := 0 }), #[]⟩
def o1_229 (P : Params) : Obj := ⟨(.type "tuple"), none, (.seq #[] 0), #[]⟩
def o1_230 (P : Params) : Obj := ⟨.none, none, (.fields #[]), #[]⟩
def o1_231 (P : Params) : Obj := ⟨(.type "tuple"), none, (.seq #[(.str ("one" : Str) 464), (.str ("other" : Str) 465)] 0), #[]⟩
def o1_232 (P : Params) : Obj := ⟨(.type "tuple"), none, (.seq #[] 0), #[]⟩
def o1_233 (P : Params) : Obj := ⟨.none, none, (.func { name := ("greater_of" : Str), qualname := ("greater_of" : Str), params := defArgs tp20, body := .stmts (defBody tp20), scope := defScope tp20, globals := 0, closure := [], defaults := .none, kwdefaults := .none, doc := .none, pyModule := .none, annotations := none, code := .none, closureTuple := .none, builtins := 0 }), #[]⟩
def o1_234 (P : Params) : Obj := ⟨(.type "code"), none, (.fields #[(.str ("greater_of" : Str) 461), (.str ("greater_of" : Str) 462), (.str ("/claim/cut.py" : Str) 463), (.int 54 0), (.int 2 0), (.int 0 0), (.int 0 0), (.int 3 0), (.ref 229), (.bool true), (.int 181 0), (.ref 230), .none, (.ref 231), (.ref 232), (.ref 233), (.int 466 0), (.int 54 0), (.str ("/claim/cut.py" : Str) 467)]), #[]⟩
def o1_235 (P : Params) : Obj := ⟨(.type "function"), none, (.func { name := ("greater_of" : Str), qualname := ("greater_of" : Str), params := defArgs tp20, body := .stmts (defBody tp20), scope := defScope tp20, globals := 3, closure := [], defaults := .none, kwdefaults := .none, doc := .none, pyModule := (.str ("rosterneed.plain" : Str) 418), annotations := none, code := (.ref 234), closureTuple := .none, builtins := 0 }), #[]⟩
def o1_236 (P : Params) : Obj := ⟨(.type "tuple"), none, (.seq #[] 0), #[]⟩
def o1_237 (P : Params) : Obj := ⟨.none, none, (.fields #[]), #[]⟩
def o1_238 (P : Params) : Obj := ⟨(.type "tuple"), none, (.seq #[(.str ("one" : Str) 472), (.str ("other" : Str) 473)] 0), #[]⟩
def o1_239 (P : Params) : Obj := ⟨(.type "tuple"), none, (.seq #[] 0), #[]⟩
def o1_240 (P : Params) : Obj := ⟨.none, none, (.func { name := ("lesser_of" : Str), qualname := ("lesser_of" : Str), params := defArgs tp21, body := .stmts (defBody tp21), scope := defScope tp21, globals := 0, closure := [], defaults := .none, kwdefaults := .none, doc := .none, pyModule := .none, annotations := none, code := .none, closureTuple := .none, builtins := 0 }), #[]⟩
def o1_241 (P : Params) : Obj := ⟨(.type "code"), none, (.fields #[(.str ("lesser_of" : Str) 469), (.str ("lesser_of" : Str) 470), (.str ("/claim/cut.py" : Str) 471), (.int 56 0), (.int 2 0), (.int 0 0), (.int 0 0), (.int 3 0), (.ref 236), (.bool true), (.int 181 0), (.ref 237), .none, (.ref 238), (.ref 239), (.ref 240), (.int 474 0), (.int 56 0), (.str ("/claim/cut.py" : Str) 475)]), #[]⟩
def o1_242 (P : Params) : Obj := ⟨(.type "function"), none, (.func { name := ("lesser_of" : Str), qualname := ("lesser_of" : Str), params := defArgs tp21, body := .stmts (defBody tp21), scope := defScope tp21, globals := 3, closure := [], defaults := .none, kwdefaults := .none, doc := .none, pyModule := (.str ("rosterneed.plain" : Str) 418), annotations := none, code := (.ref 241), closureTuple := .none, builtins := 0 }), #[]⟩
def o1_243 (P : Params) : Obj := ⟨(.type "tuple"), none, (.seq #[] 0), #[]⟩
def o1_244 (P : Params) : Obj := ⟨.none, none, (.fields #[]), #[]⟩
def o1_245 (P : Params) : Obj := ⟨(.type "tuple"), none, (.seq #[(.str ("one" : Str) 480), (.str ("other" : Str) 481)] 0), #[]⟩
def o1_246 (P : Params) : Obj := ⟨(.type "tuple"), none, (.seq #[] 0), #[]⟩
def o1_247 (P : Params) : Obj := ⟨.none, none, (.func { name := ("common_divisor" : Str), qualname := ("common_divisor" : Str), params := defArgs tp22, body := .stmts (defBody tp22), scope := defScope tp22, globals := 0, closure := [], defaults := .none, kwdefaults := .none, doc := .none, pyModule := .none, annotations := none, code := .none, closureTuple := .none, builtins := 0 }), #[]⟩
def o1_248 (P : Params) : Obj := ⟨(.type "code"), none, (.fields #[(.str ("common_divisor" : Str) 477), (.str ("common_divisor" : Str) 478), (.str ("/claim/cut.py" : Str) 479), (.int 58 0), (.int 2 0), (.int 0 0), (.int 0 0), (.int 3 0), (.ref 243), (.bool true), (.int 181 0), (.ref 244), .none, (.ref 245), (.ref 246), (.ref 247), (.int 482 0), (.int 58 0), (.str ("/claim/cut.py" : Str) 483)]), #[]⟩
def o1_249 (P : Params) : Obj := ⟨(.type "function"), none, (.func { name := ("common_divisor" : Str), qualname := ("common_divisor" : Str), params := defArgs tp22, body := .stmts (defBody tp22), scope := defScope tp22, globals := 3, closure := [], defaults := .none, kwdefaults := .none, doc := .none, pyModule := (.str ("rosterneed.plain" : Str) 418), annotations := none, code := (.ref 248), closureTuple := .none, builtins := 0 }), #[]⟩
def o1_250 (P : Params) : Obj := ⟨(.type "tuple"), none, (.seq #[] 0), #[]⟩
def o1_251 (P : Params) : Obj := ⟨.none, none, (.fields #[]), #[]⟩
def o1_252 (P : Params) : Obj := ⟨(.type "tuple"), none, (.seq #[(.str ("one" : Str) 488), (.str ("other" : Str) 489)] 0), #[]⟩
def o1_253 (P : Params) : Obj := ⟨(.type "tuple"), none, (.seq #[] 0), #[]⟩
def o1_254 (P : Params) : Obj := ⟨.none, none, (.func { name := ("common_multiple" : Str), qualname := ("common_multiple" : Str), params := defArgs tp23, body := .stmts (defBody tp23), scope := defScope tp23, globals := 0, closure := [], defaults := .none, kwdefaults := .none, doc := .none, pyModule := .none, annotations := none, code := .none, closureTuple := .none, builtins := 0 }), #[]⟩
def o1_255 (P : Params) : Obj := ⟨(.type "code"), none, (.fields #[(.str ("common_multiple" : Str) 485), (.str ("common_multiple" : Str) 486), (.str ("/claim/cut.py" : Str) 487), (.int 62 0), (.int 2 0), (.int 0 0), (.int 0 0), (.int 3 0), (.ref 250), (.bool true), (.int 181 0), (.ref 251), .none, (.ref 252), (.ref 253), (.ref 254), (.int 490 0), (.int 62 0), (.str ("/claim/cut.py" : Str) 491)]), #[]⟩
def o1_256 (P : Params) : Obj := ⟨(.type "function"), none, (.func { name := ("common_multiple" : Str), qualname := ("common_multiple" : Str), params := defArgs tp23, body := .stmts (defBody tp23), scope := defScope tp23, globals := 3, closure := [], defaults := .none, kwdefaults := .none, doc := .none, pyModule := (.str ("rosterneed.plain" : Str) 418), annotations := none, code := (.ref 255), closureTuple := .none, builtins := 0 }), #[]⟩
def o1_257 (P : Params) : Obj := ⟨(.type "tuple"), none, (.seq #[] 0), #[]⟩
def o1_258 (P : Params) : Obj := ⟨.none, none, (.fields #[]), #[]⟩
def o1_259 (P : Params) : Obj := ⟨(.type "tuple"), none, (.seq #[(.str ("raw" : Str) 498), (.str ("head" : Str) 499), (.str ("loop" : Str) 500), (.str ("rise" : Str) 501)] 0), #[]⟩
def o1_260 (P : Params) : Obj := ⟨(.type "tuple"), none, (.seq #[] 0), #[]⟩
def o1_261 (P : Params) : Obj := ⟨.none, none, (.func { name := ("end_of" : Str), qualname := ("end_of" : Str), params := defArgs tp25, body := .stmts (defBody tp25), scope := defScope tp25, globals := 0, closure := [], defaults := .none, kwdefaults := .none, doc := .none, pyModule := .none, annotations := none, code := .none, closureTuple := .none, builtins := 0 }), #[]⟩
def o1_262 (P : Params) : Obj := ⟨(.type "code"), none, (.fields #[(.str ("end_of" : Str) 495), (.str ("end_of" : Str) 496), (.str ("/claim/cut.py" : Str) 497), (.int 65 0), (.int 1 0), (.int 0 0), (.int 0 0), (.int 3 0), (.ref 257), (.bool true), (.int 181 0), (.ref 258), .none, (.ref 259), (.ref 260), (.ref 261), (.int 502 0), (.int 65 0), (.str ("/claim/cut.py" : Str) 503)]), #[]⟩
def o1_263 (P : Params) : Obj := ⟨(.type "function"), none, (.func { name := ("end_of" : Str), qualname := ("end_of" : Str), params := defArgs tp25, body := .stmts (defBody tp25), scope := defScope tp25, globals := 3, closure := [], defaults := .none, kwdefaults := .none, doc := .none, pyModule := (.str ("rosterneed.tablework" : Str) 493), annotations := none, code := (.ref 262), closureTuple := .none, builtins := 0 }), #[]⟩
def o1_264 (P : Params) : Obj := ⟨(.type "tuple"), none, (.seq #[] 0), #[]⟩
def o1_265 (P : Params) : Obj := ⟨.none, none, (.fields #[]), #[]⟩
def o1_266 (P : Params) : Obj := ⟨(.type "tuple"), none, (.seq #[(.str ("raw" : Str) 508), (.str ("place" : Str) 509), (.str ("head" : Str) 510), (.str ("loop" : Str) 511), (.str ("rise" : Str) 512), (.str ("rest" : Str) 513)] 0), #[]⟩
def o1_267 (P : Params) : Obj := ⟨(.type "tuple"), none, (.seq #[] 0), #[]⟩
def o1_268 (P : Params) : Obj := ⟨.none, none, (.func { name := ("value_at" : Str), qualname := ("value_at" : Str), params := defArgs tp26, body := .stmts (defBody tp26), scope := defScope tp26, globals := 0, closure := [], defaults := .none, kwdefaults := .none, doc := .none, pyModule := .none, annotations := none, code := .none, closureTuple := .none, builtins := 0 }), #[]⟩
def o1_269 (P : Params) : Obj := ⟨(.type "code"), none, (.fields #[(.str ("value_at" : Str) 505), (.str ("value_at" : Str) 506), (.str ("/claim/cut.py" : Str) 507), (.int 70 0), (.int 2 0), (.int 0 0), (.int 0 0), (.int 3 0), (.ref 264), (.bool true), (.int 181 0), (.ref 265), .none, (.ref 266), (.ref 267), (.ref 268), (.int 514 0), (.int 70 0), (.str ("/claim/cut.py" : Str) 515)]), #[]⟩
def o1_270 (P : Params) : Obj := ⟨(.type "function"), none, (.func { name := ("value_at" : Str), qualname := ("value_at" : Str), params := defArgs tp26, body := .stmts (defBody tp26), scope := defScope tp26, globals := 3, closure := [], defaults := .none, kwdefaults := .none, doc := .none, pyModule := (.str ("rosterneed.tablework" : Str) 493), annotations := none, code := (.ref 269), closureTuple := .none, builtins := 0 }), #[]⟩
def o1_271 (P : Params) : Obj := ⟨(.type "tuple"), none, (.seq #[] 0), #[]⟩
def o1_272 (P : Params) : Obj := ⟨.none, none, (.fields #[]), #[]⟩
def o1_273 (P : Params) : Obj := ⟨.none, none, (.func { name := ("short_loop" : Str), qualname := ("short_loop" : Str), params := defArgs tp27, body := .stmts (defBody tp27), scope := defScope tp27, globals := 0, closure := [], defaults := .none, kwdefaults := .none, doc := .none, pyModule := .none, annotations := none, code := .none, closureTuple := .none, builtins := 0 }), #[]⟩
def o1_274 (P : Params) : Obj := ⟨(.type "code"), none, (.fields #[(.str ("short_loop" : Str) 517), (.str ("short_loop" : Str) 518), (.str ("/claim/cut.py" : Str) 519), (.int 82 0), (.int 2 0), (.int 0 0), (.int 0 0), (.int 3 0), (.ref 271), (.bool true), (.int 181 0), (.ref 272), .none, .none, .none, (.ref 273), (.int 520 0), (.int 82 0), (.str ("/claim/cut.py" : Str) 521)]), #[]⟩
def o1_275 (P : Params) : Obj := ⟨(.type "function"), none, (.func { name := ("short_loop" : Str), qualname := ("short_loop" : Str), params := defArgs tp27, body := .stmts (defBody tp27), scope := defScope tp27, globals := 3, closure := [], defaults := .none, kwdefaults := .none, doc := .none, pyModule := (.str ("rosterneed.tablework" : Str) 493), annotations := none, code := (.ref 274), closureTuple := .none, builtins := 0 }), #[]⟩
def o1_276 (P : Params) : Obj := ⟨(.type "tuple"), none, (.seq #[] 0), #[]⟩
def o1_277 (P : Params) : Obj := ⟨.none, none, (.fields #[]), #[]⟩
def o1_278 (P : Params) : Obj := ⟨.none, none, (.func { name := ("plain_form" : Str), qualname := ("plain_form" : Str), params := defArgs tp28, body := .stmts (defBody tp28), scope := defScope tp28, globals := 0, closure := [], defaults := .none, kwdefaults := .none, doc := .none, pyModule := .none, annotations := none, code := .none, closureTuple := .none, builtins := 0 }), #[]⟩
def o1_279 (P : Params) : Obj := ⟨(.type "code"), none, (.fields #[(.str ("plain_form" : Str) 523), (.str ("plain_form" : Str) 524), (.str ("/claim/cut.py" : Str) 525), (.int 89 0), (.int 3 0), (.int 0 0), (.int 0 0), (.int 3 0), (.ref 276), (.bool true), (.int 181 0), (.ref 277), .none, .none, .none, (.ref 278), (.int 526 0), (.int 89 0), (.str ("/claim/cut.py" : Str) 527)]), #[]⟩
def o1_280 (P : Params) : Obj := ⟨(.type "function"), none, (.func { name := ("plain_form" : Str), qualname := ("plain_form" : Str), params := defArgs tp28, body := .stmts (defBody tp28), scope := defScope tp28, globals := 3, closure := [], defaults := .none, kwdefaults := .none, doc := .none, pyModule := (.str ("rosterneed.tablework" : Str) 493), annotations := none, code := (.ref 279), closureTuple := .none, builtins := 0 }), #[]⟩
def o1_281 (P : Params) : Obj := ⟨(.type "tuple"), none, (.seq #[] 0), #[]⟩
def o1_282 (P : Params) : Obj := ⟨.none, none, (.fields #[]), #[]⟩
def o1_283 (P : Params) : Obj := ⟨(.type "tuple"), none, (.seq #[(.str ("values" : Str) 532), (.str ("many" : Str) 533), (.str ("rise" : Str) 534), (.str ("cut" : Str) 535)] 0), #[]⟩
def o1_284 (P : Params) : Obj := ⟨(.type "tuple"), none, (.seq #[] 0), #[]⟩
def o1_285 (P : Params) : Obj := ⟨.none, none, (.func { name := ("formed" : Str), qualname := ("formed" : Str), params := defArgs tp29, body := .stmts (defBody tp29), scope := defScope tp29, globals := 0, closure := [], defaults := .none, kwdefaults := .none, doc := .none, pyModule := .none, annotations := none, code := .none, closureTuple := .none, builtins := 0 }), #[]⟩
def o1_286 (P : Params) : Obj := ⟨(.type "code"), none, (.fields #[(.str ("formed" : Str) 529), (.str ("formed" : Str) 530), (.str ("/claim/cut.py" : Str) 531), (.int 101 0), (.int 3 0), (.int 0 0), (.int 0 0), (.int 3 0), (.ref 281), (.bool true), (.int 181 0), (.ref 282), .none, (.ref 283), (.ref 284), (.ref 285), (.int 536 0), (.int 101 0), (.str ("/claim/cut.py" : Str) 537)]), #[]⟩
def o1_287 (P : Params) : Obj := ⟨(.type "function"), none, (.func { name := ("formed" : Str), qualname := ("formed" : Str), params := defArgs tp29, body := .stmts (defBody tp29), scope := defScope tp29, globals := 3, closure := [], defaults := .none, kwdefaults := .none, doc := .none, pyModule := (.str ("rosterneed.tablework" : Str) 493), annotations := none, code := (.ref 286), closureTuple := .none, builtins := 0 }), #[]⟩
def o1_288 (P : Params) : Obj := ⟨(.type "tuple"), none, (.seq #[] 0), #[]⟩
def o1_289 (P : Params) : Obj := ⟨.none, none, (.fields #[]), #[]⟩
def o1_290 (P : Params) : Obj := ⟨(.type "tuple"), none, (.seq #[(.str ("values" : Str) 542), (.str ("told" : Str) 543), (.str ("value" : Str) 544)] 0), #[]⟩
def o1_291 (P : Params) : Obj := ⟨(.type "tuple"), none, (.seq #[] 0), #[]⟩
def o1_292 (P : Params) : Obj := ⟨.none, none, (.func { name := ("until_never" : Str), qualname := ("until_never" : Str), params := defArgs tp30, body := .stmts (defBody tp30), scope := defScope tp30, globals := 0, closure := [], defaults := .none, kwdefaults := .none, doc := .none, pyModule := .none, annotations := none, code := .none, closureTuple := .none, builtins := 0 }), #[]⟩
def o1_293 (P : Params) : Obj := ⟨(.type "code"), none, (.fields #[(.str ("until_never" : Str) 539), (.str ("until_never" : Str) 540), (.str ("/claim/cut.py" : Str) 541), (.int 104 0), (.int 1 0), (.int 0 0), (.int 0 0), (.int 3 0), (.ref 288), (.bool true), (.int 181 0), (.ref 289), .none, (.ref 290), (.ref 291), (.ref 292), (.int 545 0), (.int 104 0), (.str ("/claim/cut.py" : Str) 546)]), #[]⟩
def o1_294 (P : Params) : Obj := ⟨(.type "function"), none, (.func { name := ("until_never" : Str), qualname := ("until_never" : Str), params := defArgs tp30, body := .stmts (defBody tp30), scope := defScope tp30, globals := 3, closure := [], defaults := .none, kwdefaults := .none, doc := .none, pyModule := (.str ("rosterneed.tablework" : Str) 493), annotations := none, code := (.ref 293), closureTuple := .none, builtins := 0 }), #[]⟩
def o1_295 (P : Params) : Obj := ⟨(.type "tuple"), none, (.seq #[] 0), #[]⟩
def o1_296 (P : Params) : Obj := ⟨.none, none, (.fields #[]), #[]⟩
def o1_297 (P : Params) : Obj := ⟨(.type "tuple"), none, (.seq #[(.str ("raw" : Str) 551), (.str ("least" : Str) 552), (.str ("bound" : Str) 553), (.str ("place" : Str) 554), (.str ("value" : Str) 555)] 0), #[]⟩
def o1_298 (P : Params) : Obj := ⟨(.type "tuple"), none, (.seq #[] 0), #[]⟩
def o1_299 (P : Params) : Obj := ⟨.none, none, (.func { name := ("first_beyond" : Str), qualname := ("first_beyond" : Str), params := defArgs tp31, body := .stmts (defBody tp31), scope := defScope tp31, globals := 0, closure := [], defaults := .none, kwdefaults := .none, doc := .none, pyModule := .none, annotations := none, code := .none, closureTuple := .none, builtins := 0 }), #[]⟩
def o1_300 (P : Params) : Obj := ⟨(.type "code"), none, (.fields #[(.str ("first_beyond" : Str) 548), (.str ("first_beyond" : Str) 549), (.str ("/claim/cut.py" : Str) 550), (.int 111 0), (.int 3 0), (.int 0 0), (.int 0 0), (.int 3 0), (.ref 295), (.bool true), (.int 181 0), (.ref 296), .none, (.ref 297), (.ref 298), (.ref 299), (.int 556 0), (.int 111 0), (.str ("/claim/cut.py" : Str) 557)]), #[]⟩
def o1_301 (P : Params) : Obj := ⟨(.type "function"), none, (.func { name := ("first_beyond" : Str), qualname := ("first_beyond" : Str), params := defArgs tp31, body := .stmts (defBody tp31), scope := defScope tp31, globals := 3, closure := [], defaults := .none, kwdefaults := .none, doc := .none, pyModule := (.str ("rosterneed.tablework" : Str) 493), annotations := none, code := (.ref 300), closureTuple := .none, builtins := 0 }), #[]⟩
def o1_302 (P : Params) : Obj := ⟨(.type "tuple"), none, (.seq #[] 0), #[]⟩
def o1_303 (P : Params) : Obj := ⟨.none, none, (.fields #[]), #[]⟩
def o1_304 (P : Params) : Obj := ⟨.none, none, (.func { name := ("behind_raw" : Str), qualname := ("behind_raw" : Str), params := defArgs tp32, body := .stmts (defBody tp32), scope := defScope tp32, globals := 0, closure := [], defaults := .none, kwdefaults := .none, doc := .none, pyModule := .none, annotations := none, code := .none, closureTuple := .none, builtins := 0 }), #[]⟩
def o1_305 (P : Params) : Obj := ⟨(.type "code"), none, (.fields #[(.str ("behind_raw" : Str) 559), (.str ("behind_raw" : Str) 560), (.str ("/claim/cut.py" : Str) 561), (.int 118 0), (.int 2 0), (.int 0 0), (.int 0 0), (.int 3 0), (.ref 302), (.bool true), (.int 181 0), (.ref 303), .none, .none, .none, (.ref 304), (.int 562 0), (.int 118 0), (.str ("/claim/cut.py" : Str) 563)]), #[]⟩
def o1_306 (P : Params) : Obj := ⟨(.type "function"), none, (.func { name := ("behind_raw" : Str), qualname := ("behind_raw" : Str), params := defArgs tp32, body := .stmts (defBody tp32), scope := defScope tp32, globals := 3, closure := [], defaults := .none, kwdefaults := .none, doc := .none, pyModule := (.str ("rosterneed.tablework" : Str) 493), annotations := none, code := (.ref 305), closureTuple := .none, builtins := 0 }), #[]⟩
def o1_307 (P : Params) : Obj := ⟨(.type "tuple"), none, (.seq #[] 0), #[]⟩
def o1_308 (P : Params) : Obj := ⟨.none, none, (.fields #[]), #[]⟩
def o1_309 (P : Params) : Obj := ⟨(.type "tuple"), none, (.seq #[(.str ("first" : Str) 568), (.str ("second" : Str) 569), (.str ("start" : Str) 570), (.str ("many" : Str) 571), (.str ("greatest" : Str) 572), (.str ("steps" : Str) 573), (.str ("slopes" : Str) 574), (.str ("ahead" : Str) 575), (.str ("behind" : Str) 576), (.str ("apart" : Str) 577), (.str ("place" : Str) 578), (.str ("lack" : Str) 579)] 0), #[]⟩
def o1_310 (P : Params) : Obj := ⟨(.type "tuple"), none, (.seq #[] 0), #[]⟩
def o1_311 (P : Params) : Obj := ⟨.none, none, (.func { name := ("later_start" : Str), qualname := ("later_start" : Str), params := defArgs tp33, body := .stmts (defBody tp33), scope := defScope tp33, globals := 0, closure := [], defaults := .none, kwdefaults := .none, doc := .none, pyModule := .none, annotations := none, code := .none, closureTuple := .none, builtins := 0 }), #[]⟩
def o1_312 (P : Params) : Obj := ⟨(.type "code"), none, (.fields #[(.str ("later_start" : Str) 565), (.str ("later_start" : Str) 566), (.str ("/claim/cut.py" : Str) 567), (.int 136 0), (.int 5 0), (.int 0 0), (.int 0 0), (.int 3 0), (.ref 307), (.bool true), (.int 181 0), (.ref 308), .none, (.ref 309), (.ref 310), (.ref 311), (.int 580 0), (.int 136 0), (.str ("/claim/cut.py" : Str) 581)]), #[]⟩
def o1_313 (P : Params) : Obj := ⟨(.type "function"), none, (.func { name := ("later_start" : Str), qualname := ("later_start" : Str), params := defArgs tp33, body := .stmts (defBody tp33), scope := defScope tp33, globals := 3, closure := [], defaults := .none, kwdefaults := .none, doc := .none, pyModule := (.str ("rosterneed.tablework" : Str) 493), annotations := none, code := (.ref 312), closureTuple := .none, builtins := 0 }), #[]⟩
def o1_314 (P : Params) : Obj := ⟨(.type "tuple"), none, (.seq #[] 0), #[]⟩
def o1_315 (P : Params) : Obj := ⟨.none, none, (.fields #[]), #[]⟩
def o1_316 (P : Params) : Obj := ⟨(.type "tuple"), none, (.seq #[(.str ("first" : Str) 586), (.str ("second" : Str) 587), (.str ("greatest" : Str) 588), (.str ("upto" : Str) 589), (.str ("told" : Str) 590), (.str ("place" : Str) 591), (.str ("one" : Str) 592), (.str ("other" : Str) 593)] 0), #[]⟩
def o1_317 (P : Params) : Obj := ⟨(.type "tuple"), none, (.seq #[] 0), #[]⟩
def o1_318 (P : Params) : Obj := ⟨.none, none, (.func { name := ("joined_values" : Str), qualname := ("joined_values" : Str), params := defArgs tp34, body := .stmts (defBody tp34), scope := defScope tp34, globals := 0, closure := [], defaults := .none, kwdefaults := .none, doc := .none, pyModule := .none, annotations := none, code := .none, closureTuple := .none, builtins := 0 }), #[]⟩
def o1_319 (P : Params) : Obj := ⟨(.type "code"), none, (.fields #[(.str ("joined_values" : Str) 583), (.str ("joined_values" : Str) 584), (.str ("/claim/cut.py" : Str) 585), (.int 150 0), (.int 4 0), (.int 0 0), (.int 0 0), (.int 3 0), (.ref 314), (.bool true), (.int 181 0), (.ref 315), .none, (.ref 316), (.ref 317), (.ref 318), (.int 594 0), (.int 150 0), (.str ("/claim/cut.py" : Str) 595)]), #[]⟩
def o1_320 (P : Params) : Obj := ⟨(.type "function"), none, (.func { name := ("joined_values" : Str), qualname := ("joined_values" : Str), params := defArgs tp34, body := .stmts (defBody tp34), scope := defScope tp34, globals := 3, closure := [], defaults := .none, kwdefaults := .none, doc := .none, pyModule := (.str ("rosterneed.tablework" : Str) 493), annotations := none, code := (.ref 319), closureTuple := .none, builtins := 0 }), #[]⟩
def o1_321 (P : Params) : Obj := ⟨(.type "tuple"), none, (.seq #[] 0), #[]⟩
def o1_322 (P : Params) : Obj := ⟨.none, none, (.fields #[]), #[]⟩
def o1_323 (P : Params) : Obj := ⟨.none, none, (.func { name := ("joined_raw" : Str), qualname := ("joined_raw" : Str), params := defArgs tp35, body := .stmts (defBody tp35), scope := defScope tp35, globals := 0, closure := [], defaults := .none, kwdefaults := .none, doc := .none, pyModule := .none, annotations := none, code := .none, closureTuple := .none, builtins := 0 }), #[]⟩
def o1_324 (P : Params) : Obj := ⟨(.type "code"), none, (.fields #[(.str ("joined_raw" : Str) 597), (.str ("joined_raw" : Str) 598), (.str ("/claim/cut.py" : Str) 599), (.int 156 0), (.int 3 0), (.int 0 0), (.int 0 0), (.int 3 0), (.ref 321), (.bool true), (.int 181 0), (.ref 322), .none, .none, .none, (.ref 323), (.int 600 0), (.int 156 0), (.str ("/claim/cut.py" : Str) 601)]), #[]⟩
def o1_325 (P : Params) : Obj := ⟨(.type "function"), none, (.func { name := ("joined_raw" : Str), qualname := ("joined_raw" : Str), params := defArgs tp35, body := .stmts (defBody tp35), scope := defScope tp35, globals := 3, closure := [], defaults := .none, kwdefaults := .none, doc := .none, pyModule := (.str ("rosterneed.tablework" : Str) 493), annotations := none, code := (.ref 324), closureTuple := .none, builtins := 0 }), #[]⟩
def o1_326 (P : Params) : Obj := ⟨(.type "tuple"), none, (.seq #[] 0), #[]⟩
def o1_327 (P : Params) : Obj := ⟨.none, none, (.fields #[]), #[]⟩
def o1_328 (P : Params) : Obj := ⟨(.type "tuple"), none, (.seq #[(.str ("raw" : Str) 606), (.str ("upto" : Str) 607), (.str ("told" : Str) 608), (.str ("many" : Str) 609), (.str ("bound" : Str) 610), (.str ("value" : Str) 611)] 0), #[]⟩
def o1_329 (P : Params) : Obj := ⟨(.type "tuple"), none, (.seq #[] 0), #[]⟩
def o1_330 (P : Params) : Obj := ⟨.none, none, (.func { name := ("counts_below" : Str), qualname := ("counts_below" : Str), params := defArgs tp36, body := .stmts (defBody tp36), scope := defScope tp36, globals := 0, closure := [], defaults := .none, kwdefaults := .none, doc := .none, pyModule := .none, annotations := none, code := .none, closureTuple := .none, builtins := 0 }), #[]⟩
def o1_331 (P : Params) : Obj := ⟨(.type "code"), none, (.fields #[(.str ("counts_below" : Str) 603), (.str ("counts_below" : Str) 604), (.str ("/claim/cut.py" : Str) 605), (.int 171 0), (.int 2 0), (.int 0 0), (.int 0 0), (.int 3 0), (.ref 326), (.bool true), (.int 181 0), (.ref 327), .none, (.ref 328), (.ref 329), (.ref 330), (.int 612 0), (.int 171 0), (.str ("/claim/cut.py" : Str) 613)]), #[]⟩
def o1_332 (P : Params) : Obj := ⟨(.type "function"), none, (.func { name := ("counts_below" : Str), qualname := ("counts_below" : Str), params := defArgs tp36, body := .stmts (defBody tp36), scope := defScope tp36, globals := 3, closure := [], defaults := .none, kwdefaults := .none, doc := .none, pyModule := (.str ("rosterneed.tablework" : Str) 493), annotations := none, code := (.ref 331), closureTuple := .none, builtins := 0 }), #[]⟩
def o1_333 (P : Params) : Obj := ⟨(.type "tuple"), none, (.seq #[] 0), #[]⟩
def o1_334 (P : Params) : Obj := ⟨.none, none, (.fields #[]), #[]⟩
def o1_335 (P : Params) : Obj := ⟨(.type "tuple"), none, (.seq #[(.str ("raw" : Str) 618), (.str ("head" : Str) 619), (.str ("loop" : Str) 620), (.str ("rise" : Str) 621), (.str ("upto" : Str) 622)] 0), #[]⟩
def o1_336 (P : Params) : Obj := ⟨(.type "tuple"), none, (.seq #[] 0), #[]⟩
def o1_337 (P : Params) : Obj := ⟨.none, none, (.func { name := ("turned_raw" : Str), qualname := ("turned_raw" : Str), params := defArgs tp37, body := .stmts (defBody tp37), scope := defScope tp37, globals := 0, closure := [], defaults := .none, kwdefaults := .none, doc := .none, pyModule := .none, annotations := none, code := .none, closureTuple := .none, builtins := 0 }), #[]⟩
def o1_338 (P : Params) : Obj := ⟨(.type "code"), none, (.fields #[(.str ("turned_raw" : Str) 615), (.str ("turned_raw" : Str) 616), (.str ("/claim/cut.py" : Str) 617), (.int 181 0), (.int 1 0), (.int 0 0), (.int 0 0), (.int 3 0), (.ref 333), (.bool true), (.int 181 0), (.ref 334), .none, (.ref 335), (.ref 336), (.ref 337), (.int 623 0), (.int 181 0), (.str ("/claim/cut.py" : Str) 624)]), #[]⟩
def o1_339 (P : Params) : Obj := ⟨(.type "function"), none, (.func { name := ("turned_raw" : Str), qualname := ("turned_raw" : Str), params := defArgs tp37, body := .stmts (defBody tp37), scope := defScope tp37, globals := 3, closure := [], defaults := .none, kwdefaults := .none, doc := .none, pyModule := (.str ("rosterneed.tablework" : Str) 493), annotations := none, code := (.ref 338), closureTuple := .none, builtins := 0 }), #[]⟩
def o1_340 (P : Params) : Obj := ⟨(.type "tuple"), none, (.seq #[] 0), #[]⟩
def o1_341 (P : Params) : Obj := ⟨.none, none, (.fields #[]), #[]⟩
def o1_342 (P : Params) : Obj := ⟨.none, none, (.func { name := ("is_rising" : Str), qualname := ("is_rising" : Str), params := defArgs tp39, body := .stmts (defBody tp39), scope := defScope tp39, globals := 0, closure := [], defaults := .none, kwdefaults := .none, doc := .none, pyModule := .none, annotations := none, code := .none, closureTuple := .none, builtins := 0 }), #[]⟩
def o1_343 (P : Params) : Obj := ⟨(.type "code"), none, (.fields #[(.str ("is_rising" : Str) 628), (.str ("is_rising" : Str) 629), (.str ("/claim/cut.py" : Str) 630), (.int 190 0), (.int 1 0), (.int 0 0), (.int 0 0), (.int 3 0), (.ref 340), (.bool true), (.int 181 0), (.ref 341), .none, .none, .none, (.ref 342), (.int 631 0), (.int 190 0), (.str ("/claim/cut.py" : Str) 632)]), #[]⟩
def o1_344 (P : Params) : Obj := ⟨(.type "function"), none, (.func { name := ("is_rising" : Str), qualname := ("is_rising" : Str), params := defArgs tp39, body := .stmts (defBody tp39), scope := defScope tp39, globals := 3, closure := [], defaults := .none, kwdefaults := .none, doc := .none, pyModule := (.str ("rosterneed.tables" : Str) 626), annotations := none, code := (.ref 343), closureTuple := .none, builtins := 0 }), #[]⟩
def o1_345 (P : Params) : Obj := ⟨(.type "tuple"), none, (.seq #[] 0), #[]⟩
def o1_346 (P : Params) : Obj := ⟨.none, none, (.fields #[]), #[]⟩
def o1_347 (P : Params) : Obj := ⟨(.type "tuple"), none, (.seq #[(.str ("head" : Str) 637), (.str ("loop" : Str) 638), (.str ("rise" : Str) 639)] 0), #[]⟩
def o1_348 (P : Params) : Obj := ⟨(.type "tuple"), none, (.seq #[] 0), #[]⟩
def o1_349 (P : Params) : Obj := ⟨.none, none, (.func { name := ("checked_table" : Str), qualname := ("checked_table" : Str), params := defArgs tp40, body := .stmts (defBody tp40), scope := defScope tp40, globals := 0, closure := [], defaults := .none, kwdefaults := .none, doc := .none, pyModule := .none, annotations := none, code := .none, closureTuple := .none, builtins := 0 }), #[]⟩
def o1_350 (P : Params) : Obj := ⟨(.type "code"), none, (.fields #[(.str ("checked_table" : Str) 634), (.str ("checked_table" : Str) 635), (.str ("/claim/cut.py" : Str) 636), (.int 192 0), (.int 3 0), (.int 0 0), (.int 0 0), (.int 3 0), (.ref 345), (.bool true), (.int 181 0), (.ref 346), .none, (.ref 347), (.ref 348), (.ref 349), (.int 640 0), (.int 192 0), (.str ("/claim/cut.py" : Str) 641)]), #[]⟩
def o1_351 (P : Params) : Obj := ⟨(.type "function"), none, (.func { name := ("checked_table" : Str), qualname := ("checked_table" : Str), params := defArgs tp40, body := .stmts (defBody tp40), scope := defScope tp40, globals := 3, closure := [], defaults := .none, kwdefaults := .none, doc := .none, pyModule := (.str ("rosterneed.tables" : Str) 626), annotations := none, code := (.ref 350), closureTuple := .none, builtins := 0 }), #[]⟩
def o1_352 (P : Params) : Obj := ⟨(.type "tuple"), none, (.seq #[] 0), #[]⟩
def o1_353 (P : Params) : Obj := ⟨(.type "builtin_function_or_method"), none, (.fields #[(.builtin "type.__prepare__"), (.type "type")]), #[]⟩
def o1_354 (P : Params) : Obj := ⟨(.type "dict"), none, (.dict #[⟨PyData.keyHash P ("__module__" : Str), (.str ("__module__" : Str) 650), (.str ("rosterneed.tables" : Str) 626)⟩, ⟨PyData.keyHash P ("__qualname__" : Str), (.str ("__qualname__" : Str) 652), (.str ("Table" : Str) 651)⟩, ⟨PyData.keyHash P ("__firstlineno__" : Str), (.str ("__firstlineno__" : Str) 654), (.int 204 653)⟩, ⟨PyData.keyHash P ("__init__" : Str), (.str ("__init__" : Str) 666), (.ref 367)⟩, ⟨PyData.keyHash P ("shift" : Str), (.str ("shift" : Str) 685), (.ref 376)⟩, ⟨PyData.keyHash P ("raw" : Str), (.str ("raw" : Str) 692), (.ref 384)⟩, ⟨PyData.keyHash P ("__call__" : Str), (.str ("__call__" : Str) 700), (.ref 391)⟩, ⟨PyData.keyHash P ("end" : Str), (.str ("end" : Str) 708), (.ref 399)⟩, ⟨PyData.keyHash P ("rate" : Str), (.str ("rate" : Str) 717), (.ref 407)⟩, ⟨PyData.keyHash P ("steady" : Str), (.str ("steady" : Str) 725), (.ref 415)⟩, ⟨PyData.keyHash P ("__eq__" : Str), (.str ("__eq__" : Str) 733), (.ref 422)⟩, ⟨PyData.keyHash P ("__mul__" : Str), (.str ("__mul__" : Str) 741), (.ref 429)⟩, ⟨PyData.keyHash P ("__and__" : Str), (.str ("__and__" : Str) 749), (.ref 436)⟩, ⟨PyData.keyHash P ("__or__" : Str), (.str ("__or__" : Str) 757), (.ref 443)⟩, ⟨PyData.keyHash P ("__invert__" : Str), (.str ("__invert__" : Str) 764), (.ref 450)⟩, ⟨PyData.keyHash P ("__static_attributes__" : Str), (.str ("__static_attributes__" : Str) 768), (.ref 451)⟩] 16), #[]⟩
def o1_355 (P : Params) : Obj := ⟨(.type "tuple"), none, (.seq #[] 0), #[]⟩
def o1_356 (P : Params) : Obj := ⟨.none, none, (.fields #[(.int 206 0), (.int 4 0), (.ref 366), (.int 213 0), (.int 4 0), (.ref 373), (.int 216 0), (.int 4 0), (.ref 383), (.int 219 0), (.int 4 0), (.ref 390), (.int 225 0), (.int 4 0), (.ref 397), (.int 229 0), (.int 4 0), (.ref 405), (.int 236 0), (.int 4 0), (.ref 413), (.int 239 0), (.int 4 0), (.ref 421), (.int 242 0), (.int 4 0), (.ref 428), (.int 245 0), (.int 4 0), (.ref 435), (.int 248 0), (.int 4 0), (.ref 442), (.int 251 0), (.int 4 0), (.ref 449)]), #[]⟩
def o1_357 (P : Params) : Obj := ⟨(.type "code"), none, (.fields #[(.str ("Table" : Str) 645), (.str ("Table" : Str) 646), (.str ("/claim/cut.py" : Str) 647), (.int 204 0), (.int 0 0), (.int 0 0), (.int 0 0), (.int 0 0), (.ref 355), (.bool false), (.int 181 0), (.ref 356), .none, .none, .none, .none, (.int 648 0), (.int 204 0), (.str ("/claim/cut.py" : Str) 649)]), #[]⟩
def o1_358 (P : Params) : Obj := ⟨(.type "frame"), none, .plain, #[(some (.ref 357)), (some (.ref 3)), (some (.ref 354)), none, (some (.str ("rosterneed.tables" : Str) 626)), none, (some (.ref 0))]⟩
def o1_359 (P : Params) : Obj := ⟨(.type "tuple"), none, (.seq #[] 0), #[]⟩
def o1_360 (P : Params) : Obj := ⟨(.type "tuple"), none, (.seq #[(.ref 359), (.int 0 655)] 0), #[]⟩
def o1_361 (P : Params) : Obj := ⟨(.type "tuple"), none, (.seq #[] 0), #[]⟩
def o1_362 (P : Params) : Obj := ⟨.none, none, (.fields #[]), #[]⟩
def o1_363 (P : Params) : Obj := ⟨(.type "tuple"), none, (.seq #[(.str ("self" : Str) 659), (.str ("head" : Str) 660), (.str ("loop" : Str) 661), (.str ("rise" : Str) 662), (.str ("told" : Str) 663)] 0), #[]⟩
def o1_364 (P : Params) : Obj := ⟨(.type "tuple"), none, (.seq #[] 0), #[]⟩
def o1_365 (P : Params) : Obj := ⟨.none, none, (.func { name := ("__init__" : Str), qualname := ("Table.__init__" : Str), params := defArgs tp41_0, body := .stmts (defBody tp41_0), scope := defScope tp41_0, globals := 0, closure := [], defaults := .none, kwdefaults := .none, doc := .none, pyModule := .none, annotations := none, code := .none, closureTuple := .none, builtins := 0 }), #[]⟩
def o1_366 (P : Params) : Obj := ⟨(.type "code"), none, (.fields #[(.str ("__init__" : Str) 656), (.str ("Table.__init__" : Str) 657), (.str ("/claim/cut.py" : Str) 658), (.int 206 0), (.int 4 0), (.int 0 0), (.int 0 0), (.int 3 0), (.ref 361), (.bool true), (.int 181 0), (.ref 362), .none, (.ref 363), (.ref 364), (.ref 365), (.int 664 0), (.int 206 0), (.str ("/claim/cut.py" : Str) 665)]), #[]⟩
def o1_367 (P : Params) : Obj := ⟨(.type "function"), none, (.func { name := ("__init__" : Str), qualname := ("Table.__init__" : Str), params := defArgs tp41_0, body := .stmts (defBody tp41_0), scope := defScope tp41_0, globals := 3, closure := [], defaults := (.ref 360), kwdefaults := .none, doc := .none, pyModule := (.str ("rosterneed.tables" : Str) 626), annotations := none, code := (.ref 366), closureTuple := .none, builtins := 0 }), #[]⟩
def o1_368 (P : Params) : Obj := ⟨(.type "tuple"), none, (.seq #[] 0), #[]⟩
def o1_369 (P : Params) : Obj := ⟨.none, none, (.fields #[]), #[]⟩
def o1_370 (P : Params) : Obj := ⟨(.type "tuple"), none, (.seq #[(.str ("k" : Str) 670)] 0), #[]⟩
def o1_371 (P : Params) : Obj := ⟨(.type "tuple"), none, (.seq #[] 0), #[]⟩
def o1_372 (P : Params) : Obj := ⟨.none, none, (.func { name := ("shift" : Str), qualname := ("Table.shift" : Str), params := defArgs tp41_1, body := .stmts (defBody tp41_1), scope := defScope tp41_1, globals := 0, closure := [], defaults := .none, kwdefaults := .none, doc := .none, pyModule := .none, annotations := none, code := .none, closureTuple := .none, builtins := 0 }), #[]⟩
def o1_373 (P : Params) : Obj := ⟨(.type "code"), none, (.fields #[(.str ("shift" : Str) 667), (.str ("Table.shift" : Str) 668), (.str ("/claim/cut.py" : Str) 669), (.int 212 0), (.int 1 0), (.int 0 0), (.int 0 0), (.int 3 0), (.ref 368), (.bool true), (.int 181 0), (.ref 369), .none, (.ref 370), (.ref 371), (.ref 372), (.int 671 0), (.int 212 0), (.str ("/claim/cut.py" : Str) 672)]), #[]⟩
def o1_374 (P : Params) : Obj := ⟨(.type "function"), none, (.func { name := ("shift" : Str), qualname := ("Table.shift" : Str), params := defArgs tp41_1, body := .stmts (defBody tp41_1), scope := defScope tp41_1, globals := 3, closure := [], defaults := .none, kwdefaults := .none, doc := .none, pyModule := (.str ("rosterneed.tables" : Str) 626), annotations := (some 377), code := (.ref 373), closureTuple := .none, builtins := 0 }), #[]⟩
def o1_375 (P : Params) : Obj := ⟨(.type "dict"), none, (.dict #[⟨PyData.keyHash P ("__module__" : Str), (.str ("__module__" : Str) 674), (.str ("rosterneed.tables" : Str) 626)⟩, ⟨PyData.keyHash P ("__name__" : Str), (.str ("__name__" : Str) 677), (.str ("shift" : Str) 676)⟩, ⟨PyData.keyHash P ("__qualname__" : Str), (.str ("__qualname__" : Str) 680), (.str ("Table.shift" : Str) 679)⟩, ⟨PyData.keyHash P ("__doc__" : Str), (.str ("__doc__" : Str) 682), .none⟩, ⟨PyData.keyHash P ("__annotations__" : Str), (.str ("__annotations__" : Str) 684), (.ref 377)⟩] 5), #[]⟩
def o1_376 (P : Params) : Obj := ⟨(.type "staticmethod"), (some 375), (.fields #[(.ref 374), (.bool false)]), #[]⟩
def o1_377 (P : Params) : Obj := ⟨(.type "dict"), none, (.dict #[] 0), #[]⟩
def o1_378 (P : Params) : Obj := ⟨(.type "tuple"), none, (.seq #[] 0), #[]⟩
def o1_379 (P : Params) : Obj := ⟨.none, none, (.fields #[]), #[]⟩
def o1_380 (P : Params) : Obj := ⟨(.type "tuple"), none, (.seq #[(.str ("self" : Str) 689)] 0), #[]⟩
def o1_381 (P : Params) : Obj := ⟨(.type "tuple"), none, (.seq #[] 0), #[]⟩
def o1_382 (P : Params) : Obj := ⟨.none, none, (.func { name := ("raw" : Str), qualname := ("Table.raw" : Str), params := defArgs tp41_2, body := .stmts (defBody tp41_2), scope := defScope tp41_2, globals := 0, closure := [], defaults := .none, kwdefaults := .none, doc := .none, pyModule := .none, annotations := none, code := .none, closureTuple := .none, builtins := 0 }), #[]⟩
def o1_383 (P : Params) : Obj := ⟨(.type "code"), none, (.fields #[(.str ("raw" : Str) 686), (.str ("Table.raw" : Str) 687), (.str ("/claim/cut.py" : Str) 688), (.int 216 0), (.int 1 0), (.int 0 0), (.int 0 0), (.int 3 0), (.ref 378), (.bool true), (.int 181 0), (.ref 379), .none, (.ref 380), (.ref 381), (.ref 382), (.int 690 0), (.int 216 0), (.str ("/claim/cut.py" : Str) 691)]), #[]⟩
def o1_384 (P : Params) : Obj := ⟨(.type "function"), none, (.func { name := ("raw" : Str), qualname := ("Table.raw" : Str), params := defArgs tp41_2, body := .stmts (defBody tp41_2), scope := defScope tp41_2, globals := 3, closure := [], defaults := .none, kwdefaults := .none, doc := .none, pyModule := (.str ("rosterneed.tables" : Str) 626), annotations := none, code := (.ref 383), closureTuple := .none, builtins := 0 }), #[]⟩
def o1_385 (P : Params) : Obj := ⟨(.type "tuple"), none, (.seq #[] 0), #[]⟩
def o1_386 (P : Params) : Obj := ⟨.none, none, (.fields #[]), #[]⟩
def o1_387 (P : Params) : Obj := ⟨(.type "tuple"), none, (.seq #[(.str ("self" : Str) 696), (.str ("n" : Str) 697)] 0), #[]⟩
def o1_388 (P : Params) : Obj := ⟨(.type "tuple"), none, (.seq #[] 0), #[]⟩
def o1_389 (P : Params) : Obj := ⟨.none, none, (.func { name := ("__call__" : Str), qualname := ("Table.__call__" : Str), params := defArgs tp41_3, body := .stmts (defBody tp41_3), scope := defScope tp41_3, globals := 0, closure := [], defaults := .none, kwdefaults := .none, doc := .none, pyModule := .none, annotations := none, code := .none, closureTuple := .none, builtins := 0 }), #[]⟩
def o1_390 (P : Params) : Obj := ⟨(.type "code"), none, (.fields #[(.str ("__call__" : Str) 693), (.str ("Table.__call__" : Str) 694), (.str ("/claim/cut.py" : Str) 695), (.int 219 0), (.int 2 0), (.int 0 0), (.int 0 0), (.int 3 0), (.ref 385), (.bool true), (.int 181 0), (.ref 386), .none, (.ref 387), (.ref 388), (.ref 389), (.int 698 0), (.int 219 0), (.str ("/claim/cut.py" : Str) 699)]), #[]⟩
def o1_391 (P : Params) : Obj := ⟨(.type "function"), none, (.func { name := ("__call__" : Str), qualname := ("Table.__call__" : Str), params := defArgs tp41_3, body := .stmts (defBody tp41_3), scope := defScope tp41_3, globals := 3, closure := [], defaults := .none, kwdefaults := .none, doc := .none, pyModule := (.str ("rosterneed.tables" : Str) 626), annotations := none, code := (.ref 390), closureTuple := .none, builtins := 0 }), #[]⟩
def o1_392 (P : Params) : Obj := ⟨(.type "tuple"), none, (.seq #[] 0), #[]⟩
def o1_393 (P : Params) : Obj := ⟨.none, none, (.fields #[]), #[]⟩
def o1_394 (P : Params) : Obj := ⟨(.type "tuple"), none, (.seq #[(.str ("self" : Str) 704)] 0), #[]⟩
def o1_395 (P : Params) : Obj := ⟨(.type "tuple"), none, (.seq #[] 0), #[]⟩
def o1_396 (P : Params) : Obj := ⟨.none, none, (.func { name := ("end" : Str), qualname := ("Table.end" : Str), params := defArgs tp41_4, body := .stmts (defBody tp41_4), scope := defScope tp41_4, globals := 0, closure := [], defaults := .none, kwdefaults := .none, doc := .none, pyModule := .none, annotations := none, code := .none, closureTuple := .none, builtins := 0 }), #[]⟩
def o1_397 (P : Params) : Obj := ⟨(.type "code"), none, (.fields #[(.str ("end" : Str) 701), (.str ("Table.end" : Str) 702), (.str ("/claim/cut.py" : Str) 703), (.int 224 0), (.int 1 0), (.int 0 0), (.int 0 0), (.int 3 0), (.ref 392), (.bool true), (.int 181 0), (.ref 393), .none, (.ref 394), (.ref 395), (.ref 396), (.int 705 0), (.int 224 0), (.str ("/claim/cut.py" : Str) 706)]), #[]⟩
def o1_398 (P : Params) : Obj := ⟨(.type "function"), none, (.func { name := ("end" : Str), qualname := ("Table.end" : Str), params := defArgs tp41_4, body := .stmts (defBody tp41_4), scope := defScope tp41_4, globals := 3, closure := [], defaults := .none, kwdefaults := .none, doc := .none, pyModule := (.str ("rosterneed.tables" : Str) 626), annotations := none, code := (.ref 397), closureTuple := .none, builtins := 0 }), #[]⟩
def o1_399 (P : Params) : Obj := ⟨(.type "property"), none, (.fields #[(.ref 398), .none, .none, .none, (.str ("end" : Str) 708), (.bool false)]), #[]⟩
def o1_400 (P : Params) : Obj := ⟨(.type "tuple"), none, (.seq #[] 0), #[]⟩
def o1_401 (P : Params) : Obj := ⟨.none, none, (.fields #[]), #[]⟩
def o1_402 (P : Params) : Obj := ⟨(.type "tuple"), none, (.seq #[(.str ("self" : Str) 712), (.str ("shared" : Str) 713)] 0), #[]⟩
def o1_403 (P : Params) : Obj := ⟨(.type "tuple"), none, (.seq #[] 0), #[]⟩
def o1_404 (P : Params) : Obj := ⟨.none, none, (.func { name := ("rate" : Str), qualname := ("Table.rate" : Str), params := defArgs tp41_5, body := .stmts (defBody tp41_5), scope := defScope tp41_5, globals := 0, closure := [], defaults := .none, kwdefaults := .none, doc := .none, pyModule := .none, annotations := none, code := .none, closureTuple := .none, builtins := 0 }), #[]⟩
def o1_405 (P : Params) : Obj := ⟨(.type "code"), none, (.fields #[(.str ("rate" : Str) 709), (.str ("Table.rate" : Str) 710), (.str ("/claim/cut.py" : Str) 711), (.int 228 0), (.int 1 0), (.int 0 0), (.int 0 0), (.int 3 0), (.ref 400), (.bool true), (.int 181 0), (.ref 401), .none, (.ref 402), (.ref 403), (.ref 404), (.int 714 0), (.int 228 0), (.str ("/claim/cut.py" : Str) 715)]), #[]⟩
def o1_406 (P : Params) : Obj := ⟨(.type "function"), none, (.func { name := ("rate" : Str), qualname := ("Table.rate" : Str), params := defArgs tp41_5, body := .stmts (defBody tp41_5), scope := defScope tp41_5, globals := 3, closure := [], defaults := .none, kwdefaults := .none, doc := .none, pyModule := (.str ("rosterneed.tables" : Str) 626), annotations := none, code := (.ref 405), closureTuple := .none, builtins := 0 }), #[]⟩
def o1_407 (P : Params) : Obj := ⟨(.type "property"), none, (.fields #[(.ref 406), .none, .none, .none, (.str ("rate" : Str) 717), (.bool false)]), #[]⟩
def o1_408 (P : Params) : Obj := ⟨(.type "tuple"), none, (.seq #[] 0), #[]⟩
def o1_409 (P : Params) : Obj := ⟨.none, none, (.fields #[]), #[]⟩
def o1_410 (P : Params) : Obj := ⟨(.type "tuple"), none, (.seq #[(.str ("self" : Str) 721)] 0), #[]⟩
def o1_411 (P : Params) : Obj := ⟨(.type "tuple"), none, (.seq #[] 0), #[]⟩
def o1_412 (P : Params) : Obj := ⟨.none, none, (.func { name := ("steady" : Str), qualname := ("Table.steady" : Str), params := defArgs tp41_6, body := .stmts (defBody tp41_6), scope := defScope tp41_6, globals := 0, closure := [], defaults := .none, kwdefaults := .none, doc := .none, pyModule := .none, annotations := none, code := .none, closureTuple := .none, builtins := 0 }), #[]⟩
def o1_413 (P : Params) : Obj := ⟨(.type "code"), none, (.fields #[(.str ("steady" : Str) 718), (.str ("Table.steady" : Str) 719), (.str ("/claim/cut.py" : Str) 720), (.int 235 0), (.int 1 0), (.int 0 0), (.int 0 0), (.int 3 0), (.ref 408), (.bool true), (.int 181 0), (.ref 409), .none, (.ref 410), (.ref 411), (.ref 412), (.int 722 0), (.int 235 0), (.str ("/claim/cut.py" : Str) 723)]), #[]⟩
def o1_414 (P : Params) : Obj := ⟨(.type "function"), none, (.func { name := ("steady" : Str), qualname := ("Table.steady" : Str), params := defArgs tp41_6, body := .stmts (defBody tp41_6), scope := defScope tp41_6, globals := 3, closure := [], defaults := .none, kwdefaults := .none, doc := .none, pyModule := (.str ("rosterneed.tables" : Str) 626), annotations := none, code := (.ref 413), closureTuple := .none, builtins := 0 }), #[]⟩
def o1_415 (P : Params) : Obj := ⟨(.type "property"), none, (.fields #[(.ref 414), .none, .none, .none, (.str ("steady" : Str) 725), (.bool false)]), #[]⟩
def o1_416 (P : Params) : Obj := ⟨(.type "tuple"), none, (.seq #[] 0), #[]⟩
def o1_417 (P : Params) : Obj := ⟨.none, none, (.fields #[]), #[]⟩
def o1_418 (P : Params) : Obj := ⟨(.type "tuple"), none, (.seq #[(.str ("self" : Str) 729), (.str ("other" : Str) 730)] 0), #[]⟩
def o1_419 (P : Params) : Obj := ⟨(.type "tuple"), none, (.seq #[] 0), #[]⟩
def o1_420 (P : Params) : Obj := ⟨.none, none, (.func { name := ("__eq__" : Str), qualname := ("Table.__eq__" : Str), params := defArgs tp41_7, body := .stmts (defBody tp41_7), scope := defScope tp41_7, globals := 0, closure := [], defaults := .none, kwdefaults := .none, doc := .none, pyModule := .none, annotations := none, code := .none, closureTuple := .none, builtins := 0 }), #[]⟩
def o1_421 (P : Params) : Obj := ⟨(.type "code"), none, (.fields #[(.str ("__eq__" : Str) 726), (.str ("Table.__eq__" : Str) 727), (.str ("/claim/cut.py" : Str) 728), (.int 239 0), (.int 2 0), (.int 0 0), (.int 0 0), (.int 3 0), (.ref 416), (.bool true), (.int 181 0), (.ref 417), .none, (.ref 418), (.ref 419), (.ref 420), (.int 731 0), (.int 239 0), (.str ("/claim/cut.py" : Str) 732)]), #[]⟩
def o1_422 (P : Params) : Obj := ⟨(.type "function"), none, (.func { name := ("__eq__" : Str), qualname := ("Table.__eq__" : Str), params := defArgs tp41_7, body := .stmts (defBody tp41_7), scope := defScope tp41_7, globals := 3, closure := [], defaults := .none, kwdefaults := .none, doc := .none, pyModule := (.str ("rosterneed.tables" : Str) 626), annotations := none, code := (.ref 421), closureTuple := .none, builtins := 0 }), #[]⟩
def o1_423 (P : Params) : Obj := ⟨(.type "tuple"), none, (.seq #[] 0), #[]⟩
def o1_424 (P : Params) : Obj := ⟨.none, none, (.fields #[]), #[]⟩
def o1_425 (P : Params) : Obj := ⟨(.type "tuple"), none, (.seq #[(.str ("self" : Str) 737), (.str ("other" : Str) 738)] 0), #[]⟩
def o1_426 (P : Params) : Obj := ⟨(.type "tuple"), none, (.seq #[] 0), #[]⟩
def o1_427 (P : Params) : Obj := ⟨.none, none, (.func { name := ("__mul__" : Str), qualname := ("Table.__mul__" : Str), params := defArgs tp41_8, body := .stmts (defBody tp41_8), scope := defScope tp41_8, globals := 0, closure := [], defaults := .none, kwdefaults := .none, doc := .none, pyModule := .none, annotations := none, code := .none, closureTuple := .none, builtins := 0 }), #[]⟩
def o1_428 (P : Params) : Obj := ⟨(.type "code"), none, (.fields #[(.str ("__mul__" : Str) 734), (.str ("Table.__mul__" : Str) 735), (.str ("/claim/cut.py" : Str) 736), (.int 242 0), (.int 2 0), (.int 0 0), (.int 0 0), (.int 3 0), (.ref 423), (.bool true), (.int 181 0), (.ref 424), .none, (.ref 425), (.ref 426), (.ref 427), (.int 739 0), (.int 242 0), (.str ("/claim/cut.py" : Str) 740)]), #[]⟩
def o1_429 (P : Params) : Obj := ⟨(.type "function"), none, (.func { name := ("__mul__" : Str), qualname := ("Table.__mul__" : Str), params := defArgs tp41_8, body := .stmts (defBody tp41_8), scope := defScope tp41_8, globals := 3, closure := [], defaults := .none, kwdefaults := .none, doc := .none, pyModule := (.str ("rosterneed.tables" : Str) 626), annotations := none, code := (.ref 428), closureTuple := .none, builtins := 0 }), #[]⟩
def o1_430 (P : Params) : Obj := ⟨(.type "tuple"), none, (.seq #[] 0), #[]⟩
def o1_431 (P : Params) : Obj := ⟨.none, none, (.fields #[]), #[]⟩
def o1_432 (P : Params) : Obj := ⟨(.type "tuple"), none, (.seq #[(.str ("self" : Str) 745), (.str ("other" : Str) 746)] 0), #[]⟩
def o1_433 (P : Params) : Obj := ⟨(.type "tuple"), none, (.seq #[] 0), #[]⟩
def o1_434 (P : Params) : Obj := ⟨.none, none, (.func { name := ("__and__" : Str), qualname := ("Table.__and__" : Str), params := defArgs tp41_9, body := .stmts (defBody tp41_9), scope := defScope tp41_9, globals := 0, closure := [], defaults := .none, kwdefaults := .none, doc := .none, pyModule := .none, annotations := none, code := .none, closureTuple := .none, builtins := 0 }), #[]⟩
def o1_435 (P : Params) : Obj := ⟨(.type "code"), none, (.fields #[(.str ("__and__" : Str) 742), (.str ("Table.__and__" : Str) 743), (.str ("/claim/cut.py" : Str) 744), (.int 245 0), (.int 2 0), (.int 0 0), (.int 0 0), (.int 3 0), (.ref 430), (.bool true), (.int 181 0), (.ref 431), .none, (.ref 432), (.ref 433), (.ref 434), (.int 747 0), (.int 245 0), (.str ("/claim/cut.py" : Str) 748)]), #[]⟩
def o1_436 (P : Params) : Obj := ⟨(.type "function"), none, (.func { name := ("__and__" : Str), qualname := ("Table.__and__" : Str), params := defArgs tp41_9, body := .stmts (defBody tp41_9), scope := defScope tp41_9, globals := 3, closure := [], defaults := .none, kwdefaults := .none, doc := .none, pyModule := (.str ("rosterneed.tables" : Str) 626), annotations := none, code := (.ref 435), closureTuple := .none, builtins := 0 }), #[]⟩
def o1_437 (P : Params) : Obj := ⟨(.type "tuple"), none, (.seq #[] 0), #[]⟩
def o1_438 (P : Params) : Obj := ⟨.none, none, (.fields #[]), #[]⟩
def o1_439 (P : Params) : Obj := ⟨(.type "tuple"), none, (.seq #[(.str ("self" : Str) 753), (.str ("other" : Str) 754)] 0), #[]⟩
def o1_440 (P : Params) : Obj := ⟨(.type "tuple"), none, (.seq #[] 0), #[]⟩
def o1_441 (P : Params) : Obj := ⟨.none, none, (.func { name := ("__or__" : Str), qualname := ("Table.__or__" : Str), params := defArgs tp41_10, body := .stmts (defBody tp41_10), scope := defScope tp41_10, globals := 0, closure := [], defaults := .none, kwdefaults := .none, doc := .none, pyModule := .none, annotations := none, code := .none, closureTuple := .none, builtins := 0 }), #[]⟩
def o1_442 (P : Params) : Obj := ⟨(.type "code"), none, (.fields #[(.str ("__or__" : Str) 750), (.str ("Table.__or__" : Str) 751), (.str ("/claim/cut.py" : Str) 752), (.int 248 0), (.int 2 0), (.int 0 0), (.int 0 0), (.int 3 0), (.ref 437), (.bool true), (.int 181 0), (.ref 438), .none, (.ref 439), (.ref 440), (.ref 441), (.int 755 0), (.int 248 0), (.str ("/claim/cut.py" : Str) 756)]), #[]⟩
def o1_443 (P : Params) : Obj := ⟨(.type "function"), none, (.func { name := ("__or__" : Str), qualname := ("Table.__or__" : Str), params := defArgs tp41_10, body := .stmts (defBody tp41_10), scope := defScope tp41_10, globals := 3, closure := [], defaults := .none, kwdefaults := .none, doc := .none, pyModule := (.str ("rosterneed.tables" : Str) 626), annotations := none, code := (.ref 442), closureTuple := .none, builtins := 0 }), #[]⟩
def o1_444 (P : Params) : Obj := ⟨(.type "tuple"), none, (.seq #[] 0), #[]⟩
def o1_445 (P : Params) : Obj := ⟨.none, none, (.fields #[]), #[]⟩
def o1_446 (P : Params) : Obj := ⟨(.type "tuple"), none, (.seq #[(.str ("self" : Str) 761)] 0), #[]⟩
def o1_447 (P : Params) : Obj := ⟨(.type "tuple"), none, (.seq #[] 0), #[]⟩
def o1_448 (P : Params) : Obj := ⟨.none, none, (.func { name := ("__invert__" : Str), qualname := ("Table.__invert__" : Str), params := defArgs tp41_11, body := .stmts (defBody tp41_11), scope := defScope tp41_11, globals := 0, closure := [], defaults := .none, kwdefaults := .none, doc := .none, pyModule := .none, annotations := none, code := .none, closureTuple := .none, builtins := 0 }), #[]⟩
def o1_449 (P : Params) : Obj := ⟨(.type "code"), none, (.fields #[(.str ("__invert__" : Str) 758), (.str ("Table.__invert__" : Str) 759), (.str ("/claim/cut.py" : Str) 760), (.int 251 0), (.int 1 0), (.int 0 0), (.int 0 0), (.int 3 0), (.ref 444), (.bool true), (.int 181 0), (.ref 445), .none, (.ref 446), (.ref 447), (.ref 448), (.int 762 0), (.int 251 0), (.str ("/claim/cut.py" : Str) 763)]), #[]⟩
def o1_450 (P : Params) : Obj := ⟨(.type "function"), none, (.func { name := ("__invert__" : Str), qualname := ("Table.__invert__" : Str), params := defArgs tp41_11, body := .stmts (defBody tp41_11), scope := defScope tp41_11, globals := 3, closure := [], defaults := .none, kwdefaults := .none, doc := .none, pyModule := (.str ("rosterneed.tables" : Str) 626), annotations := none, code := (.ref 449), closureTuple := .none, builtins := 0 }), #[]⟩
def o1_451 (P : Params) : Obj := ⟨(.type "tuple"), none, (.seq #[(.str ("head" : Str) 765), (.str ("loop" : Str) 766), (.str ("rise" : Str) 767)] 0), #[]⟩
def o1_452 (P : Params) : Obj := ⟨(.type "dict"), none, (.dict #[⟨PyData.keyHash P ("__module__" : Str), (.str ("__module__" : Str) 650), (.str ("rosterneed.tables" : Str) 626)⟩, ⟨PyData.keyHash P ("__firstlineno__" : Str), (.str ("__firstlineno__" : Str) 654), (.int 204 653)⟩, ⟨PyData.keyHash P ("__init__" : Str), (.str ("__init__" : Str) 666), (.ref 367)⟩, ⟨PyData.keyHash P ("shift" : Str), (.str ("shift" : Str) 685), (.ref 376)⟩, ⟨PyData.keyHash P ("raw" : Str), (.str ("raw" : Str) 692), (.ref 384)⟩, ⟨PyData.keyHash P ("__call__" : Str), (.str ("__call__" : Str) 700), (.ref 391)⟩, ⟨PyData.keyHash P ("end" : Str), (.str ("end" : Str) 708), (.ref 399)⟩, ⟨PyData.keyHash P ("rate" : Str), (.str ("rate" : Str) 717), (.ref 407)⟩, ⟨PyData.keyHash P ("steady" : Str), (.str ("steady" : Str) 725), (.ref 415)⟩, ⟨PyData.keyHash P ("__eq__" : Str), (.str ("__eq__" : Str) 733), (.ref 422)⟩, ⟨PyData.keyHash P ("__mul__" : Str), (.str ("__mul__" : Str) 741), (.ref 429)⟩, ⟨PyData.keyHash P ("__and__" : Str), (.str ("__and__" : Str) 749), (.ref 436)⟩, ⟨PyData.keyHash P ("__or__" : Str), (.str ("__or__" : Str) 757), (.ref 443)⟩, ⟨PyData.keyHash P ("__invert__" : Str), (.str ("__invert__" : Str) 764), (.ref 450)⟩, ⟨PyData.keyHash P ("__static_attributes__" : Str), (.str ("__static_attributes__" : Str) 768), (.ref 451)⟩, ⟨PyData.keyHash P ("__dict__" : Str), (.str ("__dict__" : Str) 770), (.ref 454)⟩, ⟨PyData.keyHash P ("__weakref__" : Str), (.str ("__weakref__" : Str) 772), (.ref 455)⟩, ⟨PyData.keyHash P ("__doc__" : Str), (.str ("__doc__" : Str) 773), .none⟩, ⟨PyData.keyHash P ("__hash__" : Str), (.str ("__hash__" : Str) 774), .none⟩] 5), #[]⟩
def o1_453 (P : Params) : Obj := ⟨(.type "type"), none, (.cls { name := ("Table" : Str), bases := [(.type "object")], mro := [(.ref 453), (.type "object")], ns := 452, qualname := ("Table" : Str), hasDict := true, slotNames := [], subclasses := [], abstract := false, collection := none, hasDel := false }), #[none, none, (some (.str ("Table" : Str) 643)), (some (.str ("Table" : Str) 651)), (some (.builtin "object.__new__")), (some (.bool true))]⟩
def o1_454 (P : Params) : Obj := ⟨(.type "getset_descriptor"), none, (.fields #[(.str ("__dict__" : Str) 769), (.ref 453), (.builtin "function.__dict__"), (.builtin "function.__dict__#set")]), #[]⟩
def o1_455 (P : Params) : Obj := ⟨(.type "getset_descriptor"), none, (.fields #[(.str ("__weakref__" : Str) 771), (.ref 453), (.builtin "ExceptionGroup.__weakref__"), .none]), #[]⟩
def o1_456 (P : Params) : Obj := ⟨(.type "super"), none, (.fields #[(.ref 453), (.ref 453), (.ref 453)]), #[]⟩
def o1_457 (P : Params) : Obj := ⟨(.type "builtin_function_or_method"), none, (.fields #[(.builtin "object.__init_subclass__"), (.ref 453)]), #[]⟩
def o1_458 (P : Params) : Obj := ⟨(.type "tuple"), none, (.seq #[] 0), #[]⟩
def o1_459 (P : Params) : Obj := ⟨.none, none, (.fields #[]), #[]⟩
def o1_460 (P : Params) : Obj := ⟨(.type "tuple"), none, (.seq #[(.str ("raw" : Str) 780)] 0), #[]⟩
def o1_461 (P : Params) : Obj := ⟨(.type "tuple"), none, (.seq #[] 0), #[]⟩
def o1_462 (P : Params) : Obj := ⟨.none, none, (.func { name := ("table_from" : Str), qualname := ("table_from" : Str), params := defArgs tp42, body := .stmts (defBody tp42), scope := defScope tp42, globals := 0, closure := [], defaults := .none, kwdefaults := .none, doc := .none, pyModule := .none, annotations := none, code := .none, closureTuple := .none, builtins := 0 }), #[]⟩
def o1_463 (P : Params) : Obj := ⟨(.type "code"), none, (.fields #[(.str ("table_from" : Str) 777), (.str ("table_from" : Str) 778), (.str ("/claim/cut.py" : Str) 779), (.int 253 0), (.int 1 0), (.int 0 0), (.int 0 0), (.int 3 0), (.ref 458), (.bool true), (.int 181 0), (.ref 459), .none, (.ref 460), (.ref 461), (.ref 462), (.int 781 0), (.int 253 0), (.str ("/claim/cut.py" : Str) 782)]), #[]⟩
def o1_464 (P : Params) : Obj := ⟨(.type "function"), none, (.func { name := ("table_from" : Str), qualname := ("table_from" : Str), params := defArgs tp42, body := .stmts (defBody tp42), scope := defScope tp42, globals := 3, closure := [], defaults := .none, kwdefaults := .none, doc := .none, pyModule := (.str ("rosterneed.tables" : Str) 626), annotations := none, code := (.ref 463), closureTuple := .none, builtins := 0 }), #[]⟩
def o1_465 (P : Params) : Obj := ⟨(.type "tuple"), none, (.seq #[] 0), #[]⟩
def o1_466 (P : Params) : Obj := ⟨.none, none, (.fields #[]), #[]⟩
def o1_467 (P : Params) : Obj := ⟨(.type "tuple"), none, (.seq #[(.str ("inlets" : Str) 803), (.str ("thing" : Str) 804)] 0), #[]⟩
def o1_468 (P : Params) : Obj := ⟨(.type "tuple"), none, (.seq #[] 0), #[]⟩
def o1_469 (P : Params) : Obj := ⟨.none, none, (.func { name := ("is_deed" : Str), qualname := ("is_deed" : Str), params := defArgs tp51, body := .stmts (defBody tp51), scope := defScope tp51, globals := 0, closure := [], defaults := .none, kwdefaults := .none, doc := .none, pyModule := .none, annotations := none, code := .none, closureTuple := .none, builtins := 0 }), #[]⟩
def o1_470 (P : Params) : Obj := ⟨(.type "code"), none, (.fields #[(.str ("is_deed" : Str) 800), (.str ("is_deed" : Str) 801), (.str ("/claim/cut.py" : Str) 802), (.int 263 0), (.int 2 0), (.int 0 0), (.int 0 0), (.int 3 0), (.ref 465), (.bool true), (.int 181 0), (.ref 466), .none, (.ref 467), (.ref 468), (.ref 469), (.int 805 0), (.int 263 0), (.str ("/claim/cut.py" : Str) 806)]), #[]⟩
def o1_471 (P : Params) : Obj := ⟨(.type "function"), none, (.func { name := ("is_deed" : Str), qualname := ("is_deed" : Str), params := defArgs tp51, body := .stmts (defBody tp51), scope := defScope tp51, globals := 3, closure := [], defaults := .none, kwdefaults := .none, doc := .none, pyModule := (.str ("rosterneed.makers" : Str) 784), annotations := none, code := (.ref 470), closureTuple := .none, builtins := 0 }), #[]⟩
def o1_472 (P : Params) : Obj := ⟨(.type "tuple"), none, (.seq #[] 0), #[]⟩
def o1_473 (P : Params) : Obj := ⟨.none, none, (.fields #[]), #[]⟩
def o1_474 (P : Params) : Obj := ⟨.none, none, (.func { name := ("is_deeds" : Str), qualname := ("is_deeds" : Str), params := defArgs tp52, body := .stmts (defBody tp52), scope := defScope tp52, globals := 0, closure := [], defaults := .none, kwdefaults := .none, doc := .none, pyModule := .none, annotations := none, code := .none, closureTuple := .none, builtins := 0 }), #[]⟩
def o1_475 (P : Params) : Obj := ⟨(.type "code"), none, (.fields #[(.str ("is_deeds" : Str) 808), (.str ("is_deeds" : Str) 809), (.str ("/claim/cut.py" : Str) 810), (.int 267 0), (.int 2 0), (.int 0 0), (.int 0 0), (.int 3 0), (.ref 472), (.bool true), (.int 181 0), (.ref 473), .none, .none, .none, (.ref 474), (.int 811 0), (.int 267 0), (.str ("/claim/cut.py" : Str) 812)]), #[]⟩
def o1_476 (P : Params) : Obj := ⟨(.type "function"), none, (.func { name := ("is_deeds" : Str), qualname := ("is_deeds" : Str), params := defArgs tp52, body := .stmts (defBody tp52), scope := defScope tp52, globals := 3, closure := [], defaults := .none, kwdefaults := .none, doc := .none, pyModule := (.str ("rosterneed.makers" : Str) 784), annotations := none, code := (.ref 475), closureTuple := .none, builtins := 0 }), #[]⟩
def o1_477 (P : Params) : Obj := ⟨(.type "tuple"), none, (.seq #[] 0), #[]⟩
def o1_478 (P : Params) : Obj := ⟨.none, none, (.fields #[]), #[]⟩
def o1_479 (P : Params) : Obj := ⟨.none, none, (.func { name := ("is_ways" : Str), qualname := ("is_ways" : Str), params := defArgs tp53, body := .stmts (defBody tp53), scope := defScope tp53, globals := 0, closure := [], defaults := .none, kwdefaults := .none, doc := .none, pyModule := .none, annotations := none, code := .none, closureTuple := .none, builtins := 0 }), #[]⟩
def o1_480 (P : Params) : Obj := ⟨(.type "code"), none, (.fields #[(.str ("is_ways" : Str) 814), (.str ("is_ways" : Str) 815), (.str ("/claim/cut.py" : Str) 816), (.int 269 0), (.int 2 0), (.int 0 0), (.int 0 0), (.int 3 0), (.ref 477), (.bool true), (.int 181 0), (.ref 478), .none, .none, .none, (.ref 479), (.int 817 0), (.int 269 0), (.str ("/claim/cut.py" : Str) 818)]), #[]⟩
def o1_481 (P : Params) : Obj := ⟨(.type "function"), none, (.func { name := ("is_ways" : Str), qualname := ("is_ways" : Str), params := defArgs tp53, body := .stmts (defBody tp53), scope := defScope tp53, globals := 3, closure := [], defaults := .none, kwdefaults := .none, doc := .none, pyModule := (.str ("rosterneed.makers" : Str) 784), annotations := none, code := (.ref 480), closureTuple := .none, builtins := 0 }), #[]⟩
def o1_482 (P : Params) : Obj := ⟨(.type "tuple"), none, (.seq #[] 0), #[]⟩
def o1_483 (P : Params) : Obj := ⟨.none, none, (.fields #[]), #[]⟩
def o1_484 (P : Params) : Obj := ⟨.none, none, (.func { name := ("is_way_numbers" : Str), qualname := ("is_way_numbers" : Str), params := defArgs tp54, body := .stmts (defBody tp54), scope := defScope tp54, globals := 0, closure := [], defaults := .none, kwdefaults := .none, doc := .none, pyModule := .none, annotations := none, code := .none, closureTuple := .none, builtins := 0 }), #[]⟩
def o1_485 (P : Params) : Obj := ⟨(.type "code"), none, (.fields #[(.str ("is_way_numbers" : Str) 820), (.str ("is_way_numbers" : Str) 821), (.str ("/claim/cut.py" : Str) 822), (.int 273 0), (.int 4 0), (.int 0 0), (.int 0 0), (.int 3 0), (.ref 482), (.bool true), (.int 181 0), (.ref 483), .none, .none, .none, (.ref 484), (.int 823 0), (.int 273 0), (.str ("/claim/cut.py" : Str) 824)]), #[]⟩
def o1_486 (P : Params) : Obj := ⟨(.type "function"), none, (.func { name := ("is_way_numbers" : Str), qualname := ("is_way_numbers" : Str), params := defArgs tp54, body := .stmts (defBody tp54), scope := defScope tp54, globals := 3, closure := [], defaults := .none, kwdefaults := .none, doc := .none, pyModule := (.str ("rosterneed.makers" : Str) 784), annotations := none, code := (.ref 485), closureTuple := .none, builtins := 0 }), #[]⟩
def o1_487 (P : Params) : Obj := ⟨(.type "tuple"), none, (.seq #[] 0), #[]⟩
def o1_488 (P : Params) : Obj := ⟨.none, none, (.fields #[]), #[]⟩
def o1_489 (P : Params) : Obj := ⟨(.type "tuple"), none, (.seq #[(.str ("maker" : Str) 829), (.str ("thing" : Str) 830), (.str ("ways" : Str) 831)] 0), #[]⟩
def o1_490 (P : Params) : Obj := ⟨(.type "tuple"), none, (.seq #[] 0), #[]⟩
def o1_491 (P : Params) : Obj := ⟨.none, none, (.func { name := ("is_course" : Str), qualname := ("is_course" : Str), params := defArgs tp55, body := .stmts (defBody tp55), scope := defScope tp55, globals := 0, closure := [], defaults := .none, kwdefaults := .none, doc := .none, pyModule := .none, annotations := none, code := .none, closureTuple := .none, builtins := 0 }), #[]⟩
def o1_492 (P : Params) : Obj := ⟨(.type "code"), none, (.fields #[(.str ("is_course" : Str) 826), (.str ("is_course" : Str) 827), (.str ("/claim/cut.py" : Str) 828), (.int 277 0), (.int 2 0), (.int 0 0), (.int 0 0), (.int 3 0), (.ref 487), (.bool true), (.int 181 0), (.ref 488), .none, (.ref 489), (.ref 490), (.ref 491), (.int 832 0), (.int 277 0), (.str ("/claim/cut.py" : Str) 833)]), #[]⟩
def o1_493 (P : Params) : Obj := ⟨(.type "function"), none, (.func { name := ("is_course" : Str), qualname := ("is_course" : Str), params := defArgs tp55, body := .stmts (defBody tp55), scope := defScope tp55, globals := 3, closure := [], defaults := .none, kwdefaults := .none, doc := .none, pyModule := (.str ("rosterneed.makers" : Str) 784), annotations := none, code := (.ref 492), closureTuple := .none, builtins := 0 }), #[]⟩
def o1_494 (P : Params) : Obj := ⟨(.type "tuple"), none, (.seq #[] 0), #[]⟩
def o1_495 (P : Params) : Obj := ⟨.none, none, (.fields #[]), #[]⟩
def o1_496 (P : Params) : Obj := ⟨(.type "tuple"), none, (.seq #[(.str ("deeds" : Str) 838), (.str ("inlet" : Str) 839), (.str ("told" : Str) 840), (.str ("taken" : Str) 841), (.str ("deed" : Str) 842)] 0), #[]⟩
def o1_497 (P : Params) : Obj := ⟨(.type "tuple"), none, (.seq #[] 0), #[]⟩
def o1_498 (P : Params) : Obj := ⟨.none, none, (.func { name := ("takes_ahead" : Str), qualname := ("takes_ahead" : Str), params := defArgs tp56, body := .stmts (defBody tp56), scope := defScope tp56, globals := 0, closure := [], defaults := .none, kwdefaults := .none, doc := .none, pyModule := .none, annotations := none, code := .none, closureTuple := .none, builtins := 0 }), #[]⟩
def o1_499 (P : Params) : Obj := ⟨(.type "code"), none, (.fields #[(.str ("takes_ahead" : Str) 835), (.str ("takes_ahead" : Str) 836), (.str ("/claim/cut.py" : Str) 837), (.int 282 0), (.int 2 0), (.int 0 0), (.int 0 0), (.int 3 0), (.ref 494), (.bool true), (.int 181 0), (.ref 495), .none, (.ref 496), (.ref 497), (.ref 498), (.int 843 0), (.int 282 0), (.str ("/claim/cut.py" : Str) 844)]), #[]⟩
def o1_500 (P : Params) : Obj := ⟨(.type "function"), none, (.func { name := ("takes_ahead" : Str), qualname := ("takes_ahead" : Str), params := defArgs tp56, body := .stmts (defBody tp56), scope := defScope tp56, globals := 3, closure := [], defaults := .none, kwdefaults := .none, doc := .none, pyModule := (.str ("rosterneed.makers" : Str) 784), annotations := none, code := (.ref 499), closureTuple := .none, builtins := 0 }), #[]⟩
def o1_501 (P : Params) : Obj := ⟨(.type "tuple"), none, (.seq #[] 0), #[]⟩
def o1_502 (P : Params) : Obj := ⟨.none, none, (.fields #[]), #[]⟩
def o1_503 (P : Params) : Obj := ⟨(.type "tuple"), none, (.seq #[(.str ("maker" : Str) 849), (.str ("inlet" : Str) 850)] 0), #[]⟩
def o1_504 (P : Params) : Obj := ⟨(.type "tuple"), none, (.seq #[] 0), #[]⟩
def o1_505 (P : Params) : Obj := ⟨.none, none, (.func { name := ("check_inlet" : Str), qualname := ("check_inlet" : Str), params := defArgs tp57, body := .stmts (defBody tp57), scope := defScope tp57, globals := 0, closure := [], defaults := .none, kwdefaults := .none, doc := .none, pyModule := .none, annotations := none, code := .none, closureTuple := .none, builtins := 0 }), #[]⟩
def o1_506 (P : Params) : Obj := ⟨(.type "code"), none, (.fields #[(.str ("check_inlet" : Str) 846), (.str ("check_inlet" : Str) 847), (.str ("/claim/cut.py" : Str) 848), (.int 291 0), (.int 2 0), (.int 0 0), (.int 0 0), (.int 3 0), (.ref 501), (.bool true), (.int 181 0), (.ref 502), .none, (.ref 503), (.ref 504), (.ref 505), (.int 851 0), (.int 291 0), (.str ("/claim/cut.py" : Str) 852)]), #[]⟩
def o1_507 (P : Params) : Obj := ⟨(.type "function"), none, (.func { name := ("check_inlet" : Str), qualname := ("check_inlet" : Str), params := defArgs tp57, body := .stmts (defBody tp57), scope := defScope tp57, globals := 3, closure := [], defaults := .none, kwdefaults := .none, doc := .none, pyModule := (.str ("rosterneed.makers" : Str) 784), annotations := none, code := (.ref 506), closureTuple := .none, builtins := 0 }), #[]⟩
def o1_508 (P : Params) : Obj := ⟨(.type "tuple"), none, (.seq #[] 0), #[]⟩
def o1_509 (P : Params) : Obj := ⟨.none, none, (.fields #[]), #[]⟩
def o1_510 (P : Params) : Obj := ⟨.none, none, (.func { name := ("need_on" : Str), qualname := ("need_on" : Str), params := defArgs tp58, body := .stmts (defBody tp58), scope := defScope tp58, globals := 0, closure := [], defaults := .none, kwdefaults := .none, doc := .none, pyModule := .none, annotations := none, code := .none, closureTuple := .none, builtins := 0 }), #[]⟩
def o1_511 (P : Params) : Obj := ⟨(.type "code"), none, (.fields #[(.str ("need_on" : Str) 854), (.str ("need_on" : Str) 855), (.str ("/claim/cut.py" : Str) 856), (.int 294 0), (.int 3 0), (.int 0 0), (.int 0 0), (.int 3 0), (.ref 508), (.bool true), (.int 181 0), (.ref 509), .none, .none, .none, (.ref 510), (.int 857 0), (.int 294 0), (.str ("/claim/cut.py" : Str) 858)]), #[]⟩
def o1_512 (P : Params) : Obj := ⟨(.type "function"), none, (.func { name := ("need_on" : Str), qualname := ("need_on" : Str), params := defArgs tp58, body := .stmts (defBody tp58), scope := defScope tp58, globals := 3, closure := [], defaults := .none, kwdefaults := .none, doc := .none, pyModule := (.str ("rosterneed.makers" : Str) 784), annotations := none, code := (.ref 511), closureTuple := .none, builtins := 0 }), #[]⟩
def o1_513 (P : Params) : Obj := ⟨(.type "tuple"), none, (.seq #[] 0), #[]⟩
def o1_514 (P : Params) : Obj := ⟨(.type "builtin_function_or_method"), none, (.fields #[(.builtin "type.__prepare__"), (.type "type")]), #[]⟩
def o1_515 (P : Params) : Obj := ⟨(.type "dict"), none, (.dict #[⟨PyData.keyHash P ("__module__" : Str), (.str ("__module__" : Str) 867), (.str ("rosterneed.makers" : Str) 784)⟩, ⟨PyData.keyHash P ("__qualname__" : Str), (.str ("__qualname__" : Str) 869), (.str ("Maker" : Str) 868)⟩, ⟨PyData.keyHash P ("__firstlineno__" : Str), (.str ("__firstlineno__" : Str) 871), (.int 306 870)⟩, ⟨PyData.keyHash P ("__init__" : Str), (.str ("__init__" : Str) 877), (.ref 524)⟩, ⟨PyData.keyHash P ("__eq__" : Str), (.str ("__eq__" : Str) 885), (.ref 531)⟩, ⟨PyData.keyHash P ("need" : Str), (.str ("need" : Str) 894), (.ref 538)⟩, ⟨PyData.keyHash P ("__static_attributes__" : Str), (.str ("__static_attributes__" : Str) 898), (.ref 539)⟩] 7), #[]⟩
def o1_516 (P : Params) : Obj := ⟨(.type "tuple"), none, (.seq #[] 0), #[]⟩
def o1_517 (P : Params) : Obj := ⟨.none, none, (.fields #[(.int 308 0), (.int 4 0), (.ref 523), (.int 322 0), (.int 4 0), (.ref 530), (.int 325 0), (.int 4 0), (.ref 537)]), #[]⟩
def o1_518 (P : Params) : Obj := ⟨(.type "code"), none, (.fields #[(.str ("Maker" : Str) 862), (.str ("Maker" : Str) 863), (.str ("/claim/cut.py" : Str) 864), (.int 306 0), (.int 0 0), (.int 0 0), (.int 0 0), (.int 0 0), (.ref 516), (.bool false), (.int 181 0), (.ref 517), .none, .none, .none, .none, (.int 865 0), (.int 306 0), (.str ("/claim/cut.py" : Str) 866)]), #[]⟩
def o1_519 (P : Params) : Obj := ⟨(.type "frame"), none, .plain, #[(some (.ref 518)), (some (.ref 3)), (some (.ref 515)), none, (some (.str ("rosterneed.makers" : Str) 784)), none, (some (.ref 0))]⟩
def o1_520 (P : Params) : Obj := ⟨(.type "tuple"), none, (.seq #[] 0), #[]⟩
def o1_521 (P : Params) : Obj := ⟨.none, none, (.fields #[]), #[]⟩
def o1_522 (P : Params) : Obj := ⟨.none, none, (.func { name := ("__init__" : Str), qualname := ("Maker.__init__" : Str), params := defArgs tp59_0, body := .stmts (defBody tp59_0), scope := defScope tp59_0, globals := 0, closure := [], defaults := .none, kwdefaults := .none, doc := .none, pyModule := .none, annotations := none, code := .none, closureTuple := .none, builtins := 0 }), #[]⟩
def o1_523 (P : Params) : Obj := ⟨(.type "code"), none, (.fields #[(.str ("__init__" : Str) 872), (.str ("Maker.__init__" : Str) 873), (.str ("/claim/cut.py" : Str) 874), (.int 308 0), (.int 4 0), (.int 0 0), (.int 0 0), (.int 3 0), (.ref 520), (.bool true), (.int 181 0), (.ref 521), .none, .none, .none, (.ref 522), (.int 875 0), (.int 308 0), (.str ("/claim/cut.py" : Str) 876)]), #[]⟩
def o1_524 (P : Params) : Obj := ⟨(.type "function"), none, (.func { name := ("__init__" : Str), qualname := ("Maker.__init__" : Str), params := defArgs tp59_0, body := .stmts (defBody tp59_0), scope := defScope tp59_0, globals := 3, closure := [], defaults := .none, kwdefaults := .none, doc := .none, pyModule := (.str ("rosterneed.makers" : Str) 784), annotations := none, code := (.ref 523), closureTuple := .none, builtins := 0 }), #[]⟩
def o1_525 (P : Params) : Obj := ⟨(.type "tuple"), none, (.seq #[] 0), #[]⟩
def o1_526 (P : Params) : Obj := ⟨.none, none, (.fields #[]), #[]⟩
def o1_527 (P : Params) : Obj := ⟨(.type "tuple"), none, (.seq #[(.str ("self" : Str) 881), (.str ("other" : Str) 882)] 0), #[]⟩
def o1_528 (P : Params) : Obj := ⟨(.type "tuple"), none, (.seq #[] 0), #[]⟩
def o1_529 (P : Params) : Obj := ⟨.none, none, (.func { name := ("__eq__" : Str), qualname := ("Maker.__eq__" : Str), params := defArgs tp59_1, body := .stmts (defBody tp59_1), scope := defScope tp59_1, globals := 0, closure := [], defaults := .none, kwdefaults := .none, doc := .none, pyModule := .none, annotations := none, code := .none, closureTuple := .none, builtins := 0 }), #[]⟩
def o1_530 (P : Params) : Obj := ⟨(.type "code"), none, (.fields #[(.str ("__eq__" : Str) 878), (.str ("Maker.__eq__" : Str) 879), (.str ("/claim/cut.py" : Str) 880), (.int 322 0), (.int 2 0), (.int 0 0), (.int 0 0), (.int 3 0), (.ref 525), (.bool true), (.int 181 0), (.ref 526), .none, (.ref 527), (.ref 528), (.ref 529), (.int 883 0), (.int 322 0), (.str ("/claim/cut.py" : Str) 884)]), #[]⟩
def o1_531 (P : Params) : Obj := ⟨(.type "function"), none, (.func { name := ("__eq__" : Str), qualname := ("Maker.__eq__" : Str), params := defArgs tp59_1, body := .stmts (defBody tp59_1), scope := defScope tp59_1, globals := 3, closure := [], defaults := .none, kwdefaults := .none, doc := .none, pyModule := (.str ("rosterneed.makers" : Str) 784), annotations := none, code := (.ref 530), closureTuple := .none, builtins := 0 }), #[]⟩
def o1_532 (P : Params) : Obj := ⟨(.type "tuple"), none, (.seq #[] 0), #[]⟩
def o1_533 (P : Params) : Obj := ⟨.none, none, (.fields #[]), #[]⟩
def o1_534 (P : Params) : Obj := ⟨(.type "tuple"), none, (.seq #[(.str ("self" : Str) 889), (.str ("inlet" : Str) 890), (.str ("course" : Str) 891)] 0), #[]⟩
def o1_535 (P : Params) : Obj := ⟨(.type "tuple"), none, (.seq #[] 0), #[]⟩
def o1_536 (P : Params) : Obj := ⟨.none, none, (.func { name := ("need" : Str), qualname := ("Maker.need" : Str), params := defArgs tp59_2, body := .stmts (defBody tp59_2), scope := defScope tp59_2, globals := 0, closure := [], defaults := .none, kwdefaults := .none, doc := .none, pyModule := .none, annotations := none, code := .none, closureTuple := .none, builtins := 0 }), #[]⟩
def o1_537 (P : Params) : Obj := ⟨(.type "code"), none, (.fields #[(.str ("need" : Str) 886), (.str ("Maker.need" : Str) 887), (.str ("/claim/cut.py" : Str) 888), (.int 325 0), (.int 3 0), (.int 0 0), (.int 0 0), (.int 3 0), (.ref 532), (.bool true), (.int 181 0), (.ref 533), .none, (.ref 534), (.ref 535), (.ref 536), (.int 892 0), (.int 325 0), (.str ("/claim/cut.py" : Str) 893)]), #[]⟩
def o1_538 (P : Params) : Obj := ⟨(.type "function"), none, (.func { name := ("need" : Str), qualname := ("Maker.need" : Str), params := defArgs tp59_2, body := .stmts (defBody tp59_2), scope := defScope tp59_2, globals := 3, closure := [], defaults := .none, kwdefaults := .none, doc := .none, pyModule := (.str ("rosterneed.makers" : Str) 784), annotations := none, code := (.ref 537), closureTuple := .none, builtins := 0 }), #[]⟩
def o1_539 (P : Params) : Obj := ⟨(.type "tuple"), none, (.seq #[(.str ("begin" : Str) 895), (.str ("inlets" : Str) 896), (.str ("ways" : Str) 897)] 0), #[]⟩
def o1_540 (P : Params) : Obj := ⟨(.type "dict"), none, (.dict #[⟨PyData.keyHash P ("__module__" : Str), (.str ("__module__" : Str) 867), (.str ("rosterneed.makers" : Str) 784)⟩, ⟨PyData.keyHash P ("__firstlineno__" : Str), (.str ("__firstlineno__" : Str) 871), (.int 306 870)⟩, ⟨PyData.keyHash P ("__init__" : Str), (.str ("__init__" : Str) 877), (.ref 524)⟩, ⟨PyData.keyHash P ("__eq__" : Str), (.str ("__eq__" : Str) 885), (.ref 531)⟩, ⟨PyData.keyHash P ("need" : Str), (.str ("need" : Str) 894), (.ref 538)⟩, ⟨PyData.keyHash P ("__static_attributes__" : Str), (.str ("__static_attributes__" : Str) 898), (.ref 539)⟩, ⟨PyData.keyHash P ("__dict__" : Str), (.str ("__dict__" : Str) 900), (.ref 542)⟩, ⟨PyData.keyHash P ("__weakref__" : Str), (.str ("__weakref__" : Str) 902), (.ref 543)⟩, ⟨PyData.keyHash P ("__doc__" : Str), (.str ("__doc__" : Str) 903), .none⟩, ⟨PyData.keyHash P ("__hash__" : Str), (.str ("__hash__" : Str) 904), .none⟩] 5), #[]⟩
def o1_541 (P : Params) : Obj := ⟨(.type "type"), none, (.cls { name := ("Maker" : Str), bases := [(.type "object")], mro := [(.ref 541), (.type "object")], ns := 540, qualname := ("Maker" : Str), hasDict := true, slotNames := [], subclasses := [], abstract := false, collection := none, hasDel := false }), #[none, none, (some (.str ("Maker" : Str) 860)), (some (.str ("Maker" : Str) 868)), (some (.builtin "object.__new__")), (some (.bool true))]⟩
def o1_542 (P : Params) : Obj := ⟨(.type "getset_descriptor"), none, (.fields #[(.str ("__dict__" : Str) 899), (.ref 541), (.builtin "function.__dict__"), (.builtin "function.__dict__#set")]), #[]⟩
def o1_543 (P : Params) : Obj := ⟨(.type "getset_descriptor"), none, (.fields #[(.str ("__weakref__" : Str) 901), (.ref 541), (.builtin "ExceptionGroup.__weakref__"), .none]), #[]⟩
def o1_544 (P : Params) : Obj := ⟨(.type "super"), none, (.fields #[(.ref 541), (.ref 541), (.ref 541)]), #[]⟩
def o1_545 (P : Params) : Obj := ⟨(.type "builtin_function_or_method"), none, (.fields #[(.builtin "object.__init_subclass__"), (.ref 541)]), #[]⟩
def t1 (P : Params) : BT := (.node (boot_o_0 P) (.node (boot_o_1 P) (.node (o1_3 P) (.node (boot_o_7 P) (.node (o0_15 P) (.node (o0_31 P) (.node (o0_63 P) (.node (o0_127 P) (.node (o1_255 P) (.node (o1_511 P) .nil .nil) .nil) (.node (o1_383 P) .nil .nil)) (.node (o1_191 P) (.node (o1_319 P) .nil .nil) (.node (o1_447 P) .nil .nil))) (.node (o1_95 P) (.node (o0_159 P) (.node (o1_287 P) (.node (o1_543 P) .nil .nil) .nil) (.node (o1_415 P) .nil .nil)) (.node (o1_223 P) (.node (o1_351 P) .nil .nil) (.node (o1_479 P) .nil .nil)))) (.node (o0_47 P) (.node (o0_79 P) (.node (o0_143 P) (.node (o1_271 P) (.node (o1_527 P) .nil .nil) .nil) (.node (o1_399 P) .nil .nil)) (.node (o1_207 P) (.node (o1_335 P) .nil .nil) (.node (o1_463 P) .nil .nil))) (.node (o0_111 P) (.node (o0_175 P) (.node (o1_303 P) .nil .nil) (.node (o1_431 P) .nil .nil)) (.node (o1_239 P) (.node (o1_367 P) .nil .nil) (.node (o1_495 P) .nil .nil))))) (.node (o0_23 P) (.node (o0_39 P) (.node (o0_71 P) (.node (o0_135 P) (.node (o1_263 P) (.node (o1_519 P) .nil .nil) .nil) (.node (o1_391 P) .nil .nil)) (.node (o1_199 P) (.node (o1_327 P) .nil .nil) (.node (o1_455 P) .nil .nil))) (.node (o0_103 P) (.node (o0_167 P) (.node (o1_295 P) .nil .nil) (.node (o1_423 P) .nil .nil)) (.node (o1_231 P) (.node (o1_359 P) .nil .nil) (.node (o1_487 P) .nil .nil)))) (.node (o0_55 P) (.node (o0_87 P) (.node (o0_151 P) (.node (o1_279 P) (.node (o1_535 P) .nil .nil) .nil) (.node (o1_407 P) .nil .nil)) (.node (o1_215 P) (.node (o1_343 P) .nil .nil) (.node (o1_471 P) .nil .nil))) (.node (o0_119 P) (.node (o1_183 P) (.node (o1_311 P) .nil .nil) (.node (o1_439 P) .nil .nil)) (.node (o1_247 P) (.node (o1_375 P) .nil .nil) (.node (o1_503 P) .nil .nil)))))) (.node (oa_11 P) (.node (o0_19 P) (.node (o0_35 P) (.node (o0_67 P) (.node (o0_131 P) (.node (o1_259 P) (.node (o1_515 P) .nil .nil) .nil) (.node (o1_387 P) .nil .nil)) (.node (o1_195 P) (.node (o1_323 P) .nil .nil) (.node (o1_451 P) .nil .nil))) (.node (o0_99 P) (.node (o0_163 P) (.node (o1_291 P) .nil .nil) (.node (o1_419 P) .nil .nil)) (.node (o1_227 P) (.node (o1_355 P) .nil .nil) (.node (o1_483 P) .nil .nil)))) (.node (o0_51 P) (.node (o0_83 P) (.node (o0_147 P) (.node (o1_275 P) (.node (o1_531 P) .nil .nil) .nil) (.node (o1_403 P) .nil .nil)) (.node (o1_211 P) (.node (o1_339 P) .nil .nil) (.node (o1_467 P) .nil .nil))) (.node (o0_115 P) (.node (o1_179 P) (.node (o1_307 P) .nil .nil) (.node (o1_435 P) .nil .nil)) (.node (o1_243 P) (.node (o1_371 P) .nil .nil) (.node (o1_499 P) .nil .nil))))) (.node (o0_27 P) (.node (o0_43 P) (.node (o0_75 P) (.node (o0_139 P) (.node (o1_267 P) (.node (o1_523 P) .nil .nil) .nil) (.node (o1_395 P) .nil .nil)) (.node (o1_203 P) (.node (o1_331 P) .nil .nil) (.node (o1_459 P) .nil .nil))) (.node (o0_107 P) (.node (o0_171 P) (.node (o1_299 P) .nil .nil) (.node (o1_427 P) .nil .nil)) (.node (o1_235 P) (.node (o1_363 P) .nil .nil) (.node (o1_491 P) .nil .nil)))) (.node (o0_59 P) (.node (o0_91 P) (.node (o0_155 P) (.node (o1_283 P) (.node (o1_539 P) .nil .nil) .nil) (.node (o1_411 P) .nil .nil)) (.node (o1_219 P) (.node (o1_347 P) .nil .nil) (.node (o1_475 P) .nil .nil))) (.node (o0_123 P) (.node (o1_187 P) (.node (o1_315 P) .nil .nil) (.node (o1_443 P) .nil .nil)) (.node (o1_251 P) (.node (o1_379 P) .nil .nil) (.node (o1_507 P) .nil .nil))))))) (.node (boot_o_5 P) (.node (boot_o_9 P) (.node (o0_17 P) (.node (o0_33 P) (.node (o0_65 P) (.node (o0_129 P) (.node (o1_257 P) (.node (o1_513 P) .nil .nil) .nil) (.node (o1_385 P) .nil .nil)) (.node (o1_193 P) (.node (o1_321 P) .nil .nil) (.node (o1_449 P) .nil .nil))) (.node (o0_97 P) (.node (o0_161 P) (.node (o1_289 P) (.node (o1_545 P) .nil .nil) .nil) (.node (o1_417 P) .nil .nil)) (.node (o1_225 P) (.node (o1_353 P) .nil .nil) (.node (o1_481 P) .nil .nil)))) (.node (o0_49 P) (.node (o0_81 P) (.node (o0_145 P) (.node (o1_273 P) (.node (o1_529 P) .nil .nil) .nil) (.node (o1_401 P) .nil .nil)) (.node (o1_209 P) (.node (o1_337 P) .nil .nil) (.node (o1_465 P) .nil .nil))) (.node (o0_113 P) (.node (o0_177 P) (.node (o1_305 P) .nil .nil) (.node (o1_433 P) .nil .nil)) (.node (o1_241 P) (.node (o1_369 P) .nil .nil) (.node (o1_497 P) .nil .nil))))) (.node (o0_25 P) (.node (o0_41 P) (.node (o0_73 P) (.node (o0_137 P) (.node (o1_265 P) (.node (o1_521 P) .nil .nil) .nil) (.node (o1_393 P) .nil .nil)) (.node (o1_201 P) (.node (o1_329 P) .nil .nil) (.node (o1_457 P) .nil .nil))) (.node (o0_105 P) (.node (o0_169 P) (.node (o1_297 P) .nil .nil) (.node (o1_425 P) .nil .nil)) (.node (o1_233 P) (.node (o1_361 P) .nil .nil) (.node (o1_489 P) .nil .nil)))) (.node (o0_57 P) (.node (o0_89 P) (.node (o0_153 P) (.node (o1_281 P) (.node (o1_537 P) .nil .nil) .nil) (.node (o1_409 P) .nil .nil)) (.node (o1_217 P) (.node (o1_345 P) .nil .nil) (.node (o1_473 P) .nil .nil))) (.node (o0_121 P) (.node (o1_185 P) (.node (o1_313 P) .nil .nil) (.node (o1_441 P) .nil .nil)) (.node (o1_249 P) (.node (o1_377 P) .nil .nil) (.node (o1_505 P) .nil .nil)))))) (.node (oa_13 P) (.node (o0_21 P) (.node (o0_37 P) (.node (o0_69 P) (.node (o0_133 P) (.node (o1_261 P) (.node (o1_517 P) .nil .nil) .nil) (.node (o1_389 P) .nil .nil)) (.node (o1_197 P) (.node (o1_325 P) .nil .nil) (.node (o1_453 P) .nil .nil))) (.node (o0_101 P) (.node (o0_165 P) (.node (o1_293 P) .nil .nil) (.node (o1_421 P) .nil .nil)) (.node (o1_229 P) (.node (o1_357 P) .nil .nil) (.node (o1_485 P) .nil .nil)))) (.node (o0_53 P) (.node (o0_85 P) (.node (o0_149 P) (.node (o1_277 P) (.node (o1_533 P) .nil .nil) .nil) (.node (o1_405 P) .nil .nil)) (.node (o1_213 P) (.node (o1_341 P) .nil .nil) (.node (o1_469 P) .nil .nil))) (.node (o0_117 P) (.node (o1_181 P) (.node (o1_309 P) .nil .nil) (.node (o1_437 P) .nil .nil)) (.node (o1_245 P) (.node (o1_373 P) .nil .nil) (.node (o1_501 P) .nil .nil))))) (.node (o0_29 P) (.node (o0_45 P) (.node (o0_77 P) (.node (o0_141 P) (.node (o1_269 P) (.node (o1_525 P) .nil .nil) .nil) (.node (o1_397 P) .nil .nil)) (.node (o1_205 P) (.node (o1_333 P) .nil .nil) (.node (o1_461 P) .nil .nil))) (.node (o0_109 P) (.node (o0_173 P) (.node (o1_301 P) .nil .nil) (.node (o1_429 P) .nil .nil)) (.node (o1_237 P) (.node (o1_365 P) .nil .nil) (.node (o1_493 P) .nil .nil)))) (.node (o0_61 P) (.node (o0_93 P) (.node (o0_157 P) (.node (o1_285 P) (.node (o1_541 P) .nil .nil) .nil) (.node (o1_413 P) .nil .nil)) (.node (o1_221 P) (.node (o1_349 P) .nil .nil) (.node (o1_477 P) .nil .nil))) (.node (o0_125 P) (.node (o1_189 P) (.node (o1_317 P) .nil .nil) (.node (o1_445 P) .nil .nil)) (.node (o1_253 P) (.node (o1_381 P) .nil .nil) (.node (o1_509 P) .nil .nil)))))))) (.node (boot_o_2 P) (.node (boot_o_4 P) (.node (boot_o_8 P) (.node (o0_16 P) (.node (o0_32 P) (.node (o0_64 P) (.node (o0_128 P) (.node (o1_256 P) (.node (o1_512 P) .nil .nil) .nil) (.node (o1_384 P) .nil .nil)) (.node (o1_192 P) (.node (o1_320 P) .nil .nil) (.node (o1_448 P) .nil .nil))) (.node (o0_96 P) (.node (o0_160 P) (.node (o1_288 P) (.node (o1_544 P) .nil .nil) .nil) (.node (o1_416 P) .nil .nil)) (.node (o1_224 P) (.node (o1_352 P) .nil .nil) (.node (o1_480 P) .nil .nil)))) (.node (o0_48 P) (.node (o0_80 P) (.node (o0_144 P) (.node (o1_272 P) (.node (o1_528 P) .nil .nil) .nil) (.node (o1_400 P) .nil .nil)) (.node (o1_208 P) (.node (o1_336 P) .nil .nil) (.node (o1_464 P) .nil .nil))) (.node (o0_112 P) (.node (o0_176 P) (.node (o1_304 P) .nil .nil) (.node (o1_432 P) .nil .nil)) (.node (o1_240 P) (.node (o1_368 P) .nil .nil) (.node (o1_496 P) .nil .nil))))) (.node (o0_24 P) (.node (o0_40 P) (.node (o0_72 P) (.node (o0_136 P) (.node (o1_264 P) (.node (o1_520 P) .nil .nil) .nil) (.node (o1_392 P) .nil .nil)) (.node (o1_200 P) (.node (o1_328 P) .nil .nil) (.node (o1_456 P) .nil .nil))) (.node (o0_104 P) (.node (o0_168 P) (.node (o1_296 P) .nil .nil) (.node (o1_424 P) .nil .nil)) (.node (o1_232 P) (.node (o1_360 P) .nil .nil) (.node (o1_488 P) .nil .nil)))) (.node (o0_56 P) (.node (o0_88 P) (.node (o0_152 P) (.node (o1_280 P) (.node (o1_536 P) .nil .nil) .nil) (.node (o1_408 P) .nil .nil)) (.node (o1_216 P) (.node (o1_344 P) .nil .nil) (.node (o1_472 P) .nil .nil))) (.node (o0_120 P) (.node (o1_184 P) (.node (o1_312 P) .nil .nil) (.node (o1_440 P) .nil .nil)) (.node (o1_248 P) (.node (o1_376 P) .nil .nil) (.node (o1_504 P) .nil .nil)))))) (.node (o1_12 P) (.node (o0_20 P) (.node (o0_36 P) (.node (o0_68 P) (.node (o0_132 P) (.node (o1_260 P) (.node (o1_516 P) .nil .nil) .nil) (.node (o1_388 P) .nil .nil)) (.node (o1_196 P) (.node (o1_324 P) .nil .nil) (.node (o1_452 P) .nil .nil))) (.node (o0_100 P) (.node (o0_164 P) (.node (o1_292 P) .nil .nil) (.node (o1_420 P) .nil .nil)) (.node (o1_228 P) (.node (o1_356 P) .nil .nil) (.node (o1_484 P) .nil .nil)))) (.node (o0_52 P) (.node (o0_84 P) (.node (o0_148 P) (.node (o1_276 P) (.node (o1_532 P) .nil .nil) .nil) (.node (o1_404 P) .nil .nil)) (.node (o1_212 P) (.node (o1_340 P) .nil .nil) (.node (o1_468 P) .nil .nil))) (.node (o0_116 P) (.node (o1_180 P) (.node (o1_308 P) .nil .nil) (.node (o1_436 P) .nil .nil)) (.node (o1_244 P) (.node (o1_372 P) .nil .nil) (.node (o1_500 P) .nil .nil))))) (.node (o0_28 P) (.node (o0_44 P) (.node (o0_76 P) (.node (o0_140 P) (.node (o1_268 P) (.node (o1_524 P) .nil .nil) .nil) (.node (o1_396 P) .nil .nil)) (.node (o1_204 P) (.node (o1_332 P) .nil .nil) (.node (o1_460 P) .nil .nil))) (.node (o0_108 P) (.node (o0_172 P) (.node (o1_300 P) .nil .nil) (.node (o1_428 P) .nil .nil)) (.node (o1_236 P) (.node (o1_364 P) .nil .nil) (.node (o1_492 P) .nil .nil)))) (.node (o0_60 P) (.node (o0_92 P) (.node (o0_156 P) (.node (o1_284 P) (.node (o1_540 P) .nil .nil) .nil) (.node (o1_412 P) .nil .nil)) (.node (o1_220 P) (.node (o1_348 P) .nil .nil) (.node (o1_476 P) .nil .nil))) (.node (o0_124 P) (.node (o1_188 P) (.node (o1_316 P) .nil .nil) (.node (o1_444 P) .nil .nil)) (.node (o1_252 P) (.node (o1_380 P) .nil .nil) (.node (o1_508 P) .nil .nil))))))) (.node (boot_o_6 P) (.node (boot_o_10 P) (.node (o0_18 P) (.node (o0_34 P) (.node (o0_66 P) (.node (o0_130 P) (.node (o1_258 P) (.node (o1_514 P) .nil .nil) .nil) (.node (o1_386 P) .nil .nil)) (.node (o1_194 P) (.node (o1_322 P) .nil .nil) (.node (o1_450 P) .nil .nil))) (.node (o0_98 P) (.node (o0_162 P) (.node (o1_290 P) .nil .nil) (.node (o1_418 P) .nil .nil)) (.node (o1_226 P) (.node (o1_354 P) .nil .nil) (.node (o1_482 P) .nil .nil)))) (.node (o0_50 P) (.node (o0_82 P) (.node (o0_146 P) (.node (o1_274 P) (.node (o1_530 P) .nil .nil) .nil) (.node (o1_402 P) .nil .nil)) (.node (o1_210 P) (.node (o1_338 P) .nil .nil) (.node (o1_466 P) .nil .nil))) (.node (o0_114 P) (.node (o0_178 P) (.node (o1_306 P) .nil .nil) (.node (o1_434 P) .nil .nil)) (.node (o1_242 P) (.node (o1_370 P) .nil .nil) (.node (o1_498 P) .nil .nil))))) (.node (o0_26 P) (.node (o0_42 P) (.node (o0_74 P) (.node (o0_138 P) (.node (o1_266 P) (.node (o1_522 P) .nil .nil) .nil) (.node (o1_394 P) .nil .nil)) (.node (o1_202 P) (.node (o1_330 P) .nil .nil) (.node (o1_458 P) .nil .nil))) (.node (o0_106 P) (.node (o0_170 P) (.node (o1_298 P) .nil .nil) (.node (o1_426 P) .nil .nil)) (.node (o1_234 P) (.node (o1_362 P) .nil .nil) (.node (o1_490 P) .nil .nil)))) (.node (o0_58 P) (.node (o0_90 P) (.node (o0_154 P) (.node (o1_282 P) (.node (o1_538 P) .nil .nil) .nil) (.node (o1_410 P) .nil .nil)) (.node (o1_218 P) (.node (o1_346 P) .nil .nil) (.node (o1_474 P) .nil .nil))) (.node (o0_122 P) (.node (o1_186 P) (.node (o1_314 P) .nil .nil) (.node (o1_442 P) .nil .nil)) (.node (o1_250 P) (.node (o1_378 P) .nil .nil) (.node (o1_506 P) .nil .nil)))))) (.node (oa_14 P) (.node (o0_22 P) (.node (o0_38 P) (.node (o0_70 P) (.node (o0_134 P) (.node (o1_262 P) (.node (o1_518 P) .nil .nil) .nil) (.node (o1_390 P) .nil .nil)) (.node (o1_198 P) (.node (o1_326 P) .nil .nil) (.node (o1_454 P) .nil .nil))) (.node (o0_102 P) (.node (o0_166 P) (.node (o1_294 P) .nil .nil) (.node (o1_422 P) .nil .nil)) (.node (o1_230 P) (.node (o1_358 P) .nil .nil) (.node (o1_486 P) .nil .nil)))) (.node (o0_54 P) (.node (o0_86 P) (.node (o0_150 P) (.node (o1_278 P) (.node (o1_534 P) .nil .nil) .nil) (.node (o1_406 P) .nil .nil)) (.node (o1_214 P) (.node (o1_342 P) .nil .nil) (.node (o1_470 P) .nil .nil))) (.node (o0_118 P) (.node (o1_182 P) (.node (o1_310 P) .nil .nil) (.node (o1_438 P) .nil .nil)) (.node (o1_246 P) (.node (o1_374 P) .nil .nil) (.node (o1_502 P) .nil .nil))))) (.node (o0_30 P) (.node (o0_46 P) (.node (o0_78 P) (.node (o0_142 P) (.node (o1_270 P) (.node (o1_526 P) .nil .nil) .nil) (.node (o1_398 P) .nil .nil)) (.node (o1_206 P) (.node (o1_334 P) .nil .nil) (.node (o1_462 P) .nil .nil))) (.node (o0_110 P) (.node (o0_174 P) (.node (o1_302 P) .nil .nil) (.node (o1_430 P) .nil .nil)) (.node (o1_238 P) (.node (o1_366 P) .nil .nil) (.node (o1_494 P) .nil .nil)))) (.node (o0_62 P) (.node (o0_94 P) (.node (o0_158 P) (.node (o1_286 P) (.node (o1_542 P) .nil .nil) .nil) (.node (o1_414 P) .nil .nil)) (.node (o1_222 P) (.node (o1_350 P) .nil .nil) (.node (o1_478 P) .nil .nil))) (.node (o0_126 P) (.node (o1_190 P) (.node (o1_318 P) .nil .nil) (.node (o1_446 P) .nil .nil)) (.node (o1_254 P) (.node (o1_382 P) .nil .nil) (.node (o1_510 P) .nil .nil)))))))))
def S1 (w : World) (os : OsState) : SharedT := ⟨t1 w.params, 546, {}, #[], {}, 909, os⟩
def p1 : Pos := ⟨330, 0, 330, 8⟩
def o2_3 (P : Params) : Obj := ⟨(.type "dict"), none, (.dict #[⟨PyData.keyHash P ("__name__" : Str), (.str ("__name__" : Str) 165), (.str ("law_rosterneed_k28_whole_makers_of_tables" : Str) 1036)⟩, ⟨PyData.keyHash P ("__doc__" : Str), (.str ("__doc__" : Str) 166), .none⟩, ⟨PyData.keyHash P ("__package__" : Str), (.str ("__package__" : Str) 167), .none⟩, ⟨PyData.keyHash P ("__loader__" : Str), (.str ("__loader__" : Str) 168), (.builtin "__main__.__loader__#opaque")⟩, ⟨PyData.keyHash P ("__spec__" : Str), (.str ("__spec__" : Str) 169), .none⟩, ⟨PyData.keyHash P ("__annotations__" : Str), (.str ("__annotations__" : Str) 170), (.ref 6)⟩, ⟨PyData.keyHash P ("__builtins__" : Str), (.str ("__builtins__" : Str) 171), (.ref 4)⟩, ⟨PyData.keyHash P ("__file__" : Str), (.str ("__file__" : Str) 173), (.str ("/claim/cut.py" : Str) 172)⟩, ⟨PyData.keyHash P ("__cached__" : Str), (.str ("__cached__" : Str) 174), .none⟩, ⟨PyData.keyHash P ("_wall" : Str), (.str ("_wall" : Str) 193), (.ref 21)⟩, ⟨PyData.keyHash P ("RosterneedError" : Str), (.str ("RosterneedError" : Str) 213), (.ref 31)⟩, ⟨PyData.keyHash P ("WrongThing" : Str), (.str ("WrongThing" : Str) 240), (.ref 53)⟩, ⟨PyData.keyHash P ("WrongWord" : Str), (.str ("WrongWord" : Str) 267), (.ref 74)⟩, ⟨PyData.keyHash P ("WrongNumber" : Str), (.str ("WrongNumber" : Str) 294), (.ref 95)⟩, ⟨PyData.keyHash P ("TooMany" : Str), (.str ("TooMany" : Str) 321), (.ref 116)⟩, ⟨PyData.keyHash P ("BadCount" : Str), (.str ("BadCount" : Str) 337), (.ref 128)⟩, ⟨PyData.keyHash P ("BadInlet" : Str), (.str ("BadInlet" : Str) 353), (.ref 140)⟩, ⟨PyData.keyHash P ("BadCourse" : Str), (.str ("BadCourse" : Str) 369), (.ref 152)⟩, ⟨PyData.keyHash P ("BadTable" : Str), (.str ("BadTable" : Str) 385), (.ref 164)⟩, ⟨PyData.keyHash P ("BadMaker" : Str), (.str ("BadMaker" : Str) 401), (.ref 176)⟩, ⟨PyData.keyHash P ("BadTables" : Str), (.str ("BadTables" : Str) 417), (.ref 188)⟩, ⟨PyData.keyHash P ("is_integer" : Str), (.str ("is_integer" : Str) 426), (.ref 197)⟩, ⟨PyData.keyHash P ("is_count" : Str), (.str ("is_count" : Str) 433), (.ref 204)⟩, ⟨PyData.keyHash P ("is_listed" : Str), (.str ("is_listed" : Str) 440), (.ref 211)⟩, ⟨PyData.keyHash P ("is_counts" : Str), (.str ("is_counts" : Str) 446), (.ref 216)⟩, ⟨PyData.keyHash P ("deep" : Str), (.str ("deep" : Str) 452), (.ref 221)⟩, ⟨PyData.keyHash P ("at_most" : Str), (.str ("at_most" : Str) 460), (.ref 228)⟩, ⟨PyData.keyHash P ("greater_of" : Str), (.str ("greater_of" : Str) 468), (.ref 235)⟩, ⟨PyData.keyHash P ("lesser_of" : Str), (.str ("lesser_of" : Str) 476), (.ref 242)⟩, ⟨PyData.keyHash P ("common_divisor" : Str), (.str ("common_divisor" : Str) 484), (.ref 249)⟩, ⟨PyData.keyHash P ("common_multiple" : Str), (.str ("common_multiple" : Str) 492), (.ref 256)⟩, ⟨PyData.keyHash P ("end_of" : Str), (.str ("end_of" : Str) 504), (.ref 263)⟩, ⟨PyData.keyHash P ("value_at" : Str), (.str ("value_at" : Str) 516), (.ref 270)⟩, ⟨PyData.keyHash P ("short_loop" : Str), (.str ("short_loop" : Str) 522), (.ref 275)⟩, ⟨PyData.keyHash P ("plain_form" : Str), (.str ("plain_form" : Str) 528), (.ref 280)⟩, ⟨PyData.keyHash P ("formed" : Str), (.str ("formed" : Str) 538), (.ref 287)⟩, ⟨PyData.keyHash P ("until_never" : Str), (.str ("until_never" : Str) 547), (.ref 294)⟩, ⟨PyData.keyHash P ("first_beyond" : Str), (.str ("first_beyond" : Str) 558), (.ref 301)⟩, ⟨PyData.keyHash P ("behind_raw" : Str), (.str ("behind_raw" : Str) 564), (.ref 306)⟩, ⟨PyData.keyHash P ("later_start" : Str), (.str ("later_start" : Str) 582), (.ref 313)⟩, ⟨PyData.keyHash P ("joined_values" : Str), (.str ("joined_values" : Str) 596), (.ref 320)⟩, ⟨PyData.keyHash P ("joined_raw" : Str), (.str ("joined_raw" : Str) 602), (.ref 325)⟩, ⟨PyData.keyHash P ("counts_below" : Str), (.str ("counts_below" : Str) 614), (.ref 332)⟩, ⟨PyData.keyHash P ("turned_raw" : Str), (.str ("turned_raw" : Str) 625), (.ref 339)⟩, ⟨PyData.keyHash P ("is_rising" : Str), (.str ("is_rising" : Str) 633), (.ref 344)⟩, ⟨PyData.keyHash P ("checked_table" : Str), (.str ("checked_table" : Str) 642), (.ref 351)⟩, ⟨PyData.keyHash P ("Table" : Str), (.str ("Table" : Str) 776), (.ref 453)⟩, ⟨PyData.keyHash P ("table_from" : Str), (.str ("table_from" : Str) 783), (.ref 464)⟩, ⟨PyData.keyHash P ("GIVE" : Str), (.str ("GIVE" : Str) 787), (.str ("give" : Str) 786)⟩, ⟨PyData.keyHash P ("MOST_INLETS" : Str), (.str ("MOST_INLETS" : Str) 789), (.int 3 788)⟩, ⟨PyData.keyHash P ("MOST_WAYS" : Str), (.str ("MOST_WAYS" : Str) 791), (.int 4 790)⟩, ⟨PyData.keyHash P ("MOST_DEEDS" : Str), (.str ("MOST_DEEDS" : Str) 793), (.int 600 792)⟩, ⟨PyData.keyHash P ("MOST_DEEDS_EACH" : Str), (.str ("MOST_DEEDS_EACH" : Str) 795), (.int 24 794)⟩, ⟨PyData.keyHash P ("MOST_FIRST" : Str), (.str ("MOST_FIRST" : Str) 797), (.int 200 796)⟩, ⟨PyData.keyHash P ("MOST_THEN" : Str), (.str ("MOST_THEN" : Str) 799), (.int 40 798)⟩, ⟨PyData.keyHash P ("is_deed" : Str), (.str ("is_deed" : Str) 807), (.ref 471)⟩, ⟨PyData.keyHash P ("is_deeds" : Str), (.str ("is_deeds" : Str) 813), (.ref 476)⟩, ⟨PyData.keyHash P ("is_ways" : Str), (.str ("is_ways" : Str) 819), (.ref 481)⟩, ⟨PyData.keyHash P ("is_way_numbers" : Str), (.str ("is_way_numbers" : Str) 825), (.ref 486)⟩, ⟨PyData.keyHash P ("is_course" : Str), (.str ("is_course" : Str) 834), (.ref 493)⟩, ⟨PyData.keyHash P ("takes_ahead" : Str), (.str ("takes_ahead" : Str) 845), (.ref 500)⟩, ⟨PyData.keyHash P ("check_inlet" : Str), (.str ("check_inlet" : Str) 853), (.ref 507)⟩, ⟨PyData.keyHash P ("need_on" : Str), (.str ("need_on" : Str) 859), (.ref 512)⟩, ⟨PyData.keyHash P ("Maker" : Str), (.str ("Maker" : Str) 906), (.ref 541)⟩, ⟨PyData.keyHash P ("Rounds" : Str), (.str ("Rounds" : Str) 995), (.ref 595)⟩, ⟨PyData.keyHash P ("extreme" : Str), (.str ("extreme" : Str) 1001), (.ref 604)⟩, ⟨PyData.keyHash P ("least" : Str), (.str ("least" : Str) 1009), (.ref 611)⟩, ⟨PyData.keyHash P ("greatest" : Str), (.str ("greatest" : Str) 1017), (.ref 618)⟩, ⟨PyData.keyHash P ("check_lengths" : Str), (.str ("check_lengths" : Str) 1023), (.ref 623)⟩, ⟨PyData.keyHash P ("deeds_to" : Str), (.str ("deeds_to" : Str) 1029), (.ref 628)⟩, ⟨PyData.keyHash P ("maker_of" : Str), (.str ("maker_of" : Str) 1035), (.ref 633)⟩, ⟨PyData.keyHash P ("_law_source" : Str), (.str ("_law_source" : Str) 1049), (.ref 640)⟩, ⟨PyData.keyHash P ("_law_pick" : Str), (.str ("_law_pick" : Str) 1059), (.ref 647)⟩, ⟨PyData.keyHash P ("_law_is_integer" : Str), (.str ("_law_is_integer" : Str) 1066), (.ref 654)⟩, ⟨PyData.keyHash P ("_law_is_count" : Str), (.str ("_law_is_count" : Str) 1073), (.ref 661)⟩, ⟨PyData.keyHash P ("_law_rising" : Str), (.str ("_law_rising" : Str) 1086), (.ref 668)⟩, ⟨PyData.keyHash P ("_law_raw" : Str), (.str ("_law_raw" : Str) 1100), (.ref 675)⟩, ⟨PyData.keyHash P ("_law_end" : Str), (.str ("_law_end" : Str) 1107), (.ref 682)⟩, ⟨PyData.keyHash P ("_law_at" : Str), (.str ("_law_at" : Str) 1116), (.ref 689)⟩, ⟨PyData.keyHash P ("_law_plain" : Str), (.str ("_law_plain" : Str) 1122), (.ref 694)⟩, ⟨PyData.keyHash P ("_law_counts" : Str), (.str ("_law_counts" : Str) 1131), (.ref 701)⟩, ⟨PyData.keyHash P ("_law_same" : Str), (.str ("_law_same" : Str) 1137), (.ref 706)⟩, ⟨PyData.keyHash P ("_law_table" : Str), (.str ("_law_table" : Str) 1144), (.ref 713)⟩, ⟨PyData.keyHash P ("_law_ahead" : Str), (.str ("_law_ahead" : Str) 1155), (.ref 720)⟩, ⟨PyData.keyHash P ("_law_on" : Str), (.str ("_law_on" : Str) 1161), (.ref 725)⟩, ⟨PyData.keyHash P ("_law_ended" : Str), (.str ("_law_ended" : Str) 1167), (.ref 730)⟩, ⟨PyData.keyHash P ("_law_tables" : Str), (.str ("_law_tables" : Str) 1173), (.ref 735)⟩, ⟨PyData.keyHash P ("_law_seen" : Str), (.str ("_law_seen" : Str) 1181), (.ref 742)⟩, ⟨PyData.keyHash P ("law" : Str), (.str ("law" : Str) 1187), (.ref 747)⟩] 89), #[]⟩
def o2_12 (P : Params) : Obj := ⟨.none, none, (.fields #[(.int 1 0), (.int 0 0), (.ref 20), (.int 5 0), (.int 0 0), (.ref 27), (.int 7 0), (.int 0 0), (.ref 41), (.int 12 0), (.int 0 0), (.ref 62), (.int 17 0), (.int 0 0), (.ref 83), (.int 22 0), (.int 0 0), (.ref 104), (.int 27 0), (.int 0 0), (.ref 124), (.int 29 0), (.int 0 0), (.ref 136), (.int 31 0), (.int 0 0), (.ref 148), (.int 33 0), (.int 0 0), (.ref 160), (.int 35 0), (.int 0 0), (.ref 172), (.int 37 0), (.int 0 0), (.ref 184), (.int 40 0), (.int 0 0), (.ref 196), (.int 42 0), (.int 0 0), (.ref 203), (.int 44 0), (.int 0 0), (.ref 210), (.int 46 0), (.int 0 0), (.ref 215), (.int 48 0), (.int 0 0), (.ref 220), (.int 52 0), (.int 0 0), (.ref 227), (.int 54 0), (.int 0 0), (.ref 234), (.int 56 0), (.int 0 0), (.ref 241), (.int 58 0), (.int 0 0), (.ref 248), (.int 62 0), (.int 0 0), (.ref 255), (.int 65 0), (.int 0 0), (.ref 262), (.int 70 0), (.int 0 0), (.ref 269), (.int 82 0), (.int 0 0), (.ref 274), (.int 89 0), (.int 0 0), (.ref 279), (.int 101 0), (.int 0 0), (.ref 286), (.int 104 0), (.int 0 0), (.ref 293), (.int 111 0), (.int 0 0), (.ref 300), (.int 118 0), (.int 0 0), (.ref 305), (.int 136 0), (.int 0 0), (.ref 312), (.int 150 0), (.int 0 0), (.ref 319), (.int 156 0), (.int 0 0), (.ref 324), (.int 171 0), (.int 0 0), (.ref 331), (.int 181 0), (.int 0 0), (.ref 338), (.int 190 0), (.int 0 0), (.ref 343), (.int 192 0), (.int 0 0), (.ref 350), (.int 204 0), (.int 0 0), (.ref 357), (.int 253 0), (.int 0 0), (.ref 463), (.int 263 0), (.int 0 0), (.ref 470), (.int 267 0), (.int 0 0), (.ref 475), (.int 269 0), (.int 0 0), (.ref 480), (.int 273 0), (.int 0 0), (.ref 485), (.int 277 0), (.int 0 0), (.ref 492), (.int 282 0), (.int 0 0), (.ref 499), (.int 291 0), (.int 0 0), (.ref 506), (.int 294 0), (.int 0 0), (.ref 511), (.int 306 0), (.int 0 0), (.ref 518), (.int 331 0), (.int 0 0), (.ref 551), (.int 388 0), (.int 0 0), (.ref 603), (.int 401 0), (.int 0 0), (.ref 610), (.int 404 0), (.int 0 0), (.ref 617), (.int 407 0), (.int 0 0), (.ref 622), (.int 411 0), (.int 0 0), (.ref 627), (.int 420 0), (.int 0 0), (.ref 632), (.int 447 0), (.int 0 0), (.ref 639), (.int 458 0), (.int 0 0), (.ref 646), (.int 469 0), (.int 0 0), (.ref 653), (.int 471 0), (.int 0 0), (.ref 660), (.int 473 0), (.int 0 0), (.ref 667), (.int 480 0), (.int 0 0), (.ref 674), (.int 492 0), (.int 0 0), (.ref 681), (.int 496 0), (.int 0 0), (.ref 688), (.int 507 0), (.int 0 0), (.ref 693), (.int 524 0), (.int 0 0), (.ref 700), (.int 531 0), (.int 0 0), (.ref 705), (.int 539 0), (.int 0 0), (.ref 712), (.int 541 0), (.int 0 0), (.ref 719), (.int 550 0), (.int 0 0), (.ref 724), (.int 560 0), (.int 0 0), (.ref 729), (.int 563 0), (.int 0 0), (.ref 734), (.int 575 0), (.int 0 0), (.ref 741), (.int 583 0), (.int 0 0), (.ref 746)]), #[]⟩
def o2_546 (P : Params) : Obj := ⟨(.type "tuple"), none, (.seq #[] 0), #[]⟩
def o2_547 (P : Params) : Obj := ⟨(.type "builtin_function_or_method"), none, (.fields #[(.builtin "type.__prepare__"), (.type "type")]), #[]⟩
def o2_548 (P : Params) : Obj := ⟨(.type "dict"), none, (.dict #[⟨PyData.keyHash P ("__module__" : Str), (.str ("__module__" : Str) 916), (.str ("rosterneed.courses" : Str) 907)⟩, ⟨PyData.keyHash P ("__qualname__" : Str), (.str ("__qualname__" : Str) 918), (.str ("Rounds" : Str) 917)⟩, ⟨PyData.keyHash P ("__firstlineno__" : Str), (.str ("__firstlineno__" : Str) 920), (.int 331 919)⟩, ⟨PyData.keyHash P ("__init__" : Str), (.str ("__init__" : Str) 926), (.ref 557)⟩, ⟨PyData.keyHash P ("is_better" : Str), (.str ("is_better" : Str) 935), (.ref 564)⟩, ⟨PyData.keyHash P ("fill" : Str), (.str ("fill" : Str) 948), (.ref 571)⟩, ⟨PyData.keyHash P ("last_round" : Str), (.str ("last_round" : Str) 963), (.ref 578)⟩, ⟨PyData.keyHash P ("rounds_to" : Str), (.str ("rounds_to" : Str) 971), (.ref 585)⟩, ⟨PyData.keyHash P ("lasting" : Str), (.str ("lasting" : Str) 980), (.ref 592)⟩, ⟨PyData.keyHash P ("__static_attributes__" : Str), (.str ("__static_attributes__" : Str) 988), (.ref 593)⟩] 10), #[]⟩
def o2_549 (P : Params) : Obj := ⟨(.type "tuple"), none, (.seq #[] 0), #[]⟩
def o2_550 (P : Params) : Obj := ⟨.none, none, (.fields #[(.int 333 0), (.int 4 0), (.ref 556), (.int 344 0), (.int 4 0), (.ref 563), (.int 349 0), (.int 4 0), (.ref 570), (.int 363 0), (.int 4 0), (.ref 577), (.int 377 0), (.int 4 0), (.ref 584), (.int 380 0), (.int 4 0), (.ref 591)]), #[]⟩
def o2_551 (P : Params) : Obj := ⟨(.type "code"), none, (.fields #[(.str ("Rounds" : Str) 911), (.str ("Rounds" : Str) 912), (.str ("/claim/cut.py" : Str) 913), (.int 331 0), (.int 0 0), (.int 0 0), (.int 0 0), (.int 0 0), (.ref 549), (.bool false), (.int 181 0), (.ref 550), .none, .none, .none, .none, (.int 914 0), (.int 331 0), (.str ("/claim/cut.py" : Str) 915)]), #[]⟩
def o2_552 (P : Params) : Obj := ⟨(.type "frame"), none, .plain, #[(some (.ref 551)), (some (.ref 3)), (some (.ref 548)), none, (some (.str ("rosterneed.courses" : Str) 907)), none, (some (.ref 0))]⟩
def o2_553 (P : Params) : Obj := ⟨(.type "tuple"), none, (.seq #[] 0), #[]⟩
def o2_554 (P : Params) : Obj := ⟨.none, none, (.fields #[]), #[]⟩
def o2_555 (P : Params) : Obj := ⟨.none, none, (.func { name := ("__init__" : Str), qualname := ("Rounds.__init__" : Str), params := defArgs tp61_0, body := .stmts (defBody tp61_0), scope := defScope tp61_0, globals := 0, closure := [], defaults := .none, kwdefaults := .none, doc := .none, pyModule := .none, annotations := none, code := .none, closureTuple := .none, builtins := 0 }), #[]⟩
def o2_556 (P : Params) : Obj := ⟨(.type "code"), none, (.fields #[(.str ("__init__" : Str) 921), (.str ("Rounds.__init__" : Str) 922), (.str ("/claim/cut.py" : Str) 923), (.int 333 0), (.int 4 0), (.int 0 0), (.int 0 0), (.int 3 0), (.ref 553), (.bool true), (.int 181 0), (.ref 554), .none, .none, .none, (.ref 555), (.int 924 0), (.int 333 0), (.str ("/claim/cut.py" : Str) 925)]), #[]⟩
def o2_557 (P : Params) : Obj := ⟨(.type "function"), none, (.func { name := ("__init__" : Str), qualname := ("Rounds.__init__" : Str), params := defArgs tp61_0, body := .stmts (defBody tp61_0), scope := defScope tp61_0, globals := 3, closure := [], defaults := .none, kwdefaults := .none, doc := .none, pyModule := (.str ("rosterneed.courses" : Str) 907), annotations := none, code := (.ref 556), closureTuple := .none, builtins := 0 }), #[]⟩
def o2_558 (P : Params) : Obj := ⟨(.type "tuple"), none, (.seq #[] 0), #[]⟩
def o2_559 (P : Params) : Obj := ⟨.none, none, (.fields #[]), #[]⟩
def o2_560 (P : Params) : Obj := ⟨(.type "tuple"), none, (.seq #[(.str ("self" : Str) 930), (.str ("one" : Str) 931), (.str ("other" : Str) 932)] 0), #[]⟩
def o2_561 (P : Params) : Obj := ⟨(.type "tuple"), none, (.seq #[] 0), #[]⟩
def o2_562 (P : Params) : Obj := ⟨.none, none, (.func { name := ("is_better" : Str), qualname := ("Rounds.is_better" : Str), params := defArgs tp61_1, body := .stmts (defBody tp61_1), scope := defScope tp61_1, globals := 0, closure := [], defaults := .none, kwdefaults := .none, doc := .none, pyModule := .none, annotations := none, code := .none, closureTuple := .none, builtins := 0 }), #[]⟩
def o2_563 (P : Params) : Obj := ⟨(.type "code"), none, (.fields #[(.str ("is_better" : Str) 927), (.str ("Rounds.is_better" : Str) 928), (.str ("/claim/cut.py" : Str) 929), (.int 344 0), (.int 3 0), (.int 0 0), (.int 0 0), (.int 3 0), (.ref 558), (.bool true), (.int 181 0), (.ref 559), .none, (.ref 560), (.ref 561), (.ref 562), (.int 933 0), (.int 344 0), (.str ("/claim/cut.py" : Str) 934)]), #[]⟩
def o2_564 (P : Params) : Obj := ⟨(.type "function"), none, (.func { name := ("is_better" : Str), qualname := ("Rounds.is_better" : Str), params := defArgs tp61_1, body := .stmts (defBody tp61_1), scope := defScope tp61_1, globals := 3, closure := [], defaults := .none, kwdefaults := .none, doc := .none, pyModule := (.str ("rosterneed.courses" : Str) 907), annotations := none, code := (.ref 563), closureTuple := .none, builtins := 0 }), #[]⟩
def o2_565 (P : Params) : Obj := ⟨(.type "tuple"), none, (.seq #[] 0), #[]⟩
def o2_566 (P : Params) : Obj := ⟨.none, none, (.fields #[]), #[]⟩
def o2_567 (P : Params) : Obj := ⟨(.type "tuple"), none, (.seq #[(.str ("self" : Str) 939), (.str ("gives" : Str) 940), (.str ("best" : Str) 941), (.str ("chosen" : Str) 942), (.str ("way" : Str) 943), (.str ("rest" : Str) 944), (.str ("total" : Str) 945)] 0), #[]⟩
def o2_568 (P : Params) : Obj := ⟨(.type "tuple"), none, (.seq #[] 0), #[]⟩
def o2_569 (P : Params) : Obj := ⟨.none, none, (.func { name := ("fill" : Str), qualname := ("Rounds.fill" : Str), params := defArgs tp61_2, body := .stmts (defBody tp61_2), scope := defScope tp61_2, globals := 0, closure := [], defaults := .none, kwdefaults := .none, doc := .none, pyModule := .none, annotations := none, code := .none, closureTuple := .none, builtins := 0 }), #[]⟩
def o2_570 (P : Params) : Obj := ⟨(.type "code"), none, (.fields #[(.str ("fill" : Str) 936), (.str ("Rounds.fill" : Str) 937), (.str ("/claim/cut.py" : Str) 938), (.int 349 0), (.int 2 0), (.int 0 0), (.int 0 0), (.int 3 0), (.ref 565), (.bool true), (.int 181 0), (.ref 566), .none, (.ref 567), (.ref 568), (.ref 569), (.int 946 0), (.int 349 0), (.str ("/claim/cut.py" : Str) 947)]), #[]⟩
def o2_571 (P : Params) : Obj := ⟨(.type "function"), none, (.func { name := ("fill" : Str), qualname := ("Rounds.fill" : Str), params := defArgs tp61_2, body := .stmts (defBody tp61_2), scope := defScope tp61_2, globals := 3, closure := [], defaults := .none, kwdefaults := .none, doc := .none, pyModule := (.str ("rosterneed.courses" : Str) 907), annotations := none, code := (.ref 570), closureTuple := .none, builtins := 0 }), #[]⟩
def o2_572 (P : Params) : Obj := ⟨(.type "tuple"), none, (.seq #[] 0), #[]⟩
def o2_573 (P : Params) : Obj := ⟨.none, none, (.fields #[]), #[]⟩
def o2_574 (P : Params) : Obj := ⟨(.type "tuple"), none, (.seq #[(.str ("self" : Str) 952), (.str ("piece" : Str) 953), (.str ("wanted" : Str) 954), (.str ("found" : Str) 955), (.str ("way" : Str) 956), (.str ("place" : Str) 957), (.str ("taken" : Str) 958), (.str ("rest" : Str) 959), (.str ("value" : Str) 960)] 0), #[]⟩
def o2_575 (P : Params) : Obj := ⟨(.type "tuple"), none, (.seq #[] 0), #[]⟩
def o2_576 (P : Params) : Obj := ⟨.none, none, (.func { name := ("last_round" : Str), qualname := ("Rounds.last_round" : Str), params := defArgs tp61_3, body := .stmts (defBody tp61_3), scope := defScope tp61_3, globals := 0, closure := [], defaults := .none, kwdefaults := .none, doc := .none, pyModule := .none, annotations := none, code := .none, closureTuple := .none, builtins := 0 }), #[]⟩
def o2_577 (P : Params) : Obj := ⟨(.type "code"), none, (.fields #[(.str ("last_round" : Str) 949), (.str ("Rounds.last_round" : Str) 950), (.str ("/claim/cut.py" : Str) 951), (.int 363 0), (.int 2 0), (.int 0 0), (.int 0 0), (.int 3 0), (.ref 572), (.bool true), (.int 181 0), (.ref 573), .none, (.ref 574), (.ref 575), (.ref 576), (.int 961 0), (.int 363 0), (.str ("/claim/cut.py" : Str) 962)]), #[]⟩
def o2_578 (P : Params) : Obj := ⟨(.type "function"), none, (.func { name := ("last_round" : Str), qualname := ("Rounds.last_round" : Str), params := defArgs tp61_3, body := .stmts (defBody tp61_3), scope := defScope tp61_3, globals := 3, closure := [], defaults := .none, kwdefaults := .none, doc := .none, pyModule := (.str ("rosterneed.courses" : Str) 907), annotations := none, code := (.ref 577), closureTuple := .none, builtins := 0 }), #[]⟩
def o2_579 (P : Params) : Obj := ⟨(.type "tuple"), none, (.seq #[] 0), #[]⟩
def o2_580 (P : Params) : Obj := ⟨.none, none, (.fields #[]), #[]⟩
def o2_581 (P : Params) : Obj := ⟨(.type "tuple"), none, (.seq #[(.str ("self" : Str) 967), (.str ("gives" : Str) 968)] 0), #[]⟩
def o2_582 (P : Params) : Obj := ⟨(.type "tuple"), none, (.seq #[] 0), #[]⟩
def o2_583 (P : Params) : Obj := ⟨.none, none, (.func { name := ("rounds_to" : Str), qualname := ("Rounds.rounds_to" : Str), params := defArgs tp61_4, body := .stmts (defBody tp61_4), scope := defScope tp61_4, globals := 0, closure := [], defaults := .none, kwdefaults := .none, doc := .none, pyModule := .none, annotations := none, code := .none, closureTuple := .none, builtins := 0 }), #[]⟩
def o2_584 (P : Params) : Obj := ⟨(.type "code"), none, (.fields #[(.str ("rounds_to" : Str) 964), (.str ("Rounds.rounds_to" : Str) 965), (.str ("/claim/cut.py" : Str) 966), (.int 377 0), (.int 2 0), (.int 0 0), (.int 0 0), (.int 3 0), (.ref 579), (.bool true), (.int 181 0), (.ref 580), .none, (.ref 581), (.ref 582), (.ref 583), (.int 969 0), (.int 377 0), (.str ("/claim/cut.py" : Str) 970)]), #[]⟩
def o2_585 (P : Params) : Obj := ⟨(.type "function"), none, (.func { name := ("rounds_to" : Str), qualname := ("Rounds.rounds_to" : Str), params := defArgs tp61_4, body := .stmts (defBody tp61_4), scope := defScope tp61_4, globals := 3, closure := [], defaults := .none, kwdefaults := .none, doc := .none, pyModule := (.str ("rosterneed.courses" : Str) 907), annotations := none, code := (.ref 584), closureTuple := .none, builtins := 0 }), #[]⟩
def o2_586 (P : Params) : Obj := ⟨(.type "tuple"), none, (.seq #[] 0), #[]⟩
def o2_587 (P : Params) : Obj := ⟨.none, none, (.fields #[]), #[]⟩
def o2_588 (P : Params) : Obj := ⟨(.type "tuple"), none, (.seq #[(.str ("self" : Str) 975), (.str ("best" : Str) 976), (.str ("way" : Str) 977)] 0), #[]⟩
def o2_589 (P : Params) : Obj := ⟨(.type "tuple"), none, (.seq #[] 0), #[]⟩
def o2_590 (P : Params) : Obj := ⟨.none, none, (.func { name := ("lasting" : Str), qualname := ("Rounds.lasting" : Str), params := defArgs tp61_5, body := .stmts (defBody tp61_5), scope := defScope tp61_5, globals := 0, closure := [], defaults := .none, kwdefaults := .none, doc := .none, pyModule := .none, annotations := none, code := .none, closureTuple := .none, builtins := 0 }), #[]⟩
def o2_591 (P : Params) : Obj := ⟨(.type "code"), none, (.fields #[(.str ("lasting" : Str) 972), (.str ("Rounds.lasting" : Str) 973), (.str ("/claim/cut.py" : Str) 974), (.int 380 0), (.int 1 0), (.int 0 0), (.int 0 0), (.int 3 0), (.ref 586), (.bool true), (.int 181 0), (.ref 587), .none, (.ref 588), (.ref 589), (.ref 590), (.int 978 0), (.int 380 0), (.str ("/claim/cut.py" : Str) 979)]), #[]⟩
def o2_592 (P : Params) : Obj := ⟨(.type "function"), none, (.func { name := ("lasting" : Str), qualname := ("Rounds.lasting" : Str), params := defArgs tp61_5, body := .stmts (defBody tp61_5), scope := defScope tp61_5, globals := 3, closure := [], defaults := .none, kwdefaults := .none, doc := .none, pyModule := (.str ("rosterneed.courses" : Str) 907), annotations := none, code := (.ref 591), closureTuple := .none, builtins := 0 }), #[]⟩
def o2_593 (P : Params) : Obj := ⟨(.type "tuple"), none, (.seq #[(.str ("begun" : Str) 981), (.str ("giving" : Str) 982), (.str ("most" : Str) 983), (.str ("stops" : Str) 984), (.str ("taken" : Str) 985), (.str ("totals" : Str) 986), (.str ("ways" : Str) 987)] 0), #[]⟩
def o2_594 (P : Params) : Obj := ⟨(.type "dict"), none, (.dict #[⟨PyData.keyHash P ("__module__" : Str), (.str ("__module__" : Str) 916), (.str ("rosterneed.courses" : Str) 907)⟩, ⟨PyData.keyHash P ("__firstlineno__" : Str), (.str ("__firstlineno__" : Str) 920), (.int 331 919)⟩, ⟨PyData.keyHash P ("__init__" : Str), (.str ("__init__" : Str) 926), (.ref 557)⟩, ⟨PyData.keyHash P ("is_better" : Str), (.str ("is_better" : Str) 935), (.ref 564)⟩, ⟨PyData.keyHash P ("fill" : Str), (.str ("fill" : Str) 948), (.ref 571)⟩, ⟨PyData.keyHash P ("last_round" : Str), (.str ("last_round" : Str) 963), (.ref 578)⟩, ⟨PyData.keyHash P ("rounds_to" : Str), (.str ("rounds_to" : Str) 971), (.ref 585)⟩, ⟨PyData.keyHash P ("lasting" : Str), (.str ("lasting" : Str) 980), (.ref 592)⟩, ⟨PyData.keyHash P ("__static_attributes__" : Str), (.str ("__static_attributes__" : Str) 988), (.ref 593)⟩, ⟨PyData.keyHash P ("__dict__" : Str), (.str ("__dict__" : Str) 990), (.ref 596)⟩, ⟨PyData.keyHash P ("__weakref__" : Str), (.str ("__weakref__" : Str) 992), (.ref 597)⟩, ⟨PyData.keyHash P ("__doc__" : Str), (.str ("__doc__" : Str) 993), .none⟩] 4), #[]⟩
def o2_595 (P : Params) : Obj := ⟨(.type "type"), none, (.cls { name := ("Rounds" : Str), bases := [(.type "object")], mro := [(.ref 595), (.type "object")], ns := 594, qualname := ("Rounds" : Str), hasDict := true, slotNames := [], subclasses := [], abstract := false, collection := none, hasDel := false }), #[none, none, (some (.str ("Rounds" : Str) 909)), (some (.str ("Rounds" : Str) 917)), (some (.builtin "object.__new__")), (some (.bool true))]⟩
def o2_596 (P : Params) : Obj := ⟨(.type "getset_descriptor"), none, (.fields #[(.str ("__dict__" : Str) 989), (.ref 595), (.builtin "function.__dict__"), (.builtin "function.__dict__#set")]), #[]⟩
def o2_597 (P : Params) : Obj := ⟨(.type "getset_descriptor"), none, (.fields #[(.str ("__weakref__" : Str) 991), (.ref 595), (.builtin "ExceptionGroup.__weakref__"), .none]), #[]⟩
def o2_598 (P : Params) : Obj := ⟨(.type "super"), none, (.fields #[(.ref 595), (.ref 595), (.ref 595)]), #[]⟩
def o2_599 (P : Params) : Obj := ⟨(.type "builtin_function_or_method"), none, (.fields #[(.builtin "object.__init_subclass__"), (.ref 595)]), #[]⟩
def o2_600 (P : Params) : Obj := ⟨(.type "tuple"), none, (.seq #[] 0), #[]⟩
def o2_601 (P : Params) : Obj := ⟨.none, none, (.fields #[]), #[]⟩
def o2_602 (P : Params) : Obj := ⟨.none, none, (.func { name := ("extreme" : Str), qualname := ("extreme" : Str), params := defArgs tp62, body := .stmts (defBody tp62), scope := defScope tp62, globals := 0, closure := [], defaults := .none, kwdefaults := .none, doc := .none, pyModule := .none, annotations := none, code := .none, closureTuple := .none, builtins := 0 }), #[]⟩
def o2_603 (P : Params) : Obj := ⟨(.type "code"), none, (.fields #[(.str ("extreme" : Str) 996), (.str ("extreme" : Str) 997), (.str ("/claim/cut.py" : Str) 998), (.int 388 0), (.int 3 0), (.int 0 0), (.int 0 0), (.int 3 0), (.ref 600), (.bool true), (.int 181 0), (.ref 601), .none, .none, .none, (.ref 602), (.int 999 0), (.int 388 0), (.str ("/claim/cut.py" : Str) 1000)]), #[]⟩
def o2_604 (P : Params) : Obj := ⟨(.type "function"), none, (.func { name := ("extreme" : Str), qualname := ("extreme" : Str), params := defArgs tp62, body := .stmts (defBody tp62), scope := defScope tp62, globals := 3, closure := [], defaults := .none, kwdefaults := .none, doc := .none, pyModule := (.str ("rosterneed.courses" : Str) 907), annotations := none, code := (.ref 603), closureTuple := .none, builtins := 0 }), #[]⟩
def o2_605 (P : Params) : Obj := ⟨(.type "tuple"), none, (.seq #[] 0), #[]⟩
def o2_606 (P : Params) : Obj := ⟨.none, none, (.fields #[]), #[]⟩
def o2_607 (P : Params) : Obj := ⟨(.type "tuple"), none, (.seq #[(.str ("maker" : Str) 1005), (.str ("inlet" : Str) 1006)] 0), #[]⟩
def o2_608 (P : Params) : Obj := ⟨(.type "tuple"), none, (.seq #[] 0), #[]⟩
def o2_609 (P : Params) : Obj := ⟨.none, none, (.func { name := ("least" : Str), qualname := ("least" : Str), params := defArgs tp63, body := .stmts (defBody tp63), scope := defScope tp63, globals := 0, closure := [], defaults := .none, kwdefaults := .none, doc := .none, pyModule := .none, annotations := none, code := .none, closureTuple := .none, builtins := 0 }), #[]⟩
def o2_610 (P : Params) : Obj := ⟨(.type "code"), none, (.fields #[(.str ("least" : Str) 1002), (.str ("least" : Str) 1003), (.str ("/claim/cut.py" : Str) 1004), (.int 401 0), (.int 2 0), (.int 0 0), (.int 0 0), (.int 3 0), (.ref 605), (.bool true), (.int 181 0), (.ref 606), .none, (.ref 607), (.ref 608), (.ref 609), (.int 1007 0), (.int 401 0), (.str ("/claim/cut.py" : Str) 1008)]), #[]⟩
def o2_611 (P : Params) : Obj := ⟨(.type "function"), none, (.func { name := ("least" : Str), qualname := ("least" : Str), params := defArgs tp63, body := .stmts (defBody tp63), scope := defScope tp63, globals := 3, closure := [], defaults := .none, kwdefaults := .none, doc := .none, pyModule := (.str ("rosterneed.courses" : Str) 907), annotations := none, code := (.ref 610), closureTuple := .none, builtins := 0 }), #[]⟩
def o2_612 (P : Params) : Obj := ⟨(.type "tuple"), none, (.seq #[] 0), #[]⟩
def o2_613 (P : Params) : Obj := ⟨.none, none, (.fields #[]), #[]⟩
def o2_614 (P : Params) : Obj := ⟨(.type "tuple"), none, (.seq #[(.str ("maker" : Str) 1013), (.str ("inlet" : Str) 1014)] 0), #[]⟩
def o2_615 (P : Params) : Obj := ⟨(.type "tuple"), none, (.seq #[] 0), #[]⟩
def o2_616 (P : Params) : Obj := ⟨.none, none, (.func { name := ("greatest" : Str), qualname := ("greatest" : Str), params := defArgs tp64, body := .stmts (defBody tp64), scope := defScope tp64, globals := 0, closure := [], defaults := .none, kwdefaults := .none, doc := .none, pyModule := .none, annotations := none, code := .none, closureTuple := .none, builtins := 0 }), #[]⟩
def o2_617 (P : Params) : Obj := ⟨(.type "code"), none, (.fields #[(.str ("greatest" : Str) 1010), (.str ("greatest" : Str) 1011), (.str ("/claim/cut.py" : Str) 1012), (.int 404 0), (.int 2 0), (.int 0 0), (.int 0 0), (.int 3 0), (.ref 612), (.bool true), (.int 181 0), (.ref 613), .none, (.ref 614), (.ref 615), (.ref 616), (.int 1015 0), (.int 404 0), (.str ("/claim/cut.py" : Str) 1016)]), #[]⟩
def o2_618 (P : Params) : Obj := ⟨(.type "function"), none, (.func { name := ("greatest" : Str), qualname := ("greatest" : Str), params := defArgs tp64, body := .stmts (defBody tp64), scope := defScope tp64, globals := 3, closure := [], defaults := .none, kwdefaults := .none, doc := .none, pyModule := (.str ("rosterneed.courses" : Str) 907), annotations := none, code := (.ref 617), closureTuple := .none, builtins := 0 }), #[]⟩
def o2_619 (P : Params) : Obj := ⟨(.type "tuple"), none, (.seq #[] 0), #[]⟩
def o2_620 (P : Params) : Obj := ⟨.none, none, (.fields #[]), #[]⟩
def o2_621 (P : Params) : Obj := ⟨.none, none, (.func { name := ("check_lengths" : Str), qualname := ("check_lengths" : Str), params := defArgs tp65, body := .stmts (defBody tp65), scope := defScope tp65, globals := 0, closure := [], defaults := .none, kwdefaults := .none, doc := .none, pyModule := .none, annotations := none, code := .none, closureTuple := .none, builtins := 0 }), #[]⟩
def o2_622 (P : Params) : Obj := ⟨(.type "code"), none, (.fields #[(.str ("check_lengths" : Str) 1018), (.str ("check_lengths" : Str) 1019), (.str ("/claim/cut.py" : Str) 1020), (.int 407 0), (.int 1 0), (.int 0 0), (.int 0 0), (.int 3 0), (.ref 619), (.bool true), (.int 181 0), (.ref 620), .none, .none, .none, (.ref 621), (.int 1021 0), (.int 407 0), (.str ("/claim/cut.py" : Str) 1022)]), #[]⟩
def o2_623 (P : Params) : Obj := ⟨(.type "function"), none, (.func { name := ("check_lengths" : Str), qualname := ("check_lengths" : Str), params := defArgs tp65, body := .stmts (defBody tp65), scope := defScope tp65, globals := 3, closure := [], defaults := .none, kwdefaults := .none, doc := .none, pyModule := (.str ("rosterneed.courses" : Str) 907), annotations := none, code := (.ref 622), closureTuple := .none, builtins := 0 }), #[]⟩
def o2_624 (P : Params) : Obj := ⟨(.type "tuple"), none, (.seq #[] 0), #[]⟩
def o2_625 (P : Params) : Obj := ⟨.none, none, (.fields #[]), #[]⟩
def o2_626 (P : Params) : Obj := ⟨.none, none, (.func { name := ("deeds_to" : Str), qualname := ("deeds_to" : Str), params := defArgs tp66, body := .stmts (defBody tp66), scope := defScope tp66, globals := 0, closure := [], defaults := .none, kwdefaults := .none, doc := .none, pyModule := .none, annotations := none, code := .none, closureTuple := .none, builtins := 0 }), #[]⟩
def o2_627 (P : Params) : Obj := ⟨(.type "code"), none, (.fields #[(.str ("deeds_to" : Str) 1024), (.str ("deeds_to" : Str) 1025), (.str ("/claim/cut.py" : Str) 1026), (.int 411 0), (.int 3 0), (.int 0 0), (.int 0 0), (.int 3 0), (.ref 624), (.bool true), (.int 181 0), (.ref 625), .none, .none, .none, (.ref 626), (.int 1027 0), (.int 411 0), (.str ("/claim/cut.py" : Str) 1028)]), #[]⟩
def o2_628 (P : Params) : Obj := ⟨(.type "function"), none, (.func { name := ("deeds_to" : Str), qualname := ("deeds_to" : Str), params := defArgs tp66, body := .stmts (defBody tp66), scope := defScope tp66, globals := 3, closure := [], defaults := .none, kwdefaults := .none, doc := .none, pyModule := (.str ("rosterneed.courses" : Str) 907), annotations := none, code := (.ref 627), closureTuple := .none, builtins := 0 }), #[]⟩
def o2_629 (P : Params) : Obj := ⟨(.type "tuple"), none, (.seq #[] 0), #[]⟩
def o2_630 (P : Params) : Obj := ⟨.none, none, (.fields #[]), #[]⟩
def o2_631 (P : Params) : Obj := ⟨.none, none, (.func { name := ("maker_of" : Str), qualname := ("maker_of" : Str), params := defArgs tp67, body := .stmts (defBody tp67), scope := defScope tp67, globals := 0, closure := [], defaults := .none, kwdefaults := .none, doc := .none, pyModule := .none, annotations := none, code := .none, closureTuple := .none, builtins := 0 }), #[]⟩
def o2_632 (P : Params) : Obj := ⟨(.type "code"), none, (.fields #[(.str ("maker_of" : Str) 1030), (.str ("maker_of" : Str) 1031), (.str ("/claim/cut.py" : Str) 1032), (.int 420 0), (.int 1 0), (.int 0 0), (.int 0 0), (.int 3 0), (.ref 629), (.bool true), (.int 181 0), (.ref 630), .none, .none, .none, (.ref 631), (.int 1033 0), (.int 420 0), (.str ("/claim/cut.py" : Str) 1034)]), #[]⟩
def o2_633 (P : Params) : Obj := ⟨(.type "function"), none, (.func { name := ("maker_of" : Str), qualname := ("maker_of" : Str), params := defArgs tp67, body := .stmts (defBody tp67), scope := defScope tp67, globals := 3, closure := [], defaults := .none, kwdefaults := .none, doc := .none, pyModule := (.str ("rosterneed.courses" : Str) 907), annotations := none, code := (.ref 632), closureTuple := .none, builtins := 0 }), #[]⟩
def o2_634 (P : Params) : Obj := ⟨(.type "tuple"), none, (.seq #[] 0), #[]⟩
def o2_635 (P : Params) : Obj := ⟨.none, none, (.fields #[]), #[]⟩
def o2_636 (P : Params) : Obj := ⟨(.type "tuple"), none, (.seq #[(.str ("script" : Str) 1041), (.str ("place" : Str) 1042), (.str ("cell" : Str) 1043), (.str ("seed" : Str) 1044), (.str ("one" : Str) 1045), (.str ("number" : Str) 1046)] 0), #[]⟩
def o2_637 (P : Params) : Obj := ⟨(.type "tuple"), none, (.seq #[] 0), #[]⟩
def o2_638 (P : Params) : Obj := ⟨.none, none, (.func { name := ("_law_source" : Str), qualname := ("_law_source" : Str), params := defArgs tp69, body := .stmts (defBody tp69), scope := defScope tp69, globals := 0, closure := [], defaults := .none, kwdefaults := .none, doc := .none, pyModule := .none, annotations := none, code := .none, closureTuple := .none, builtins := 0 }), #[]⟩
def o2_639 (P : Params) : Obj := ⟨(.type "code"), none, (.fields #[(.str ("_law_source" : Str) 1038), (.str ("_law_source" : Str) 1039), (.str ("/claim/cut.py" : Str) 1040), (.int 447 0), (.int 2 0), (.int 0 0), (.int 0 0), (.int 3 0), (.ref 634), (.bool true), (.int 181 0), (.ref 635), .none, (.ref 636), (.ref 637), (.ref 638), (.int 1047 0), (.int 447 0), (.str ("/claim/cut.py" : Str) 1048)]), #[]⟩
def o2_640 (P : Params) : Obj := ⟨(.type "function"), none, (.func { name := ("_law_source" : Str), qualname := ("_law_source" : Str), params := defArgs tp69, body := .stmts (defBody tp69), scope := defScope tp69, globals := 3, closure := [], defaults := .none, kwdefaults := .none, doc := .none, pyModule := (.str ("law_rosterneed_k28_whole_makers_of_tables" : Str) 1036), annotations := none, code := (.ref 639), closureTuple := .none, builtins := 0 }), #[]⟩
def o2_641 (P : Params) : Obj := ⟨(.type "tuple"), none, (.seq #[] 0), #[]⟩
def o2_642 (P : Params) : Obj := ⟨.none, none, (.fields #[]), #[]⟩
def o2_643 (P : Params) : Obj := ⟨(.type "tuple"), none, (.seq #[(.str ("source" : Str) 1053), (.str ("many" : Str) 1054), (.str ("digit" : Str) 1055), (.str ("value" : Str) 1056)] 0), #[]⟩
def o2_644 (P : Params) : Obj := ⟨(.type "tuple"), none, (.seq #[] 0), #[]⟩
def o2_645 (P : Params) : Obj := ⟨.none, none, (.func { name := ("_law_pick" : Str), qualname := ("_law_pick" : Str), params := defArgs tp70, body := .stmts (defBody tp70), scope := defScope tp70, globals := 0, closure := [], defaults := .none, kwdefaults := .none, doc := .none, pyModule := .none, annotations := none, code := .none, closureTuple := .none, builtins := 0 }), #[]⟩
def o2_646 (P : Params) : Obj := ⟨(.type "code"), none, (.fields #[(.str ("_law_pick" : Str) 1050), (.str ("_law_pick" : Str) 1051), (.str ("/claim/cut.py" : Str) 1052), (.int 458 0), (.int 2 0), (.int 0 0), (.int 0 0), (.int 3 0), (.ref 641), (.bool true), (.int 181 0), (.ref 642), .none, (.ref 643), (.ref 644), (.ref 645), (.int 1057 0), (.int 458 0), (.str ("/claim/cut.py" : Str) 1058)]), #[]⟩
def o2_647 (P : Params) : Obj := ⟨(.type "function"), none, (.func { name := ("_law_pick" : Str), qualname := ("_law_pick" : Str), params := defArgs tp70, body := .stmts (defBody tp70), scope := defScope tp70, globals := 3, closure := [], defaults := .none, kwdefaults := .none, doc := .none, pyModule := (.str ("law_rosterneed_k28_whole_makers_of_tables" : Str) 1036), annotations := none, code := (.ref 646), closureTuple := .none, builtins := 0 }), #[]⟩
def o2_648 (P : Params) : Obj := ⟨(.type "tuple"), none, (.seq #[] 0), #[]⟩
def o2_649 (P : Params) : Obj := ⟨.none, none, (.fields #[]), #[]⟩
def o2_650 (P : Params) : Obj := ⟨(.type "tuple"), none, (.seq #[(.str ("thing" : Str) 1063)] 0), #[]⟩
def o2_651 (P : Params) : Obj := ⟨(.type "tuple"), none, (.seq #[] 0), #[]⟩
def o2_652 (P : Params) : Obj := ⟨.none, none, (.func { name := ("_law_is_integer" : Str), qualname := ("_law_is_integer" : Str), params := defArgs tp71, body := .stmts (defBody tp71), scope := defScope tp71, globals := 0, closure := [], defaults := .none, kwdefaults := .none, doc := .none, pyModule := .none, annotations := none, code := .none, closureTuple := .none, builtins := 0 }), #[]⟩
def o2_653 (P : Params) : Obj := ⟨(.type "code"), none, (.fields #[(.str ("_law_is_integer" : Str) 1060), (.str ("_law_is_integer" : Str) 1061), (.str ("/claim/cut.py" : Str) 1062), (.int 469 0), (.int 1 0), (.int 0 0), (.int 0 0), (.int 3 0), (.ref 648), (.bool true), (.int 181 0), (.ref 649), .none, (.ref 650), (.ref 651), (.ref 652), (.int 1064 0), (.int 469 0), (.str ("/claim/cut.py" : Str) 1065)]), #[]⟩
def o2_654 (P : Params) : Obj := ⟨(.type "function"), none, (.func { name := ("_law_is_integer" : Str), qualname := ("_law_is_integer" : Str), params := defArgs tp71, body := .stmts (defBody tp71), scope := defScope tp71, globals := 3, closure := [], defaults := .none, kwdefaults := .none, doc := .none, pyModule := (.str ("law_rosterneed_k28_whole_makers_of_tables" : Str) 1036), annotations := none, code := (.ref 653), closureTuple := .none, builtins := 0 }), #[]⟩
def o2_655 (P : Params) : Obj := ⟨(.type "tuple"), none, (.seq #[] 0), #[]⟩
def o2_656 (P : Params) : Obj := ⟨.none, none, (.fields #[]), #[]⟩
def o2_657 (P : Params) : Obj := ⟨(.type "tuple"), none, (.seq #[(.str ("thing" : Str) 1070)] 0), #[]⟩
def o2_658 (P : Params) : Obj := ⟨(.type "tuple"), none, (.seq #[] 0), #[]⟩
def o2_659 (P : Params) : Obj := ⟨.none, none, (.func { name := ("_law_is_count" : Str), qualname := ("_law_is_count" : Str), params := defArgs tp72, body := .stmts (defBody tp72), scope := defScope tp72, globals := 0, closure := [], defaults := .none, kwdefaults := .none, doc := .none, pyModule := .none, annotations := none, code := .none, closureTuple := .none, builtins := 0 }), #[]⟩
def o2_660 (P : Params) : Obj := ⟨(.type "code"), none, (.fields #[(.str ("_law_is_count" : Str) 1067), (.str ("_law_is_count" : Str) 1068), (.str ("/claim/cut.py" : Str) 1069), (.int 471 0), (.int 1 0), (.int 0 0), (.int 0 0), (.int 3 0), (.ref 655), (.bool true), (.int 181 0), (.ref 656), .none, (.ref 657), (.ref 658), (.ref 659), (.int 1071 0), (.int 471 0), (.str ("/claim/cut.py" : Str) 1072)]), #[]⟩
def o2_661 (P : Params) : Obj := ⟨(.type "function"), none, (.func { name := ("_law_is_count" : Str), qualname := ("_law_is_count" : Str), params := defArgs tp72, body := .stmts (defBody tp72), scope := defScope tp72, globals := 3, closure := [], defaults := .none, kwdefaults := .none, doc := .none, pyModule := (.str ("law_rosterneed_k28_whole_makers_of_tables" : Str) 1036), annotations := none, code := (.ref 660), closureTuple := .none, builtins := 0 }), #[]⟩
def o2_662 (P : Params) : Obj := ⟨(.type "tuple"), none, (.seq #[] 0), #[]⟩
def o2_663 (P : Params) : Obj := ⟨.none, none, (.fields #[]), #[]⟩
def o2_664 (P : Params) : Obj := ⟨(.type "tuple"), none, (.seq #[(.str ("source" : Str) 1077), (.str ("many" : Str) 1078), (.str ("low" : Str) 1079), (.str ("steps" : Str) 1080), (.str ("told" : Str) 1081), (.str ("value" : Str) 1082), (.str ("k" : Str) 1083)] 0), #[]⟩
def o2_665 (P : Params) : Obj := ⟨(.type "tuple"), none, (.seq #[] 0), #[]⟩
def o2_666 (P : Params) : Obj := ⟨.none, none, (.func { name := ("_law_rising" : Str), qualname := ("_law_rising" : Str), params := defArgs tp73, body := .stmts (defBody tp73), scope := defScope tp73, globals := 0, closure := [], defaults := .none, kwdefaults := .none, doc := .none, pyModule := .none, annotations := none, code := .none, closureTuple := .none, builtins := 0 }), #[]⟩
def o2_667 (P : Params) : Obj := ⟨(.type "code"), none, (.fields #[(.str ("_law_rising" : Str) 1074), (.str ("_law_rising" : Str) 1075), (.str ("/claim/cut.py" : Str) 1076), (.int 473 0), (.int 4 0), (.int 0 0), (.int 0 0), (.int 3 0), (.ref 662), (.bool true), (.int 181 0), (.ref 663), .none, (.ref 664), (.ref 665), (.ref 666), (.int 1084 0), (.int 473 0), (.str ("/claim/cut.py" : Str) 1085)]), #[]⟩
def o2_668 (P : Params) : Obj := ⟨(.type "function"), none, (.func { name := ("_law_rising" : Str), qualname := ("_law_rising" : Str), params := defArgs tp73, body := .stmts (defBody tp73), scope := defScope tp73, globals := 3, closure := [], defaults := .none, kwdefaults := .none, doc := .none, pyModule := (.str ("law_rosterneed_k28_whole_makers_of_tables" : Str) 1036), annotations := none, code := (.ref 667), closureTuple := .none, builtins := 0 }), #[]⟩
def o2_669 (P : Params) : Obj := ⟨(.type "tuple"), none, (.seq #[] 0), #[]⟩
def o2_670 (P : Params) : Obj := ⟨.none, none, (.fields #[]), #[]⟩
def o2_671 (P : Params) : Obj := ⟨(.type "tuple"), none, (.seq #[(.str ("source" : Str) 1090), (.str ("steady" : Str) 1091), (.str ("head" : Str) 1092), (.str ("low" : Str) 1093), (.str ("many" : Str) 1094), (.str ("loop" : Str) 1095), (.str ("more" : Str) 1096), (.str ("rise" : Str) 1097)] 0), #[]⟩
def o2_672 (P : Params) : Obj := ⟨(.type "tuple"), none, (.seq #[] 0), #[]⟩
def o2_673 (P : Params) : Obj := ⟨.none, none, (.func { name := ("_law_raw" : Str), qualname := ("_law_raw" : Str), params := defArgs tp74, body := .stmts (defBody tp74), scope := defScope tp74, globals := 0, closure := [], defaults := .none, kwdefaults := .none, doc := .none, pyModule := .none, annotations := none, code := .none, closureTuple := .none, builtins := 0 }), #[]⟩
def o2_674 (P : Params) : Obj := ⟨(.type "code"), none, (.fields #[(.str ("_law_raw" : Str) 1087), (.str ("_law_raw" : Str) 1088), (.str ("/claim/cut.py" : Str) 1089), (.int 480 0), (.int 2 0), (.int 0 0), (.int 0 0), (.int 3 0), (.ref 669), (.bool true), (.int 181 0), (.ref 670), .none, (.ref 671), (.ref 672), (.ref 673), (.int 1098 0), (.int 480 0), (.str ("/claim/cut.py" : Str) 1099)]), #[]⟩
def o2_675 (P : Params) : Obj := ⟨(.type "function"), none, (.func { name := ("_law_raw" : Str), qualname := ("_law_raw" : Str), params := defArgs tp74, body := .stmts (defBody tp74), scope := defScope tp74, globals := 3, closure := [], defaults := .none, kwdefaults := .none, doc := .none, pyModule := (.str ("law_rosterneed_k28_whole_makers_of_tables" : Str) 1036), annotations := none, code := (.ref 674), closureTuple := .none, builtins := 0 }), #[]⟩
def o2_676 (P : Params) : Obj := ⟨(.type "tuple"), none, (.seq #[] 0), #[]⟩
def o2_677 (P : Params) : Obj := ⟨.none, none, (.fields #[]), #[]⟩
def o2_678 (P : Params) : Obj := ⟨(.type "tuple"), none, (.seq #[(.str ("raw" : Str) 1104)] 0), #[]⟩
def o2_679 (P : Params) : Obj := ⟨(.type "tuple"), none, (.seq #[] 0), #[]⟩
def o2_680 (P : Params) : Obj := ⟨.none, none, (.func { name := ("_law_end" : Str), qualname := ("_law_end" : Str), params := defArgs tp75, body := .stmts (defBody tp75), scope := defScope tp75, globals := 0, closure := [], defaults := .none, kwdefaults := .none, doc := .none, pyModule := .none, annotations := none, code := .none, closureTuple := .none, builtins := 0 }), #[]⟩
def o2_681 (P : Params) : Obj := ⟨(.type "code"), none, (.fields #[(.str ("_law_end" : Str) 1101), (.str ("_law_end" : Str) 1102), (.str ("/claim/cut.py" : Str) 1103), (.int 492 0), (.int 1 0), (.int 0 0), (.int 0 0), (.int 3 0), (.ref 676), (.bool true), (.int 181 0), (.ref 677), .none, (.ref 678), (.ref 679), (.ref 680), (.int 1105 0), (.int 492 0), (.str ("/claim/cut.py" : Str) 1106)]), #[]⟩
def o2_682 (P : Params) : Obj := ⟨(.type "function"), none, (.func { name := ("_law_end" : Str), qualname := ("_law_end" : Str), params := defArgs tp75, body := .stmts (defBody tp75), scope := defScope tp75, globals := 3, closure := [], defaults := .none, kwdefaults := .none, doc := .none, pyModule := (.str ("law_rosterneed_k28_whole_makers_of_tables" : Str) 1036), annotations := none, code := (.ref 681), closureTuple := .none, builtins := 0 }), #[]⟩
def o2_683 (P : Params) : Obj := ⟨(.type "tuple"), none, (.seq #[] 0), #[]⟩
def o2_684 (P : Params) : Obj := ⟨.none, none, (.fields #[]), #[]⟩
def o2_685 (P : Params) : Obj := ⟨(.type "tuple"), none, (.seq #[(.str ("raw" : Str) 1111), (.str ("place" : Str) 1112), (.str ("rest" : Str) 1113)] 0), #[]⟩
def o2_686 (P : Params) : Obj := ⟨(.type "tuple"), none, (.seq #[] 0), #[]⟩
def o2_687 (P : Params) : Obj := ⟨.none, none, (.func { name := ("_law_at" : Str), qualname := ("_law_at" : Str), params := defArgs tp76, body := .stmts (defBody tp76), scope := defScope tp76, globals := 0, closure := [], defaults := .none, kwdefaults := .none, doc := .none, pyModule := .none, annotations := none, code := .none, closureTuple := .none, builtins := 0 }), #[]⟩
def o2_688 (P : Params) : Obj := ⟨(.type "code"), none, (.fields #[(.str ("_law_at" : Str) 1108), (.str ("_law_at" : Str) 1109), (.str ("/claim/cut.py" : Str) 1110), (.int 496 0), (.int 2 0), (.int 0 0), (.int 0 0), (.int 3 0), (.ref 683), (.bool true), (.int 181 0), (.ref 684), .none, (.ref 685), (.ref 686), (.ref 687), (.int 1114 0), (.int 496 0), (.str ("/claim/cut.py" : Str) 1115)]), #[]⟩
def o2_689 (P : Params) : Obj := ⟨(.type "function"), none, (.func { name := ("_law_at" : Str), qualname := ("_law_at" : Str), params := defArgs tp76, body := .stmts (defBody tp76), scope := defScope tp76, globals := 3, closure := [], defaults := .none, kwdefaults := .none, doc := .none, pyModule := (.str ("law_rosterneed_k28_whole_makers_of_tables" : Str) 1036), annotations := none, code := (.ref 688), closureTuple := .none, builtins := 0 }), #[]⟩
def o2_690 (P : Params) : Obj := ⟨(.type "tuple"), none, (.seq #[] 0), #[]⟩
def o2_691 (P : Params) : Obj := ⟨.none, none, (.fields #[]), #[]⟩
def o2_692 (P : Params) : Obj := ⟨.none, none, (.func { name := ("_law_plain" : Str), qualname := ("_law_plain" : Str), params := defArgs tp77, body := .stmts (defBody tp77), scope := defScope tp77, globals := 0, closure := [], defaults := .none, kwdefaults := .none, doc := .none, pyModule := .none, annotations := none, code := .none, closureTuple := .none, builtins := 0 }), #[]⟩
def o2_693 (P : Params) : Obj := ⟨(.type "code"), none, (.fields #[(.str ("_law_plain" : Str) 1117), (.str ("_law_plain" : Str) 1118), (.str ("/claim/cut.py" : Str) 1119), (.int 507 0), (.int 3 0), (.int 0 0), (.int 0 0), (.int 3 0), (.ref 690), (.bool true), (.int 181 0), (.ref 691), .none, .none, .none, (.ref 692), (.int 1120 0), (.int 507 0), (.str ("/claim/cut.py" : Str) 1121)]), #[]⟩
def o2_694 (P : Params) : Obj := ⟨(.type "function"), none, (.func { name := ("_law_plain" : Str), qualname := ("_law_plain" : Str), params := defArgs tp77, body := .stmts (defBody tp77), scope := defScope tp77, globals := 3, closure := [], defaults := .none, kwdefaults := .none, doc := .none, pyModule := (.str ("law_rosterneed_k28_whole_makers_of_tables" : Str) 1036), annotations := none, code := (.ref 693), closureTuple := .none, builtins := 0 }), #[]⟩
def o2_695 (P : Params) : Obj := ⟨(.type "tuple"), none, (.seq #[] 0), #[]⟩
def o2_696 (P : Params) : Obj := ⟨.none, none, (.fields #[]), #[]⟩
def o2_697 (P : Params) : Obj := ⟨(.type "tuple"), none, (.seq #[(.str ("values" : Str) 1126), (.str ("told" : Str) 1127), (.str ("value" : Str) 1128)] 0), #[]⟩
def o2_698 (P : Params) : Obj := ⟨(.type "tuple"), none, (.seq #[] 0), #[]⟩
def o2_699 (P : Params) : Obj := ⟨.none, none, (.func { name := ("_law_counts" : Str), qualname := ("_law_counts" : Str), params := defArgs tp78, body := .stmts (defBody tp78), scope := defScope tp78, globals := 0, closure := [], defaults := .none, kwdefaults := .none, doc := .none, pyModule := .none, annotations := none, code := .none, closureTuple := .none, builtins := 0 }), #[]⟩
def o2_700 (P : Params) : Obj := ⟨(.type "code"), none, (.fields #[(.str ("_law_counts" : Str) 1123), (.str ("_law_counts" : Str) 1124), (.str ("/claim/cut.py" : Str) 1125), (.int 524 0), (.int 1 0), (.int 0 0), (.int 0 0), (.int 3 0), (.ref 695), (.bool true), (.int 181 0), (.ref 696), .none, (.ref 697), (.ref 698), (.ref 699), (.int 1129 0), (.int 524 0), (.str ("/claim/cut.py" : Str) 1130)]), #[]⟩
def o2_701 (P : Params) : Obj := ⟨(.type "function"), none, (.func { name := ("_law_counts" : Str), qualname := ("_law_counts" : Str), params := defArgs tp78, body := .stmts (defBody tp78), scope := defScope tp78, globals := 3, closure := [], defaults := .none, kwdefaults := .none, doc := .none, pyModule := (.str ("law_rosterneed_k28_whole_makers_of_tables" : Str) 1036), annotations := none, code := (.ref 700), closureTuple := .none, builtins := 0 }), #[]⟩
def o2_702 (P : Params) : Obj := ⟨(.type "tuple"), none, (.seq #[] 0), #[]⟩
def o2_703 (P : Params) : Obj := ⟨.none, none, (.fields #[]), #[]⟩
def o2_704 (P : Params) : Obj := ⟨.none, none, (.func { name := ("_law_same" : Str), qualname := ("_law_same" : Str), params := defArgs tp79, body := .stmts (defBody tp79), scope := defScope tp79, globals := 0, closure := [], defaults := .none, kwdefaults := .none, doc := .none, pyModule := .none, annotations := none, code := .none, closureTuple := .none, builtins := 0 }), #[]⟩
def o2_705 (P : Params) : Obj := ⟨(.type "code"), none, (.fields #[(.str ("_law_same" : Str) 1132), (.str ("_law_same" : Str) 1133), (.str ("/claim/cut.py" : Str) 1134), (.int 531 0), (.int 2 0), (.int 0 0), (.int 0 0), (.int 3 0), (.ref 702), (.bool true), (.int 181 0), (.ref 703), .none, .none, .none, (.ref 704), (.int 1135 0), (.int 531 0), (.str ("/claim/cut.py" : Str) 1136)]), #[]⟩
def o2_706 (P : Params) : Obj := ⟨(.type "function"), none, (.func { name := ("_law_same" : Str), qualname := ("_law_same" : Str), params := defArgs tp79, body := .stmts (defBody tp79), scope := defScope tp79, globals := 3, closure := [], defaults := .none, kwdefaults := .none, doc := .none, pyModule := (.str ("law_rosterneed_k28_whole_makers_of_tables" : Str) 1036), annotations := none, code := (.ref 705), closureTuple := .none, builtins := 0 }), #[]⟩
def o2_707 (P : Params) : Obj := ⟨(.type "tuple"), none, (.seq #[] 0), #[]⟩
def o2_708 (P : Params) : Obj := ⟨.none, none, (.fields #[]), #[]⟩
def o2_709 (P : Params) : Obj := ⟨(.type "tuple"), none, (.seq #[(.str ("raw" : Str) 1141)] 0), #[]⟩
def o2_710 (P : Params) : Obj := ⟨(.type "tuple"), none, (.seq #[] 0), #[]⟩
def o2_711 (P : Params) : Obj := ⟨.none, none, (.func { name := ("_law_table" : Str), qualname := ("_law_table" : Str), params := defArgs tp80, body := .stmts (defBody tp80), scope := defScope tp80, globals := 0, closure := [], defaults := .none, kwdefaults := .none, doc := .none, pyModule := .none, annotations := none, code := .none, closureTuple := .none, builtins := 0 }), #[]⟩
def o2_712 (P : Params) : Obj := ⟨(.type "code"), none, (.fields #[(.str ("_law_table" : Str) 1138), (.str ("_law_table" : Str) 1139), (.str ("/claim/cut.py" : Str) 1140), (.int 539 0), (.int 1 0), (.int 0 0), (.int 0 0), (.int 3 0), (.ref 707), (.bool true), (.int 181 0), (.ref 708), .none, (.ref 709), (.ref 710), (.ref 711), (.int 1142 0), (.int 539 0), (.str ("/claim/cut.py" : Str) 1143)]), #[]⟩
def o2_713 (P : Params) : Obj := ⟨(.type "function"), none, (.func { name := ("_law_table" : Str), qualname := ("_law_table" : Str), params := defArgs tp80, body := .stmts (defBody tp80), scope := defScope tp80, globals := 3, closure := [], defaults := .none, kwdefaults := .none, doc := .none, pyModule := (.str ("law_rosterneed_k28_whole_makers_of_tables" : Str) 1036), annotations := none, code := (.ref 712), closureTuple := .none, builtins := 0 }), #[]⟩
def o2_714 (P : Params) : Obj := ⟨(.type "tuple"), none, (.seq #[] 0), #[]⟩
def o2_715 (P : Params) : Obj := ⟨.none, none, (.fields #[]), #[]⟩
def o2_716 (P : Params) : Obj := ⟨(.type "tuple"), none, (.seq #[(.str ("deeds" : Str) 1148), (.str ("inlet" : Str) 1149), (.str ("told" : Str) 1150), (.str ("taken" : Str) 1151), (.str ("deed" : Str) 1152)] 0), #[]⟩
def o2_717 (P : Params) : Obj := ⟨(.type "tuple"), none, (.seq #[] 0), #[]⟩
def o2_718 (P : Params) : Obj := ⟨.none, none, (.func { name := ("_law_ahead" : Str), qualname := ("_law_ahead" : Str), params := defArgs tp81, body := .stmts (defBody tp81), scope := defScope tp81, globals := 0, closure := [], defaults := .none, kwdefaults := .none, doc := .none, pyModule := .none, annotations := none, code := .none, closureTuple := .none, builtins := 0 }), #[]⟩
def o2_719 (P : Params) : Obj := ⟨(.type "code"), none, (.fields #[(.str ("_law_ahead" : Str) 1145), (.str ("_law_ahead" : Str) 1146), (.str ("/claim/cut.py" : Str) 1147), (.int 541 0), (.int 2 0), (.int 0 0), (.int 0 0), (.int 3 0), (.ref 714), (.bool true), (.int 181 0), (.ref 715), .none, (.ref 716), (.ref 717), (.ref 718), (.int 1153 0), (.int 541 0), (.str ("/claim/cut.py" : Str) 1154)]), #[]⟩
def o2_720 (P : Params) : Obj := ⟨(.type "function"), none, (.func { name := ("_law_ahead" : Str), qualname := ("_law_ahead" : Str), params := defArgs tp81, body := .stmts (defBody tp81), scope := defScope tp81, globals := 3, closure := [], defaults := .none, kwdefaults := .none, doc := .none, pyModule := (.str ("law_rosterneed_k28_whole_makers_of_tables" : Str) 1036), annotations := none, code := (.ref 719), closureTuple := .none, builtins := 0 }), #[]⟩
def o2_721 (P : Params) : Obj := ⟨(.type "tuple"), none, (.seq #[] 0), #[]⟩
def o2_722 (P : Params) : Obj := ⟨.none, none, (.fields #[]), #[]⟩
def o2_723 (P : Params) : Obj := ⟨.none, none, (.func { name := ("_law_on" : Str), qualname := ("_law_on" : Str), params := defArgs tp82, body := .stmts (defBody tp82), scope := defScope tp82, globals := 0, closure := [], defaults := .none, kwdefaults := .none, doc := .none, pyModule := .none, annotations := none, code := .none, closureTuple := .none, builtins := 0 }), #[]⟩
def o2_724 (P : Params) : Obj := ⟨(.type "code"), none, (.fields #[(.str ("_law_on" : Str) 1156), (.str ("_law_on" : Str) 1157), (.str ("/claim/cut.py" : Str) 1158), (.int 550 0), (.int 3 0), (.int 0 0), (.int 0 0), (.int 3 0), (.ref 721), (.bool true), (.int 181 0), (.ref 722), .none, .none, .none, (.ref 723), (.int 1159 0), (.int 550 0), (.str ("/claim/cut.py" : Str) 1160)]), #[]⟩
def o2_725 (P : Params) : Obj := ⟨(.type "function"), none, (.func { name := ("_law_on" : Str), qualname := ("_law_on" : Str), params := defArgs tp82, body := .stmts (defBody tp82), scope := defScope tp82, globals := 3, closure := [], defaults := .none, kwdefaults := .none, doc := .none, pyModule := (.str ("law_rosterneed_k28_whole_makers_of_tables" : Str) 1036), annotations := none, code := (.ref 724), closureTuple := .none, builtins := 0 }), #[]⟩
def o2_726 (P : Params) : Obj := ⟨(.type "tuple"), none, (.seq #[] 0), #[]⟩
def o2_727 (P : Params) : Obj := ⟨.none, none, (.fields #[]), #[]⟩
def o2_728 (P : Params) : Obj := ⟨.none, none, (.func { name := ("_law_ended" : Str), qualname := ("_law_ended" : Str), params := defArgs tp83, body := .stmts (defBody tp83), scope := defScope tp83, globals := 0, closure := [], defaults := .none, kwdefaults := .none, doc := .none, pyModule := .none, annotations := none, code := .none, closureTuple := .none, builtins := 0 }), #[]⟩
def o2_729 (P : Params) : Obj := ⟨(.type "code"), none, (.fields #[(.str ("_law_ended" : Str) 1162), (.str ("_law_ended" : Str) 1163), (.str ("/claim/cut.py" : Str) 1164), (.int 560 0), (.int 3 0), (.int 0 0), (.int 0 0), (.int 3 0), (.ref 726), (.bool true), (.int 181 0), (.ref 727), .none, .none, .none, (.ref 728), (.int 1165 0), (.int 560 0), (.str ("/claim/cut.py" : Str) 1166)]), #[]⟩
def o2_730 (P : Params) : Obj := ⟨(.type "function"), none, (.func { name := ("_law_ended" : Str), qualname := ("_law_ended" : Str), params := defArgs tp83, body := .stmts (defBody tp83), scope := defScope tp83, globals := 3, closure := [], defaults := .none, kwdefaults := .none, doc := .none, pyModule := (.str ("law_rosterneed_k28_whole_makers_of_tables" : Str) 1036), annotations := none, code := (.ref 729), closureTuple := .none, builtins := 0 }), #[]⟩
def o2_731 (P : Params) : Obj := ⟨(.type "tuple"), none, (.seq #[] 0), #[]⟩
def o2_732 (P : Params) : Obj := ⟨.none, none, (.fields #[]), #[]⟩
def o2_733 (P : Params) : Obj := ⟨.none, none, (.func { name := ("_law_tables" : Str), qualname := ("_law_tables" : Str), params := defArgs tp84, body := .stmts (defBody tp84), scope := defScope tp84, globals := 0, closure := [], defaults := .none, kwdefaults := .none, doc := .none, pyModule := .none, annotations := none, code := .none, closureTuple := .none, builtins := 0 }), #[]⟩
def o2_734 (P : Params) : Obj := ⟨(.type "code"), none, (.fields #[(.str ("_law_tables" : Str) 1168), (.str ("_law_tables" : Str) 1169), (.str ("/claim/cut.py" : Str) 1170), (.int 563 0), (.int 1 0), (.int 0 0), (.int 0 0), (.int 3 0), (.ref 731), (.bool true), (.int 181 0), (.ref 732), .none, .none, .none, (.ref 733), (.int 1171 0), (.int 563 0), (.str ("/claim/cut.py" : Str) 1172)]), #[]⟩
def o2_735 (P : Params) : Obj := ⟨(.type "function"), none, (.func { name := ("_law_tables" : Str), qualname := ("_law_tables" : Str), params := defArgs tp84, body := .stmts (defBody tp84), scope := defScope tp84, globals := 3, closure := [], defaults := .none, kwdefaults := .none, doc := .none, pyModule := (.str ("law_rosterneed_k28_whole_makers_of_tables" : Str) 1036), annotations := none, code := (.ref 734), closureTuple := .none, builtins := 0 }), #[]⟩
def o2_736 (P : Params) : Obj := ⟨(.type "tuple"), none, (.seq #[] 0), #[]⟩
def o2_737 (P : Params) : Obj := ⟨.none, none, (.fields #[]), #[]⟩
def o2_738 (P : Params) : Obj := ⟨(.type "tuple"), none, (.seq #[(.str ("tables" : Str) 1177), (.str ("error" : Str) 1178)] 0), #[]⟩
def o2_739 (P : Params) : Obj := ⟨(.type "tuple"), none, (.seq #[] 0), #[]⟩
def o2_740 (P : Params) : Obj := ⟨.none, none, (.func { name := ("_law_seen" : Str), qualname := ("_law_seen" : Str), params := defArgs tp85, body := .stmts (defBody tp85), scope := defScope tp85, globals := 0, closure := [], defaults := .none, kwdefaults := .none, doc := .none, pyModule := .none, annotations := none, code := .none, closureTuple := .none, builtins := 0 }), #[]⟩
def o2_741 (P : Params) : Obj := ⟨(.type "code"), none, (.fields #[(.str ("_law_seen" : Str) 1174), (.str ("_law_seen" : Str) 1175), (.str ("/claim/cut.py" : Str) 1176), (.int 575 0), (.int 1 0), (.int 0 0), (.int 0 0), (.int 3 0), (.ref 736), (.bool true), (.int 181 0), (.ref 737), .none, (.ref 738), (.ref 739), (.ref 740), (.int 1179 0), (.int 575 0), (.str ("/claim/cut.py" : Str) 1180)]), #[]⟩
def o2_742 (P : Params) : Obj := ⟨(.type "function"), none, (.func { name := ("_law_seen" : Str), qualname := ("_law_seen" : Str), params := defArgs tp85, body := .stmts (defBody tp85), scope := defScope tp85, globals := 3, closure := [], defaults := .none, kwdefaults := .none, doc := .none, pyModule := (.str ("law_rosterneed_k28_whole_makers_of_tables" : Str) 1036), annotations := none, code := (.ref 741), closureTuple := .none, builtins := 0 }), #[]⟩
def o2_743 (P : Params) : Obj := ⟨(.type "tuple"), none, (.seq #[] 0), #[]⟩
def o2_744 (P : Params) : Obj := ⟨.none, none, (.fields #[]), #[]⟩
def o2_745 (P : Params) : Obj := ⟨.none, none, (.func { name := ("law" : Str), qualname := ("law" : Str), params := defArgs tp86, body := .stmts (defBody tp86), scope := defScope tp86, globals := 0, closure := [], defaults := .none, kwdefaults := .none, doc := .none, pyModule := .none, annotations := none, code := .none, closureTuple := .none, builtins := 0 }), #[]⟩
def o2_746 (P : Params) : Obj := ⟨(.type "code"), none, (.fields #[(.str ("law" : Str) 1182), (.str ("law" : Str) 1183), (.str ("/claim/cut.py" : Str) 1184), (.int 583 0), (.int 1 0), (.int 0 0), (.int 0 0), (.int 3 0), (.ref 743), (.bool true), (.int 181 0), (.ref 744), .none, .none, .none, (.ref 745), (.int 1185 0), (.int 583 0), (.str ("/claim/cut.py" : Str) 1186)]), #[]⟩
def o2_747 (P : Params) : Obj := ⟨(.type "function"), none, (.func { name := ("law" : Str), qualname := ("law" : Str), params := defArgs tp86, body := .stmts (defBody tp86), scope := defScope tp86, globals := 3, closure := [], defaults := .none, kwdefaults := .none, doc := .none, pyModule := (.str ("law_rosterneed_k28_whole_makers_of_tables" : Str) 1036), annotations := none, code := (.ref 746), closureTuple := .none, builtins := 0 }), #[]⟩
def t2 (P : Params) : BT := (.node (boot_o_0 P) (.node (boot_o_1 P) (.node (o2_3 P) (.node (boot_o_7 P) (.node (o0_15 P) (.node (o0_31 P) (.node (o0_63 P) (.node (o0_127 P) (.node (o1_255 P) (.node (o1_511 P) .nil .nil) .nil) (.node (o1_383 P) (.node (o2_639 P) .nil .nil) .nil)) (.node (o1_191 P) (.node (o1_319 P) (.node (o2_575 P) .nil .nil) .nil) (.node (o1_447 P) (.node (o2_703 P) .nil .nil) .nil))) (.node (o1_95 P) (.node (o0_159 P) (.node (o1_287 P) (.node (o1_543 P) .nil .nil) .nil) (.node (o1_415 P) (.node (o2_671 P) .nil .nil) .nil)) (.node (o1_223 P) (.node (o1_351 P) (.node (o2_607 P) .nil .nil) .nil) (.node (o1_479 P) (.node (o2_735 P) .nil .nil) .nil)))) (.node (o0_47 P) (.node (o0_79 P) (.node (o0_143 P) (.node (o1_271 P) (.node (o1_527 P) .nil .nil) .nil) (.node (o1_399 P) (.node (o2_655 P) .nil .nil) .nil)) (.node (o1_207 P) (.node (o1_335 P) (.node (o2_591 P) .nil .nil) .nil) (.node (o1_463 P) (.node (o2_719 P) .nil .nil) .nil))) (.node (o0_111 P) (.node (o0_175 P) (.node (o1_303 P) (.node (o2_559 P) .nil .nil) .nil) (.node (o1_431 P) (.node (o2_687 P) .nil .nil) .nil)) (.node (o1_239 P) (.node (o1_367 P) (.node (o2_623 P) .nil .nil) .nil) (.node (o1_495 P) .nil .nil))))) (.node (o0_23 P) (.node (o0_39 P) (.node (o0_71 P) (.node (o0_135 P) (.node (o1_263 P) (.node (o1_519 P) .nil .nil) .nil) (.node (o1_391 P) (.node (o2_647 P) .nil .nil) .nil)) (.node (o1_199 P) (.node (o1_327 P) (.node (o2_583 P) .nil .nil) .nil) (.node (o1_455 P) (.node (o2_711 P) .nil .nil) .nil))) (.node (o0_103 P) (.node (o0_167 P) (.node (o1_295 P) (.node (o2_551 P) .nil .nil) .nil) (.node (o1_423 P) (.node (o2_679 P) .nil .nil) .nil)) (.node (o1_231 P) (.node (o1_359 P) (.node (o2_615 P) .nil .nil) .nil) (.node (o1_487 P) (.node (o2_743 P) .nil .nil) .nil)))) (.node (o0_55 P) (.node (o0_87 P) (.node (o0_151 P) (.node (o1_279 P) (.node (o1_535 P) .nil .nil) .nil) (.node (o1_407 P) (.node (o2_663 P) .nil .nil) .nil)) (.node (o1_215 P) (.node (o1_343 P) (.node (o2_599 P) .nil .nil) .nil) (.node (o1_471 P) (.node (o2_727 P) .nil .nil) .nil))) (.node (o0_119 P) (.node (o1_183 P) (.node (o1_311 P) (.node (o2_567 P) .nil .nil) .nil) (.node (o1_439 P) (.node (o2_695 P) .nil .nil) .nil)) (.node (o1_247 P) (.node (o1_375 P) (.node (o2_631 P) .nil .nil) .nil) (.node (o1_503 P) .nil .nil)))))) (.node (oa_11 P) (.node (o0_19 P) (.node (o0_35 P) (.node (o0_67 P) (.node (o0_131 P) (.node (o1_259 P) (.node (o1_515 P) .nil .nil) .nil) (.node (o1_387 P) (.node (o2_643 P) .nil .nil) .nil)) (.node (o1_195 P) (.node (o1_323 P) (.node (o2_579 P) .nil .nil) .nil) (.node (o1_451 P) (.node (o2_707 P) .nil .nil) .nil))) (.node (o0_99 P) (.node (o0_163 P) (.node (o1_291 P) (.node (o2_547 P) .nil .nil) .nil) (.node (o1_419 P) (.node (o2_675 P) .nil .nil) .nil)) (.node (o1_227 P) (.node (o1_355 P) (.node (o2_611 P) .nil .nil) .nil) (.node (o1_483 P) (.node (o2_739 P) .nil .nil) .nil)))) (.node (o0_51 P) (.node (o0_83 P) (.node (o0_147 P) (.node (o1_275 P) (.node (o1_531 P) .nil .nil) .nil) (.node (o1_403 P) (.node (o2_659 P) .nil .nil) .nil)) (.node (o1_211 P) (.node (o1_339 P) (.node (o2_595 P) .nil .nil) .nil) (.node (o1_467 P) (.node (o2_723 P) .nil .nil) .nil))) (.node (o0_115 P) (.node (o1_179 P) (.node (o1_307 P) (.node (o2_563 P) .nil .nil) .nil) (.node (o1_435 P) (.node (o2_691 P) .nil .nil) .nil)) (.node (o1_243 P) (.node (o1_371 P) (.node (o2_627 P) .nil .nil) .nil) (.node (o1_499 P) .nil .nil))))) (.node (o0_27 P) (.node (o0_43 P) (.node (o0_75 P) (.node (o0_139 P) (.node (o1_267 P) (.node (o1_523 P) .nil .nil) .nil) (.node (o1_395 P) (.node (o2_651 P) .nil .nil) .nil)) (.node (o1_203 P) (.node (o1_331 P) (.node (o2_587 P) .nil .nil) .nil) (.node (o1_459 P) (.node (o2_715 P) .nil .nil) .nil))) (.node (o0_107 P) (.node (o0_171 P) (.node (o1_299 P) (.node (o2_555 P) .nil .nil) .nil) (.node (o1_427 P) (.node (o2_683 P) .nil .nil) .nil)) (.node (o1_235 P) (.node (o1_363 P) (.node (o2_619 P) .nil .nil) .nil) (.node (o1_491 P) (.node (o2_747 P) .nil .nil) .nil)))) (.node (o0_59 P) (.node (o0_91 P) (.node (o0_155 P) (.node (o1_283 P) (.node (o1_539 P) .nil .nil) .nil) (.node (o1_411 P) (.node (o2_667 P) .nil .nil) .nil)) (.node (o1_219 P) (.node (o1_347 P) (.node (o2_603 P) .nil .nil) .nil) (.node (o1_475 P) (.node (o2_731 P) .nil .nil) .nil))) (.node (o0_123 P) (.node (o1_187 P) (.node (o1_315 P) (.node (o2_571 P) .nil .nil) .nil) (.node (o1_443 P) (.node (o2_699 P) .nil .nil) .nil)) (.node (o1_251 P) (.node (o1_379 P) (.node (o2_635 P) .nil .nil) .nil) (.node (o1_507 P) .nil .nil))))))) (.node (boot_o_5 P) (.node (boot_o_9 P) (.node (o0_17 P) (.node (o0_33 P) (.node (o0_65 P) (.node (o0_129 P) (.node (o1_257 P) (.node (o1_513 P) .nil .nil) .nil) (.node (o1_385 P) (.node (o2_641 P) .nil .nil) .nil)) (.node (o1_193 P) (.node (o1_321 P) (.node (o2_577 P) .nil .nil) .nil) (.node (o1_449 P) (.node (o2_705 P) .nil .nil) .nil))) (.node (o0_97 P) (.node (o0_161 P) (.node (o1_289 P) (.node (o1_545 P) .nil .nil) .nil) (.node (o1_417 P) (.node (o2_673 P) .nil .nil) .nil)) (.node (o1_225 P) (.node (o1_353 P) (.node (o2_609 P) .nil .nil) .nil) (.node (o1_481 P) (.node (o2_737 P) .nil .nil) .nil)))) (.node (o0_49 P) (.node (o0_81 P) (.node (o0_145 P) (.node (o1_273 P) (.node (o1_529 P) .nil .nil) .nil) (.node (o1_401 P) (.node (o2_657 P) .nil .nil) .nil)) (.node (o1_209 P) (.node (o1_337 P) (.node (o2_593 P) .nil .nil) .nil) (.node (o1_465 P) (.node (o2_721 P) .nil .nil) .nil))) (.node (o0_113 P) (.node (o0_177 P) (.node (o1_305 P) (.node (o2_561 P) .nil .nil) .nil) (.node (o1_433 P) (.node (o2_689 P) .nil .nil) .nil)) (.node (o1_241 P) (.node (o1_369 P) (.node (o2_625 P) .nil .nil) .nil) (.node (o1_497 P) .nil .nil))))) (.node (o0_25 P) (.node (o0_41 P) (.node (o0_73 P) (.node (o0_137 P) (.node (o1_265 P) (.node (o1_521 P) .nil .nil) .nil) (.node (o1_393 P) (.node (o2_649 P) .nil .nil) .nil)) (.node (o1_201 P) (.node (o1_329 P) (.node (o2_585 P) .nil .nil) .nil) (.node (o1_457 P) (.node (o2_713 P) .nil .nil) .nil))) (.node (o0_105 P) (.node (o0_169 P) (.node (o1_297 P) (.node (o2_553 P) .nil .nil) .nil) (.node (o1_425 P) (.node (o2_681 P) .nil .nil) .nil)) (.node (o1_233 P) (.node (o1_361 P) (.node (o2_617 P) .nil .nil) .nil) (.node (o1_489 P) (.node (o2_745 P) .nil .nil) .nil)))) (.node (o0_57 P) (.node (o0_89 P) (.node (o0_153 P) (.node (o1_281 P) (.node (o1_537 P) .nil .nil) .nil) (.node (o1_409 P) (.node (o2_665 P) .nil .nil) .nil)) (.node (o1_217 P) (.node (o1_345 P) (.node (o2_601 P) .nil .nil) .nil) (.node (o1_473 P) (.node (o2_729 P) .nil .nil) .nil))) (.node (o0_121 P) (.node (o1_185 P) (.node (o1_313 P) (.node (o2_569 P) .nil .nil) .nil) (.node (o1_441 P) (.node (o2_697 P) .nil .nil) .nil)) (.node (o1_249 P) (.node (o1_377 P) (.node (o2_633 P) .nil .nil) .nil) (.node (o1_505 P) .nil .nil)))))) (.node (oa_13 P) (.node (o0_21 P) (.node (o0_37 P) (.node (o0_69 P) (.node (o0_133 P) (.node (o1_261 P) (.node (o1_517 P) .nil .nil) .nil) (.node (o1_389 P) (.node (o2_645 P) .nil .nil) .nil)) (.node (o1_197 P) (.node (o1_325 P) (.node (o2_581 P) .nil .nil) .nil) (.node (o1_453 P) (.node (o2_709 P) .nil .nil) .nil))) (.node (o0_101 P) (.node (o0_165 P) (.node (o1_293 P) (.node (o2_549 P) .nil .nil) .nil) (.node (o1_421 P) (.node (o2_677 P) .nil .nil) .nil)) (.node (o1_229 P) (.node (o1_357 P) (.node (o2_613 P) .nil .nil) .nil) (.node (o1_485 P) (.node (o2_741 P) .nil .nil) .nil)))) (.node (o0_53 P) (.node (o0_85 P) (.node (o0_149 P) (.node (o1_277 P) (.node (o1_533 P) .nil .nil) .nil) (.node (o1_405 P) (.node (o2_661 P) .nil .nil) .nil)) (.node (o1_213 P) (.node (o1_341 P) (.node (o2_597 P) .nil .nil) .nil) (.node (o1_469 P) (.node (o2_725 P) .nil .nil) .nil))) (.node (o0_117 P) (.node (o1_181 P) (.node (o1_309 P) (.node (o2_565 P) .nil .nil) .nil) (.node (o1_437 P) (.node (o2_693 P) .nil .nil) .nil)) (.node (o1_245 P) (.node (o1_373 P) (.node (o2_629 P) .nil .nil) .nil) (.node (o1_501 P) .nil .nil))))) (.node (o0_29 P) (.node (o0_45 P) (.node (o0_77 P) (.node (o0_141 P) (.node (o1_269 P) (.node (o1_525 P) .nil .nil) .nil) (.node (o1_397 P) (.node (o2_653 P) .nil .nil) .nil)) (.node (o1_205 P) (.node (o1_333 P) (.node (o2_589 P) .nil .nil) .nil) (.node (o1_461 P) (.node (o2_717 P) .nil .nil) .nil))) (.node (o0_109 P) (.node (o0_173 P) (.node (o1_301 P) (.node (o2_557 P) .nil .nil) .nil) (.node (o1_429 P) (.node (o2_685 P) .nil .nil) .nil)) (.node (o1_237 P) (.node (o1_365 P) (.node (o2_621 P) .nil .nil) .nil) (.node (o1_493 P) .nil .nil)))) (.node (o0_61 P) (.node (o0_93 P) (.node (o0_157 P) (.node (o1_285 P) (.node (o1_541 P) .nil .nil) .nil) (.node (o1_413 P) (.node (o2_669 P) .nil .nil) .nil)) (.node (o1_221 P) (.node (o1_349 P) (.node (o2_605 P) .nil .nil) .nil) (.node (o1_477 P) (.node (o2_733 P) .nil .nil) .nil))) (.node (o0_125 P) (.node (o1_189 P) (.node (o1_317 P) (.node (o2_573 P) .nil .nil) .nil) (.node (o1_445 P) (.node (o2_701 P) .nil .nil) .nil)) (.node (o1_253 P) (.node (o1_381 P) (.node (o2_637 P) .nil .nil) .nil) (.node (o1_509 P) .nil .nil)))))))) (.node (boot_o_2 P) (.node (boot_o_4 P) (.node (boot_o_8 P) (.node (o0_16 P) (.node (o0_32 P) (.node (o0_64 P) (.node (o0_128 P) (.node (o1_256 P) (.node (o1_512 P) .nil .nil) .nil) (.node (o1_384 P) (.node (o2_640 P) .nil .nil) .nil)) (.node (o1_192 P) (.node (o1_320 P) (.node (o2_576 P) .nil .nil) .nil) (.node (o1_448 P) (.node (o2_704 P) .nil .nil) .nil))) (.node (o0_96 P) (.node (o0_160 P) (.node (o1_288 P) (.node (o1_544 P) .nil .nil) .nil) (.node (o1_416 P) (.node (o2_672 P) .nil .nil) .nil)) (.node (o1_224 P) (.node (o1_352 P) (.node (o2_608 P) .nil .nil) .nil) (.node (o1_480 P) (.node (o2_736 P) .nil .nil) .nil)))) (.node (o0_48 P) (.node (o0_80 P) (.node (o0_144 P) (.node (o1_272 P) (.node (o1_528 P) .nil .nil) .nil) (.node (o1_400 P) (.node (o2_656 P) .nil .nil) .nil)) (.node (o1_208 P) (.node (o1_336 P) (.node (o2_592 P) .nil .nil) .nil) (.node (o1_464 P) (.node (o2_720 P) .nil .nil) .nil))) (.node (o0_112 P) (.node (o0_176 P) (.node (o1_304 P) (.node (o2_560 P) .nil .nil) .nil) (.node (o1_432 P) (.node (o2_688 P) .nil .nil) .nil)) (.node (o1_240 P) (.node (o1_368 P) (.node (o2_624 P) .nil .nil) .nil) (.node (o1_496 P) .nil .nil))))) (.node (o0_24 P) (.node (o0_40 P) (.node (o0_72 P) (.node (o0_136 P) (.node (o1_264 P) (.node (o1_520 P) .nil .nil) .nil) (.node (o1_392 P) (.node (o2_648 P) .nil .nil) .nil)) (.node (o1_200 P) (.node (o1_328 P) (.node (o2_584 P) .nil .nil) .nil) (.node (o1_456 P) (.node (o2_712 P) .nil .nil) .nil))) (.node (o0_104 P) (.node (o0_168 P) (.node (o1_296 P) (.node (o2_552 P) .nil .nil) .nil) (.node (o1_424 P) (.node (o2_680 P) .nil .nil) .nil)) (.node (o1_232 P) (.node (o1_360 P) (.node (o2_616 P) .nil .nil) .nil) (.node (o1_488 P) (.node (o2_744 P) .nil .nil) .nil)))) (.node (o0_56 P) (.node (o0_88 P) (.node (o0_152 P) (.node (o1_280 P) (.node (o1_536 P) .nil .nil) .nil) (.node (o1_408 P) (.node (o2_664 P) .nil .nil) .nil)) (.node (o1_216 P) (.node (o1_344 P) (.node (o2_600 P) .nil .nil) .nil) (.node (o1_472 P) (.node (o2_728 P) .nil .nil) .nil))) (.node (o0_120 P) (.node (o1_184 P) (.node (o1_312 P) (.node (o2_568 P) .nil .nil) .nil) (.node (o1_440 P) (.node (o2_696 P) .nil .nil) .nil)) (.node (o1_248 P) (.node (o1_376 P) (.node (o2_632 P) .nil .nil) .nil) (.node (o1_504 P) .nil .nil)))))) (.node (o2_12 P) (.node (o0_20 P) (.node (o0_36 P) (.node (o0_68 P) (.node (o0_132 P) (.node (o1_260 P) (.node (o1_516 P) .nil .nil) .nil) (.node (o1_388 P) (.node (o2_644 P) .nil .nil) .nil)) (.node (o1_196 P) (.node (o1_324 P) (.node (o2_580 P) .nil .nil) .nil) (.node (o1_452 P) (.node (o2_708 P) .nil .nil) .nil))) (.node (o0_100 P) (.node (o0_164 P) (.node (o1_292 P) (.node (o2_548 P) .nil .nil) .nil) (.node (o1_420 P) (.node (o2_676 P) .nil .nil) .nil)) (.node (o1_228 P) (.node (o1_356 P) (.node (o2_612 P) .nil .nil) .nil) (.node (o1_484 P) (.node (o2_740 P) .nil .nil) .nil)))) (.node (o0_52 P) (.node (o0_84 P) (.node (o0_148 P) (.node (o1_276 P) (.node (o1_532 P) .nil .nil) .nil) (.node (o1_404 P) (.node (o2_660 P) .nil .nil) .nil)) (.node (o1_212 P) (.node (o1_340 P) (.node (o2_596 P) .nil .nil) .nil) (.node (o1_468 P) (.node (o2_724 P) .nil .nil) .nil))) (.node (o0_116 P) (.node (o1_180 P) (.node (o1_308 P) (.node (o2_564 P) .nil .nil) .nil) (.node (o1_436 P) (.node (o2_692 P) .nil .nil) .nil)) (.node (o1_244 P) (.node (o1_372 P) (.node (o2_628 P) .nil .nil) .nil) (.node (o1_500 P) .nil .nil))))) (.node (o0_28 P) (.node (o0_44 P) (.node (o0_76 P) (.node (o0_140 P) (.node (o1_268 P) (.node (o1_524 P) .nil .nil) .nil) (.node (o1_396 P) (.node (o2_652 P) .nil .nil) .nil)) (.node (o1_204 P) (.node (o1_332 P) (.node (o2_588 P) .nil .nil) .nil) (.node (o1_460 P) (.node (o2_716 P) .nil .nil) .nil))) (.node (o0_108 P) (.node (o0_172 P) (.node (o1_300 P) (.node (o2_556 P) .nil .nil) .nil) (.node (o1_428 P) (.node (o2_684 P) .nil .nil) .nil)) (.node (o1_236 P) (.node (o1_364 P) (.node (o2_620 P) .nil .nil) .nil) (.node (o1_492 P) .nil .nil)))) (.node (o0_60 P) (.node (o0_92 P) (.node (o0_156 P) (.node (o1_284 P) (.node (o1_540 P) .nil .nil) .nil) (.node (o1_412 P) (.node (o2_668 P) .nil .nil) .nil)) (.node (o1_220 P) (.node (o1_348 P) (.node (o2_604 P) .nil .nil) .nil) (.node (o1_476 P) (.node (o2_732 P) .nil .nil) .nil))) (.node (o0_124 P) (.node (o1_188 P) (.node (o1_316 P) (.node (o2_572 P) .nil .nil) .nil) (.node (o1_444 P) (.node (o2_700 P) .nil .nil) .nil)) (.node (o1_252 P) (.node (o1_380 P) (.node (o2_636 P) .nil .nil) .nil) (.node (o1_508 P) .nil .nil))))))) (.node (boot_o_6 P) (.node (boot_o_10 P) (.node (o0_18 P) (.node (o0_34 P) (.node (o0_66 P) (.node (o0_130 P) (.node (o1_258 P) (.node (o1_514 P) .nil .nil) .nil) (.node (o1_386 P) (.node (o2_642 P) .nil .nil) .nil)) (.node (o1_194 P) (.node (o1_322 P) (.node (o2_578 P) .nil .nil) .nil) (.node (o1_450 P) (.node (o2_706 P) .nil .nil) .nil))) (.node (o0_98 P) (.node (o0_162 P) (.node (o1_290 P) (.node (o2_546 P) .nil .nil) .nil) (.node (o1_418 P) (.node (o2_674 P) .nil .nil) .nil)) (.node (o1_226 P) (.node (o1_354 P) (.node (o2_610 P) .nil .nil) .nil) (.node (o1_482 P) (.node (o2_738 P) .nil .nil) .nil)))) (.node (o0_50 P) (.node (o0_82 P) (.node (o0_146 P) (.node (o1_274 P) (.node (o1_530 P) .nil .nil) .nil) (.node (o1_402 P) (.node (o2_658 P) .nil .nil) .nil)) (.node (o1_210 P) (.node (o1_338 P) (.node (o2_594 P) .nil .nil) .nil) (.node (o1_466 P) (.node (o2_722 P) .nil .nil) .nil))) (.node (o0_114 P) (.node (o0_178 P) (.node (o1_306 P) (.node (o2_562 P) .nil .nil) .nil) (.node (o1_434 P) (.node (o2_690 P) .nil .nil) .nil)) (.node (o1_242 P) (.node (o1_370 P) (.node (o2_626 P) .nil .nil) .nil) (.node (o1_498 P) .nil .nil))))) (.node (o0_26 P) (.node (o0_42 P) (.node (o0_74 P) (.node (o0_138 P) (.node (o1_266 P) (.node (o1_522 P) .nil .nil) .nil) (.node (o1_394 P) (.node (o2_650 P) .nil .nil) .nil)) (.node (o1_202 P) (.node (o1_330 P) (.node (o2_586 P) .nil .nil) .nil) (.node (o1_458 P) (.node (o2_714 P) .nil .nil) .nil))) (.node (o0_106 P) (.node (o0_170 P) (.node (o1_298 P) (.node (o2_554 P) .nil .nil) .nil) (.node (o1_426 P) (.node (o2_682 P) .nil .nil) .nil)) (.node (o1_234 P) (.node (o1_362 P) (.node (o2_618 P) .nil .nil) .nil) (.node (o1_490 P) (.node (o2_746 P) .nil .nil) .nil)))) (.node (o0_58 P) (.node (o0_90 P) (.node (o0_154 P) (.node (o1_282 P) (.node (o1_538 P) .nil .nil) .nil) (.node (o1_410 P) (.node (o2_666 P) .nil .nil) .nil)) (.node (o1_218 P) (.node (o1_346 P) (.node (o2_602 P) .nil .nil) .nil) (.node (o1_474 P) (.node (o2_730 P) .nil .nil) .nil))) (.node (o0_122 P) (.node (o1_186 P) (.node (o1_314 P) (.node (o2_570 P) .nil .nil) .nil) (.node (o1_442 P) (.node (o2_698 P) .nil .nil) .nil)) (.node (o1_250 P) (.node (o1_378 P) (.node (o2_634 P) .nil .nil) .nil) (.node (o1_506 P) .nil .nil)))))) (.node (oa_14 P) (.node (o0_22 P) (.node (o0_38 P) (.node (o0_70 P) (.node (o0_134 P) (.node (o1_262 P) (.node (o1_518 P) .nil .nil) .nil) (.node (o1_390 P) (.node (o2_646 P) .nil .nil) .nil)) (.node (o1_198 P) (.node (o1_326 P) (.node (o2_582 P) .nil .nil) .nil) (.node (o1_454 P) (.node (o2_710 P) .nil .nil) .nil))) (.node (o0_102 P) (.node (o0_166 P) (.node (o1_294 P) (.node (o2_550 P) .nil .nil) .nil) (.node (o1_422 P) (.node (o2_678 P) .nil .nil) .nil)) (.node (o1_230 P) (.node (o1_358 P) (.node (o2_614 P) .nil .nil) .nil) (.node (o1_486 P) (.node (o2_742 P) .nil .nil) .nil)))) (.node (o0_54 P) (.node (o0_86 P) (.node (o0_150 P) (.node (o1_278 P) (.node (o1_534 P) .nil .nil) .nil) (.node (o1_406 P) (.node (o2_662 P) .nil .nil) .nil)) (.node (o1_214 P) (.node (o1_342 P) (.node (o2_598 P) .nil .nil) .nil) (.node (o1_470 P) (.node (o2_726 P) .nil .nil) .nil))) (.node (o0_118 P) (.node (o1_182 P) (.node (o1_310 P) (.node (o2_566 P) .nil .nil) .nil) (.node (o1_438 P) (.node (o2_694 P) .nil .nil) .nil)) (.node (o1_246 P) (.node (o1_374 P) (.node (o2_630 P) .nil .nil) .nil) (.node (o1_502 P) .nil .nil))))) (.node (o0_30 P) (.node (o0_46 P) (.node (o0_78 P) (.node (o0_142 P) (.node (o1_270 P) (.node (o1_526 P) .nil .nil) .nil) (.node (o1_398 P) (.node (o2_654 P) .nil .nil) .nil)) (.node (o1_206 P) (.node (o1_334 P) (.node (o2_590 P) .nil .nil) .nil) (.node (o1_462 P) (.node (o2_718 P) .nil .nil) .nil))) (.node (o0_110 P) (.node (o0_174 P) (.node (o1_302 P) (.node (o2_558 P) .nil .nil) .nil) (.node (o1_430 P) (.node (o2_686 P) .nil .nil) .nil)) (.node (o1_238 P) (.node (o1_366 P) (.node (o2_622 P) .nil .nil) .nil) (.node (o1_494 P) .nil .nil)))) (.node (o0_62 P) (.node (o0_94 P) (.node (o0_158 P) (.node (o1_286 P) (.node (o1_542 P) .nil .nil) .nil) (.node (o1_414 P) (.node (o2_670 P) .nil .nil) .nil)) (.node (o1_222 P) (.node (o1_350 P) (.node (o2_606 P) .nil .nil) .nil) (.node (o1_478 P) (.node (o2_734 P) .nil .nil) .nil))) (.node (o0_126 P) (.node (o1_190 P) (.node (o1_318 P) (.node (o2_574 P) .nil .nil) .nil) (.node (o1_446 P) (.node (o2_702 P) .nil .nil) .nil)) (.node (o1_254 P) (.node (o1_382 P) (.node (o2_638 P) .nil .nil) .nil) (.node (o1_510 P) .nil .nil)))))))))
def S2 (w : World) (os : OsState) : SharedT := ⟨t2 w.params, 748, {}, #[], {}, 1188, os⟩
def p2 : Pos := ⟨583, 0, 613, 79⟩

def tz (P : Params) : BT := (.node (boot_o_0 P) (.node (boot_o_1 P) (.node (boot_o_3 P) (.node (boot_o_7 P) .nil .nil) .nil) (.node (boot_o_5 P) (.node (boot_o_9 P) .nil .nil) .nil)) (.node (boot_o_2 P) (.node (boot_o_4 P) (.node (boot_o_8 P) .nil .nil) .nil) (.node (boot_o_6 P) (.node (boot_o_10 P) .nil .nil) .nil)))
def Sz (w : World) (os : OsState) : SharedT := ⟨tz w.params, 11, (boot_heap w.params).life, #[], boot_drawn, boot_toks, os⟩
theorem hSz (w : World) (os : OsState) : (Sz w os).abs = ⟨boot_heap w.params, #[], boot_drawn, boot_toks, os⟩ := by
  show (⟨absHeap (tz w.params) 11 (boot_heap w.params).life, #[], boot_drawn, boot_toks, os⟩ : Shared) = _
  rw [putAll_heap (h := boot_heap w.params) (by kernel_rfl)]
theorem hn0 (w : World) : (boot_heap w.params).objs.size = 11 := by kernel_rfl
def annC : Option Value := (some (.ref 6))
theorem hann (w : World) : bootAnn w = annC := by kernel_rfl
def qC : Pos := ⟨0, 0, 0, 0⟩
def bodyC : List Stmt := behindTheImports prg
def envC : PySem.Env := { scope := prg.main.scope, locals := mainNs, globals := mainNs, cells := [], code := (.ref 13), frame := some 14 }
abbrev cC : Code := .body bodyC envC
abbrev stC (w : World) := stepQ (denQ tabQ) prg w
theorem h_pre (w : World) (os : OsState) : HC.gpF (stC w) 11 annC 12 (Sz w os) (topStub prg) = some (Sa w os, ⟨denQ tabQ cC, cC, pa, [topFrame qC]⟩) := by kernel_rfl
theorem h_blk (w : World) (os : OsState) : HC.gsF (stC w) 11 annC 1 (Sa w os) (HC.blockQ bodyC envC cC pa [topFrame qC]) = some (.next, Sb w os, cC, pb) := by kernel_rfl
def rst0 : List Stmt := bodyC.drop 0
def sts0 : List Stmt := rst0.take 12
theorem h_0 (w : World) (os : OsState) : HC.gsF (stC w) 11 annC 2404 (Sb w os) (HC.piecesQ sts0 envC cC pb [topFrame qC]) = some (.next, S0 w os, cC, p0) := by kernel_rfl
def rst1 : List Stmt := bodyC.drop 12
def sts1 : List Stmt := rst1.take 49
theorem h_1 (w : World) (os : OsState) : HC.gsF (stC w) 11 annC 2529 (S0 w os) (HC.piecesQ sts1 envC cC p0 [topFrame qC]) = some (.next, S1 w os, cC, p1) := by kernel_rfl
def rst2 : List Stmt := bodyC.drop 61
def sts2 : List Stmt := rst2.take 26
theorem h_2 (w : World) (os : OsState) : HC.gsF (stC w) 11 annC 1106 (S1 w os) (HC.piecesQ sts2 envC cC p1 [topFrame qC]) = some (.next, S2 w os, cC, p2) := by kernel_rfl
theorem h_fin (w : World) (os : OsState) : goF (stC w) 11 annC 2 (S2 w os) ⟨doneF .next, cC, p2, [topFrame qC]⟩ = some (S2 w os) := by kernel_rfl
def stepsC : Nat := 12 + (1 + (2404 + (2529 + (1106 + 2))))
theorem h_run (w : World) (os : OsState) : topRun treeTable prg w 11 annC stepsC (Sz w os).abs (topStub prg) = some (S2 w os).abs := by
  refine HC.pre_of (h_pre w os) ?_
  refine HC.start_of (h_blk w os) ?_
  rw [show bodyC = rst0 from rfl]
  rw [show rst0 = sts0 ++ rst1 by exact (List.take_append_drop 12 rst0).symm.trans (congrArg _ (by unfold rst0 rst1; rw [List.drop_drop]))]
  refine HC.chunk_of (h_0 w os) ?_
  rw [show rst1 = sts1 ++ rst2 by exact (List.take_append_drop 49 rst1).symm.trans (congrArg _ (by unfold rst1 rst2; rw [List.drop_drop]))]
  refine HC.chunk_of (h_1 w os) ?_
  rw [show rst2 = sts2 ++ [] by rw [List.append_nil]; kernel_rfl]
  refine HC.chunk_of (h_2 w os) ?_
  exact HC.fin_of (h_fin w os)
abbrev Sl := S2
theorem h_look (w : World) (os : OsState) : (looksF R.prog (boot_heap w.params) (Sl w os).abs, seenQ (PySem.W.view R.prog [86]) nmL (importedModules R.prog.main.body) (fun s => xlAt (PySem.W.view R.prog [86]) [] s && recOk R.toRowW.records s) (Sl w os).abs, ob (Sl w os)) = (true, openGood (PySem.W.view R.prog [86]) nmL, hk.val w) := by kernel_rfl
end HD
end
end
end M

namespace M
open PySem PySem.Spec PyProof.Rows L2 Evl MS
local macro_rules | `(tactic| walk_at "ex") => `(tactic| first
  | exact Ex.refl _ | with_reducible assumption | (refine' Ex.trans ?a ?b; (case b => with_reducible assumption); (case a => walk_at "ex")))
local macro_rules | `(tactic| walk_at "hp") => `(tactic| first
  | with_reducible assumption
  | (with_reducible refine' st_of ?a; (case a => with_reducible assumption))
  | (with_reducible refine' sq_of ?a; (case a => with_reducible assumption))
  | (with_reducible refine' ex_t ?a ?b; (case a => with_reducible assumption); (case b => walk_at "hp"))
  | (with_reducible refine' ex_l ?a ?b; (case a => with_reducible assumption); (case b => walk_at "hp"))
  | (with_reducible refine' ex_e ?a ?b; (case a => with_reducible assumption); (case b => walk_at "hp")))
local macro_rules | `(tactic| walk_at "om") => `(tactic| first
  | with_reducible assumption | omega | (simp only [List.length_map, List.length_nil, List.length_cons, List.length_append, List.length_range] <;> omega))
local macro_rules | `(tactic| walk_at "sz") => `(tactic| first
  | (refine sz_of ?_; omega) | exact sz_of (by simp only [List.length_map, List.length_nil, List.length_cons, List.length_append, List.length_range] <;> omega))
local macro_rules | `(tactic| walk_at "ty") => `(tactic| first
  | exact .base (.int _) | exact .base .non | exact .base (.bl _) | exact .base (.str _) | (with_reducible refine' SqT.ty ?a; (case a => walk_at "hp")) | (with_reducible refine' SqL.ty ?a; (case a => walk_at "hp")) | (with_reducible refine' dp_ty ?a; (case a => with_reducible assumption)))
local macro_rules | `(tactic| walk_at "vv") => `(tactic| first | refine w_v0 ?_ | refine w_v1 ?_ | refine w_v2 ?_ | refine w_v3 ?_ | refine w_v4 ?_ | refine w_v5 ?_ | refine w_v6 ?_ | refine w_v7 ?_ | refine w_v8 ?_ | refine w_v9 ?_ | refine w_v10 ?_ | refine w_v11 ?_ | refine w_v12 ?_ | refine w_v13 ?_ | refine w_v14 ?_ | refine w_v15 ?_)
local macro_rules | `(tactic| walk_at "nn") => `(tactic| first | refine w_n0 ?_ | refine w_n1 ?_ | refine w_n2 ?_ | refine w_n3 ?_ | refine w_n4 ?_ | refine w_n5 ?_ | refine w_n6 ?_ | refine w_n7 ?_ | refine w_n8 ?_ | refine w_n9 ?_ | refine w_n10 ?_ | refine w_n11 ?_ | refine w_n12 ?_ | refine w_n13 ?_ | refine w_n14 ?_ | refine w_n15 ?_)
local macro_rules | `(tactic| walk_at "w1") => `(tactic| with_reducible first
  | refine w_cons ?_ | (refine w_vv ?_; walk_at "vv") | refine w_nil ?_ | refine w_op ?_ | refine w_c ?_ | refine w_cb ?_ | refine w_seq ?_ | refine w_asg ?_ | (refine w_nn ?_; walk_at "nn")
  | refine w_test ?_ | refine w_exbl2 ?_ | refine w_ifS ?_ | refine w_ret ?_
  | refine w_call ?_ | refine w_call1 ?_ | refine w_call2 ?_ | refine w_call3 ?_
  | refine w_and ?_ | refine w_or ?_ | refine w_not ?_ | refine w_andV ?_ | refine w_orV ?_ | refine w_notV ?_ | refine w_ifE ?_ | refine w_un ?_ | refine w_tB ?_ | refine w_tru ?_ | refine r_truB ?_ | refine r_truI ?_
  | refine w_tup ?_ | refine w_lst ?_ | refine w_sl ?_ | refine w_part ?_ | refine w_noPart ?_ | refine w_exint ?_ | refine w_drop ?_ | refine w_next ?_ | refine w_yes ?_
  | refine w_gcons ?_ | refine w_gnil ?_ | refine iteT ?_ | refine iteF ?_
  | refine w_lcJ ?_ | refine w_forJ ?_ | refine i_r1 ?_ | refine i_r2 ?_ | refine w_fld ?_ | refine w_fldS ?_ | refine w_prop ?_ | refine w_meth ?_ | refine w_make ?_ | refine w_callO ?_ | refine w_callOI ?_ | refine w_bm ?_ | refine w_retN ?_ | refine w_chain ?_ | refine w_break ?_ | refine w_gsub ?_ | refine w_par ?_ | refine w_call4 ?_ | refine w_call5 ?_)
local macro_rules | `(tactic| walk_at "w2") => `(tactic| first
  | with_reducible (first | refine r_addI ?_ | refine r_subI ?_ | refine r_eqI ?_ | refine r_neI ?_ | refine r_lt ?_ | refine r_le ?_ | refine r_gt ?_ | refine r_ge ?_ | refine r_neg ?_)
  | with_reducible (first | refine r_eqO ?_ | refine r_neO ?_ | refine r_eqB ?_ | refine r_isO ?_ | refine r_isNotO ?_ | refine r_isI ?_ | refine r_isN ?_ | refine r_isR ?_ | refine r_isNotI ?_ | refine r_isNotN ?_ | refine r_isNotR ?_)
  | with_reducible (first | refine r_int ?_ | refine r_abs ?_ | refine r_max2 ?_ | refine r_min2 ?_ | refine r_boolB ?_)
  | ((with_reducible refine' r_lenTI ?a ?q); (case a => walk_at "hp"))
  | ((with_reducible refine' r_lenLI ?a ?q); (case a => walk_at "hp"))
  | ((with_reducible refine' r_lenT ?a ?q); (case a => walk_at "hp"))
  | ((with_reducible refine' r_lenL ?a ?q); (case a => walk_at "hp"))
  | ((with_reducible refine' w_gtup ?a ?b ?q); (case a => walk_at "hp"); (case b => rfl))
  | ((with_reducible refine' r_modI ?a ?q); (case a => walk_at "om"))
  | ((with_reducible refine' r_divI ?a ?b ?q); (case a => walk_at "om"); (case b => walk_at "om"))
  | ((with_reducible refine' r_ixTI ?a ?b ?c ?q); (case a => walk_at "hp"); (case b => walk_at "om"); (case c => walk_at "om"))
  | ((with_reducible refine' r_ixTN ?a ?b ?c ?q); (case a => walk_at "hp"); (case b => walk_at "om"); (case c => walk_at "om"))
  | ((with_reducible refine' r_ixLI ?a ?b ?c ?q); (case a => walk_at "hp"); (case b => walk_at "om"); (case c => walk_at "om"))
  | ((with_reducible refine' r_ixLN ?a ?b ?c ?q); (case a => walk_at "hp"); (case b => walk_at "om"); (case c => walk_at "om"))
  | ((with_reducible refine' r_lenEI ?a ?q); (case a => walk_at "hp"))
  | ((with_reducible refine' r_ixEI ?a ?b ?c ?q); (case a => walk_at "hp"); (case b => walk_at "om"); (case c => walk_at "om"))
  | ((with_reducible refine' r_ixEN ?a ?b ?c ?q); (case a => walk_at "hp"); (case b => walk_at "om"); (case c => walk_at "om"))
  | ((with_reducible refine' r_ixT ?a ?b ?q); (case a => walk_at "hp"); (case b => exact rfl))
  | ((with_reducible refine' r_ixL ?a ?b ?q); (case a => walk_at "hp"); (case b => exact rfl))
  | ((with_reducible refine' r_shr ?a ?q); (case a => walk_at "om"))
  | ((with_reducible refine' r_pow ?a ?q); (case a => (exact ⟨by decide, by decide, by decide⟩)))
  | ((with_reducible refine' r_bmL ?a ?q); (case a => walk_at "hp"))
  | ((with_reducible refine' r_mulI ?a ?q); (case a => first | (left; walk_at "om") | (right; walk_at "om")))
  | ((with_reducible refine' r_eqT ?a ?b ?q); (case a => walk_at "hp"); (case b => walk_at "hp"))
  | ((with_reducible refine' r_neT ?a ?b ?q); (case a => walk_at "hp"); (case b => walk_at "hp"))
  | ((with_reducible refine' i_x1 ?a ?q); (case a => omega))
  | ((with_reducible refine' i_x2 ?a ?q); (case a => omega))
  | ((with_reducible refine' i_xT ?a ?q); (case a => walk_at "hp"))
  | ((with_reducible refine' i_xL ?a ?q); (case a => walk_at "hp"))
  | ((with_reducible refine' r_slTto ?a ?b ?q); (case a => walk_at "hp"); (case b => walk_at "om"))
  | ((with_reducible refine' r_slTfrom ?a ?b ?q); (case a => walk_at "hp"); (case b => walk_at "om"))
  | ((with_reducible refine' r_slLto ?a ?b ?q); (case a => walk_at "hp"); (case b => walk_at "om"))
  | ((with_reducible refine' r_slLfrom ?a ?b ?q); (case a => walk_at "hp"); (case b => walk_at "om"))
  | ((with_reducible refine' r_slLmid ?a ?b ?c ?d ?q); (case a => walk_at "hp"); (case b => walk_at "om"); (case c => walk_at "om"); (case d => walk_at "om"))
  | ((with_reducible refine' r_tupT ?a ?q); (case a => walk_at "hp"))
  | ((with_reducible refine' r_tupL ?a ?q); (case a => walk_at "hp"))
  | ((with_reducible refine' r_lstT ?a ?q); (case a => walk_at "hp"))
  | ((with_reducible refine' r_lstL ?a ?q); (case a => walk_at "hp"))
  | ((with_reducible refine' w_newT ?a ?q); (case a => walk_at "sz"))
  | ((with_reducible refine' w_newL ?a ?q); (case a => walk_at "sz"))
  | ((with_reducible refine' r_isi (b := true) ?a ?b ?q); (case a => walk_at "ty"); (case b => exact rfl))
  | ((with_reducible refine' r_isi (b := false) ?a ?b ?q); (case a => walk_at "ty"); (case b => exact rfl))
  | ((with_reducible refine' r_isiT (b := true) ?a ?b ?c ?q); (case a => walk_at "hp"); (case b => walk_at "ty"); (case c => exact rfl))
  | ((with_reducible refine' r_isiT (b := false) ?a ?b ?c ?q); (case a => walk_at "hp"); (case b => walk_at "ty"); (case c => exact rfl))
  | ((with_reducible refine' w_dT ?a ?q); (case a => walk_at "om"))
  | ((with_reducible refine' w_dF ?a ?q); (case a => walk_at "om"))
  | ((with_reducible refine' w_nT ?a ?q); (case a => walk_at "om"))
  | ((with_reducible refine' w_nF ?a ?q); (case a => walk_at "om"))
  | ((with_reducible refine' w_bT ?a ?q); (case a => exact rfl))
  | ((with_reducible refine' w_bF ?a ?q); (case a => exact rfl)))
local macro_rules | `(tactic| walk_at "w") => `(tactic| repeat (first | walk_at "w1" | walk_at "w2"))

section
def dIsInt : PyData → Bool
  | .int _ => true
  | _ => false
def dIsCount : PyData → Bool
  | .int i => decide (0 ≤ i)
  | _ => false
def dIsSeq : PyData → Bool
  | .list _ => true
  | .tuple _ => true
  | _ => false
theorem dp_nodict {K : PySem.W.Frag} {H : Hp} {v : V} {x : List (PyData × PyData)} (h : Dp K H v (.dict x)) : False := nomatch h
abbrev N_is_integer : List Str := ["thing"]
theorem sc_is_integer : FnScope N_is_integer ["thing"] (defScope s_is_integer) := ⟨rfl, rfl, rfl, by decide +kernel, rfl, by decide +kernel, by decide +kernel⟩
theorem ok_is_integer {P : Program} {w : World} {K : PySem.W.Frag} {mg : Str → Option Value} {base : Heap} (E : Env P K mg) : Fn P w K mg base CX0 1 "is_integer" (sp1 fun v H Q _ => ∃ d, Dp K H v d ∧ RetD K (.bool (dIsInt d)) H Q) := by
  obtain ⟨fd, F⟩ := E.dd_is_integer
  refine Fn.mk0 F E.g_is_integer sc_is_integer sp1_len (fun _ _ _ _ _ _ us hl => match us, hl with | [_], _ => rfl) (fun cdv A outer s H vs Q X hr h => ?_)
  have nd := sc_is_integer.nd
  obtain ⟨v0, rfl, h⟩ := h
  refine ⟨_, (pss_one (ps_ret (pe_and (pe_callB (kIsi K) (by rfl) E.f_isinstance (by decide +kernel) (pa_cons (pv 0) (pa_cons (pe_bltn (v := .ty "int") (by rfl) E.f_int (by decide +kernel) rfl) pa_nil))) (pe_one (pe_not (pe_callB (kIsi K) (by rfl) E.f_isinstance (by decide +kernel) (pa_cons (pv 0) (pa_cons (pe_bltn (v := .ty "bool") (by rfl) E.f_bool (by decide +kernel) rfl) pa_nil)))))))), ?_⟩
  change (_ : TS) _ [some v0] H
  try dsimp only [cxOf, Cx.nox, Cx.blk]
  obtain ⟨d, hd, k⟩ := h
  cases d with
  | dict x => exact (dp_nodict hd).elim
  | int i => cases hd; walk_at "w"; exact k.bl (by walk_at "ex")
  | _ => cases hd <;> (walk_at "w"; exact k.bl (by walk_at "ex"))
abbrev N_is_count : List Str := ["thing"]
theorem sc_is_count : FnScope N_is_count ["thing"] (defScope s_is_count) := ⟨rfl, rfl, rfl, by decide +kernel, rfl, by decide +kernel, by decide +kernel⟩
theorem ok_is_count {P : Program} {w : World} {K : PySem.W.Frag} {mg : Str → Option Value} {base : Heap} (E : Env P K mg) : Fn P w K mg base CX0 2 "is_count" (sp1 fun v H Q _ => ∃ d, Dp K H v d ∧ RetD K (.bool (dIsCount d)) H Q) := by
  obtain ⟨fd, F⟩ := E.dd_is_count
  refine Fn.mk0 F E.g_is_count sc_is_count sp1_len (fun _ _ _ _ _ _ us hl => match us, hl with | [_], _ => rfl) (fun cdv A outer s H vs Q X hr h => ?_)
  have nd := sc_is_count.nd
  obtain ⟨v0, rfl, h⟩ := h
  refine ⟨_, (pss_one (ps_ret (pe_and (pc (ok_is_integer E) hr (by decide) pass0 rfl (pa_cons (pv 0) pa_nil)) (pe_one (pe_cmpR op_ge (pv 0) (pe_int) (nomark _)))))), ?_⟩
  change (_ : TS) _ [some v0] H
  try dsimp only [cxOf, Cx.nox, Cx.blk]
  obtain ⟨d, hd, k⟩ := h
  walk_at "w"
  refine ⟨d, hd, fun v H1 e1 d1 => ?_⟩
  obtain rfl := dp_toBl d1
  cases d with
  | int i =>
    cases hd
    walk_at "w"
    exact k.bl (by walk_at "ex")
  | _ => walk_at "w"; exact k.bl (by walk_at "ex")
/-- data, or a dict -/
def DpX (K : PySem.W.Frag) (H : Hp) (v : V) (d : PyData) : Prop := Dp K H v d ∨ (d = .dict [] ∧ ∃ a kvs, v = .ref a ∧ H a = some (.dK kvs))
instance {K : PySem.W.Frag} {H : Hp} {v : V} {d : PyData} : Coe (Dp K H v d) (DpX K H v d) := ⟨.inl⟩
abbrev N_is_listed : List Str := ["thing"]
theorem sc_is_listed : FnScope N_is_listed ["thing"] (defScope s_is_listed) := ⟨rfl, rfl, rfl, by decide +kernel, rfl, by decide +kernel, by decide +kernel⟩
theorem ok_is_listed {P : Program} {w : World} {K : PySem.W.Frag} {mg : Str → Option Value} {base : Heap} (E : Env P K mg) : Fn P w K mg base CX0 1 "is_listed" (sp1 fun v H Q _ => ∃ d, DpX K H v d ∧ RetD K (.bool (dIsSeq d)) H Q) := by
  obtain ⟨fd, F⟩ := E.dd_is_listed
  refine Fn.mk0 F E.g_is_listed sc_is_listed sp1_len (fun _ _ _ _ _ _ us hl => match us, hl with | [_], _ => rfl) (fun cdv A outer s H vs Q X hr h => ?_)
  have nd := sc_is_listed.nd
  obtain ⟨v0, rfl, h⟩ := h
  refine ⟨_, (pss_one (ps_ret (pe_callB (kIsiT K) (by rfl) E.f_isinstance (by decide +kernel) (pa_cons (pv 0) (pa_cons (pe_tup (pa_cons (pe_bltn (v := .ty "tuple") (by rfl) E.f_tuple (by decide +kernel) rfl) (pa_cons (pe_bltn (v := .ty "list") (by rfl) E.f_list (by decide +kernel) rfl) pa_nil))) pa_nil))))), ?_⟩
  change (_ : TS) _ [some v0] H
  try dsimp only [cxOf, Cx.nox, Cx.blk]
  obtain ⟨d, hd | ⟨rfl, a, kvs, rfl, hk⟩, k⟩ := h
  case' inr =>
    walk_at "w"
    intro p H1 n1 e1 h1
    refine r_isiT (b := false) h1 (.base (.dK (e1 _ _ hk))) rfl ?_
    exact k.bl (by walk_at "ex")
  cases d with
  | dict x => exact (dp_nodict hd).elim
  | _ => cases hd <;> (walk_at "w"; intro p H1 n1 e1 h1; walk_at "w"; exact k.bl (by walk_at "ex"))

end
section
def endOf (l : List Int) (r : Int) : Option Int := if l = [] ∨ r > 0 then none else some (gI l (l.length - 1))
def vat (h l : List Int) (r p : Int) : Option Int :=
  if p = 0 then some 0 else if p ≤ h.length then some (gI h (p - 1)) else if l = [] then none
  else some (gI l ((p - h.length - 1) % l.length) + r * ((p - h.length - 1) / l.length))
def valueAt (h l : List Int) (r : Int) : Option Int → Option Int
  | none => endOf l r
  | some p => vat h l r p
/-- rises that fit a product -/
def RSm (h l : List Int) (r : Int) : Prop := -1152921504606846976 < r ∧ r < 1152921504606846976 ∧ h.length ≤ 50000 ∧ l.length ≤ 50000
abbrev N_end_of : List Str := ["raw", "head", "loop", "rise"]
theorem sc_end_of : FnScope N_end_of ["raw"] (defScope s_end_of) := ⟨rfl, rfl, rfl, by decide +kernel, rfl, by decide +kernel, by decide +kernel⟩
theorem ok_end_of {P : Program} {w : World} {K : PySem.W.Frag} {mg : Str → Option Value} {base : Heap} (E : Env P K mg) : Fn P w K mg base CX0 1 "end_of" (sp1 fun v H Q _ => ∃ h l r, Dp K H v (dRaw h l r) ∧ RetD K (dOpt (endOf l r)) H Q) := by
  obtain ⟨fd, F⟩ := E.dd_end_of
  refine Fn.mk0 F E.g_end_of sc_end_of sp1_len (fun _ _ _ _ _ _ us hl => match us, hl with | [_], _ => rfl) (fun cdv A outer s H vs Q X hr h => ?_)
  have nd := sc_end_of.nd
  obtain ⟨v0, rfl, h⟩ := h
  refine ⟨_, (pss_cons (ps_asg (pv 0) (kGtup K rfl (pgs_cons (pg_name (i := 1) nd rfl (.inl rfl)) (pgs_cons (pg_name (i := 2) nd rfl (.inl rfl)) (pgs_cons (pg_name (i := 3) nd rfl (.inl rfl)) (pgs_nil))))))
  (pss_cons (ps_if (PW.pt (pw_or (pt_cmpR (kEq K hr) (pe_callB (kLen K) (by rfl) E.f_len (by decide +kernel) (pa_cons (pv 2) pa_nil)) (pe_int) (nomark _)) (pw_or1 (pt_cmpR op_gt (pv 3) (pe_int) (nomark _)))))
   (pss_one (ps_ret (pe_non)))
   pss_nil)
  (pss_one (ps_ret (pe_ix (kIx K) (pv 2) (pe_un un_neg (pe_int)) (fun _ _ => rfl)))))), ?_⟩
  change (_ : TS) _ [some v0, none, none, none] H
  try dsimp only [cxOf, Cx.nox, Cx.blk]
  obtain ⟨hd, l, r, hD, k⟩ := h
  obtain ⟨a, th, tl, rfl, s1, s2, s3⟩ := dp_raw hD
  walk_at "w"
  by_cases h1 : l = []
  · subst h1
    walk_at "w"
    exact k.non (by walk_at "ex")
  · have h2 : 0 < l.length := List.length_pos_iff.mpr h1
    walk_at "w"
    unfold endOf at k
    by_cases h3 : 0 < r
    · walk_at "w"
      rw [if_pos (.inr h3)] at k
      exact k.non (by walk_at "ex")
    · walk_at "w"
      rw [if_neg (by rintro (h | h) <;> contradiction)] at k
      exact k.int (by walk_at "ex")
abbrev spValueAt (K : PySem.W.Frag) : Sp := sp2 fun a b H Q _ => ∃ h l r p, Dp K H a (dRaw h l r) ∧ Dp K H b (dOpt p) ∧ (∀ n, p = some n → 0 ≤ n) ∧ RSm h l r ∧ RetD K (dOpt (valueAt h l r p)) H Q
abbrev N_value_at : List Str := ["raw", "place", "head", "loop", "rise", "rest"]
theorem sc_value_at : FnScope N_value_at ["raw", "place"] (defScope s_value_at) := ⟨rfl, rfl, rfl, by decide +kernel, rfl, by decide +kernel, by decide +kernel⟩
theorem ok_value_at {P : Program} {w : World} {K : PySem.W.Frag} {mg : Str → Option Value} {base : Heap} (E : Env P K mg) : Fn P w K mg base CX0 2 "value_at" (spValueAt K) := by
  obtain ⟨fd, F⟩ := E.dd_value_at
  refine Fn.mk0 F E.g_value_at sc_value_at sp2_len (fun _ _ _ _ _ _ us hl => match us, hl with | [_, _], _ => rfl) (fun cdv A outer s H vs Q X hr h => ?_)
  have nd := sc_value_at.nd
  obtain ⟨v0, v1, rfl, h⟩ := h
  refine ⟨_, (pss_cons (ps_asg (pv 0) (kGtup K rfl (pgs_cons (pg_name (i := 2) nd rfl (.inl rfl)) (pgs_cons (pg_name (i := 3) nd rfl (.inl rfl)) (pgs_cons (pg_name (i := 4) nd rfl (.inl rfl)) (pgs_nil))))))
  (pss_cons (ps_if (pt_cmpR xIs (pv 1) (pe_non) (nomark _))
   (pss_one (ps_ret (pc (ok_end_of E) hr (by decide) pass0 rfl (pa_cons (pv 0) pa_nil))))
   pss_nil)
  (pss_cons (ps_if (pt_cmpR (kEq K hr) (pv 1) (pe_int) (nomark _))
   (pss_one (ps_ret (pe_int)))
   pss_nil)
  (pss_cons (ps_if (pt_cmpR op_le (pv 1) (pe_callB (kLen K) (by rfl) E.f_len (by decide +kernel) (pa_cons (pv 2) pa_nil)) (nomark _))
   (pss_one (ps_ret (pe_ix (kIx K) (pv 2) (pe_op xSub (pv 1) (pe_int)) (fun _ _ => rfl))))
   pss_nil)
  (pss_cons (ps_if (pt_cmpR (kEq K hr) (pe_callB (kLen K) (by rfl) E.f_len (by decide +kernel) (pa_cons (pv 3) pa_nil)) (pe_int) (nomark _))
   (pss_one (ps_ret (pe_non)))
   pss_nil)
  (pss_cons (ps_set (i := 5) nd rfl (.inl rfl) (pe_op xSub (pe_op xSub (pv 1) (pe_callB (kLen K) (by rfl) E.f_len (by decide +kernel) (pa_cons (pv 2) pa_nil))) (pe_int)))
  (pss_one (ps_ret (pe_op (kAdd K) (pe_ix (kIx K) (pv 3) (pe_op xMod (pv 5) (pe_callB (kLen K) (by rfl) E.f_len (by decide +kernel) (pa_cons (pv 3) pa_nil))) (fun _ _ => rfl)) (pe_op (kMul K) (pv 4) (pe_op xDiv (pv 5) (pe_callB (kLen K) (by rfl) E.f_len (by decide +kernel) (pa_cons (pv 3) pa_nil))))))))))))), ?_⟩
  change (_ : TS) _ [some v0, some v1, none, none, none, none] H
  try dsimp only [cxOf, Cx.nox, Cx.blk]
  obtain ⟨hd, l, r, p, hD, hp, hn, hr1, k⟩ := h
  obtain ⟨a, th, tl, rfl, s1, s2, s3⟩ := dp_raw hD
  obtain ⟨r1, r2, r3, r4⟩ := hr1
  cases p with
  | none =>
    obtain rfl := dp_toNon hp
    walk_at "w"
    exact ⟨hd, l, r, hD, k⟩
  | some p =>
    obtain rfl := dp_toInt hp
    have hn0 := hn p rfl
    walk_at "w"
    have k' : RetD K (dOpt (vat hd l r p)) H Q := k
    unfold vat at k'
    by_cases h0 : p = 0
    · walk_at "w"
      rw [if_pos h0] at k'
      exact k'.int (by walk_at "ex")
    · rw [if_neg h0] at k'
      walk_at "w"
      by_cases h1 : p ≤ hd.length
      · rw [if_pos h1] at k'
        walk_at "w"
        exact k'.int (by walk_at "ex")
      · rw [if_neg h1] at k'
        walk_at "w"
        by_cases h2 : l = []
        · rw [if_pos h2] at k'
          subst h2
          walk_at "w"
          exact k'.non (by walk_at "ex")
        · rw [if_neg h2] at k'
          have h3 : 0 < l.length := List.length_pos_iff.mpr h2
          have h4 : (p - hd.length - 1) % l.length < l.length := Int.emod_lt_of_pos _ (by omega)
          have h5 : 0 ≤ (p - hd.length - 1) % l.length := Int.emod_nonneg _ (by omega)
          walk_at "w"
          exact k'.int (by walk_at "ex")

end
section
/-- whether a loop goes on in the same way behind its first m entries -/
def slOk (l : List Int) (r : Int) (m : Nat) : Prop :=
  (l.length : Int) % m = 0 ∧ r % ((l.length : Int) / m) = 0 ∧ ∀ i : Nat, i + m < l.length → gI l (i + m) = gI l i + r / ((l.length : Int) / m)
open Classical in
noncomputable def shortLoop (l : List Int) (r : Int) : List Int × Int :=
  match (List.range' 1 (l.length - 1)).find? (fun m => decide (slOk l r m)) with
  | some m => (l.take m, r / ((l.length : Int) / m))
  | none => (l, r)
theorem shortLoop_some {l : List Int} {r : Int} {m : Nat} (h1 : 1 ≤ m) (h2 : m < l.length) (ho : slOk l r m) (hn : ∀ j, 1 ≤ j → j < m → ¬ slOk l r j) : shortLoop l r = (l.take m, r / ((l.length : Int) / m)) := by
  unfold shortLoop
  have e : (List.range' 1 (l.length - 1)).find? (fun m => @decide (slOk l r m) (Classical.propDecidable _)) = some m := by
    rw [List.find?_eq_some_iff_getElem]
    refine ⟨by simpa using ho, m - 1, by simp; omega, by simp; omega, fun j hj => ?_⟩
    simp
    exact hn (1 + j) (by omega) (by omega)
  rw [e]
theorem shortLoop_none {l : List Int} {r : Int} (hn : ∀ j, 1 ≤ j → j < l.length → ¬ slOk l r j) : shortLoop l r = (l, r) := by
  unfold shortLoop
  have e : (List.range' 1 (l.length - 1)).find? (fun m => @decide (slOk l r m) (Classical.propDecidable _)) = none := by
    rw [List.find?_eq_none]
    intro m hm
    simp at hm ⊢
    exact hn m (by omega) (by omega)
  rw [e]
abbrev N_short_loop : List Str := ["loop", "rise", "many", "step", "place"]
theorem sc_short_loop : FnScope N_short_loop ["loop", "rise"] (defScope s_short_loop) := ⟨rfl, rfl, rfl, by decide +kernel, rfl, by decide +kernel, by decide +kernel⟩
theorem ok_short_loop {P : Program} {w : World} {K : PySem.W.Frag} {mg : Str → Option Value} {base : Heap} (E : Env P K mg) : Fn P w K mg base CX0 1 "short_loop" (sp2 fun a b H Q _ => ∃ l r, Dp K H a (dInts l) ∧ Dp K H b (.int r) ∧ RSm [] l r ∧ RetD K (.tuple [dInts (shortLoop l r).1, .int (shortLoop l r).2]) H Q) := by
  obtain ⟨fd, F⟩ := E.dd_short_loop
  refine Fn.mk0 F E.g_short_loop sc_short_loop sp2_len (fun _ _ _ _ _ _ us hl => match us, hl with | [_, _], _ => rfl) (fun cdv A outer s H vs Q X hr h => ?_)
  have nd := sc_short_loop.nd
  obtain ⟨v0, v1, rfl, h⟩ := h
  refine ⟨_, (pss_cons (ps_for PassesOwn.never rfl (pi_range2 (by rfl) E.f_range (pa_cons (pe_int) (pa_cons (pe_callB (kLen K) (by rfl) E.f_len (by decide +kernel) (pa_cons (pv 0) pa_nil)) pa_nil))) (pg_name (i := 2) nd rfl (.inr rfl))
   (pss_one (ps_if (PW.pt (pw_and (pt_cmpR (kEq K hr) (pe_op xMod (pe_callB (kLen K) (by rfl) E.f_len (by decide +kernel) (pa_cons (pv 0) pa_nil)) (pv 2)) (pe_int) (nomark _)) (pw_and1 (pt_cmpR (kEq K hr) (pe_op xMod (pv 1) (pe_op xDiv (pe_callB (kLen K) (by rfl) E.f_len (by decide +kernel) (pa_cons (pv 0) pa_nil)) (pv 2))) (pe_int) (nomark _)))))
   (pss_cons (ps_set (i := 3) nd rfl (.inr rfl) (pe_op xDiv (pv 1) (pe_op xDiv (pe_callB (kLen K) (by rfl) E.f_len (by decide +kernel) (pa_cons (pv 0) pa_nil)) (pv 2))))
  (pss_one (ps_if (kTru K (pe_callB (kAll K rfl) (by rfl) E.f_all (by decide +kernel) (pa_cons (pe_lc (own := [("place", 4)]) (g := gName 4) (tt := tYes) rfl nd (pi_range1 (by rfl) E.f_range (pa_cons (pe_op xSub (pe_callB (kLen K) (by rfl) E.f_len (by decide +kernel) (pa_cons (pv 0) pa_nil)) (pv 2)) pa_nil)) (blkOk_by (N := N_short_loop) (sc := defScope s_short_loop) (by decide +kernel)) (fun _ _ _ _ _ => pg_name (i := 4) nd rfl (Or.inl rfl)) (fun _ _ _ _ _ => pts_nil) (fun _ _ _ _ _ => pe_cmpR (kEq K hr) (pe_ix (kIx K) (pv 0) (pe_op (kAdd K) (pv 4) (pv 2)) (fun _ _ => rfl)) (pe_op (kAdd K) (pe_ix (kIx K) (pv 0) (pv 4) (fun _ _ => rfl)) (pv 3)) (nomark _))) pa_nil)) (by intro _; rfl))
   (pss_one (ps_ret (pe_tup (pa_cons (pe_slice (kSl K) (pv 0) po_none (po_some (pv 2))) (pa_cons (pv 3) pa_nil)))))
   pss_nil)))
   pss_nil)))
  (pss_one (ps_ret (pe_tup (pa_cons (pv 0) (pa_cons (pv 1) pa_nil)))))), ?_⟩
  change (_ : TS) _ [some v0, some v1, none, none, none] H
  try dsimp only [cxOf, Cx.nox, Cx.blk]
  obtain ⟨l, r, hl, hri, ⟨r1, r2, r3, r4⟩, k⟩ := h
  obtain ⟨t, rfl, s1⟩ := dp_ints hl
  obtain rfl := dp_toInt hri
  walk_at "w"
  refine for_range (lo := 1) (Pv := fun i σ' H' => ∃ a b c, σ' = [some (.ref t), some (.int r), a, b, c] ∧ Ex H H' ∧ ∀ j : Nat, 1 ≤ j → j < 1 + i → ¬ slOk l r j) ⟨_, _, _, rfl, Ex.refl H, fun j h1 h2 => by omega⟩ ?_ ?_
  · rintro i σ' H' hi ⟨a, b, c, rfl, e, hnot⟩
    have hi' : 1 + i < l.length := by omega
    obtain ⟨m, hm⟩ : ∃ m : Nat, m = 1 + i := ⟨_, rfl⟩
    have hm0 : 0 < m := by omega
    rw [show (1 + (i : Int)) = (m : Int) by omega]
    have hq : 0 < (l.length : Int) / m := Int.le_ediv_of_mul_le (by omega) (by omega)
    have hq2 : (l.length : Int) / m ≤ l.length := Int.ediv_le_self _ (by omega)
    have hno : ¬ slOk l r m → ∀ j : Nat, 1 ≤ j → j < 1 + (i + 1) → ¬ slOk l r j := fun hn j h1 h2 => by
      by_cases hj : j = m
      · rw [hj]; exact hn
      · exact hnot j h1 (by omega)
    walk_at "w"
    by_cases c1 : (l.length : Int) % m = 0
    · walk_at "w"
      by_cases c2 : r % ((l.length : Int) / m) = 0
      · walk_at "w"
        refine lcJ_r0 (v := fun i => .bl (decide (gI l (i + m) = gI l i + r / ((l.length : Int) / m)))) (by omega) (fun x => [_, _, _, _, some x]) (fun x => rfl) (fun x => rfl) (fun j H1 Q' e1 hj hq => ?_) (fun p H2 np e2 hp => ?_)
        · walk_at "w"
          exact hq H1 (Ex.refl _)
        · rw [map_bl_range] at hp
          walk_at "w"
          refine r_all (sq_of hp) rfl ?_
          rw [all_range]
          walk_at "w"
          by_cases c3 : ∀ j : Nat, j < ((l.length : Int) - m).toNat → gI l (j + m) = gI l j + r / ((l.length : Int) / m)
          · walk_at "w"
            intro p3 H3 e3 s3
            walk_at "w"
            intro p4 H4 n4 e4 h4
            rw [shortLoop_some hm0 (by omega) ⟨c1, c2, fun j hj => c3 j (by omega)⟩ (fun j h1 h2 => hnot j h1 (by omega))] at k
            refine k _ _ (((e.trans e2).trans e3).trans e4) (.tup (st_of h4) (.cons (dp_of_ints (ex_t e4 ?_)) (.cons (.int _) .nil)))
            exact s3
          · walk_at "w"
            refine ⟨_, _, _, rfl, e.trans e2, hno fun h => c3 fun j hj => ?_⟩
            exact h.2.2 j (by omega)
      · walk_at "w"
        exact ⟨_, _, _, rfl, e, hno fun h => c2 h.2.1⟩
    · walk_at "w"
      exact ⟨_, _, _, rfl, e, hno fun h => c1 h.1⟩
  · rintro σ' H' ⟨a, b, c, rfl, e, hnot⟩
    walk_at "w"
    intro p H1 n1 e1 h1
    rw [shortLoop_none (fun j h1 h2 => hnot j h1 (by omega))] at k
    exact k _ _ (e.trans e1) (.tup (st_of h1) (.cons (dp_of_ints (ex_t e1 (ex_t e s1))) (.cons (.int r) .nil)))

end
section
theorem shortLoop_cases (l : List Int) (r : Int) : (shortLoop l r = (l, r)) ∨ ∃ m : Nat, 1 ≤ m ∧ m < l.length ∧ slOk l r m ∧ shortLoop l r = (l.take m, r / ((l.length : Int) / m)) := by
  by_cases h : ∃ m : Nat, 1 ≤ m ∧ m < l.length ∧ slOk l r m
  · have key : ∀ n : Nat, (∃ m : Nat, m ≤ n ∧ 1 ≤ m ∧ m < l.length ∧ slOk l r m) → ∃ m : Nat, 1 ≤ m ∧ m < l.length ∧ slOk l r m ∧ ∀ j, 1 ≤ j → j < m → ¬ slOk l r j := by
      intro n
      induction n with
      | zero => rintro ⟨m, h0, h1, _⟩; omega
      | succ n ih =>
        rintro ⟨m, h0, h1, h2, h3⟩
        by_cases q : ∃ m : Nat, m ≤ n ∧ 1 ≤ m ∧ m < l.length ∧ slOk l r m
        · exact ih q
        · exact ⟨m, h1, h2, h3, fun j j1 j2 j3 => q ⟨j, by omega, j1, by omega, j3⟩⟩
    obtain ⟨m, h1, h2, h3⟩ := h
    obtain ⟨m, h1, h2, h3, h4⟩ := key m ⟨m, Nat.le_refl _, h1, h2, h3⟩
    exact .inr ⟨m, h1, h2, h3, shortLoop_some h1 h2 h3 h4⟩
  · exact .inl (shortLoop_none fun j h1 h2 h3 => h ⟨j, h1, h2, h3⟩)
theorem shortLoop_len (l : List Int) (r : Int) : (shortLoop l r).1.length ≤ l.length ∧ (l ≠ [] → (shortLoop l r).1 ≠ []) := by
  rcases shortLoop_cases l r with e | ⟨m, h1, h2, _, e⟩
  · rw [e]; exact ⟨Nat.le_refl _, id⟩
  · rw [e]
    refine ⟨by show (l.take m).length ≤ _; rw [List.length_take]; omega, fun _ q => ?_⟩
    have : (l.take m).length = 0 := by rw [show l.take m = [] from q]; rfl
    rw [List.length_take] at this
    omega
theorem shortLoop_rise {l : List Int} {r : Int} (h : 0 ≤ r) : 0 ≤ (shortLoop l r).2 ∧ (shortLoop l r).2 ≤ r := by
  rcases shortLoop_cases l r with e | ⟨m, h1, h2, _, e⟩
  · rw [e]; exact ⟨h, Int.le_refl _⟩
  · rw [e]
    have hq : 0 < (l.length : Int) / m := Int.le_ediv_of_mul_le (by omega) (by omega)
    exact ⟨Int.ediv_nonneg h (by omega), Int.ediv_le_self _ h⟩
/-- what a loop going on backwards has back places ahead of itself -/
def bkV (l : List Int) (r back : Int) : Int := gI l (-1 - back % l.length + l.length) - r * (back / l.length + 1)
def cutH (h l : List Int) (r : Int) : Nat → Nat
  | 0 => 0
  | k + 1 => if gI h k = bkV l r (h.length - (k + 1)) then cutH h l r k else k + 1
noncomputable def plainF (h l : List Int) (r : Int) : List Int × List Int × Int :=
  if l = [] then (h, [], 0) else
    (h.take (cutH h (shortLoop l r).1 (shortLoop l r).2 h.length),
     (List.range (shortLoop l r).1.length).map fun i : Nat => (vat h (shortLoop l r).1 (shortLoop l r).2 (cutH h (shortLoop l r).1 (shortLoop l r).2 h.length + 1 + i)).getD 0,
     (shortLoop l r).2)
theorem cutH_le (h l : List Int) (r : Int) : ∀ k, cutH h l r k ≤ k
  | 0 => Nat.le_refl _
  | k + 1 => by
    unfold cutH
    split
    · exact Nat.le_succ_of_le (cutH_le h l r k)
    · exact Nat.le_refl _
theorem vat_some {h l : List Int} {r p : Int} (hl : l ≠ []) : vat h l r p = some ((vat h l r p).getD 0) := by
  unfold vat
  rw [if_neg hl]
  split
  · rfl
  · split <;> rfl
abbrev N_plain_form : List Str := ["head", "loop", "rise", "keep", "back", "told", "place"]
theorem sc_plain_form : FnScope N_plain_form ["head", "loop", "rise"] (defScope s_plain_form) := ⟨rfl, rfl, rfl, by decide +kernel, rfl, by decide +kernel, by decide +kernel⟩
theorem ok_plain_form {P : Program} {w : World} {K : PySem.W.Frag} {mg : Str → Option Value} {base : Heap} (E : Env P K mg) : Fn P w K mg base CX0 3 "plain_form" (sp3 fun a b c H Q _ => ∃ h l r, Dp K H a (dInts h) ∧ Dp K H b (dInts l) ∧ Dp K H c (.int r) ∧ 0 ≤ r ∧ RSm h l r ∧ RetD K (dRaw (plainF h l r).1 (plainF h l r).2.1 (plainF h l r).2.2) H Q) := by
  obtain ⟨fd, F⟩ := E.dd_plain_form
  refine Fn.mk0 F E.g_plain_form sc_plain_form sp3_len (fun _ _ _ _ _ _ us hl => match us, hl with | [_, _, _], _ => rfl) (fun cdv A outer s H vs Q X hr h => ?_)
  have nd := sc_plain_form.nd
  obtain ⟨v0, v1, v2, rfl, h⟩ := h
  refine ⟨_, (pss_cons (ps_if (pt_cmpR (kEq K hr) (pe_callB (kLen K) (by rfl) E.f_len (by decide +kernel) (pa_cons (pv 1) pa_nil)) (pe_int) (nomark _))
   (pss_one (ps_ret (pe_tup (pa_cons (pv 0) (pa_cons (pe_tup pa_nil) (pa_cons (pe_int) pa_nil))))))
   pss_nil)
  (pss_cons (ps_asg (pc (ok_short_loop E) hr (by decide) pass0 rfl (pa_cons (pv 1) (pa_cons (pv 2) pa_nil))) (kGtup K rfl (pgs_cons (pg_name (i := 1) nd rfl (.inl rfl)) (pgs_cons (pg_name (i := 2) nd rfl (.inl rfl)) (pgs_nil)))))
  (pss_cons (ps_set (i := 3) nd rfl (.inr rfl) (pe_callB (kLen K) (by rfl) E.f_len (by decide +kernel) (pa_cons (pv 0) pa_nil)))
  (pss_cut (ps_while PassesOwn.never (pt_cmpR op_gt (pv 3) (pe_int) (nomark _))
   (pss_cons (ps_set (i := 4) nd rfl (.inl rfl) (pe_op xSub (pe_callB (kLen K) (by rfl) E.f_len (by decide +kernel) (pa_cons (pv 0) pa_nil)) (pv 3)))
  (pss_cons (ps_if (pt_cmpR (kNe K hr) (pe_ix (kIx K) (pv 0) (pe_op xSub (pv 3) (pe_int)) (fun _ _ => rfl)) (pe_op xSub (pe_ix (kIx K) (pv 1) (pe_op xSub (pe_un un_neg (pe_int)) (pe_op xMod (pv 4) (pe_callB (kLen K) (by rfl) E.f_len (by decide +kernel) (pa_cons (pv 1) pa_nil)))) (fun _ _ => rfl)) (pe_op (kMul K) (pv 2) (pe_op (kAdd K) (pe_op xDiv (pv 4) (pe_callB (kLen K) (by rfl) E.f_len (by decide +kernel) (pa_cons (pv 1) pa_nil))) (pe_int)))) (nomark _))
   (pss_one (ps_break))
   pss_nil)
  (pss_one (ps_set (i := 3) nd rfl (.inr rfl) (pe_op xSub (pv 3) (pe_int)))))))
  (pss_cons (ps_set (i := 5) nd rfl (.inr rfl) (pe_tup (pa_cons (pv 0) (pa_cons (pv 1) (pa_cons (pv 2) pa_nil)))))
  (pss_one (ps_ret (pe_tup (pa_cons (pe_slice (kSl K) (pv 0) po_none (po_some (pv 3))) (pa_cons (pe_callTy (kTup K) (by rfl) E.f_tuple (by decide +kernel) (pa_cons (pe_lc (own := [("place", 6)]) (g := gName 6) (tt := tYes) rfl nd (pi_range1 (by rfl) E.f_range (pa_cons (pe_callB (kLen K) (by rfl) E.f_len (by decide +kernel) (pa_cons (pv 1) pa_nil)) pa_nil)) (blkOk_by (N := N_plain_form) (sc := defScope s_plain_form) (by decide +kernel)) (fun _ _ _ _ _ => pg_name (i := 6) nd rfl (Or.inl rfl)) (fun _ _ _ _ _ => pts_nil) (fun _ _ _ _ _ => pc (ok_value_at E) hr (by decide) pass0 rfl (pa_cons (pv 5) (pa_cons (pe_op (kAdd K) (pe_op (kAdd K) (pv 3) (pe_int)) (pv 6)) pa_nil)))) pa_nil)) (pa_cons (pv 2) pa_nil))))))))))), ?_⟩
  change (_ : TS) _ [some v0, some v1, some v2, none, none, none, none] H
  try dsimp only [cxOf, Cx.nox, Cx.blk]
  obtain ⟨h, l, r, hh, hl, hri, hr0, ⟨r1, r2, r3, r4⟩, k⟩ := h
  obtain ⟨th, rfl, s1⟩ := dp_ints hh
  obtain ⟨tl, rfl, s2⟩ := dp_ints hl
  obtain rfl := dp_toInt hri
  unfold plainF at k
  walk_at "w"
  by_cases hn : l = []
  · subst hn
    rw [if_pos rfl] at k
    walk_at "w"
    intro p1 H1 n1 e1 h1
    walk_at "w"
    intro p2 H2 n2 e2 h2
    exact k _ _ (e1.trans e2) (dp_of_raw (st_of h2) (ex_t e2 (ex_t e1 s1)) (ex_t e2 (st_of h1)))
  · rw [if_neg hn] at k
    have hl0 : 0 < l.length := List.length_pos_iff.mpr hn
    walk_at "w"
    refine ⟨l, r, dp_of_ints s2, .int r, ⟨r1, r2, by simp, r4⟩, fun v H1 e1 d1 => ?_⟩
    obtain ⟨pa, x, y, rfl, sp, dx, dy⟩ := dp_t2 d1
    obtain ⟨ta, rfl, sa⟩ := dp_ints dx
    obtain rfl := dp_toInt dy
    obtain ⟨q1, q2⟩ := shortLoop_len l r
    obtain ⟨q3, q4⟩ := shortLoop_rise (l := l) hr0
    have q5 := q2 hn
    have q5' := q5
    generalize shortLoop l r = sl at *
    obtain ⟨l', r'⟩ := sl
    dsimp only at *
    have hl1 : 0 < l'.length := List.length_pos_iff.mpr q5
    walk_at "w"
    refine w_cut (M := fun σ' H' => ∃ (m : Nat) (bk : Option V), σ' = [some (.ref th), some (.ref ta), some (.int r'), some (.int (m : Int)), bk, none, none] ∧ Ex H1 H' ∧ m ≤ h.length ∧ cutH h l' r' h.length = m) ?_ ?_
    · refine ⟨fun m σ' H' => ∃ bk, σ' = [some (.ref th), some (.ref ta), some (.int r'), some (.int (m : Int)), bk, none, none] ∧ Ex H1 H' ∧ m ≤ h.length ∧ cutH h l' r' h.length = cutH h l' r' m, ⟨h.length, none, rfl, Ex.refl _, Nat.le_refl _, rfl⟩, ?_⟩
      rintro m σ' H' ⟨bk, rfl, e2, hm, hc⟩
      walk_at "w"
      cases m with
      | zero =>
        walk_at "w"
        exact ⟨0, _, rfl, e2, hm, hc⟩
      | succ m =>
        walk_at "w"
        refine ⟨_, fun σ2 H2 h2 => ⟨m, Nat.lt_succ_self m, h2⟩, ?_⟩
        have hb0 : 0 ≤ ((h.length : Int) - (m + 1 : Nat)) % l'.length := Int.emod_nonneg _ (by omega)
        have hb1 : ((h.length : Int) - (m + 1 : Nat)) % l'.length < l'.length := Int.emod_lt_of_pos _ (by omega)
        walk_at "w"
        have hb : bkV l' r' ((h.length : Int) - (m + 1 : Nat)) = gI l' (-1 - (↑h.length - ↑(m + 1)) % ↑l'.length + ↑l'.length) - r' * ((↑h.length - ↑(m + 1)) / ↑l'.length + 1) := rfl
        rw [← hb, show ((m + 1 : Nat) : Int) - 1 = (m : Int) by omega]
        by_cases c : gI h m = bkV l' r' ((h.length : Int) - (m + 1 : Nat))
        · walk_at "w"
          rw [show ((m + 1 : Nat) : Int) - 1 = (m : Int) by omega]
          refine ⟨_, rfl, e2, by omega, ?_⟩
          rw [hc]
          exact if_pos c
        · walk_at "w"
          refine ⟨m + 1, _, rfl, e2, hm, ?_⟩
          rw [hc]
          exact if_neg c
    · rintro σ' H' ⟨m, bk, rfl, e2, hm, hc⟩
      walk_at "w"
      intro p1 H2 n2 e3 h3
      walk_at "w"
      intro p2 H3 e4 s4
      rw [Int.toNat_natCast] at s4
      walk_at "w"
      have hs : Dp K H3 (.ref p1) (dRaw h l' r') := dp_of_raw (ex_t e4 (st_of h3)) (by walk_at "hp") (by walk_at "hp")
      refine lcJ_r0 (v := fun i : Nat => .int ((vat h l' r' (m + 1 + i)).getD 0)) (by omega) (fun x => [_, _, _, _, _, _, some x]) (fun x => rfl) (fun x => rfl) (fun j H4 Q' e5 hj hq => ?_) (fun p4 H4 n4 e5 h5 => ?_)
      · walk_at "w"
        refine ⟨h, l', r', some (m + 1 + j), dp_ex e5 hs, .int _, fun n hn => by cases hn; omega, ⟨by omega, by omega, r3, by omega⟩, fun v H5 e6 d6 => ?_⟩
        obtain rfl := dp_toInt (by rw [show valueAt h l' r' (some (m + 1 + j)) = some _ from vat_some q5'] at d6; exact d6)
        exact hq _ e6
      · walk_at "w"
        intro p5 H5 e6 s6
        walk_at "w"
        intro p6 H6 n6 e7 h6
        rw [Int.toNat_natCast] at s6
        rw [hc] at k
        refine k _ _ (by walk_at "ex") (dp_of_raw (st_of h6) (by walk_at "hp") (ex_t e7 ?_))
        unfold vI
        rw [List.map_map]
        exact s6

end
section
def rising (ns : List Int) : Prop := ∀ i : Nat, i + 1 < ns.length → gI ns i ≤ gI ns (i + 1)
def allPos (ns : List Int) : Prop := ∀ n ∈ ns, 0 ≤ n
/-- a tuple or a list of ints -/
def dSeqI (b : Bool) (ns : List Int) : PyData := if b then dInts ns else dIntL ns
theorem dp_seqI {K : PySem.W.Frag} {H : Hp} {v : V} {b : Bool} {ns : List Int} (h : Dp K H v (dSeqI b ns)) : ∃ a, v = .ref a ∧ ((b = true ∧ SqT K H a (vI ns)) ∨ (b = false ∧ SqL K H a (vI ns))) := by
  cases b with
  | true => obtain ⟨a, e, s⟩ := dp_ints h; exact ⟨a, e, .inl ⟨rfl, s⟩⟩
  | false => obtain ⟨a, e, s⟩ := dp_intL h; exact ⟨a, e, .inr ⟨rfl, s⟩⟩
abbrev N_is_counts : List Str := ["thing", "one"]
theorem sc_is_counts : FnScope N_is_counts ["thing"] (defScope s_is_counts) := ⟨rfl, rfl, rfl, by decide +kernel, rfl, by decide +kernel, by decide +kernel⟩
theorem ok_is_counts {P : Program} {w : World} {K : PySem.W.Frag} {mg : Str → Option Value} {base : Heap} (E : Env P K mg) : Fn P w K mg base CX0 3 "is_counts" (sp1 fun v H Q _ => ∃ b ns, Dp K H v (dSeqI b ns) ∧ allPos ns ∧ ns.length ≤ 50000 ∧ RetD K (.bool true) H Q) := by
  obtain ⟨fd, F⟩ := E.dd_is_counts
  refine Fn.mk0 F E.g_is_counts sc_is_counts sp1_len (fun _ _ _ _ _ _ us hl => match us, hl with | [_], _ => rfl) (fun cdv A outer s H vs Q X hr h => ?_)
  have nd := sc_is_counts.nd
  obtain ⟨v0, rfl, h⟩ := h
  refine ⟨_, (pss_one (ps_ret (pe_and (pc (ok_is_listed E) hr (by decide) pass0 rfl (pa_cons (pv 0) pa_nil)) (pe_one (pe_callB (kAll K rfl) (by rfl) E.f_all (by decide +kernel) (pa_cons (pe_lc (own := [("one", 1)]) (g := gName 1) (tt := tYes) rfl nd (kSeq K (pv 0)) (blkOk_by (N := N_is_counts) (sc := defScope s_is_counts) (by decide +kernel)) (fun _ _ _ _ _ => pg_name (i := 1) nd rfl (Or.inl rfl)) (fun _ _ _ _ _ => pts_nil) (fun _ _ _ _ _ => pc (ok_is_count E) hr (by decide) pass0 rfl (pa_cons (pv 1) pa_nil))) pa_nil)))))), ?_⟩
  change (_ : TS) _ [some v0, none] H
  try dsimp only [cxOf, Cx.nox, Cx.blk]
  obtain ⟨b, ns, hd, hp, hz, k⟩ := h
  obtain ⟨a, rfl, hs⟩ := dp_seqI hd
  walk_at "w"
  refine ⟨_, .inl hd, fun v H1 e1 d1 => ?_⟩
  have e : dIsSeq (dSeqI b ns) = true := by cases b <;> rfl
  rw [e] at d1
  obtain rfl := dp_toBl d1
  walk_at "w"
  have key : ∀ (x : V) (H2 : Hp) (Q' : VK), x ∈ vI ns → (∀ H3, Ex H2 H3 → Q' (.bl true) H3) → ∃ d, Dp K H2 x d ∧ RetD K (.bool (dIsCount d)) H2 Q' := fun x H2 Q' hx hq => by
    obtain ⟨n, hn, rfl⟩ := List.mem_map.mp hx
    refine ⟨.int n, .int n, fun v H3 e3 d3 => ?_⟩
    rw [show dIsCount (.int n) = true from decide_eq_true (hp n hn)] at d3
    obtain rfl := dp_toBl d3
    exact hq H3 e3
  have fin : ∀ (p : Addr) (H2 : Hp), Ex H1 H2 → H2 p = some (.lst ((vI ns).map fun _ => V.bl true)) → rAll K [.ref p] H2 (fun v H => Q v H) := fun p H2 e2 hp => by
    refine r_all (bs := (vI ns).map fun _ => true) (sq_of hp) (by simp [Function.comp]) ?_
    have : ((vI ns).map fun _ => true).all id = true := by simp
    rw [this]
    exact k.bl (e1.trans e2)
  rcases hs with ⟨rfl, s⟩ | ⟨rfl, s⟩
  · refine i_seqT ?_
    walk_at "w"
    refine lcJ_tup (v := fun _ => .bl true) (ex_t e1 s) (by rw [List.length_map]; omega) (fun x => [_, some x]) (fun x => rfl) (fun x => rfl) (fun x H2 Q' e2 hx hq => ?_) (fun p H2 n2 e2 hp => ?_)
    · walk_at "w"
      exact key x H2 Q' hx hq
    · walk_at "w"
      exact fin p H2 e2 hp
  · refine i_seqL ?_
    walk_at "w"
    refine lcJ_list (v := fun _ => .bl true) (ex_l e1 s) (by rw [List.length_map]; omega) (fun x => [_, some x]) (fun x => rfl) (fun x => rfl) (fun x H2 Q' e2 hx hq => ?_) (fun p H2 n2 e2 hp => ?_)
    · walk_at "w"
      exact key x H2 Q' hx hq
    · walk_at "w"
      exact fin p H2 e2 hp
abbrev N_is_rising : List Str := ["counts", "place"]
theorem sc_is_rising : FnScope N_is_rising ["counts"] (defScope s_is_rising) := ⟨rfl, rfl, rfl, by decide +kernel, rfl, by decide +kernel, by decide +kernel⟩
theorem ok_is_rising {P : Program} {w : World} {K : PySem.W.Frag} {mg : Str → Option Value} {base : Heap} (E : Env P K mg) : Fn P w K mg base CX0 1 "is_rising" (sp1 fun v H Q _ => ∃ b ns, Dp K H v (dSeqI b ns) ∧ rising ns ∧ ns.length ≤ 50000 ∧ RetD K (.bool true) H Q) := by
  obtain ⟨fd, F⟩ := E.dd_is_rising
  refine Fn.mk0 F E.g_is_rising sc_is_rising sp1_len (fun _ _ _ _ _ _ us hl => match us, hl with | [_], _ => rfl) (fun cdv A outer s H vs Q X hr h => ?_)
  have nd := sc_is_rising.nd
  obtain ⟨v0, rfl, h⟩ := h
  refine ⟨_, (pss_one (ps_ret (pe_callB (kAll K rfl) (by rfl) E.f_all (by decide +kernel) (pa_cons (pe_lc (own := [("place", 1)]) (g := gName 1) (tt := tYes) rfl nd (pi_range1 (by rfl) E.f_range (pa_cons (pe_op xSub (pe_callB (kLen K) (by rfl) E.f_len (by decide +kernel) (pa_cons (pv 0) pa_nil)) (pe_int)) pa_nil)) (blkOk_by (N := N_is_rising) (sc := defScope s_is_rising) (by decide +kernel)) (fun _ _ _ _ _ => pg_name (i := 1) nd rfl (Or.inl rfl)) (fun _ _ _ _ _ => pts_nil) (fun _ _ _ _ _ => pe_cmpR op_le (pe_ix (kIx K) (pv 0) (pv 1) (fun _ _ => rfl)) (pe_ix (kIx K) (pv 0) (pe_op (kAdd K) (pv 1) (pe_int)) (fun _ _ => rfl)) (nomark _))) pa_nil)))), ?_⟩
  change (_ : TS) _ [some v0, none] H
  try dsimp only [cxOf, Cx.nox, Cx.blk]
  obtain ⟨b, ns, hd, hri, hz, k⟩ := h
  obtain ⟨a, rfl, hs⟩ := dp_seqI hd
  have fin : ∀ (p : Addr) (H2 : Hp), Ex H H2 → H2 p = some (.lst ((List.range ((ns.length : Int) - 1).toNat).map fun _ => V.bl true)) → rAll K [.ref p] H2 (fun v H => Q v H) := fun p H2 e2 hp => by
    refine r_all (bs := (List.range ((ns.length : Int) - 1).toNat).map fun _ => true) (sq_of hp) (by simp [Function.comp]) ?_
    have : ((List.range ((ns.length : Int) - 1).toNat).map fun _ => true).all id = true := by simp
    rw [this]
    exact k.bl e2
  have cmp : ∀ j : Nat, j < ((ns.length : Int) - 1).toNat → decide (gI ns j ≤ gI ns (j + 1)) = true := fun j hj => decide_eq_true (hri j (by omega))
  rcases hs with ⟨rfl, s⟩ | ⟨rfl, s⟩
  all_goals
    walk_at "w"
    refine lcJ_r0 (v := fun _ => .bl true) (by omega) (fun x => [_, some x]) (fun x => rfl) (fun x => rfl) (fun j H2 Q' e2 hj hq => ?_) (fun p H2 n2 e2 hp => ?_)
    · walk_at "w"
      rw [cmp j hj]
      exact hq _ (Ex.refl _)
    · walk_at "w"
      exact fin p H2 e2 hp

end
section
abbrev spDeep (K : PySem.W.Frag) (n : Nat) : Sp := sp1 fun v H Q _ => ∃ d, Dp K H v d ∧ shp n d = true ∧ RetD K (dDeep d) H Q
abbrev N_deep : List Str := ["thing", "one"]
theorem sc_deep : FnScope N_deep ["thing"] (defScope s_deep) := ⟨rfl, rfl, rfl, by decide +kernel, rfl, by decide +kernel, by decide +kernel⟩
--derivation of deep:
theorem deep_step {P : Program} {w : World} {K : PySem.W.Frag} {mg : Str → Option Value} {base : Heap} (E : Env P K mg) {k n : Nat} {sp : Sp} (hk1 : 1 ≤ k) (IH : Fn P w K mg base CX0 k "deep" sp)
    (hsp : ∀ (m : Nat), n = m + 1 → sp = spDeep K m) : Fn P w K mg base CX0 (k + 1) "deep" (spDeep K n) := by
  obtain ⟨fd, F⟩ := E.dd_deep
  refine Fn.mk0 F E.g_deep sc_deep sp1_len (fun _ _ _ _ _ _ us hl => match us, hl with | [_], _ => rfl) (fun cdv A outer s H vs Q X hr h => ?_)
  have nd := sc_deep.nd
  obtain ⟨v0, rfl, h⟩ := h
  refine ⟨_, (pss_cons (ps_if (kTru K (pc (ok_is_listed E) hr (by omega) pass0 rfl (pa_cons (pv 0) pa_nil)) (by intro _; rfl))
   (pss_one (ps_ret (pe_callTy (kTup K) (by rfl) E.f_tuple (by decide +kernel) (pa_cons (pe_lc (own := [("one", 1)]) (g := gName 1) (tt := tYes) rfl nd (kSeq K (pv 0)) (blkOk_by (N := N_deep) (sc := defScope s_deep) (by decide +kernel)) (fun _ _ _ _ _ => pg_name (i := 1) nd rfl (Or.inl rfl)) (fun _ _ _ _ _ => pts_nil) (fun _ _ _ _ _ => pc IH hr (by omega) pass0 rfl (pa_cons (pv 1) pa_nil))) pa_nil))))
   pss_nil)
  (pss_one (ps_ret (pv 0)))), ?_⟩
  change (_ : TS) _ [some v0, none] H
  obtain ⟨d, hd, hs, k⟩ := h
  walk_at "w"
  refine ⟨d, .inl hd, fun v H1 e1 d1 => ?_⟩
  obtain rfl := dp_toBl d1
  have h0 : ∀ (b : Bool), dIsSeq d = b → (b = false → dDeep d = d) := by
    intro b hb hb2
    subst hb2
    cases d with
    | list _ => exact nomatch hb
    | tuple _ => exact nomatch hb
    | dict _ => exact (dp_nodict hd).elim
    | _ => rfl
  cases hq : dIsSeq d with
  | false =>
    walk_at "w"
    rw [h0 false hq rfl] at k
    exact k _ _ e1 (dp_ex e1 hd)
  | true =>
    walk_at "w"
    cases n with
    | zero => cases d <;> first | (simp [dIsSeq] at hq; done) | (simp [shp] at hs; done)
    | succ n =>
      have esp := hsp n rfl
      subst esp
      have fin : ∀ (ds : List PyData) (p : Addr) (H2 : Hp) (ys : List V), dDeep d = .tuple (dDeepAll ds) → Ex H1 H2 → H2 p = some (.lst ys) → DpAll K H2 ys ((List.range ds.length).map fun i => dDeep (ds.getD i .none)) → ∀ (p3 : Addr) (H3 : Hp), Ex H2 H3 → SqT K H3 p3 ys → Q (.ref p3) H3 := fun ds p H2 ys he e2 hp hy p3 H3 e3 s3 => by
        rw [he] at k
        refine k _ _ (e1.trans (e2.trans e3)) (.tup s3 ?_)
        have el : (List.range ds.length).map (fun i => dDeep (ds.getD i .none)) = dDeepAll ds := by
          rw [dDeepAll_eq]
          apply List.ext_getElem
          · simp
          · intro i h1 h2
            simp at h1 h2
            simp [h2]
        rw [el] at hy
        exact dpAll_ex e3 hy
      have elt : ∀ (ds : List PyData) (xs : List V) (H1' : Hp) (i : Nat) (x : V) (Q' : VK) (h1 : DpAll K H xs ds) (hsh : shpAll n ds = true), Ex H H1' → xs[i]? = some x → (∀ y H2, Ex H1' H2 → Dp K H2 y (dDeep (ds.getD i .none)) → Q' y H2) → ∃ d, Dp K H1' x d ∧ shp n d = true ∧ RetD K (dDeep d) H1' Q' := by
        intro ds xs H1' i x Q' h1 hsh e hx hq
        obtain ⟨d', g1, g2⟩ := dpAll_get h1 hx
        refine ⟨d', dp_ex e g2, shpAll_get hsh g1, fun y H2 e2 d2 => hq y H2 e2 ?_⟩
        rw [List.getD_eq_getElem?_getD, g1]
        exact d2
      cases hd with
      | lst s a =>
        rename_i ad xs ds
        obtain ⟨hz, hsh⟩ := Bool.and_eq_true_iff.mp (show (decide (ds.length ≤ 50000) && shpAll n ds) = true from hs)
        have hz' := of_decide_eq_true hz
        have hl := dpAll_len a
        refine i_seqL ?_
        walk_at "w"
        refine lcD_list (fun i => dDeep (ds.getD i .none)) (fun i => imm_deep _) (ex_l e1 s) (by omega) (fun x => [_, some x]) (fun x => rfl) (fun x => rfl) (fun i x H2 Q' e2 hx hq => ?_) (fun p H2 ys n2 e2 hp hy => ?_)
        · walk_at "w"
          exact elt ds xs H2 i x Q' a hsh (e1.trans e2) hx hq
        · walk_at "w"
          rw [hl] at hy
          intro p3 H3 e3 s3
          exact fin ds p H2 ys rfl e2 hp hy p3 H3 e3 s3
      | tup s a =>
        rename_i ad xs ds
        obtain ⟨hz, hsh⟩ := Bool.and_eq_true_iff.mp (show (decide (ds.length ≤ 50000) && shpAll n ds) = true from hs)
        have hz' := of_decide_eq_true hz
        have hl := dpAll_len a
        refine i_seqT ?_
        walk_at "w"
        refine lcD_tup (fun i => dDeep (ds.getD i .none)) (fun i => imm_deep _) (ex_t e1 s) (by omega) (fun x => [_, some x]) (fun x => rfl) (fun x => rfl) (fun i x H2 Q' e2 hx hq => ?_) (fun p H2 ys n2 e2 hp hy => ?_)
        · walk_at "w"
          exact elt ds xs H2 i x Q' a hsh (e1.trans e2) hx hq
        · walk_at "w"
          rw [hl] at hy
          intro p3 H3 e3 s3
          exact fin ds p H2 ys rfl e2 hp hy p3 H3 e3 s3
      | _ => exact nomatch hq
theorem ok_deepN {P : Program} {w : World} {K : PySem.W.Frag} {mg : Str → Option Value} {base : Heap} (E : Env P K mg) : ∀ n : Nat, Fn P w K mg base CX0 (n + 2) "deep" (spDeep K n)
  | 0 => by
    obtain ⟨fd, F⟩ := E.dd_deep
    exact deep_step E (k := 1) (Nat.le_refl _) (Fn.never F E.g_deep (ps := ["thing"]) (fun _ _ _ _ _ _ us hl => match us, hl with | [_], _ => rfl)) (fun m e => nomatch e)
  | n + 1 => deep_step E (by omega) (ok_deepN E n) (fun m e => by cases e; rfl)
theorem ok_deep {P : Program} {w : World} {K : PySem.W.Frag} {mg : Str → Option Value} {base : Heap} (E : Env P K mg) : Fn P w K mg base CX0 8 "deep" (spDeep K 6) := ok_deepN E 6

end
section
/-- a head, a loop and a rise that make a table -/
structure Val (h l : List Int) (r : Int) : Prop where
  p1 : allPos h
  p2 : allPos l
  r1 : rising h
  r2 : rising l
  r0 : 0 ≤ r
  e0 : l = [] → r = 0
  hl : h ≠ [] → l ≠ [] → gI h (h.length - 1) ≤ gI l 0
  ll : l ≠ [] → gI l (l.length - 1) ≤ gI l 0 + r
  sm : RSm h l r
theorem dp_seqE {K : PySem.W.Frag} {H : Hp} {v : V} {b : Bool} {ns : List Int} (h : Dp K H v (dSeqI b ns)) : ∃ a, v = .ref a ∧ SqE K H a (vI ns) := by
  obtain ⟨a, e, h⟩ := dp_seqI h
  exact ⟨a, e, h.elim (fun h => .inr h.2) (fun h => .inl h.2)⟩
theorem deep_seq (b : Bool) (ns : List Int) : dDeep (dSeqI b ns) = dInts ns := by
  cases b <;> (show PyData.tuple (dDeepAll (ns.map .int)) = _; rw [dDeep_ints])
theorem shp_seq {b : Bool} {ns : List Int} (h : ns.length ≤ 50000) : shp 6 (dSeqI b ns) = true := by
  have key : ∀ ns : List Int, shpAll 5 (ns.map .int) = true := fun ns => by
    induction ns with
    | nil => rfl
    | cons n ns ih => show (shp 5 (.int n) && shpAll 5 (ns.map .int)) = true; rw [ih]; rfl
  cases b <;> (show (decide ((ns.map PyData.int).length ≤ 50000) && shpAll 5 (ns.map .int)) = true; rw [key, List.length_map, decide_eq_true h]; rfl)
noncomputable abbrev dPl (h l : List Int) (r : Int) : PyData := dRaw (plainF h l r).1 (plainF h l r).2.1 (plainF h l r).2.2
abbrev N_checked_table : List Str := ["head", "loop", "rise"]
theorem sc_checked_table : FnScope N_checked_table ["head", "loop", "rise"] (defScope s_checked_table) := ⟨rfl, rfl, rfl, by decide +kernel, rfl, by decide +kernel, by decide +kernel⟩
theorem ok_checked_table {P : Program} {w : World} {K : PySem.W.Frag} {mg : Str → Option Value} {base : Heap} (E : Env P K mg) : Fn P w K mg base CX0 9 "checked_table" (sp3 fun a b c H Q _ => ∃ b1 b2 h l r, Dp K H a (dSeqI b1 h) ∧ Dp K H b (dSeqI b2 l) ∧ Dp K H c (.int r) ∧ Val h l r ∧ RetD K (dPl h l r) H Q) := by
  obtain ⟨fd, F⟩ := E.dd_checked_table
  refine Fn.mk0 F E.g_checked_table sc_checked_table sp3_len (fun _ _ _ _ _ _ us hl => match us, hl with | [_, _, _], _ => rfl) (fun cdv A outer s H vs Q X hr h => ?_)
  have nd := sc_checked_table.nd
  obtain ⟨v0, v1, v2, rfl, h⟩ := h
  refine ⟨_, (pss_cut (ps_if (PW.pt (pw_or (pt_not (kTru K (pc (ok_is_counts E) hr (by decide) pass0 rfl (pa_cons (pv 0) pa_nil)) (by intro _; rfl))) (pw_or1 (pt_not (kTru K (pc (ok_is_rising E) hr (by decide) pass0 rfl (pa_cons (pv 0) pa_nil)) (by intro _; rfl))))))
   (pss_one (ps_never))
   pss_nil)
  (pss_cut (ps_if (PW.pt (pw_or (pt_not (kTru K (pc (ok_is_counts E) hr (by decide) pass0 rfl (pa_cons (pv 1) pa_nil)) (by intro _; rfl))) (pw_or1 (pt_not (kTru K (pc (ok_is_rising E) hr (by decide) pass0 rfl (pa_cons (pv 1) pa_nil)) (by intro _; rfl))))))
   (pss_one (ps_never))
   pss_nil)
  (pss_cut (ps_if (PW.pt (pw_and (pt_cmpR op_gt (pe_callB (kLen K) (by rfl) E.f_len (by decide +kernel) (pa_cons (pv 0) pa_nil)) (pe_int) (nomark _)) (pw_and (pt_cmpR op_gt (pe_callB (kLen K) (by rfl) E.f_len (by decide +kernel) (pa_cons (pv 1) pa_nil)) (pe_int) (nomark _)) (pw_and1 (pt_cmpR op_lt (pe_ix (kIx K) (pv 1) (pe_int) (fun _ _ => rfl)) (pe_ix (kIx K) (pv 0) (pe_un un_neg (pe_int)) (fun _ _ => rfl)) (nomark _))))))
   (pss_one (ps_never))
   pss_nil)
  (pss_cut (ps_if (PW.pt (pw_or (pt_not (kTru K (pc (ok_is_count E) hr (by decide) pass0 rfl (pa_cons (pv 2) pa_nil)) (by intro _; rfl))) (pw_or1 (PW.pt (pw_and (pt_cmpR (kEq K hr) (pe_callB (kLen K) (by rfl) E.f_len (by decide +kernel) (pa_cons (pv 1) pa_nil)) (pe_int) (nomark _)) (pw_and1 (pt_cmpR op_gt (pv 2) (pe_int) (nomark _))))))))
   (pss_one (ps_never))
   pss_nil)
  (pss_cut (ps_if (PW.pt (pw_and (pt_cmpR op_gt (pe_callB (kLen K) (by rfl) E.f_len (by decide +kernel) (pa_cons (pv 1) pa_nil)) (pe_int) (nomark _)) (pw_and1 (pt_cmpR op_gt (pe_ix (kIx K) (pv 1) (pe_un un_neg (pe_int)) (fun _ _ => rfl)) (pe_op (kAdd K) (pe_ix (kIx K) (pv 1) (pe_int) (fun _ _ => rfl)) (pv 2)) (nomark _)))))
   (pss_one (ps_never))
   pss_nil)
  (pss_one (ps_ret (pc (ok_plain_form E) hr (by decide) pass0 rfl (pa_cons (pc (ok_deep E) hr (by decide) pass0 rfl (pa_cons (pv 0) pa_nil)) (pa_cons (pc (ok_deep E) hr (by decide) pass0 rfl (pa_cons (pv 1) pa_nil)) (pa_cons (pv 2) pa_nil))))))))))), ?_⟩
  change (_ : TS) _ [some v0, some v1, some v2] H
  try dsimp only [cxOf, Cx.nox, Cx.blk]
  obtain ⟨b1, b2, h, l, r, d1, d2, d3, W, k⟩ := h
  obtain rfl := dp_toInt d3
  obtain ⟨z1, z2, z3, z4⟩ := W.sm
  have z5 := W.r0
  obtain ⟨a1, rfl, s1⟩ := dp_seqE d1
  obtain ⟨a2, rfl, s2⟩ := dp_seqE d2
  have hlast : h ≠ [] → l ≠ [] → gI h (-1 + h.length) ≤ gI l 0 := fun q1 q2 => by
    have := W.hl q1 q2
    rwa [show (h.length : Int) - 1 = -1 + h.length by omega] at this
  have llast : l ≠ [] → gI l (-1 + l.length) ≤ gI l 0 + r := fun q1 => by
    have := W.ll q1
    rwa [show (l.length : Int) - 1 = -1 + l.length by omega] at this
  have ne0 : ∀ {xs : List Int}, 0 < (xs.length : Int) → xs ≠ [] := fun q => List.length_pos_iff.mp (by omega)
  refine w_cut (M := fun σ' H' => σ' = [some (.ref a1), some (.ref a2), some (.int r)] ∧ Ex H H') ?_ ?_
  · walk_at "w"
    refine ⟨b1, h, d1, W.p1, z3, fun v H1 e1 q1 => ?_⟩
    obtain rfl := dp_toBl q1
    walk_at "w"
    refine ⟨b1, h, dp_ex e1 d1, W.r1, z3, fun v H2 e2 q1 => ?_⟩
    obtain rfl := dp_toBl q1
    walk_at "w"
    exact ⟨rfl, e1.trans e2⟩
  rintro σ' H0 ⟨rfl, e0⟩
  refine w_cut (M := fun σ' H' => σ' = [some (.ref a1), some (.ref a2), some (.int r)] ∧ Ex H H') ?_ ?_
  · walk_at "w"
    refine ⟨b2, l, dp_ex e0 d2, W.p2, z4, fun v H1 e1 q1 => ?_⟩
    obtain rfl := dp_toBl q1
    walk_at "w"
    refine ⟨b2, l, dp_ex (e0.trans e1) d2, W.r2, z4, fun v H2 e2 q1 => ?_⟩
    obtain rfl := dp_toBl q1
    walk_at "w"
    exact ⟨rfl, (e0.trans e1).trans e2⟩
  rintro σ' H1 ⟨rfl, e1⟩
  clear e0
  refine w_cut (M := fun σ' H' => σ' = [some (.ref a1), some (.ref a2), some (.int r)] ∧ Ex H H') ?_ ?_
  · walk_at "w"
    refine w_ite (fun q1 => ?_) (fun q1 => ?_)
    · walk_at "w"
      refine w_ite (fun q2 => ?_) (fun q2 => ?_)
      · have := hlast (ne0 q1) (ne0 q2)
        walk_at "w"
        exact ⟨rfl, e1⟩
      · walk_at "w"
        exact ⟨rfl, e1⟩
    · walk_at "w"
      exact ⟨rfl, e1⟩
  rintro σ' H2 ⟨rfl, e2⟩
  clear e1
  refine w_cut (M := fun σ' H' => σ' = [some (.ref a1), some (.ref a2), some (.int r)] ∧ Ex H H') ?_ ?_
  · walk_at "w"
    refine ⟨.int r, .int r, fun v H3 e3 q1 => ?_⟩
    rw [show dIsCount (.int r) = true from decide_eq_true z5] at q1
    obtain rfl := dp_toBl q1
    walk_at "w"
    refine w_ite (fun q1 => ?_) (fun q1 => ?_)
    · have := W.e0 (List.length_eq_zero_iff.mp (by omega))
      walk_at "w"
      exact ⟨rfl, e2.trans e3⟩
    · walk_at "w"
      exact ⟨rfl, e2.trans e3⟩
  rintro σ' H3 ⟨rfl, e3⟩
  clear e2
  refine w_cut (M := fun σ' H' => σ' = [some (.ref a1), some (.ref a2), some (.int r)] ∧ Ex H H') ?_ ?_
  · walk_at "w"
    refine w_ite (fun q1 => ?_) (fun q1 => ?_)
    · have := llast (ne0 q1)
      walk_at "w"
      exact ⟨rfl, e3⟩
    · walk_at "w"
      exact ⟨rfl, e3⟩
  rintro σ' H4 ⟨rfl, e4⟩
  clear e3
  walk_at "w"
  refine ⟨dSeqI b1 h, dp_ex e4 d1, shp_seq z3, fun v H5 e5 q5 => ?_⟩
  rw [deep_seq] at q5
  walk_at "w"
  refine ⟨dSeqI b2 l, dp_ex (e4.trans e5) d2, shp_seq z4, fun v2 H6 e6 q6 => ?_⟩
  rw [deep_seq] at q6
  walk_at "w"
  exact ⟨h, l, r, dp_ex e6 q5, q6, .int r, z5, W.sm, fun v H7 e7 q7 => k _ _ (by walk_at "ex") q7⟩

end
section
def tFlds (th tl : Addr) (r : Int) : List (Str × V) := putF "rise" (.int r) (putF "loop" (.ref tl) (putF "head" (.ref th) []))
theorem tn_hl : ¬ (("head" : Str) = "loop") := by decide +kernel
theorem tn_hr : ¬ (("head" : Str) = "rise") := by decide +kernel
theorem tn_lr : ¬ (("loop" : Str) = "rise") := by decide +kernel
theorem tFlds_head (th tl : Addr) (r : Int) : (tFlds th tl r).lookup ("head" : Str) = some (.ref th) := by
  unfold tFlds
  rw [lookup_putF, if_neg tn_hr, lookup_putF, if_neg tn_hl, lookup_putF, if_pos rfl]
theorem tFlds_loop (th tl : Addr) (r : Int) : (tFlds th tl r).lookup ("loop" : Str) = some (.ref tl) := by
  unfold tFlds
  rw [lookup_putF, if_neg tn_lr, lookup_putF, if_pos rfl]
theorem tFlds_rise (th tl : Addr) (r : Int) : (tFlds th tl r).lookup ("rise" : Str) = some (.int r) := by
  unfold tFlds
  rw [lookup_putF, if_pos rfl]
theorem putF_len (f : Str) (y : V) : ∀ fs : List (Str × V), (putF f y fs).length ≤ fs.length + 1
  | [] => Nat.le_refl _
  | (g, v) :: r => by
    show (if g = f then (g, y) :: r else (g, v) :: putF f y r).length ≤ _
    split
    · exact Nat.le_succ _
    · exact Nat.succ_le_succ (putF_len f y r)
/-- a table stands at x -/
def TabAt (K : PySem.W.Frag) (H : Hp) (x : Addr) (h l : List Int) (r : Int) : Prop := ∃ dx th tl, H x = some (.ins (He.ga K "Table") dx (tFlds th tl r)) ∧ SqT K H th (vI h) ∧ SqT K H tl (vI l)
theorem ex_tab {K : PySem.W.Frag} {H H' : Hp} {x : Addr} {h l : List Int} {r : Int} (e : Ex H H') (t : TabAt K H x h l r) : TabAt K H' x h l r := by
  obtain ⟨dx, th, tl, h1, h2, h3⟩ := t
  exact ⟨dx, th, tl, e _ _ h1, ex_t e h2, ex_t e h3⟩
section
variable {P : Program} {K : PySem.W.Frag} {mg : Str → Option Value} {H : Hp} {x : Addr} {h l : List Int} {r : Int} {Q : VK}
theorem r_tabHead (E : Env P K mg) (t : TabAt K H x h l r) (q : ∀ th, SqT K H th (vI h) → Q (.ref th) H) : GetF K "head" (.ref x) H Q := by
  obtain ⟨dx, th, tl, h1, h2, h3⟩ := t
  exact r_getF h1 E.c_Table E.na_Table_head (tFlds_head _ _ _) (q th h2)
theorem r_tabLoop (E : Env P K mg) (t : TabAt K H x h l r) (q : ∀ tl, SqT K H tl (vI l) → Q (.ref tl) H) : GetF K "loop" (.ref x) H Q := by
  obtain ⟨dx, th, tl, h1, h2, h3⟩ := t
  exact r_getF h1 E.c_Table E.na_Table_loop (tFlds_loop _ _ _) (q tl h3)
theorem r_tabRise (E : Env P K mg) (t : TabAt K H x h l r) (q : Q (.int r) H) : GetF K "rise" (.ref x) H Q := by
  obtain ⟨dx, th, tl, h1, h2, h3⟩ := t
  exact r_getF h1 E.c_Table E.na_Table_rise (tFlds_rise _ _ _) q
end
abbrev spInit (K : PySem.W.Frag) : Sp := sp4 fun x a b c H Q _ => ∃ p dx b1 b2 h l r, x = .ref p ∧ H p = some (.ins (He.ga K "Table") dx []) ∧ Dp K H a (dSeqI b1 h) ∧ Dp K H b (dSeqI b2 l) ∧ Dp K H c (.int r) ∧ Val h l r ∧ ∀ H', TabAt K H' p (plainF h l r).1 (plainF h l r).2.1 (plainF h l r).2.2 → (∀ a o, a ≠ p → H a = some o → H' a = some o) → Q .non H'
abbrev N_Table_init : List Str := ["self", "head", "loop", "rise", "told"]
theorem sc_Table_init : FnScope N_Table_init ["self", "head", "loop", "rise"] (defScope s_Table_init) := ⟨rfl, rfl, rfl, by decide +kernel, rfl, by decide +kernel, by decide +kernel⟩
theorem fx_Table_init {P : Program} {w : World} {K : PySem.W.Frag} {mg : Str → Option Value} {base : Heap} (E : Env P K mg) : ∃ fd, FunD K "__init__" "Table.__init__" (defArgs s_Table_init) (defBody s_Table_init) (defScope s_Table_init) (d_Table_init.dvs K) [] (d_Table_init.adr K) fd ∧ FnOk P w K mg base CX0 10 (d_Table_init.adr K) fd ["self", "head", "loop", "rise"] (spInit K) := by
  obtain ⟨fd, F⟩ := E.dd_Table_init
  refine ⟨fd, F, fnok0 F sc_Table_init sp4_len (fun cdv A outer s H vs Q X hr h => ?_)⟩
  have nd := sc_Table_init.nd
  obtain ⟨v0, v1, v2, v3, rfl, h⟩ := h
  refine ⟨_, (pss_cons (ps_set (i := 4) nd rfl (.inl rfl) (pc (ok_checked_table E) hr (by decide) pass0 rfl (pa_cons (pv 1) (pa_cons (pv 2) (pa_cons (pv 3) pa_nil)))))
  (pss_cons (kFldS K (ps_fld (pv 0) (pe_ix (kIx K) (pv 4) (pe_int) (fun _ _ => rfl)) rfl))
  (pss_cons (kFldS K (ps_fld (pv 0) (pe_ix (kIx K) (pv 4) (pe_int) (fun _ _ => rfl)) rfl))
  (pss_one (kFldS K (ps_fld (pv 0) (pe_ix (kIx K) (pv 4) (pe_int) (fun _ _ => rfl)) rfl)))))), ?_⟩
  change (_ : TS) _ [some v0, some v1, some v2, some v3, none] H
  try dsimp only [cxOf, Cx.nox, Cx.blk]
  obtain ⟨p, dx, b1, b2, h, l, r, rfl, hp, d1, d2, d3, W, k⟩ := h
  walk_at "w"
  refine ⟨b1, b2, h, l, r, d1, d2, d3, W, fun v H1 e1 q1 => ?_⟩
  obtain ⟨a, th, tl, rfl, s1, s2, s3⟩ := dp_raw q1
  have g1 : H1 p = some (.ins (He.ga K "Table") dx []) := e1 _ _ hp
  have nt : ∀ {a : Addr} {xs : List V} {H2 : Hp} {fs : List (Str × V)}, H2 p = some (.ins (He.ga K "Table") dx fs) → SqT K H2 a xs → ∀ o, SqT K (upd H2 p o) a xs := fun {a xs H2 fs} hp s o => by
    have key : ∀ u, H2 a = some u → (∃ o', u = .frz o' (.tup xs)) ∨ u = .tup xs → a ≠ p := by
      rintro u hu hc rfl
      rw [hp] at hu
      cases hu
      rcases hc with ⟨_, hc⟩ | hc <;> cases hc
    rcases s with (s | ⟨o', s⟩) | s
    · exact .inl (.inl (by rw [upd_ne (key _ s (.inr rfl))]; exact s))
    · exact .inl (.inr ⟨o', by rw [upd_ne (key _ s (.inl ⟨o', rfl⟩))]; exact s⟩)
    · exact .inr s
  have stp : ∀ {H2 : Hp} {fs : List (Str × V)} (o : HO), H2 p = some (.ins (He.ga K "Table") dx fs) → SqT K H2 a [.ref th, .ref tl, .int (plainF h l r).2.2] → SqT K H2 th (vI (plainF h l r).1) → SqT K H2 tl (vI (plainF h l r).2.1) →
      ∃ H3, upd H2 p o = H3 ∧ H3 p = some o ∧ SqT K H3 a [.ref th, .ref tl, .int (plainF h l r).2.2] ∧ SqT K H3 th (vI (plainF h l r).1) ∧ SqT K H3 tl (vI (plainF h l r).2.1) ∧ ∀ a u, a ≠ p → H2 a = some u → H3 a = some u :=
    fun {H2 fs} o hp t1 t2 t3 => ⟨_, rfl, upd_same, nt hp t1 o, nt hp t2 o, nt hp t3 o, fun a u ne e => by rw [upd_ne ne]; exact e⟩
  walk_at "w"
  refine r_putF g1 E.c_Table E.na_Table_head (by decide) ?_
  obtain ⟨H2, e2, g2, t1, t2, t3, k2⟩ := stp (.ins (He.ga K "Table") dx (putF "head" (.ref th) [])) g1 s1 s2 s3
  rw [e2]
  walk_at "w"
  refine r_putF g2 E.c_Table E.na_Table_loop (Nat.lt_of_le_of_lt (putF_len _ _ _) (by decide)) ?_
  obtain ⟨H3, e3, g3, t4, t5, t6, k3⟩ := stp (.ins (He.ga K "Table") dx (putF "loop" (.ref tl) (putF "head" (.ref th) []))) g2 t1 t2 t3
  rw [e3]
  walk_at "w"
  refine r_putF g3 E.c_Table E.na_Table_rise (Nat.lt_of_le_of_lt (Nat.le_trans (putF_len _ _ _) (Nat.succ_le_succ (putF_len _ _ _))) (by decide)) ?_
  obtain ⟨H4, e4, g4, t7, t8, t9, k4⟩ := stp (.ins (He.ga K "Table") dx (tFlds th tl (plainF h l r).2.2)) g3 t4 t5 t6
  refine k _ ⟨dx, th, tl, upd_same, ?_, ?_⟩ (fun a u ne e => ?_)
  · exact nt g3 t5 _
  · exact nt g3 t6 _
  · rw [upd_ne ne]
    exact k3 _ _ ne (k2 _ _ ne (e1 _ _ e))
/-- Table(..) made: from __init__'s promise to what a caller sees -/
theorem mk_tab {K : PySem.W.Frag} {H : Hp} {Q : VK} {a b c : V} {b1 b2 : Bool} {h l : List Int} {r : Int} {dvs ws : List V} (e : ws ++ dvs = [a, b, c]) (d1 : Dp K H a (dSeqI b1 h)) (d2 : Dp K H b (dSeqI b2 l)) (d3 : Dp K H c (.int r)) (W : Val h l r)
    (q : ∀ x H2, Ex H H2 → TabAt K H2 x (plainF h l r).1 (plainF h l r).2.1 (plainF h l r).2.2 → Q (.ref x) H2) :
    MakeI (He.ga K "Table") (spInit K) dvs E0 ws H Q := by
  intro x dx nx ndx ne
  rw [e]
  have ex : Ex H (upd (upd H dx (.own x)) x (.ins (He.ga K "Table") dx [])) := fun b o e => by
    rw [upd_ne (ne_of_none e nx), upd_ne (ne_of_none e ndx)]
    exact e
  refine ⟨_, _, _, _, rfl, x, dx, b1, b2, h, l, r, rfl, upd_same, dp_ex ex d1, dp_ex ex d2, dp_ex ex d3, W, fun H' t k => ⟨rfl, q x H' (fun b o e => ?_) t⟩⟩
  exact k b o (ne_of_none e nx) (ex b o e)
section
variable {P : Program} {w : World} {K : PySem.W.Frag} {mg : Str → Option Value} {base : Heap}
theorem ok_Table3 (E : Env P K mg) : Mkc P w K mg base CX0 10 "Table" (He.ga K "Table") (spInit K) [] := by
  obtain ⟨fd, F, k⟩ := fx_Table_init (P := P) (w := w) (base := base) E
  obtain ⟨ds, hd, hb⟩ := F.binds1 (ps := ["self", "head", "loop", "rise"]) 4 2 (List.cons_ne_nil _ _) rfl (fun T kV doc pm an cdv ct us its hu hi => match us, its, hu, hi with | [_, _, _, _], [_, _], _, _ => ⟨_, rfl, rfl⟩)
  exact ⟨_, fd, _, ds, E.mk_Table, k, E.g_Table, hb, hd⟩
end

end
section
section
variable {P : Program} {w : World} {K : PySem.W.Frag} {mg : Str → Option Value} {base : Heap}
theorem ok_Table2 (E : Env P K mg) : Mkc P w K mg base CX0 10 "Table" (He.ga K "Table") (spInit K) [.int 0] := by
  obtain ⟨fd, F, k⟩ := fx_Table_init (P := P) (w := w) (base := base) E
  obtain ⟨ds, hd, hb⟩ := F.binds1 (ps := ["self", "head", "loop", "rise"]) 3 1 (List.cons_ne_nil _ _) rfl (fun T kV doc pm an cdv ct us its hu hi => match us, its, hu, hi with | [_, _, _], [_, _], _, _ => ⟨_, rfl, rfl⟩)
  exact ⟨_, fd, _, ds, E.mk_Table, k, E.g_Table, hb, hd⟩
theorem ok_Table1 (E : Env P K mg) : Mkc P w K mg base CX0 10 "Table" (He.ga K "Table") (spInit K) [.ref (He.dflAt ("Table", some "__init__") 0 K), .int 0] := by
  obtain ⟨fd, F, k⟩ := fx_Table_init (P := P) (w := w) (base := base) E
  obtain ⟨ds, hd, hb⟩ := F.binds1 (ps := ["self", "head", "loop", "rise"]) 2 0 (List.cons_ne_nil _ _) rfl (fun T kV doc pm an cdv ct us its hu hi => match us, its, hu, hi with | [_, _], [_, _], _, _ => ⟨_, rfl, rfl⟩)
  exact ⟨_, fd, _, ds, E.mk_Table, k, E.g_Table, hb, hd⟩
end
local macro_rules | `(tactic| walk_at "hp") => `(tactic| first
  | with_reducible assumption
  | (with_reducible refine' ex_tab ?a ?b; (case a => with_reducible assumption); (case b => walk_at "hp")))
local macro_rules | `(tactic| walk_at "w2") => `(tactic| first
  | ((with_reducible refine' r_tabHead ?a ?b ?q); (case a => with_reducible assumption); (case b => walk_at "hp"))
  | ((with_reducible refine' r_tabLoop ?a ?b ?q); (case a => with_reducible assumption); (case b => walk_at "hp"))
  | ((with_reducible refine' r_tabRise ?a ?b ?q); (case a => with_reducible assumption); (case b => walk_at "hp")))
/-- gcd as the loop has it -/
def gcdI : Nat → Int → Int → Int
  | 0, a, _ => a
  | n + 1, a, b => if 0 < b then gcdI n b (a % b) else a
abbrev N_common_divisor : List Str := ["one", "other"]
theorem sc_common_divisor : FnScope N_common_divisor ["one", "other"] (defScope s_common_divisor) := ⟨rfl, rfl, rfl, by decide +kernel, rfl, by decide +kernel, by decide +kernel⟩
theorem ok_common_divisor {P : Program} {w : World} {K : PySem.W.Frag} {mg : Str → Option Value} {base : Heap} (E : Env P K mg) : Fn P w K mg base CX0 1 "common_divisor" (sp2 fun a b H Q _ => ∃ i j : Int, a = .int i ∧ b = .int j ∧ 0 ≤ i ∧ 0 ≤ j ∧ Q (.int (Int.gcd i j)) H) := by
  obtain ⟨fd, F⟩ := E.dd_common_divisor
  refine Fn.mk0 F E.g_common_divisor sc_common_divisor sp2_len (fun _ _ _ _ _ _ us hl => match us, hl with | [_, _], _ => rfl) (fun cdv A outer s H vs Q X hr h => ?_)
  have nd := sc_common_divisor.nd
  obtain ⟨v0, v1, rfl, h⟩ := h
  refine ⟨_, (pss_cons (ps_while PassesOwn.never (pt_cmpR op_gt (pv 1) (pe_int) (nomark _))
   (pss_one (ps_par (i := 0) (j := 1) rfl nd rfl rfl (by decide) rfl rfl (pa_cons (pv 1) (pa_cons (pe_op xMod (pv 0) (pv 1)) pa_nil)) rfl)))
  (pss_one (ps_ret (pv 0)))), ?_⟩
  change (_ : TS) _ [some v0, some v1] H
  try dsimp only [cxOf, Cx.nox, Cx.blk]
  obtain ⟨i, j, rfl, rfl, hi, hj, k⟩ := h
  walk_at "w"
  refine ⟨fun m σ' H' => ∃ a b : Int, σ' = [some (.int a), some (.int b)] ∧ H' = H ∧ 0 ≤ a ∧ 0 ≤ b ∧ b.toNat = m ∧ Int.gcd a b = Int.gcd i j, ⟨j.toNat, i, j, rfl, rfl, hi, hj, rfl, rfl⟩, ?_⟩
  rintro m σ' H' ⟨a, b, rfl, rfl, ha, hb, hm, hg⟩
  walk_at "w"
  by_cases c : 0 < b
  · walk_at "w"
    refine ⟨_, fun σ2 H2 h2 => h2, ?_⟩
    walk_at "w"
    refine ⟨_, _, rfl, ?_⟩
    have hlt := Int.emod_lt_of_pos a c
    have h0 := Int.emod_nonneg a (show b ≠ 0 by omega)
    refine ⟨(a % b).toNat, by omega, b, a % b, rfl, rfl, hb, h0, rfl, ?_⟩
    rw [← hg, Int.gcd_comm a b]
    obtain ⟨n, rfl⟩ := Int.eq_ofNat_of_zero_le ha
    obtain ⟨m, rfl⟩ := Int.eq_ofNat_of_zero_le hb
    show Nat.gcd m (n % m) = Nat.gcd m n
    rw [Nat.gcd_comm m n, Nat.gcd_comm m (n % m), Nat.gcd_comm n m, Nat.gcd_rec m n]
  · walk_at "w"
    have : b = 0 := by omega
    subst this
    rw [Int.gcd_zero_right] at hg
    have e : (Int.gcd i j : Int) = a := by rw [← hg]; omega
    rw [e] at k
    exact k
theorem tab_mine {K : PySem.W.Frag} {H : Hp} {x : Addr} {h l : List Int} {r : Int} (t : TabAt K H x h l r) : ∃ dx fs, H x = some (.ins (He.ga K "Table") dx fs) := by
  obtain ⟨dx, th, tl, h1, _⟩ := t
  exact ⟨dx, _, h1⟩
abbrev N_Table_call : List Str := ["self", "n"]
theorem sc_Table_call : FnScope N_Table_call ["self", "n"] (defScope s_Table_call) := ⟨rfl, rfl, rfl, by decide +kernel, rfl, by decide +kernel, by decide +kernel⟩
theorem fx_Table_call {P : Program} {w : World} {K : PySem.W.Frag} {mg : Str → Option Value} {base : Heap} (E : Env P K mg) : ∃ fd, FunD K "__call__" "Table.__call__" (defArgs s_Table_call) (defBody s_Table_call) (defScope s_Table_call) (d_Table_call.dvs K) [] (d_Table_call.adr K) fd ∧ FnOk P w K mg base CX0 3 (d_Table_call.adr K) fd ["self", "n"] (sp2 fun x n H Q _ => ∃ p h l r o, x = .ref p ∧ TabAt K H p h l r ∧ n = optV o ∧ (∀ i, o = some i → 0 ≤ i) ∧ RSm h l r ∧ RetD K (dOpt (valueAt h l r o)) H Q) := by
  obtain ⟨fd, F⟩ := E.dd_Table_call
  refine ⟨fd, F, fnok0 F sc_Table_call sp2_len (fun cdv A outer s H vs Q X hr h => ?_)⟩
  have nd := sc_Table_call.nd
  obtain ⟨v0, v1, rfl, h⟩ := h
  refine ⟨_, (pss_cons (ps_if (PW.pt (pw_and (pt_cmpR xIsNot (pv 1) (pe_non) (nomark _)) (pw_and1 (pt_not (kTru K (pc (ok_is_count E) hr (by decide) pass0 rfl (pa_cons (pv 1) pa_nil)) (by intro _; rfl))))))
   (pss_one (ps_never))
   pss_nil)
  (pss_one (ps_ret (pc (ok_value_at E) hr (by decide) pass0 rfl (pa_cons (pe_tup (pa_cons (kFld K (pv 0) rfl) (pa_cons (kFld K (pv 0) rfl) (pa_cons (kFld K (pv 0) rfl) pa_nil)))) (pa_cons (pv 1) pa_nil)))))), ?_⟩
  change (_ : TS) _ [some v0, some v1] H
  try dsimp only [cxOf, Cx.nox, Cx.blk]
  obtain ⟨p, h, l, r, o, rfl, ht, rfl, ho, hs, k⟩ := h
  cases o with
  | none =>
    simp only [optV]
    walk_at "w"
    intro th s1
    walk_at "w"
    intro tl s2
    walk_at "w"
    intro a H2 n2 e2 h2
    walk_at "w"
    exact ⟨h, l, r, none, dp_of_raw (st_of h2) (by walk_at "hp") (by walk_at "hp"), dp_of_opt (p := none), ho, hs, fun v H3 e3 d3 => k v H3 (by walk_at "ex") d3⟩
  | some i =>
    have hi := ho i rfl
    simp only [optV]
    walk_at "w"
    refine ⟨.int i, .int i, fun v H1 e1 d1 => ?_⟩
    rw [show dIsCount (.int i) = true from decide_eq_true hi] at d1
    obtain rfl := dp_toBl d1
    walk_at "w"
    intro th s1
    walk_at "w"
    intro tl s2
    walk_at "w"
    intro a H2 n2 e2 h2
    walk_at "w"
    exact ⟨h, l, r, some i, dp_of_raw (st_of h2) (by walk_at "hp") (by walk_at "hp"), dp_of_opt (p := some i), ho, hs, fun v H3 e3 d3 => k v H3 (by walk_at "ex") d3⟩
theorem ok_Table_call {P : Program} {w : World} {K : PySem.W.Frag} {mg : Str → Option Value} {base : Heap} (E : Env P K mg) : Cli P w K mg base 3 (He.ga K "Table") (sp2 fun x n H Q _ => ∃ p h l r o, x = .ref p ∧ TabAt K H p h l r ∧ n = optV o ∧ (∀ i, o = some i → 0 ≤ i) ∧ RSm h l r ∧ RetD K (dOpt (valueAt h l r o)) H Q) := by
  obtain ⟨fd, F, k⟩ := fx_Table_call (P := P) (w := w) (base := base) E
  exact ⟨_, fd, _, E.call_Table, k, F.bindsN (fun _ _ _ _ _ _ us hl => match us, hl with | [_, _], _ => rfl)⟩
/-- the pair of rise and length in lowest terms -/
def rateOf (l : List Int) (r : Int) : PyData := if l = [] then .none else .tuple [.int (r / Int.gcd l.length r), .int ((l.length : Int) / Int.gcd l.length r)]
abbrev N_Table_eq : List Str := ["self", "other"]
theorem sc_Table_eq : FnScope N_Table_eq ["self", "other"] (defScope s_Table_eq) := ⟨rfl, rfl, rfl, by decide +kernel, rfl, by decide +kernel, by decide +kernel⟩
theorem fx_Table_eq {P : Program} {w : World} {K : PySem.W.Frag} {mg : Str → Option Value} {base : Heap} (E : Env P K mg) : ∃ fd, FunD K "__eq__" "Table.__eq__" (defArgs s_Table_eq) (defBody s_Table_eq) (defScope s_Table_eq) (d_Table_eq.dvs K) [] (d_Table_eq.adr K) fd ∧ FnOk P w K mg base CX0 1 (d_Table_eq.adr K) fd ["self", "other"] (sp2 fun x y H Q _ => ∃ p h l r, x = .ref p ∧ TabAt K H p h l r ∧ ((∃ q h' l' r', y = .ref q ∧ TabAt K H q h' l' r' ∧ RetD K (.bool (decide (h = h' ∧ l = l' ∧ r = r'))) H Q) ∨ (∃ n ∈ ["tuple", "list", "int", "NoneType", "str", "bool"], TyX K H y (.type n) ∧ RetD K (.bool false) H Q))) := by
  obtain ⟨fd, F⟩ := E.dd_Table_eq
  refine ⟨fd, F, fnok0 F sc_Table_eq sp2_len (fun cdv A outer s H vs Q X hr h => ?_)⟩
  have nd := sc_Table_eq.nd
  obtain ⟨v0, v1, rfl, h⟩ := h
  refine ⟨_, (pss_one (ps_ret (pe_and (pe_callB (kIsi K) (by rfl) E.f_isinstance (by decide +kernel) (pa_cons (pv 1) (pa_cons (pe_glob (v := .ref (He.ga K "Table")) (by rfl) E.g_Table rfl) pa_nil))) (pe_and (pe_cmpR (kEq K hr) (kFld K (pv 0) rfl) (kFld K (pv 1) rfl) (nomark _)) (pe_and (pe_cmpR (kEq K hr) (kFld K (pv 0) rfl) (kFld K (pv 1) rfl) (nomark _)) (pe_one (pe_cmpR (kEq K hr) (kFld K (pv 0) rfl) (kFld K (pv 1) rfl) (nomark _)))))))), ?_⟩
  change (_ : TS) _ [some v0, some v1] H
  try dsimp only [cxOf, Cx.nox, Cx.blk]
  obtain ⟨p, h, l, r, rfl, ht, h2⟩ := h
  rcases h2 with ⟨q, h', l', r', rfl, hu, k⟩ | ⟨n, hn, ty, k⟩
  · walk_at "w"
    refine r_isiC (insB_ok E.ins_Table E.c_Table (tab_mine hu).choose_spec.choose_spec) E.kit_Table_self ?_
    walk_at "w"
    intro th s1
    walk_at "w"
    intro th' s2
    walk_at "w"
    by_cases c1 : h = h'
    · walk_at "w"
      intro tl s3
      walk_at "w"
      intro tl' s4
      walk_at "w"
      by_cases c2 : l = l'
      · walk_at "w"
        rw [show decide (h = h' ∧ l = l' ∧ r = r') = decide (r = r') by simp [c1, c2]] at k
        exact k.bl (Ex.refl _)
      · walk_at "w"
        rw [show decide (h = h' ∧ l = l' ∧ r = r') = false by simp [c2]] at k
        exact k.bl (Ex.refl _)
    · walk_at "w"
      rw [show decide (h = h' ∧ l = l' ∧ r = r') = false by simp [c1]] at k
      exact k.bl (Ex.refl _)
  · walk_at "w"
    refine r_isiC (b := false) ty ?_ ?_
    · simp at hn
      rcases hn with rfl | rfl | rfl | rfl | rfl | rfl
      · exact E.kit_Table_tuple
      · exact E.kit_Table_list
      · exact E.kit_Table_int
      · exact E.kit_Table_NoneType
      · exact E.kit_Table_str
      · exact E.kit_Table_bool
    walk_at "w"
    exact k.bl (Ex.refl _)
theorem ok_Table_eq {P : Program} {w : World} {K : PySem.W.Frag} {mg : Str → Option Value} {base : Heap} (E : Env P K mg) : EqOf P w K mg base 1 (He.ga K "Table") (sp2 fun x y H Q _ => ∃ p h l r, x = .ref p ∧ TabAt K H p h l r ∧ ((∃ q h' l' r', y = .ref q ∧ TabAt K H q h' l' r' ∧ RetD K (.bool (decide (h = h' ∧ l = l' ∧ r = r'))) H Q) ∨ (∃ n ∈ ["tuple", "list", "int", "NoneType", "str", "bool"], TyX K H y (.type n) ∧ RetD K (.bool false) H Q))) := by
  obtain ⟨fd, F, k⟩ := fx_Table_eq (P := P) (w := w) (base := base) E
  exact ⟨_, fd, _, E.m_Table_eq.at_, E.m_Table_eq.fn, k, F.bindsN (fun _ _ _ _ _ _ us hl => match us, hl with | [_, _], _ => rfl)⟩

end
section
theorem ifBoundB_K {K : PySem.W.Frag} {M : Model} {A : Around} {E : Value → Shared → Prop} {s : Shared} {x C : Addr} {ox : Obj} {od : Option Obj} {name : Str} {id : String} {args : List Value} {Q : Option Value → Shared → Prop}
    (X : K.In s.heap) (I : PySem.W.InstAt s.heap x ox C od) (hs : PySem.W.findIn K (.ref C) name = some (some (.builtin id))) (S : Slot "object" name id)
    (h : wpAny M A (call (.builtin id) (.ref x :: args)) (fun v => Q (some v)) E s) : wpAny M A (callSpecialIfBound? (.ref x) name args) Q E s := by
  simp only [callSpecialIfBound?, bindSpecialIfBound?]
  refine wpAny_holding (wpAny_bind (wpAny_bind (wpAny_bind (I.type.here ((PySem.W.looks_findIn X hs).here ?_)))))
  simp only [S.bind]
  refine wpAny_bind (wpAny_askSetting (wpAny_ite ?_))
  have fin : wpAny M A (call (.builtin id) ([.ref x] ++ args) >>= fun v => pure (some v)) Q E s := wpAny_bind (wpAny_mono h (fun v s' h' => wpAny_pure h') fun _ _ h' => h')
  split
  · exact wpAny_bind (wpAny_pure (wpAny_pure fin))
  · exact wpAny_tryCatch (wpAny_bind (wpAny_pure (wpAny_pure fin)))
theorem check_ne_K {K : PySem.W.Frag} {M : Model} {A : Around} {E : Value → Shared → Prop} {s : Shared} {x C : Addr} {ox : Obj} {od : Option Obj} {u : Value} {Q : Unit → Shared → Prop}
    (X : K.In s.heap) (I : PySem.W.InstAt s.heap x ox C od) (hm : PySem.W.mroIn K C (.type "object") = some true) (hq : Q () s) : wpAny M A (checkBuiltinCall "object.__ne__" ⟨[.ref x, u], []⟩) Q E s := by
  have L0 := I.type (M := M)
  have L1 := PySem.W.looks_mroIn (M := M) X hm
  simp only [checkBuiltinCall, F.cmpKind_ne, F.cmpSplit_ne]
  refine wpAny_bind ?_
  · unfold isInstance
    refine wpAny_bind (L0.here (L1.here ?_))
    simp only [Bool.not_true, Bool.false_eq_true, if_false]
    have ha := F.cmpArgs_ne (.ref x) u
    cases hsig : Manifest.signature? "object.__ne__" with
    | none => exact wpAny_pure hq
    | some sig =>
      simp only [argsOk, hsig] at ha
      have h2 : Bind.checkArgs "object.__ne__" sig ⟨[.ref x, u], []⟩ = pure () := ha
      show wpAny M A (Bind.checkArgs "object.__ne__" sig ⟨[.ref x, u], []⟩) Q E _
      rw [h2]; exact wpAny_pure hq
theorem objNe_K {K : PySem.W.Frag} {prog : Program} {w : World} {A : Around} {E : Value → Shared → Prop} {s : Shared} {x C f : Addr} {ox : Obj} {od : Option Obj} {u : Value} {Q : Fin → Shared → Prop}
    (X : K.In s.heap) (I : PySem.W.InstAt s.heap x ox C od) (hs : PySem.W.findIn K (.ref C) "__eq__" = some (some (.ref f))) (hf : PySem.W.isFn K (.ref f) = true) (hu : A.units < cLine)
    (hcall : wpAny (model prog w) A (call (.ref f) [.ref x, u]) (fun v s' => ∃ b, v = .bool b ∧ Q (.done (.ret (.bool (!b)))) s') E s) :
    wpAny (model prog w) A (Builtin.«object.__ne__» ⟨[.ref x, u], []⟩) Q E s := by
  unfold Builtin.«object.__ne__»
  repeat (first
    | with_reducible refine wpAny_cRoomFor hu ?_
    | (refine wpAny_bind (m := callSpecialIfBound? (.ref x) (Str.ofString "__eq__") [u])
        (PySem.W.ifBound_K X I hs hf (wpAny_mono hcall (fun r s' hr => by
          obtain ⟨b, rfl, hq⟩ := hr
          repeat (first | exact hq | exact wpAny_pure hq | exact wpAny_truthy_bool hq | (refine wpAny_bind (m := truthy (.bool _)) (wpAny_truthy_bool ?_)) | wp_step)) fun _ _ e => e)))
    | wp_step)
theorem rich_ne_K {K : PySem.W.Frag} {prog : Program} {w : World} {A : Around} {E : Value → Shared → Prop} {s : Shared} {x C f : Addr} {ox : Obj} {od : Option Obj} {b tb : Value} {Q : Value → Shared → Prop}
    (X : K.In s.heap) (I : PySem.W.InstAt s.heap x ox C od) (hb : PySem.W.Looks (model prog w) s.heap (typeOf b) tb) (hn : PySem.W.notFirst K C tb = true)
    (hs : PySem.W.findIn K (.ref C) "__eq__" = some (some (.ref f))) (hf : PySem.W.isFn K (.ref f) = true) (hne : PySem.W.findIn K (.ref C) "__ne__" = some (some (.builtin "object.__ne__"))) (hm : PySem.W.mroIn K C (.type "object") = some true)
    (hu : A.units + 1 < cLine)
    (hcall : wpAny (model prog w) A.in1 (call (.ref f) [.ref x, b]) (fun v s' => ∃ b, v = .bool b ∧ Q (.bool (!b)) s') E s) :
    wpAny (model prog w) A (richCompare .NotEq (.ref x) b) Q E s := by
  have one : wpAny (model prog w) A (tryCompare (.ref x) "__ne__" b) (fun r s' => ∃ v, r = some v ∧ Q v s') E s := by
    simp only [tryCompare]
    refine wpAny_bind (ifBoundB_K X I hne F.cmp_object.ne (wpAny_call (codeAny_call_builtin F.cmp_object.ne.plain F.cmpEntry_ne
      (check_ne_K X I hm (objNe_K (A := A.in1) X I hs hf hu (wpAny_mono hcall (fun v s' hv => ?_) fun _ _ e => e))))))
    obtain ⟨b, rfl, hq⟩ := hv
    first | exact ⟨b, rfl, wpAny_pure ⟨_, rfl, hq⟩⟩ | exact ⟨b, rfl, wpAny_pure (wpAny_pure ⟨_, rfl, hq⟩)⟩
  unfold richCompare
  simp only [oneThing_ref]
  refine wpAny_holding (wpAny_bind (wpAny_cRoomFor (Nat.lt_of_succ_lt hu) ?_))
  rw [cmpInfo_NotEq]
  dsimp only
  refine wpAny_bind (I.type.here (wpAny_bind (hb.here ?_)))
  split
  · rename_i q
    have e : PySem.W.subIn K tb (.ref C) = some false := by
      rcases Bool.or_eq_true_iff.mp hn with e | e
      · rw [beq_iff_eq.mp e] at q; simp at q
      · exact beq_iff_eq.mp e
    refine wpAny_bind ((PySem.W.looks_subIn X e).here ?_)
    simp only [Bool.false_eq_true, if_false]
    refine wpAny_bind (wpAny_mono one (fun r s' z => ?_) fun _ _ e => e)
    obtain ⟨v, rfl, hq⟩ := z
    exact wpAny_pure hq
  · refine wpAny_bind (wpAny_pure ?_)
    simp only [Bool.false_eq_true, if_false]
    refine wpAny_bind (wpAny_mono one (fun r s' z => ?_) fun _ _ e => e)
    obtain ⟨v, rfl, hq⟩ := z
    exact wpAny_pure hq
section
variable {X : Cx} {n : Nat} {C : Addr} {sp : Sp}
theorem run_fnA {CX : CXT} {k : Nat} {f : Addr} {fd : FuncData} {ps : List Str} {sp : Sp} {dvs : List V} {ds : List Value} {E : XK} {pins : List (Addr × Obj)} {σ : L2.St} {H : Hp} {s : Shared} {Q : VK} {us : List Value} {vs : List V} (F : FnOk X.prog X.w X.K X.mg X.base CX k f fd ps sp) (hr : Room k X.A.in1) (hb : L2.Binds X.K fd ps ds) (hd : L2.Vals dvs ds) (hx : L2.Passes CX X E)
    (I : L2.Inv X pins σ H s) (r : L2.Vals vs us) (h : sp (vs ++ dvs) H Q E) : wpAny (model X.prog X.w) X.A.in1 (call (.ref f) us) (EP X pins σ Q) X.xe s := by
  have r2 : L2.Vals (vs ++ dvs) (us ++ ds) := r.append hd
  have hl : (us ++ ds).length = ps.length := by rw [← r2.length]; exact F.len _ _ _ _ h
  refine wpAny_call (codeAny_mono (F.run X.A.in1 X.stack s H ⟨us, []⟩ (us ++ ds) (vs ++ dvs) Q E hr I.env0.in1 (hb s us I.kIn hl) r2 h) fun r s' hq => ?_)
  cases r with
  | error e => exact hx pins σ H s e s' I hq
  | ok fl =>
    cases fl with
    | ret u => exact I.after hq
    | next => exact False.elim hq
    | brk => exact False.elim hq
    | cont => exact False.elim hq
/-- != over an own == -/
def rOwnNe (K : PySem.W.Frag) (C : Addr) (sp : Sp) : R2 := fun x y H Q => ∃ a dx fs t, x = .ref a ∧ H a = some (.ins C dx fs) ∧ TyX K H y t ∧ PySem.W.notFirst K C t = true ∧ PySem.W.findIn K (.ref C) "__ne__" = some (some (.builtin "object.__ne__")) ∧ PySem.W.mroIn K C (.type "object") = some true ∧ sp [x, y] H (fun v H' => ∃ b, v = .bl b ∧ Q (.bl (!b)) H') E0
theorem op_ownNe {j : Nat} (c : EqOf X.prog X.w X.K X.mg X.base n C sp) (hr : Room j X.A) (hn : n + 1 ≤ j) : OpR X (compareOp .NotEq) (rOwnNe X.K C sp) := by
  obtain ⟨g, fd, ps, hs, hf, F, hb⟩ := c.ex
  intro pins s σ H x y v u Q I rx ry h
  obtain ⟨a, dx, fs, t, rfl, ha, ty, hnf, hne, hm, q⟩ := h
  cases (show v = Value.ref a from rx)
  obtain ⟨mA, O, _⟩ := ins_get I.hok ha
  obtain ⟨od, J, _⟩ := O.look
  obtain ⟨Pk, kit, hk, _⟩ := kit_of I ry ty
  show wpAny _ _ (richCompare .NotEq (.ref a) u) _ _ _
  refine rich_ne_K (tb := t) I.kIn J (kit.ty _ _ I.kIn hk) hnf hs hf hne hm (by have := (hr.mono hn).un; omega) ?_
  refine wpAny_mono (run_fnA (us := [.ref a, u]) (vs := [.ref a, y]) (dvs := []) (ds := []) F (hr.mono hn).in1 hb .nil pass0 I (.cons rfl (.cons ry .nil)) q) (fun z s' hz => ?_) fun _ _ x => x
  obtain ⟨zv, H', I', rz, b, hzv, qz⟩ := hz
  subst hzv
  cases (show z = Value.bool b from rz)
  exact ⟨b, rfl, .bl (!b), H', I', rfl, qz⟩
def rNeO (K : PySem.W.Frag) (C : Addr) (sp : Sp) : R2 := fun x y H Q => rNeU K x y H Q ∨ rOwnNe K C sp x y H Q
end
theorem kNeO (K : PySem.W.Frag) {X : Cx} {n : Nat} {C : Addr} {sp : Sp} {j : Nat} (c : EqOf X.prog X.w X.K X.mg X.base n C sp) (hr : Room j X.A) (hn : n + 1 ≤ j) (h : X.K = K := by rfl) : OpR X (compareOp .NotEq) (rNeO K C sp) := by subst h; exact (xNe hr).or (op_ownNe c hr hn)
section
variable {K : PySem.W.Frag} {C : Addr} {sp : Sp} {H : Hp} {Q : VK} {x y : V}
theorem w_neO (h : rNeU K x y H Q) : rNeO K C sp x y H Q := .inl h
theorem r_ownNe {F} {a dx : Addr} {fs : List (Str × V)} {t : Value} (ha : H a = some (.ins C dx fs)) (ty : TyX K H y t) (hn : PySem.W.notFirst K C t = true) (hne : PySem.W.findIn K (.ref C) "__ne__" = some (some (.builtin "object.__ne__"))) (hm : PySem.W.mroIn K C (.type "object") = some true) (q : F (.ref a) y H (fun v H' => ∃ b, v = .bl b ∧ Q (.bl (!b)) H') E0) : rNeO K C (sp2 F) (.ref a) y H Q :=
  .inr ⟨a, dx, fs, t, rfl, ha, ty, hn, hne, hm, _, _, rfl, q⟩
end

end
section
abbrev N__law_pick : List Str := ["source", "many", "digit", "value"]
theorem sc__law_pick : FnScope N__law_pick ["source", "many"] (defScope s__law_pick) := ⟨rfl, rfl, rfl, by decide +kernel, rfl, by decide +kernel, by decide +kernel⟩
theorem ok__law_pick {P : Program} {w : World} {K : PySem.W.Frag} {mg : Str → Option Value} {base : Heap} (E : Env P K mg) : Fn P w K mg base CX0 1 "_law_pick" (sp2 fun s m H Q _ => ∃ (a : Addr) (n : Int), s = .ref a ∧ m = .int n ∧ 0 < n ∧ n < 4611686018427387904 ∧ SrcAt H a ∧ ∀ (r : Int) H', 0 ≤ r → r < n → SrcAt H' a → Fr a H H' → Q (.int r) H') := by
  obtain ⟨fd, F⟩ := E.dd__law_pick
  refine Fn.mk0 F E.g__law_pick sc__law_pick sp2_len (fun _ _ _ _ _ _ us hl => match us, hl with | [_, _], _ => rfl) (fun cdv A outer s H vs Q X hr h => ?_)
  have nd := sc__law_pick.nd
  obtain ⟨v0, v1, rfl, h⟩ := h
  refine ⟨_, (pss_cons (ps_if (pt_cmpR op_gt (pe_ix (kIx K) (pv 0) (pe_int) (fun _ _ => rfl)) (pe_int) (nomark _))
   (pss_cons (ps_set (i := 2) nd rfl (.inl rfl) (pe_op xMod (pe_callTy xInt (by rfl) E.f_int (by decide +kernel) (pa_cons (pe_ix (kIx K) (pv 0) (pe_int) (fun _ _ => rfl)) pa_nil)) (pv 1)))
  (pss_cons (ps_asg (pe_op xDiv (pe_ix (kIx K) (pv 0) (pe_int) (fun _ _ => rfl)) (pv 1)) (pg_sub (pv 0) (pe_int) set_list))
  (pss_one (ps_ret (pv 2)))))
   pss_nil)
  (pss_cons (ps_asg (pe_op (kAdd K) (pe_ix (kIx K) (pv 0) (pe_int) (fun _ _ => rfl)) (pe_int)) (pg_sub (pv 0) (pe_int) set_list))
  (pss_cons (ps_set (i := 3) nd rfl (.inl rfl) (pe_op xMod (pe_callTy xInt (by rfl) E.f_int (by decide +kernel) (pa_cons (pe_op (kMul K) (pe_op (kAdd K) (pe_ix (kIx K) (pv 0) (pe_int) (fun _ _ => rfl)) (pe_op (kMul K) (pe_int) (pe_ix (kIx K) (pv 0) (pe_int) (fun _ _ => rfl)))) (pe_int)) pa_nil)) (pe_int)))
  (pss_cons (ps_set (i := 3) nd rfl (.inl rfl) (pe_op xMod (pe_callTy xInt (by rfl) E.f_int (by decide +kernel) (pa_cons (pe_op (kAdd K) (pe_op (kAdd K) (pe_op (kMul K) (pv 3) (pv 3)) (pe_op (kMul K) (pe_int) (pe_ix (kIx K) (pv 0) (pe_int) (fun _ _ => rfl)))) (pe_ix (kIx K) (pv 0) (pe_int) (fun _ _ => rfl))) pa_nil)) (pe_int)))
  (pss_cons (ps_set (i := 3) nd rfl (.inl rfl) (pe_op xMod (pe_callTy xInt (by rfl) E.f_int (by decide +kernel) (pa_cons (pe_op (kAdd K) (pe_op (kMul K) (pv 3) (pe_int)) (pe_int)) pa_nil)) (pe_int)))
  (pss_cons (ps_set (i := 3) nd rfl (.inl rfl) (pe_op xMod (pe_callTy xInt (by rfl) E.f_int (by decide +kernel) (pa_cons (pe_op (kAdd K) (pe_op (kMul K) (pv 3) (pv 3)) (pv 3)) pa_nil)) (pe_int)))
  (pss_one (ps_ret (pe_op xMod (pe_callTy xInt (by rfl) E.f_int (by decide +kernel) (pa_cons (pe_op xDiv (pv 3) (pe_int)) pa_nil)) (pv 1)))))))))), ?_⟩
  change (_ : TS) _ [some v0, some v1, none, none] H
  try dsimp only [cxOf, Cx.nox, Cx.blk]
  obtain ⟨a, n, rfl, rfl, hn, hn2, hs, k⟩ := h
  obtain ⟨d, sd, c, h1, h2, h3, h4, h5⟩ := hs
  have s1 : SqL K H a [.int d, .int sd, .int c] := sq_of h1
  walk_at "w"
  by_cases c0 : 0 < d
  · walk_at "w"
    have hd0 : 0 ≤ d / n := Int.ediv_nonneg h2 (by omega)
    refine r_set (j := 0) h1 rfl ?_
    walk_at "w"
    exact k _ _ (Int.emod_nonneg _ (by omega)) (Int.emod_lt_of_pos _ hn) ⟨d / n, sd, c, upd_same, hd0, h3, h4, h5⟩ Fr.upd
  · walk_at "w"
    refine r_set (j := 2) h1 rfl ?_
    obtain ⟨H1, e1, g1, f1⟩ : ∃ H1, upd H a (.lst ([V.int d, .int sd, .int c].set 2 (.int (c + 1)))) = H1 ∧ H1 a = some (.lst [.int d, .int sd, .int (c + 1)]) ∧ Fr a H H1 := ⟨_, rfl, upd_same, Fr.upd⟩
    rw [e1]
    have s2 : SqL K H1 a [.int d, .int sd, .int (c + 1)] := sq_of g1
    walk_at "w"
    generalize hx1 : (sd + 104729 * (c + 1)) * 48271 % 2147483647 = x1
    have b1 : 0 ≤ x1 ∧ x1 < 2147483647 := by subst hx1; exact ⟨Int.emod_nonneg _ (by decide), Int.emod_lt_of_pos _ (by decide)⟩
    walk_at "w"
    generalize hx2 : (x1 * x1 + 7 * (c + 1) + sd) % 2147483629 = x2
    have b2 : 0 ≤ x2 ∧ x2 < 2147483629 := by subst hx2; exact ⟨Int.emod_nonneg _ (by decide), Int.emod_lt_of_pos _ (by decide)⟩
    walk_at "w"
    generalize hx3 : (x2 * 69621 + 5) % 2147483647 = x3
    have b3 : 0 ≤ x3 ∧ x3 < 2147483647 := by subst hx3; exact ⟨Int.emod_nonneg _ (by decide), Int.emod_lt_of_pos _ (by decide)⟩
    walk_at "w"
    exact k _ _ (Int.emod_nonneg _ (by omega)) (Int.emod_lt_of_pos _ hn) ⟨d, sd, c + 1, g1, h2, h3, h4, by omega⟩ f1

end
section
theorem bits_abs {z : Int} (h : Builtin.Int.intBits z ≤ 1048576) : ∃ n : Nat, n ≤ 1048577 ∧ z.natAbs < 2 ^ n := by
  refine ⟨z.natAbs.log2 + 1, ?_, Nat.lt_log2_self⟩
  unfold Builtin.Int.intBits at h
  split at h
  · rename_i h0
    have : z = 0 := by simpa using h0
    subst this
    decide
  · omega
theorem shl_of {z : Int} {j : Nat} (hj : j ≤ 100000) (hz : 0 ≤ z) (h : ∃ n : Nat, n ≤ 1048577 ∧ z.natAbs < 2 ^ n) (m : Nat) : CShl (z / 2 ^ m) (j : Int) := by
  obtain ⟨n, hn, hb⟩ := h
  refine shl_ok (n := n) (Nat.lt_of_le_of_lt ?_ hb) (by omega)
  have h1 : z / 2 ^ m ≤ z := Int.ediv_le_self _ hz
  have h2 : 0 ≤ z / 2 ^ m := Int.ediv_nonneg hz (Int.le_of_lt (Int.pow_pos (by decide)))
  omega
abbrev N__law_source : List Str := ["script", "place", "cell", "seed", "one", "number"]
theorem sc__law_source : FnScope N__law_source ["script", "place"] (defScope s__law_source) := ⟨rfl, rfl, rfl, by decide +kernel, rfl, by decide +kernel, by decide +kernel⟩
theorem ok__law_source {P : Program} {w : World} {K : PySem.W.Frag} {mg : Str → Option Value} {base : Heap} (E : Env P K mg) : Fn P w K mg base CX0 1 "_law_source" (sp2 fun s p H Q _ => ∃ (a : Addr) (ns : List Int) (i : Int), s = .ref a ∧ p = .int i ∧ SqL K H a (vI ns) ∧ (∀ z ∈ ns, Builtin.Int.intBits z ≤ 1048576) ∧ ns.length ≤ 63 ∧ 0 ≤ i ∧ i ≤ 100 ∧ ∀ x H', H x = none → Ex H H' → SrcAt H' x → Q (.ref x) H') := by
  obtain ⟨fd, F⟩ := E.dd__law_source
  refine Fn.mk0 F E.g__law_source sc__law_source sp2_len (fun _ _ _ _ _ _ us hl => match us, hl with | [_, _], _ => rfl) (fun cdv A outer s H vs Q X hr h => ?_)
  have nd := sc__law_source.nd
  obtain ⟨v0, v1, rfl, h⟩ := h
  refine ⟨_, (pss_cut (ps_set (i := 2) nd rfl (.inl rfl) (pe_ifExp (pt_cmpR op_lt (pv 1) (pe_callB (kLen K) (by rfl) E.f_len (by decide +kernel) (pa_cons (pv 0) pa_nil)) (nomark _)) (pe_ix (kIx K) (pv 0) (pv 1) (fun _ _ => rfl)) (pe_op (kAdd K) (pe_op (kMul K) (pe_int) (pv 1)) (pe_int))))
  (pss_cons (ps_set (i := 3) nd rfl (.inl rfl) (pe_op xMod (pe_callTy xInt (by rfl) E.f_int (by decide +kernel) (pa_cons (pe_op (kAdd K) (pe_op xMod (pe_callTy xInt (by rfl) E.f_int (by decide +kernel) (pa_cons (pv 2) pa_nil)) (pe_int)) (pe_op (kMul K) (pe_int) (pv 1))) pa_nil)) (pe_int)))
  (pss_cons (ps_for PassesOwn.never rfl (kSeq K (pe_slice (kSl K) (pv 0) po_none (po_some (pe_int)))) (pg_name (i := 4) nd rfl (.inl rfl))
   (pss_one (ps_set (i := 3) nd rfl (.inl rfl) (pe_op xMod (pe_callTy xInt (by rfl) E.f_int (by decide +kernel) (pa_cons (pe_op (kAdd K) (pe_op (kMul K) (pv 3) (pe_int)) (pe_op xMod (pe_callTy xInt (by rfl) E.f_int (by decide +kernel) (pa_cons (pv 4) pa_nil)) (pe_int))) pa_nil)) (pe_int)))))
  (pss_cons (ps_set (i := 5) nd rfl (.inl rfl) (pe_callB xAbs (by rfl) E.f_abs (by decide +kernel) (pa_cons (pv 2) pa_nil)))
  (pss_cons (ps_if (pt_cmpR op_lt (pv 5) (pe_op xPow (pe_int) (pe_int)) (nomark _))
   (pss_one (ps_ret (pe_lst (pa_cons (pe_int) (pa_cons (pv 3) (pa_cons (pe_int) pa_nil))))))
   pss_nil)
  (pss_cons (ps_if (pt_cmpR op_gt (pe_op xShr (pv 5) (pe_int)) (pe_int) (nomark _))
   (pss_one (ps_set (i := 5) nd rfl (.inl rfl) (pe_op xSub (pv 5) (pe_op xShl (pe_op xShr (pv 5) (pe_int)) (pe_int)))))
   pss_nil)
  (pss_one (ps_ret (pe_lst (pa_cons (pv 5) (pa_cons (pv 3) (pa_cons (pe_int) pa_nil)))))))))))), ?_⟩
  change (_ : TS) _ [some v0, some v1, none, none, none, none] H
  try dsimp only [cxOf, Cx.nox, Cx.blk]
  obtain ⟨a, ns, i, rfl, rfl, s0, hb, hz, hi, hi2, k⟩ := h
  have fin : ∀ (cell seed : Int) (H1 : Hp) (v : Option V), Ex H H1 → (∃ n : Nat, n ≤ 1048577 ∧ cell.natAbs < 2 ^ n) → 0 ≤ seed → seed < 2147483629 →
      tSeq (tAsg (tCB rAbsU (tCons (tVar 2) tNil)) (gName 5)) (tSeq (tIfS (tTest (tOp (rI0 fun i j => .bl (decide (i < j))) (tVar 5) (tOp rPow (tC (.int 10)) (tC (.int 18))))) (tRet (tLst (tCons (tC (.int 0)) (tCons (tVar 3) (tCons (tC (.int 0)) tNil))))) tNext)
        (tSeq (tIfS (tTest (tOp (rI0 fun i j => .bl (decide (j < i))) (tOp rShr (tVar 5) (tC (.int 4000))) (tC (.int 0)))) (tAsg (tOp rSubI (tVar 5) (tOp rShl (tOp rShr (tVar 5) (tC (.int 4000))) (tC (.int 4000)))) (gName 5)) tNext)
          (tRet (tLst (tCons (tVar 5) (tCons (tVar 3) (tCons (tC (.int 0)) tNil))))))) { nx := fun _ H' => Q .non H', rt := Q } [some (.ref a), some (.int i), some (.int cell), some (.int seed), v, none] H1 := by
    intro cell seed H1 v e1 hc h0 h1
    have ret : ∀ (d : Int), 0 ≤ d → NewL [.int d, .int seed, .int 0] H1 Q := fun d hd => w_newL (by walk_at "sz") fun p H2 n2 e2 h2 => k p H2 (fresh_back e1 n2) (e1.trans e2) ⟨d, seed, 0, h2, hd, h0, h1, Int.le_refl 0⟩
    repeat walk_at "w1"
    refine r_abs ?_
    repeat walk_at "w1"
    refine r_pow ⟨by decide, by decide, by decide⟩ ?_
    refine r_lt ?_
    repeat walk_at "w1"
    have hn0 : (0 : Int) ≤ (cell.natAbs : Int) := Int.natCast_nonneg _
    have hb : ∃ n : Nat, n ≤ 1048577 ∧ (cell.natAbs : Int).natAbs < 2 ^ n := hc
    generalize (10 : Int) ^ (18 : Int).toNat = B1
    generalize (cell.natAbs : Int) = num at *
    refine w_ite (fun _ => ?_) (fun _ => ?_)
    · repeat walk_at "w1"
      exact ret 0 (Int.le_refl 0)
    · repeat walk_at "w1"
      refine r_shr (by decide) ?_
      repeat walk_at "w1"
      refine r_gt ?_
      repeat walk_at "w1"
      refine w_ite (fun _ => ?_) (fun _ => ?_)
      · repeat walk_at "w1"
        refine r_shr (by decide) ?_
        repeat walk_at "w1"
        refine r_shl (shl_of (j := 4000) (by decide) hn0 hb _) ?_
        refine r_subI ?_
        repeat walk_at "w1"
        refine ret _ ?_
        have h4 : (4000 : Int).toNat = ((4000 : Nat) : Int).toNat := rfl
        generalize (4000 : Int).toNat = m at *
        rw [← h4]
        have h5 : num / 2 ^ m * 2 ^ m ≤ num := Int.ediv_mul_le num (Int.ne_of_gt (Int.pow_pos (by decide)))
        exact Int.sub_nonneg_of_le h5
      · repeat walk_at "w1"
        exact ret _ hn0
  refine w_cut (M := fun σ' H' => ∃ cell : Int, σ' = [some (.ref a), some (.int i), some (.int cell), none, none, none] ∧ H' = H ∧ ∃ n : Nat, n ≤ 1048577 ∧ cell.natAbs < 2 ^ n) ?_ ?_
  · walk_at "w"
    by_cases c : i < ns.length
    · walk_at "w"
      have hm : gI ns i ∈ ns := by
        unfold gI
        rw [List.getD_eq_getElem?_getD, List.getElem?_eq_getElem (show i.toNat < ns.length by omega)]
        exact List.getElem_mem _
      exact ⟨_, rfl, rfl, bits_abs (hb _ hm)⟩
    · walk_at "w"
      exact ⟨_, rfl, rfl, 10, by omega, by omega⟩
  rintro σ' H' ⟨cell, rfl, rfl, hc⟩
  walk_at "w"
  refine i_seqL ?_
  walk_at "w"
  intro p H1 n1 e1 h1
  walk_at "w"
  refine for_list (xs := vI (ns.take 2)) (Pv := fun _ σ' H2 => ∃ (sd : Int) (v : Option V), σ' = [some (.ref a), some (.int i), some (.int cell), some (.int sd), v, none] ∧ 0 ≤ sd ∧ sd < 2147483629 ∧ H2 = H1) ⟨_, _, rfl, Int.emod_nonneg _ (by decide), Int.emod_lt_of_pos _ (by decide), rfl⟩ (fun _ _ H2 _ q => by obtain ⟨_, _, _, _, _, rfl⟩ := q; exact sq_of h1) ?_ ?_
  · rintro j x σ' H2 hx ⟨sd, v, rfl, g0, g1, rfl⟩
    obtain ⟨z, _, rfl⟩ := List.mem_map.mp (List.mem_of_getElem? hx)
    walk_at "w"
    exact ⟨_, _, rfl, Int.emod_nonneg _ (by decide), Int.emod_lt_of_pos _ (by decide), rfl⟩
  · rintro σ' H2 ⟨sd, v, rfl, g0, g1, rfl⟩
    exact fin cell sd H2 v e1 hc g0 g1

end
section
/-- counts from lo on that do not fall, each step less than st -/
def Ris (ns : List Int) (lo st : Int) : Prop := rising ns ∧ (∀ n ∈ ns, lo ≤ n) ∧ ∀ n ∈ ns, n ≤ lo + ns.length * (st - 1)
theorem gI_app {ns : List Int} {v : Int} {i : Nat} : gI (ns ++ [v]) i = if i < ns.length then gI ns i else if i = ns.length then v else 0 := by
  unfold gI
  rw [Int.toNat_natCast, List.getD_eq_getElem?_getD, List.getD_eq_getElem?_getD]
  by_cases h : i < ns.length
  · rw [List.getElem?_append_left h, if_pos h]
  · rw [List.getElem?_append_right (by omega), if_neg h]
    by_cases h2 : i = ns.length
    · subst h2; simp
    · rw [if_neg h2, List.getElem?_eq_none (by simp; omega)]; rfl
theorem rising_app {ns : List Int} {v : Int} (h : rising ns) (hv : ∀ n ∈ ns, n ≤ v) : rising (ns ++ [v]) := by
  intro i hi
  rw [List.length_append, List.length_singleton] at hi
  have e : ((i : Int) + 1) = ((i + 1 : Nat) : Int) := rfl
  rw [e, gI_app, gI_app, if_pos (by omega)]
  by_cases h2 : i + 1 < ns.length
  · rw [if_pos h2]; exact h i h2
  · rw [if_neg h2, if_pos (by omega)]
    refine hv _ ?_
    unfold gI
    rw [Int.toNat_natCast, List.getD_eq_getElem?_getD, List.getElem?_eq_getElem (show i < ns.length by omega)]
    exact List.getElem_mem _
abbrev N__law_rising : List Str := ["source", "many", "low", "steps", "told", "value", "k"]
theorem sc__law_rising : FnScope N__law_rising ["source", "many", "low", "steps"] (defScope s__law_rising) := ⟨rfl, rfl, rfl, by decide +kernel, rfl, by decide +kernel, by decide +kernel⟩
theorem ok__law_rising {P : Program} {w : World} {K : PySem.W.Frag} {mg : Str → Option Value} {base : Heap} (E : Env P K mg) : Fn P w K mg base CX0 2 "_law_rising" (sp4 fun s m lo st H Q _ => ∃ (a : Addr) (n : Nat) (low step : Int), s = .ref a ∧ m = .int n ∧ lo = .int low ∧ st = .int step ∧ n ≤ 1000 ∧ 0 < step ∧ step < 1000000 ∧ SrcAt H a ∧ ∀ p ns H', H p = none → Fr a H H' → SrcAt H' a → H' p = some (.lst (vI ns)) → ns.length = n → Ris ns low step → Q (.ref p) H') := by
  obtain ⟨fd, F⟩ := E.dd__law_rising
  refine Fn.mk0 F E.g__law_rising sc__law_rising sp4_len (fun _ _ _ _ _ _ us hl => match us, hl with | [_, _, _, _], _ => rfl) (fun cdv A outer s H vs Q X hr h => ?_)
  have nd := sc__law_rising.nd
  obtain ⟨v0, v1, v2, v3, rfl, h⟩ := h
  refine ⟨_, (pss_cons (ps_set (i := 4) nd rfl (.inl rfl) (pe_lst (pa_nil)))
  (pss_cons (ps_set (i := 5) nd rfl (.inl rfl) (pv 2))
  (pss_cons (ps_for PassesOwn.never rfl (pi_range1 (by rfl) E.f_range (pa_cons (pv 1) pa_nil)) (pg_name (i := 6) nd rfl (.inl rfl))
   (pss_cons (ps_set (i := 5) nd rfl (.inl rfl) (pe_op (kAdd K) (pv 5) (pc (ok__law_pick E) hr (by decide) pass0 rfl (pa_cons (pv 0) (pa_cons (pv 3) pa_nil)))))
  (pss_one (ps_expr (kBM K (pe_bm PySem.F.plainAttrs_list PySem.F.slot_list_append PySem.F.type_list_append mt_append (pv 4) (pa_cons (pv 5) pa_nil)))))))
  (pss_one (ps_ret (pv 4)))))), ?_⟩
  change (_ : TS) _ [some v0, some v1, some v2, some v3, none, none, none] H
  try dsimp only [cxOf, Cx.nox, Cx.blk]
  obtain ⟨a, n, low, step, rfl, rfl, rfl, rfl, hn, hs0, hs1, hsrc, k⟩ := h
  walk_at "w"
  intro p H1 n1 e1 h1
  have hpa := hsrc.ne n1
  walk_at "w"
  refine for_range (lo := 0) (Pv := fun i σ' H' => ∃ (ns : List Int) (v : Int) (o : Option V), σ' = [some (.ref a), some (.int n), some (.int low), some (.int step), some (.ref p), some (.int v), o] ∧ Fr a H H' ∧ SrcAt H' a ∧ H' p = some (.lst (vI ns)) ∧ ns.length = i ∧ rising ns ∧ (∀ x ∈ ns, low ≤ x ∧ x ≤ v) ∧ low ≤ v ∧ v ≤ low + i * (step - 1))
    ⟨[], low, none, rfl, Fr.of e1, hsrc.ex e1, h1, rfl, fun i hi => by simp at hi, fun x hx => by simp at hx, Int.le_refl _, by omega⟩ ?_ ?_
  · rintro i σ' H' hi ⟨ns, v, o, rfl, f1, q1, g1, hl, hr1, hr2, hr3, hr4⟩
    walk_at "w"
    refine ⟨a, step, rfl, rfl, hs0, by omega, q1, fun r H2 r0 r1 q2 f2 => ?_⟩
    walk_at "w"
    have g2 := f2 p _ hpa g1
    walk_at "w"
    refine r_app (K := K) g2 (sz_lt (by rw [List.length_map]; omega)) ?_
    walk_at "w"
    refine ⟨ns ++ [v + r], v + r, _, rfl, fun b o nb hb => ?_, ?_, ?_, ?_, ?_, ?_, ?_, ?_⟩
    · rw [upd_ne (ne_of_none hb n1)]
      exact f2 b o nb (f1 b o nb hb)
    · obtain ⟨d, s, c, w1, w2⟩ := q2
      exact ⟨d, s, c, by rw [upd_ne hpa.symm]; exact w1, w2⟩
    · rw [show vI (ns ++ [v + r]) = vI ns ++ [V.int (v + r)] from List.map_append ..]
      exact upd_same
    · rw [List.length_append, hl]; rfl
    · exact rising_app hr1 fun x hx => by have := (hr2 x hx).2; omega
    · intro x hx
      rcases List.mem_append.mp hx with hx | hx
      · have := hr2 x hx; omega
      · have : x = v + r := by simpa using hx
        omega
    · omega
    · rw [show ((i + 1 : Nat) : Int) * (step - 1) = i * (step - 1) + (step - 1) by rw [Int.natCast_add, Int.add_mul]; omega]
      omega
  · rintro σ' H' ⟨ns, v, o, rfl, f1, q1, g1, hl, hr1, hr2, hr3, hr4⟩
    walk_at "w"
    rw [Int.toNat_natCast] at hl hr4
    refine k p ns H' n1 f1 q1 g1 hl ⟨hr1, fun x hx => (hr2 x hx).1, fun x hx => ?_⟩
    have := (hr2 x hx).2
    rw [hl]
    omega

end
section
theorem gI_lit {ns : List Int} {r lo hi : Int} (h : ns.all (fun n => decide (lo ≤ n) && decide (n ≤ hi)) = true) (r0 : 0 ≤ r) (r1 : r < ns.length) : lo ≤ gI ns r ∧ gI ns r ≤ hi := by
  have hl : r.toNat < ns.length := by omega
  have hm : gI ns r ∈ ns := by
    unfold gI
    rw [List.getD_eq_getElem?_getD, List.getElem?_eq_getElem hl]
    exact List.getElem_mem _
  have := List.all_eq_true.mp h _ hm
  simpa using this
theorem gI_mem {ns : List Int} {r : Int} (r0 : 0 ≤ r) (r1 : r < ns.length) : gI ns r ∈ ns := by
  unfold gI
  rw [List.getD_eq_getElem?_getD, List.getElem?_eq_getElem (show r.toNat < ns.length by omega)]
  exact List.getElem_mem _
theorem rising_le {ns : List Int} (h : rising ns) : ∀ (d i : Nat), i + d < ns.length → gI ns i ≤ gI ns (i + d)
  | 0, i, _ => Int.le_refl _
  | d + 1, i, hi => by
    refine Int.le_trans (rising_le h d i (by omega)) ?_
    have := h (i + d) (by omega)
    exact this
/-- small values -/
structure RawOk (h l : List Int) (r : Int) : Prop where
  val : Val h l r
  zh : h.length ≤ 4
  zl : l.length ≤ 4
  bh : ∀ n ∈ h, n ≤ 8
  bl : ∀ n ∈ l, n ≤ 16
  br : r ≤ 12
abbrev N__law_raw : List Str := ["source", "steady", "head", "low", "many", "loop", "more", "rise"]
theorem sc__law_raw : FnScope N__law_raw ["source", "steady"] (defScope s__law_raw) := ⟨rfl, rfl, rfl, by decide +kernel, rfl, by decide +kernel, by decide +kernel⟩
theorem ok__law_raw {P : Program} {w : World} {K : PySem.W.Frag} {mg : Str → Option Value} {base : Heap} (E : Env P K mg) : Fn P w K mg base CX0 3 "_law_raw" (sp2 fun s t H Q _ => ∃ (a : Addr) (b : Bool), s = .ref a ∧ t = .bl b ∧ SrcAt H a ∧ ∀ v H' h l r, Fr a H H' → SrcAt H' a → Dp K H' v (dRaw h l r) → RawOk h l r → (b = true → l ≠ [] ∧ 0 < r) → Q v H') := by
  obtain ⟨fd, F⟩ := E.dd__law_raw
  refine Fn.mk0 F E.g__law_raw sc__law_raw sp2_len (fun _ _ _ _ _ _ us hl => match us, hl with | [_, _], _ => rfl) (fun cdv A outer s H vs Q X hr h => ?_)
  have nd := sc__law_raw.nd
  obtain ⟨v0, v1, rfl, h⟩ := h
  refine ⟨_, (pss_cons (ps_set (i := 2) nd rfl (.inl rfl) (pc (ok__law_rising E) hr (by decide) pass0 rfl (pa_cons (pv 0) (pa_cons (pe_ix (kIx K) (pe_lst (pa_cons (pe_int) (pa_cons (pe_int) (pa_cons (pe_int) (pa_cons (pe_int) (pa_cons (pe_int) (pa_cons (pe_int) (pa_cons (pe_int) (pa_cons (pe_int) pa_nil))))))))) (pc (ok__law_pick E) hr (by decide) pass0 rfl (pa_cons (pv 0) (pa_cons (pe_int) pa_nil))) (fun _ _ => rfl)) (pa_cons (pe_int) (pa_cons (pe_int) pa_nil))))))
  (pss_cut (ps_set (i := 3) nd rfl (.inl rfl) (pe_ifExp (pt_cmpR op_gt (pe_callB (kLen K) (by rfl) E.f_len (by decide +kernel) (pa_cons (pv 2) pa_nil)) (pe_int) (nomark _)) (pe_ix (kIx K) (pv 2) (pe_un un_neg (pe_int)) (fun _ _ => rfl)) (pe_int)))
  (pss_cut (ps_if (PW.pt (pw_and (pt_not (kTru K (pv 1) (by intro _; rfl))) (pw_and1 (pt_cmpR (kEq K hr) (pc (ok__law_pick E) hr (by decide) pass0 rfl (pa_cons (pv 0) (pa_cons (pe_int) pa_nil))) (pe_int) (nomark _)))))
   (pss_one (ps_ret (pe_tup (pa_cons (pe_callTy (kTup K) (by rfl) E.f_tuple (by decide +kernel) (pa_cons (pv 2) pa_nil)) (pa_cons (pe_tup pa_nil) (pa_cons (pe_int) pa_nil))))))
   pss_nil)
  (pss_cons (ps_set (i := 4) nd rfl (.inl rfl) (pe_ix (kIx K) (pe_lst (pa_cons (pe_int) (pa_cons (pe_int) (pa_cons (pe_int) (pa_cons (pe_int) (pa_cons (pe_int) (pa_cons (pe_int) (pa_cons (pe_int) (pa_cons (pe_int) pa_nil))))))))) (pc (ok__law_pick E) hr (by decide) pass0 rfl (pa_cons (pv 0) (pa_cons (pe_int) pa_nil))) (fun _ _ => rfl)))
  (pss_cons (ps_set (i := 5) nd rfl (.inl rfl) (pc (ok__law_rising E) hr (by decide) pass0 rfl (pa_cons (pv 0) (pa_cons (pv 4) (pa_cons (pv 3) (pa_cons (pe_int) pa_nil))))))
  (pss_cons (ps_set (i := 6) nd rfl (.inl rfl) (pe_ix (kIx K) (pe_lst (pa_cons (pe_int) (pa_cons (pe_int) (pa_cons (pe_int) (pa_cons (pe_int) (pa_cons (pe_int) (pa_cons (pv 4) (pa_cons (pe_int) (pa_cons (pe_int) pa_nil))))))))) (pc (ok__law_pick E) hr (by decide) pass0 rfl (pa_cons (pv 0) (pa_cons (pe_int) pa_nil))) (fun _ _ => rfl)))
  (pss_cons (ps_set (i := 7) nd rfl (.inl rfl) (pe_op (kAdd K) (pe_op xSub (pe_ix (kIx K) (pv 5) (pe_un un_neg (pe_int)) (fun _ _ => rfl)) (pe_ix (kIx K) (pv 5) (pe_int) (fun _ _ => rfl))) (pv 6)))
  (pss_cut (ps_if (PW.pt (pw_and (kTru K (pv 1) (by intro _; rfl)) (pw_and1 (pt_cmpR (kEq K hr) (pv 7) (pe_int) (nomark _)))))
   (pss_one (ps_set (i := 7) nd rfl (.inl rfl) (pe_int)))
   pss_nil)
  (pss_one (ps_ret (pe_tup (pa_cons (pe_callTy (kTup K) (by rfl) E.f_tuple (by decide +kernel) (pa_cons (pv 2) pa_nil)) (pa_cons (pe_callTy (kTup K) (by rfl) E.f_tuple (by decide +kernel) (pa_cons (pv 5) pa_nil)) (pa_cons (pv 7) pa_nil)))))))))))))), ?_⟩
  change (_ : TS) _ [some v0, some v1, none, none, none, none, none, none] H
  try dsimp only [cxOf, Cx.nox, Cx.blk]
  obtain ⟨a, b, rfl, rfl, hsrc, k⟩ := h
  walk_at "w"
  intro p1 H1 n1 e1 h1
  walk_at "w"
  refine ⟨a, 8, rfl, rfl, by decide, by decide, hsrc.ex e1, fun r1 H2 r10 r18 q2 f2 => ?_⟩
  have g1 : H2 p1 = some (.lst (vI [0, 1, 2, 0, 3, 1, 4, 2])) := f2 p1 _ (hsrc.ne n1) h1
  have b1 := gI_lit (ns := [0, 1, 2, 0, 3, 1, 4, 2]) (lo := 0) (hi := 4) (by decide) r10 r18
  have F2 : Fr a H H2 := (Fr.of e1).trans f2
  walk_at "w"
  obtain ⟨m1, hm1⟩ := Int.eq_ofNat_of_zero_le b1.1
  rw [hm1]
  rw [hm1] at b1
  refine ⟨a, m1, 0, 3, rfl, rfl, rfl, rfl, by omega, by decide, by decide, q2, fun ph hs H3 n3 f3 q3 h3 hl3 hr3 => ?_⟩
  have hpa : ph ≠ a := q2.ne n3
  have F3 : Fr a H H3 := F2.trans f3
  have hs4 : hs.length ≤ 4 := by omega
  have hs0 : ∀ n ∈ hs, 0 ≤ n := hr3.2.1
  have hs8 : ∀ n ∈ hs, n ≤ 8 := fun n hn => by have := hr3.2.2 n hn; omega
  walk_at "w"
  refine w_cut (M := fun σ' H' => ∃ low : Int, σ' = [some (.ref a), some (.bl b), some (.ref ph), some (.int low), none, none, none, none] ∧ H' = H3 ∧ 0 ≤ low ∧ low ≤ 8 ∧ (hs ≠ [] → gI hs (hs.length - 1) = low)) ?_ ?_
  · walk_at "w"
    by_cases c : 0 < (hs.length : Int)
    · walk_at "w"
      have hm := gI_mem (ns := hs) (r := -1 + hs.length) (by omega) (by omega)
      exact ⟨_, rfl, rfl, hs0 _ hm, hs8 _ hm, fun _ => by rw [show (hs.length : Int) - 1 = -1 + hs.length by omega]⟩
    · walk_at "w"
      exact ⟨_, rfl, rfl, Int.le_refl _, by decide, fun h => absurd (List.length_pos_iff.mpr h) (by omega)⟩
  rintro σ' H' ⟨low, rfl, rfl, lo0, lo8, hlow⟩
  have V0 : Val hs [] 0 := ⟨hs0, fun n hn => by simp at hn, hr3.1, fun i hi => by simp at hi, Int.le_refl _, fun _ => rfl, fun _ h => absurd rfl h, fun h => absurd rfl h, ⟨by decide, by decide, by omega, by simp⟩⟩
  refine w_cut (M := fun σ' H' => σ' = [some (.ref a), some (.bl b), some (.ref ph), some (.int low), none, none, none, none] ∧ Fr a H H' ∧ SrcAt H' a ∧ H' ph = some (.lst (vI hs))) ?_ ?_
  · cases b with
    | true =>
      walk_at "w"
      exact ⟨rfl, F3, q3, h3⟩
    | false =>
      walk_at "w"
      refine ⟨a, 7, rfl, rfl, by decide, by decide, q3, fun r2 H4 _ _ q4 f4 => ?_⟩
      have h4 := f4 ph _ hpa h3
      walk_at "w"
      refine w_ite (fun _ => ?_) (fun _ => ?_)
      · walk_at "w"
        intro p5 H5 e5 s5
        walk_at "w"
        intro p6 H6 n6 e6 h6
        walk_at "w"
        intro p7 H7 n7 e7 h7
        exact k _ _ hs [] 0 (F3.trans (f4.trans (Fr.of ((e5.trans e6).trans e7)))) (q4.ex ((e5.trans e6).trans e7)) (dp_of_raw (st_of h7) (ex_t e7 (ex_t e6 s5)) (ex_t e7 (st_of h6))) ⟨V0, hs4, by simp, fun n hn => by have := hs8 n hn; omega, fun n hn => by simp at hn, by decide⟩ (fun h => nomatch h)
      · walk_at "w"
        exact ⟨rfl, F3.trans f4, q4, h4⟩
  rintro σ' H4 ⟨rfl, F4, q4, h4⟩
  walk_at "w"
  intro p5 H5 n5 e5 h5
  walk_at "w"
  refine ⟨a, 8, rfl, rfl, by decide, by decide, q4.ex e5, fun r2 H6 r20 r28 q6 f6 => ?_⟩
  have g6 : H6 p5 = some (.lst (vI [1, 2, 1, 3, 2, 1, 4, 3])) := f6 p5 _ (q4.ne n5) h5
  have b6 := gI_lit (ns := [1, 2, 1, 3, 2, 1, 4, 3]) (lo := 1) (hi := 4) (by decide) r20 r28
  have h6 := f6 ph _ hpa (e5 _ _ h4)
  have F6 : Fr a H H6 := F4.trans ((Fr.of e5).trans f6)
  walk_at "w"
  obtain ⟨m2, hm2⟩ := Int.eq_ofNat_of_zero_le (show 0 ≤ gI [1, 2, 1, 3, 2, 1, 4, 3] r2 by omega)
  rw [hm2]
  rw [hm2] at b6
  refine ⟨a, m2, low, 3, rfl, rfl, rfl, rfl, by omega, by decide, by decide, q6, fun pl ls H7 n7 f7 q7 h7 hl7 hr7 => ?_⟩
  have hla : pl ≠ a := q6.ne n7
  have F7 : Fr a H H7 := F6.trans f7
  have g7 := f7 ph _ hpa h6
  have hl0 : 0 < ls.length := by omega
  have ls0 : ∀ n ∈ ls, low ≤ n := hr7.2.1
  have ls8 : ∀ n ∈ ls, n ≤ 16 := fun n hn => by have := hr7.2.2 n hn; omega
  walk_at "w"
  intro p8 H8 n8 e8 h8
  walk_at "w"
  refine ⟨a, 8, rfl, rfl, by decide, by decide, q7.ex e8, fun r3 H9 r30 r38 q9 f9 => ?_⟩
  have g9 : H9 p8 = some (.lst (vI [1, 2, 1, 0, 3, m2, 2, 1])) := f9 p8 _ (q7.ne n8) h8
  have b9 : 0 ≤ gI [1, 2, 1, 0, 3, (m2 : Int), 2, 1] r3 ∧ gI [1, 2, 1, 0, 3, (m2 : Int), 2, 1] r3 ≤ 4 := gI_lit (by simp; omega) r30 r38
  have h9 := f9 ph _ hpa (e8 _ _ g7)
  have l9 := f9 pl _ hla (e8 _ _ h7)
  have F9 : Fr a H H9 := F7.trans ((Fr.of e8).trans f9)
  walk_at "w"
  generalize gI [1, 2, 1, 0, 3, (m2 : Int), 2, 1] r3 = more at *
  have hlast : gI ls 0 ≤ gI ls (-1 + ls.length) := by
    have := rising_le hr7.1 (ls.length - 1) 0 (by omega)
    rw [show (-1 + (ls.length : Int)) = ((0 : Nat) : Int) + ((ls.length - 1 : Nat) : Int) by omega]
    exact this
  have hf := gI_mem (ns := ls) (r := 0) (Int.le_refl _) (by omega)
  have hla2 := gI_mem (ns := ls) (r := -1 + ls.length) (by omega) (by omega)
  have z1 := ls0 _ hf
  have z2 := ls8 _ hla2
  have z3 := hr7.2.2 _ hla2
  generalize hfe : gI ls 0 = fst at *
  generalize hle : gI ls (-1 + ls.length) = lst at *
  refine w_cut (M := fun σ' H' => ∃ r : Int, σ' = [some (.ref a), some (.bl b), some (.ref ph), some (.int low), some (.int m2), some (.ref pl), some (.int more), some (.int r)] ∧ H' = H9 ∧ lst - fst ≤ r ∧ r ≤ 12 ∧ 0 ≤ r ∧ (b = true → 0 < r)) ?_ ?_
  · cases b with
    | true =>
      walk_at "w"
      by_cases c : lst - fst + more = 0
      · walk_at "w"
        exact ⟨_, rfl, rfl, by omega, by decide, by decide, fun _ => by decide⟩
      · walk_at "w"
        exact ⟨_, rfl, rfl, by omega, by omega, by omega, fun _ => by omega⟩
    | false =>
      walk_at "w"
      exact ⟨_, rfl, rfl, by omega, by omega, by omega, fun h => nomatch h⟩
  rintro σ' H' ⟨r, rfl, rfl, y1, y2, y3, y4⟩
  walk_at "w"
  intro p10 H10 e10 s10
  walk_at "w"
  intro p11 H11 e11 s11
  walk_at "w"
  intro p12 H12 n12 e12 h12
  have ee := (e10.trans e11).trans e12
  refine k _ _ hs ls r (F9.trans (Fr.of ee)) (q9.ex ee) (dp_of_raw (st_of h12) (ex_t e12 (ex_t e11 s10)) (ex_t e12 s11)) ⟨⟨hs0, fun n hn => by have := ls0 n hn; omega, hr3.1, hr7.1, y3, fun h => ?_, fun hne _ => ?_, fun _ => ?_, ⟨by omega, by omega, by omega, by omega⟩⟩, hs4, by omega, fun n hn => by have := hs8 n hn; omega, fun n hn => by have := ls8 n hn; omega, y2⟩ (fun hb => ⟨List.length_pos_iff.mp hl0, y4 hb⟩)
  · subst h; simp at hl0
  · rw [hlow hne, hfe]; exact z1
  · rw [show (ls.length : Int) - 1 = -1 + ls.length by omega, hle, hfe]; omega

end
section
abbrev N__law_is_integer : List Str := ["thing"]
theorem sc__law_is_integer : FnScope N__law_is_integer ["thing"] (defScope s__law_is_integer) := ⟨rfl, rfl, rfl, by decide +kernel, rfl, by decide +kernel, by decide +kernel⟩
theorem ok__law_is_integer {P : Program} {w : World} {K : PySem.W.Frag} {mg : Str → Option Value} {base : Heap} (E : Env P K mg) : Fn P w K mg base CX0 1 "_law_is_integer" (sp1 fun v H Q _ => ∃ d, Dp K H v d ∧ RetD K (.bool (dIsInt d)) H Q) := by
  obtain ⟨fd, F⟩ := E.dd__law_is_integer
  refine Fn.mk0 F E.g__law_is_integer sc__law_is_integer sp1_len (fun _ _ _ _ _ _ us hl => match us, hl with | [_], _ => rfl) (fun cdv A outer s H vs Q X hr h => ?_)
  have nd := sc__law_is_integer.nd
  obtain ⟨v0, rfl, h⟩ := h
  refine ⟨_, (pss_one (ps_ret (pe_and (pe_callB (kIsi K) (by rfl) E.f_isinstance (by decide +kernel) (pa_cons (pv 0) (pa_cons (pe_bltn (v := .ty "int") (by rfl) E.f_int (by decide +kernel) rfl) pa_nil))) (pe_one (pe_not (pe_callB (kIsi K) (by rfl) E.f_isinstance (by decide +kernel) (pa_cons (pv 0) (pa_cons (pe_bltn (v := .ty "bool") (by rfl) E.f_bool (by decide +kernel) rfl) pa_nil)))))))), ?_⟩
  change (_ : TS) _ [some v0] H
  try dsimp only [cxOf, Cx.nox, Cx.blk]
  obtain ⟨d, hd, k⟩ := h
  cases d with
  | dict x => exact (dp_nodict hd).elim
  | int i => cases hd; walk_at "w"; exact k.bl (by walk_at "ex")
  | _ => cases hd <;> (walk_at "w"; exact k.bl (by walk_at "ex"))
abbrev N__law_is_count : List Str := ["thing"]
theorem sc__law_is_count : FnScope N__law_is_count ["thing"] (defScope s__law_is_count) := ⟨rfl, rfl, rfl, by decide +kernel, rfl, by decide +kernel, by decide +kernel⟩
theorem ok__law_is_count {P : Program} {w : World} {K : PySem.W.Frag} {mg : Str → Option Value} {base : Heap} (E : Env P K mg) : Fn P w K mg base CX0 2 "_law_is_count" (sp1 fun v H Q _ => ∃ d, Dp K H v d ∧ RetD K (.bool (dIsCount d)) H Q) := by
  obtain ⟨fd, F⟩ := E.dd__law_is_count
  refine Fn.mk0 F E.g__law_is_count sc__law_is_count sp1_len (fun _ _ _ _ _ _ us hl => match us, hl with | [_], _ => rfl) (fun cdv A outer s H vs Q X hr h => ?_)
  have nd := sc__law_is_count.nd
  obtain ⟨v0, rfl, h⟩ := h
  refine ⟨_, (pss_one (ps_ret (pe_and (pc (ok__law_is_integer E) hr (by decide) pass0 rfl (pa_cons (pv 0) pa_nil)) (pe_one (pe_cmpR op_ge (pv 0) (pe_int) (nomark _)))))), ?_⟩
  change (_ : TS) _ [some v0] H
  try dsimp only [cxOf, Cx.nox, Cx.blk]
  obtain ⟨d, hd, k⟩ := h
  walk_at "w"
  refine ⟨d, hd, fun v H1 e1 d1 => ?_⟩
  obtain rfl := dp_toBl d1
  cases d with
  | int i => cases hd; walk_at "w"; exact k.bl (by walk_at "ex")
  | _ => walk_at "w"; exact k.bl (by walk_at "ex")
abbrev N__law_end : List Str := ["raw"]
theorem sc__law_end : FnScope N__law_end ["raw"] (defScope s__law_end) := ⟨rfl, rfl, rfl, by decide +kernel, rfl, by decide +kernel, by decide +kernel⟩
theorem ok__law_end {P : Program} {w : World} {K : PySem.W.Frag} {mg : Str → Option Value} {base : Heap} (E : Env P K mg) : Fn P w K mg base CX0 1 "_law_end" (sp1 fun v H Q _ => ∃ h l r, Dp K H v (dRaw h l r) ∧ RetD K (dOpt (endOf l r)) H Q) := by
  obtain ⟨fd, F⟩ := E.dd__law_end
  refine Fn.mk0 F E.g__law_end sc__law_end sp1_len (fun _ _ _ _ _ _ us hl => match us, hl with | [_], _ => rfl) (fun cdv A outer s H vs Q X hr h => ?_)
  have nd := sc__law_end.nd
  obtain ⟨v0, rfl, h⟩ := h
  refine ⟨_, (pss_cons (ps_if (PW.pt (pw_or (pt_cmpR (kEq K hr) (pe_callB (kLen K) (by rfl) E.f_len (by decide +kernel) (pa_cons (pe_ix (kIx K) (pv 0) (pe_int) (fun _ _ => rfl)) pa_nil)) (pe_int) (nomark _)) (pw_or1 (pt_cmpR op_gt (pe_ix (kIx K) (pv 0) (pe_int) (fun _ _ => rfl)) (pe_int) (nomark _)))))
   (pss_one (ps_ret (pe_non)))
   pss_nil)
  (pss_one (ps_ret (pe_ix (kIx K) (pe_ix (kIx K) (pv 0) (pe_int) (fun _ _ => rfl)) (pe_un un_neg (pe_int)) (fun _ _ => rfl))))), ?_⟩
  change (_ : TS) _ [some v0] H
  try dsimp only [cxOf, Cx.nox, Cx.blk]
  obtain ⟨hd, l, r, hD, k⟩ := h
  obtain ⟨a, th, tl, rfl, s1, s2, s3⟩ := dp_raw hD
  walk_at "w"
  by_cases h1 : l = []
  · subst h1
    walk_at "w"
    exact k.non (by walk_at "ex")
  · have h2 : 0 < l.length := List.length_pos_iff.mpr h1
    walk_at "w"
    unfold endOf at k
    by_cases h3 : 0 < r
    · walk_at "w"
      rw [if_pos (.inr h3)] at k
      exact k.non (by walk_at "ex")
    · walk_at "w"
      rw [if_neg (by rintro (h | h) <;> contradiction)] at k
      rw [show (l.length : Int) - 1 = -1 + l.length by omega] at k
      exact k.int (by walk_at "ex")
abbrev N__law_at : List Str := ["raw", "place", "rest"]
theorem sc__law_at : FnScope N__law_at ["raw", "place"] (defScope s__law_at) := ⟨rfl, rfl, rfl, by decide +kernel, rfl, by decide +kernel, by decide +kernel⟩
theorem ok__law_at {P : Program} {w : World} {K : PySem.W.Frag} {mg : Str → Option Value} {base : Heap} (E : Env P K mg) : Fn P w K mg base CX0 2 "_law_at" (spValueAt K) := by
  obtain ⟨fd, F⟩ := E.dd__law_at
  refine Fn.mk0 F E.g__law_at sc__law_at sp2_len (fun _ _ _ _ _ _ us hl => match us, hl with | [_, _], _ => rfl) (fun cdv A outer s H vs Q X hr h => ?_)
  have nd := sc__law_at.nd
  obtain ⟨v0, v1, rfl, h⟩ := h
  refine ⟨_, (pss_cons (ps_if (pt_cmpR xIs (pv 1) (pe_non) (nomark _))
   (pss_one (ps_ret (pc (ok__law_end E) hr (by decide) pass0 rfl (pa_cons (pv 0) pa_nil))))
   pss_nil)
  (pss_cons (ps_if (pt_cmpR (kEq K hr) (pv 1) (pe_int) (nomark _))
   (pss_one (ps_ret (pe_int)))
   pss_nil)
  (pss_cons (ps_if (pt_cmpR op_le (pv 1) (pe_callB (kLen K) (by rfl) E.f_len (by decide +kernel) (pa_cons (pe_ix (kIx K) (pv 0) (pe_int) (fun _ _ => rfl)) pa_nil)) (nomark _))
   (pss_one (ps_ret (pe_ix (kIx K) (pe_ix (kIx K) (pv 0) (pe_int) (fun _ _ => rfl)) (pe_op xSub (pv 1) (pe_int)) (fun _ _ => rfl))))
   pss_nil)
  (pss_cons (ps_if (pt_cmpR (kEq K hr) (pe_callB (kLen K) (by rfl) E.f_len (by decide +kernel) (pa_cons (pe_ix (kIx K) (pv 0) (pe_int) (fun _ _ => rfl)) pa_nil)) (pe_int) (nomark _))
   (pss_one (ps_ret (pe_non)))
   pss_nil)
  (pss_cons (ps_set (i := 2) nd rfl (.inl rfl) (pe_op xSub (pe_op xSub (pv 1) (pe_callB (kLen K) (by rfl) E.f_len (by decide +kernel) (pa_cons (pe_ix (kIx K) (pv 0) (pe_int) (fun _ _ => rfl)) pa_nil))) (pe_int)))
  (pss_one (ps_ret (pe_op (kAdd K) (pe_ix (kIx K) (pe_ix (kIx K) (pv 0) (pe_int) (fun _ _ => rfl)) (pe_op xMod (pv 2) (pe_callB (kLen K) (by rfl) E.f_len (by decide +kernel) (pa_cons (pe_ix (kIx K) (pv 0) (pe_int) (fun _ _ => rfl)) pa_nil))) (fun _ _ => rfl)) (pe_op (kMul K) (pe_ix (kIx K) (pv 0) (pe_int) (fun _ _ => rfl)) (pe_op xDiv (pv 2) (pe_callB (kLen K) (by rfl) E.f_len (by decide +kernel) (pa_cons (pe_ix (kIx K) (pv 0) (pe_int) (fun _ _ => rfl)) pa_nil)))))))))))), ?_⟩
  change (_ : TS) _ [some v0, some v1, none] H
  try dsimp only [cxOf, Cx.nox, Cx.blk]
  obtain ⟨hd, l, r, p, hD, hp, hn, hr1, k⟩ := h
  obtain ⟨a, th, tl, rfl, s1, s2, s3⟩ := dp_raw hD
  obtain ⟨r1, r2, r3, r4⟩ := hr1
  cases p with
  | none =>
    obtain rfl := dp_toNon hp
    walk_at "w"
    exact ⟨hd, l, r, hD, k⟩
  | some p =>
    obtain rfl := dp_toInt hp
    have hn0 := hn p rfl
    walk_at "w"
    have k' : RetD K (dOpt (vat hd l r p)) H Q := k
    unfold vat at k'
    by_cases h0 : p = 0
    · walk_at "w"
      rw [if_pos h0] at k'
      exact k'.int (by walk_at "ex")
    · rw [if_neg h0] at k'
      walk_at "w"
      by_cases h1 : p ≤ hd.length
      · rw [if_pos h1] at k'
        walk_at "w"
        exact k'.int (by walk_at "ex")
      · rw [if_neg h1] at k'
        walk_at "w"
        by_cases h2 : l = []
        · rw [if_pos h2] at k'
          subst h2
          walk_at "w"
          exact k'.non (by walk_at "ex")
        · rw [if_neg h2] at k'
          have h3 : 0 < l.length := List.length_pos_iff.mpr h2
          have h4 : (p - hd.length - 1) % l.length < l.length := Int.emod_lt_of_pos _ (by omega)
          have h5 : 0 ≤ (p - hd.length - 1) % l.length := Int.emod_nonneg _ (by omega)
          walk_at "w"
          exact k'.int (by walk_at "ex")

end
section
def Rng3 (R : It → Hp → Prop) (vs : List V) (H1 : Hp) : Prop := ∃ i j c n, vs = [V.int i, V.int j, V.int c] ∧ RgC i j c n ∧ R (Itc i c n) H1
theorem i_r3 {H : Hp} {ta : TA} {σ : L2.St} {R : It → Hp → Prop} (h : ta σ H fun vs H1 => Rng3 R vs H1) : iRng3 ta σ H R := h
theorem i_x3 {H : Hp} {i j c : Int} {n : Nat} {R : It → Hp → Prop} (hc : RgC i j c n) (h : R (Itc i c n) H) : Rng3 R [V.int i, V.int j, V.int c] H := ⟨i, j, c, n, rfl, hc, h⟩
theorem w_cont {D : Ends} {σ : L2.St} {H : Hp} (h : D.ct σ H) : tCont D σ H := h
/-- the cut of the row as the law has it: from c on, size s -/
def lcut (row : List Int) (s : Nat) (r : Int) : Nat → Nat
  | 0 => 0
  | c + 1 => if s < c + 1 ∧ gI row ((c : Int) - s) = gI row c - r then lcut row s r c else c + 1
theorem lcut_le (row : List Int) (s : Nat) (r : Int) : ∀ c, lcut row s r c ≤ c
  | 0 => Nat.le_refl _
  | c + 1 => by
    unfold lcut
    split
    · exact Nat.le_succ_of_le (lcut_le row s r c)
    · exact Nat.le_refl _
theorem lcut_ge (row : List Int) (s : Nat) (r : Int) : ∀ c, s ≤ c → s ≤ lcut row s r c
  | 0, h => h
  | c + 1, h => by
    unfold lcut
    split
    · rename_i q
      exact lcut_ge row s r c (by omega)
    · exact h
noncomputable def lawF (h l : List Int) (r : Int) : List Int × List Int × Int :=
  if l = [] then (h, [], 0) else
    ((h ++ (shortLoop l r).1).take (lcut (h ++ (shortLoop l r).1) (shortLoop l r).1.length (shortLoop l r).2 (h ++ (shortLoop l r).1).length - (shortLoop l r).1.length),
     ((h ++ (shortLoop l r).1).drop (lcut (h ++ (shortLoop l r).1) (shortLoop l r).1.length (shortLoop l r).2 (h ++ (shortLoop l r).1).length - (shortLoop l r).1.length)).take (shortLoop l r).1.length,
     (shortLoop l r).2)
section
variable {K : PySem.W.Frag} {H : Hp} {Q : VK}
theorem r_lstE {a : Addr} {xs : List V} (h : SqE K H a xs) (q : ∀ p H1, H p = none → Ex H H1 → H1 p = some (.lst xs) → Q (.ref p) H1) : rLstU K [.ref a] H Q := h.elim (fun h => r_lstL h q) (fun h => r_lstT h q)
theorem r_tupE {a : Addr} {xs : List V} (h : SqE K H a xs) (q : ∀ p H1, Ex H H1 → SqT K H1 p xs → Q (.ref p) H1) : rTupU K [.ref a] H Q := h.elim (fun h => r_tupL h q) (fun h => r_tupT h q)
theorem r_slEto {a : Addr} {xs : List Int} {i : Int} (h : SqE K H a (vI xs)) (h0 : 0 ≤ i) (q : ∀ p H1, Ex H H1 → SqE K H1 p (vI (xs.take i.toNat)) → Q (.ref p) H1) : rSl K (.ref a) none (some i) H Q := h.elim (fun h => r_slLto h h0 fun p H1 _ e g => q p H1 e (.inl (sq_of g))) (fun h => r_slTto h h0 fun p H1 e g => q p H1 e (.inr g))
theorem r_slEfrom {a : Addr} {xs : List Int} {i : Int} (h : SqE K H a (vI xs)) (h0 : 0 ≤ i) (q : ∀ p H1, Ex H H1 → SqE K H1 p (vI (xs.drop i.toNat)) → Q (.ref p) H1) : rSl K (.ref a) (some i) none H Q := h.elim (fun h => r_slLfrom h h0 fun p H1 _ e g => q p H1 e (.inl (sq_of g))) (fun h => r_slTfrom h h0 fun p H1 e g => q p H1 e (.inr g))
end
local macro_rules | `(tactic| walk_at "w2") => `(tactic| first
  | ((with_reducible refine' r_lstE ?a ?q); (case a => walk_at "hp"))
  | ((with_reducible refine' r_tupE ?a ?q); (case a => walk_at "hp"))
  | ((with_reducible refine' r_slEto ?a ?b ?q); (case a => walk_at "hp"); (case b => walk_at "om")))
abbrev N__law_plain : List Str := ["head", "loop", "rise", "size", "many", "turns", "step", "row", "cut", "k"]
theorem sc__law_plain : FnScope N__law_plain ["head", "loop", "rise"] (defScope s__law_plain) := ⟨rfl, rfl, rfl, by decide +kernel, rfl, by decide +kernel, by decide +kernel⟩
theorem ok__law_plain {P : Program} {w : World} {K : PySem.W.Frag} {mg : Str → Option Value} {base : Heap} (E : Env P K mg) : Fn P w K mg base CX0 1 "_law_plain" (sp3 fun a b c H Q _ => ∃ b1 b2 h l r, Dp K H a (dSeqI b1 h) ∧ Dp K H b (dSeqI b2 l) ∧ Dp K H c (.int r) ∧ 0 ≤ r ∧ RSm h l r ∧ RetD K (dRaw (lawF h l r).1 (lawF h l r).2.1 (lawF h l r).2.2) H Q) := by
  obtain ⟨fd, F⟩ := E.dd__law_plain
  refine Fn.mk0 F E.g__law_plain sc__law_plain sp3_len (fun _ _ _ _ _ _ us hl => match us, hl with | [_, _, _], _ => rfl) (fun cdv A outer s H vs Q X hr h => ?_)
  have nd := sc__law_plain.nd
  obtain ⟨v0, v1, v2, rfl, h⟩ := h
  refine ⟨_, (pss_cons (ps_if (pt_cmpR (kEq K hr) (pe_callB (kLen K) (by rfl) E.f_len (by decide +kernel) (pa_cons (pv 1) pa_nil)) (pe_int) (nomark _))
   (pss_one (ps_ret (pe_tup (pa_cons (pe_callTy (kTup K) (by rfl) E.f_tuple (by decide +kernel) (pa_cons (pv 0) pa_nil)) (pa_cons (pe_tup pa_nil) (pa_cons (pe_int) pa_nil))))))
   pss_nil)
  (pss_cons (ps_set (i := 3) nd rfl (.inl rfl) (pe_callB (kLen K) (by rfl) E.f_len (by decide +kernel) (pa_cons (pv 1) pa_nil)))
  (pss_cut (ps_for PassesOwn.never rfl (pi_range3 (by rfl) E.f_range (pa_cons (pe_callB (kLen K) (by rfl) E.f_len (by decide +kernel) (pa_cons (pv 1) pa_nil)) (pa_cons (pe_int) (pa_cons (pe_un un_neg (pe_int)) pa_nil)))) (pg_name (i := 4) nd rfl (.inr rfl))
   (pss_cons (ps_set (i := 5) nd rfl (.inl rfl) (pe_op xDiv (pe_callB (kLen K) (by rfl) E.f_len (by decide +kernel) (pa_cons (pv 1) pa_nil)) (pv 4)))
  (pss_cons (ps_if (PW.pt (pw_or (pt_cmpR (kNe K hr) (pe_op (kMul K) (pv 5) (pv 4)) (pe_callB (kLen K) (by rfl) E.f_len (by decide +kernel) (pa_cons (pv 1) pa_nil)) (nomark _)) (pw_or1 (pt_cmpR (kNe K hr) (pe_op xMod (pe_callTy xInt (by rfl) E.f_int (by decide +kernel) (pa_cons (pv 2) pa_nil)) (pv 5)) (pe_int) (nomark _)))))
   (pss_one (ps_continue))
   pss_nil)
  (pss_cons (ps_set (i := 6) nd rfl (.inr rfl) (pe_op xDiv (pv 2) (pv 5)))
  (pss_one (ps_if (kTru K (pe_callB (kAll K rfl) (by rfl) E.f_all (by decide +kernel) (pa_cons (pe_lc (own := [("k", 9)]) (g := gName 9) (tt := tYes) rfl nd (pi_range1 (by rfl) E.f_range (pa_cons (pe_op xSub (pe_callB (kLen K) (by rfl) E.f_len (by decide +kernel) (pa_cons (pv 1) pa_nil)) (pv 4)) pa_nil)) (blkOk_by (N := N__law_plain) (sc := defScope s__law_plain) (by decide +kernel)) (fun _ _ _ _ _ => pg_name (i := 9) nd rfl (Or.inl rfl)) (fun _ _ _ _ _ => pts_nil) (fun _ _ _ _ _ => pe_cmpR (kEq K hr) (pe_ix (kIx K) (pv 1) (pe_op (kAdd K) (pv 9) (pv 4)) (fun _ _ => rfl)) (pe_op (kAdd K) (pe_ix (kIx K) (pv 1) (pv 9) (fun _ _ => rfl)) (pv 6)) (nomark _))) pa_nil)) (by intro _; rfl))
   (pss_one (ps_set (i := 3) nd rfl (.inl rfl) (pv 4)))
   pss_nil))))))
  (pss_cons (ps_set (i := 2) nd rfl (.inl rfl) (pe_op xDiv (pv 2) (pe_op xDiv (pe_callB (kLen K) (by rfl) E.f_len (by decide +kernel) (pa_cons (pv 1) pa_nil)) (pv 3))))
  (pss_cons (ps_set (i := 7) nd rfl (.inl rfl) (pe_op (kAdd K) (pe_callTy (kLst K) (by rfl) E.f_list (by decide +kernel) (pa_cons (pv 0) pa_nil)) (pe_callTy (kLst K) (by rfl) E.f_list (by decide +kernel) (pa_cons (pe_slice (kSl K) (pv 1) po_none (po_some (pv 3))) pa_nil))))
  (pss_cons (ps_set (i := 8) nd rfl (.inl rfl) (pe_callB (kLen K) (by rfl) E.f_len (by decide +kernel) (pa_cons (pv 7) pa_nil)))
  (pss_cons (ps_while PassesOwn.never (PW.pt (pw_and (pt_cmpR op_gt (pv 8) (pv 3) (nomark _)) (pw_and1 (pt_cmpR (kEq K hr) (pe_ix (kIx K) (pv 7) (pe_op xSub (pe_op xSub (pv 8) (pe_int)) (pv 3)) (fun _ _ => rfl)) (pe_op xSub (pe_ix (kIx K) (pv 7) (pe_op xSub (pv 8) (pe_int)) (fun _ _ => rfl)) (pv 2)) (nomark _)))))
   (pss_one (ps_set (i := 8) nd rfl (.inl rfl) (pe_op xSub (pv 8) (pe_int)))))
  (pss_one (ps_ret (pe_tup (pa_cons (pe_callTy (kTup K) (by rfl) E.f_tuple (by decide +kernel) (pa_cons (pe_slice (kSl K) (pv 7) po_none (po_some (pe_op xSub (pv 8) (pv 3)))) pa_nil)) (pa_cons (pe_callTy (kTup K) (by rfl) E.f_tuple (by decide +kernel) (pa_cons (pe_slice (kSl K) (pv 7) (po_some (pe_op xSub (pv 8) (pv 3))) (po_some (pv 8))) pa_nil)) (pa_cons (pv 2) pa_nil))))))))))))), ?_⟩
  change (_ : TS) _ [some v0, some v1, some v2, none, none, none, none, none, none, none] H
  try dsimp only [cxOf, Cx.nox, Cx.blk]
  obtain ⟨b1, b2, h, l, r, hh, hl, hri, hr0, ⟨r1, r2, r3, r4⟩, k⟩ := h
  obtain ⟨th, rfl, s1⟩ := dp_seqE hh
  obtain ⟨tl, rfl, s2⟩ := dp_seqE hl
  obtain rfl := dp_toInt hri
  unfold lawF at k
  walk_at "w"
  by_cases hn : l = []
  · subst hn
    rw [if_pos rfl] at k
    walk_at "w"
    intro p0 H0 e0 s0
    walk_at "w"
    intro p1 H1 n1 e1 h1
    walk_at "w"
    intro p2 H2 n2 e2 h2
    exact k _ _ ((e0.trans e1).trans e2) (dp_of_raw (st_of h2) (ex_t e2 (ex_t e1 s0)) (ex_t e2 (st_of h1)))
  · rw [if_neg hn] at k
    have hl0 : 0 < l.length := List.length_pos_iff.mpr hn
    walk_at "w"
    refine w_cut (M := fun σ' H' => ∃ (s : Nat) (a b c : Option V), σ' = [some (.ref th), some (.ref tl), some (.int r), some (.int s), a, b, c, none, none, none] ∧ Ex H H' ∧ 1 ≤ s ∧ s ≤ l.length ∧ (s = l.length ∨ slOk l r s) ∧ ∀ j, 1 ≤ j → j < s → ¬ slOk l r j) ?_ ?_
    · walk_at "w"
      refine i_r3 ?_
      walk_at "w"
      have hrg : RgC (l.length : Int) 0 (-1) l.length := by
        have := RgC.neg (i := (l.length : Int)) (j := 0) (by omega) (by omega) (by omega) (by omega)
        rwa [show ((l.length : Int) - 0).toNat = l.length by omega] at this
      refine i_x3 (n := l.length) hrg ?_
      refine for_rangeC (lo := l.length) (c := -1) (n := l.length) (Pv := fun i σ' H' => ∃ (s : Nat) (a b c : Option V), σ' = [some (.ref th), some (.ref tl), some (.int r), some (.int s), a, b, c, none, none, none] ∧ Ex H H' ∧ 1 ≤ s ∧ s ≤ l.length ∧ (s = l.length ∨ slOk l r s) ∧ ∀ j, l.length < j + i → j < s → ¬ slOk l r j)
        ⟨l.length, _, _, _, rfl, Ex.refl H, by omega, Nat.le_refl _, .inl rfl, fun j h1 h2 => by omega⟩ ?_ ?_
      · rintro i σ' H' hi ⟨s, a, b, c, rfl, e, hs1, hs2, hs3, hnot⟩
        obtain ⟨m, hm⟩ : ∃ m : Nat, m + i = l.length := ⟨l.length - i, by omega⟩
        have hm0 : 0 < m := by omega
        rw [show ((l.length : Int) + (i : Int) * -1) = (m : Int) by omega]
        have hq : 0 < (l.length : Int) / m := Int.le_ediv_of_mul_le (by omega) (by omega)
        have hq2 : (l.length : Int) / m ≤ l.length := Int.ediv_le_self _ (by omega)
        have hme : (l.length : Int) % m + m * ((l.length : Int) / m) = l.length := Int.emod_add_mul_ediv ..
        have hno : ¬ slOk l r m → ∀ j, l.length < j + (i + 1) → j < s → ¬ slOk l r j := fun hn j h1 h2 => by
          by_cases hj : j = m
          · rw [hj]; exact hn
          · exact hnot j (by omega) h2
        walk_at "w"
        by_cases c1 : (l.length : Int) % m = 0
        · have c1' : (l.length : Int) / m * m = l.length := by rw [Int.mul_comm]; omega
          walk_at "w"
          by_cases c2 : r % ((l.length : Int) / m) = 0
          · walk_at "w"
            refine lcJ_r0 (v := fun i => .bl (decide (gI l (i + m) = gI l i + r / ((l.length : Int) / m)))) (by omega) (fun x => [_, _, _, _, _, _, _, _, _, some x]) (fun x => rfl) (fun x => rfl) (fun j H1 Q' e1 hj hq => ?_) (fun p H2 np e2 hp => ?_)
            · walk_at "w"
              exact hq H1 (Ex.refl _)
            · rw [map_bl_range] at hp
              walk_at "w"
              refine r_all (sq_of hp) rfl ?_
              rw [all_range]
              walk_at "w"
              by_cases c3 : ∀ j : Nat, j < ((l.length : Int) - m).toNat → gI l (j + m) = gI l j + r / ((l.length : Int) / m)
              · walk_at "w"
                exact ⟨m, _, _, _, rfl, e.trans e2, hm0, by omega, .inr ⟨c1, c2, fun j hj => c3 j (by omega)⟩, fun j h1 h2 => by omega⟩
              · walk_at "w"
                refine ⟨s, _, _, _, rfl, e.trans e2, hs1, hs2, hs3, hno fun h => c3 fun j hj => ?_⟩
                exact h.2.2 j (by omega)
          · walk_at "w"
            refine w_cont ?_
            exact ⟨s, _, _, _, rfl, e, hs1, hs2, hs3, hno fun h => c2 h.2.1⟩
        · have c1' : ¬ ((l.length : Int) / m * m = l.length) := by rw [Int.mul_comm]; omega
          walk_at "w"
          refine w_cont ?_
          exact ⟨s, _, _, _, rfl, e, hs1, hs2, hs3, hno fun h => c1 h.1⟩
      · rintro σ' H' ⟨s, a, b, c, rfl, e, hs1, hs2, hs3, hnot⟩
        exact ⟨s, a, b, c, rfl, e, hs1, hs2, hs3, fun j h1 h2 => hnot j (by omega) h2⟩
    rintro σ' H1 ⟨s, a, b, c, rfl, e1, hs1, hs2, hs3, hnot⟩
    have hsl : shortLoop l r = (l.take s, r / ((l.length : Int) / s)) := by
      by_cases q : s = l.length
      · rw [shortLoop_none (fun j h1 h2 => hnot j h1 (by omega)), q, List.take_length, Int.ediv_self (by omega), Int.ediv_one]
      · exact shortLoop_some hs1 (by omega) (hs3.resolve_left q) hnot
    have hq : 0 < (l.length : Int) / s := Int.le_ediv_of_mul_le (by omega) (by omega)
    have hq2 : (l.length : Int) / s ≤ l.length := Int.ediv_le_self _ (by omega)
    have hlen : (l.take s).length = s := by rw [List.length_take]; omega
    rw [hsl] at k
    dsimp only at k
    rw [hlen] at k
    walk_at "w"
    intro p2 H2 n2 e2 h2
    walk_at "w"
    intro p3 H3 e3 s3
    walk_at "w"
    intro p4 H4 n4 e4 h4
    rw [Int.toNat_natCast] at h4
    refine r_addL (e4 _ _ (e3 _ _ h2)) h4 (by walk_at "sz") fun p5 H5 n5 e5 h5 => ?_
    rw [show vI h ++ vI (l.take s) = vI (h ++ l.take s) from List.map_append.symm] at h5
    have hrl : (h ++ l.take s).length = h.length + s := by rw [List.length_append, hlen]
    generalize hrow : h ++ l.take s = row at *
    generalize hr' : r / ((l.length : Int) / s) = r' at *
    walk_at "w"
    refine ⟨fun m σ' H' => σ' = [some (.ref th), some (.ref tl), some (.int r'), some (.int s), a, b, c, some (.ref p5), some (.int (m : Int)), none] ∧ H' = H5 ∧ s ≤ m ∧ m ≤ row.length ∧ lcut row s r' row.length = lcut row s r' m, ⟨row.length, rfl, rfl, by omega, Nat.le_refl _, rfl⟩, ?_⟩
    rintro m σ' H' ⟨rfl, rfl, hm1, hm2, hc⟩
    walk_at "w"
    cases m with
    | zero => omega
    | succ m =>
      have fin : lcut row s r' (m + 1) = m + 1 → tRet (tTup (tCons (tCB (rTupU K) (tCons (tSl (rSl K) (tVar 7) tNoPart (tPart (tOp rSubI (tVar 8) (tVar 3)))) tNil)) (tCons (tCB (rTupU K) (tCons (tSl (rSl K) (tVar 7) (tPart (tOp rSubI (tVar 8) (tVar 3))) (tPart (tVar 8))) tNil)) (tCons (tVar 2) tNil))))
          { nx := fun _ H' => Q .non H', rt := Q } [some (.ref th), some (.ref tl), some (.int r'), some (.int s), a, b, c, some (.ref p5), some (.int ((m + 1 : Nat) : Int)), none] H' := by
        intro hf
        walk_at "w"
        intro p6 H6 n6 e6 h6
        walk_at "w"
        intro p7 H7 e7 s7
        walk_at "w"
        intro p8 H8 n8 e8 h8
        walk_at "w"
        intro p9 H9 e9 s9
        walk_at "w"
        intro p10 H10 n10 e10 h10
        rw [hc, hf] at k
        rw [show (((m + 1 : Nat) : Int) - s).toNat = m + 1 - s by omega] at s7 s9
        rw [show (((m + 1 : Nat) : Int) - (((m + 1 : Nat) : Int) - s)).toNat = s by omega] at s9
        exact k _ _ (by walk_at "ex") (dp_of_raw (st_of h10) (by walk_at "hp") (by walk_at "hp"))
      by_cases c1 : (s : Int) < ((m + 1 : Nat) : Int)
      · walk_at "w"
        rw [show ((m + 1 : Nat) : Int) - 1 = (m : Int) by omega]
        by_cases c2 : gI row ((m : Int) - s) = gI row m - r'
        · walk_at "w"
          refine ⟨_, fun σ2 H2 h2 => ⟨m, Nat.lt_succ_self m, h2⟩, ?_⟩
          walk_at "w"
          rw [show ((m + 1 : Nat) : Int) - 1 = (m : Int) by omega]
          refine ⟨rfl, rfl, by omega, by omega, ?_⟩
          rw [hc]
          exact if_pos ⟨by omega, c2⟩
        · refine w_dF c2 ?_
          exact fin (if_neg fun q => c2 q.2)
      · refine w_dF c1 ?_
        with_reducible refine w_bF rfl ?_
        exact fin (if_neg fun q => c1 (by omega))

end
section
/-- the loop going on both ways -/
def extL (l : List Int) (r : Int) (i : Int) : Int := gI l (i % l.length) + r * (i / l.length)
def Per (g : Int → Int) (s : Nat) (d : Int) : Prop := ∀ i : Int, g (i + s) = g i + d
theorem Per.mulN {g : Int → Int} {s : Nat} {d : Int} (p : Per g s d) : ∀ (z : Nat) (i : Int), g (i + s * z) = g i + d * z
  | 0, i => by simp
  | z + 1, i => by
    rw [show i + (s : Int) * ((z + 1 : Nat) : Int) = (i + s * z) + s by rw [Int.natCast_add, Int.mul_add]; omega, p, p.mulN z i, Int.natCast_add, Int.mul_add]
    omega
theorem Per.mul {g : Int → Int} {s : Nat} {d : Int} (p : Per g s d) (z i : Int) : g (i + s * z) = g i + d * z := by
  rcases Int.le_total 0 z with h | h
  · obtain ⟨n, rfl⟩ := Int.eq_ofNat_of_zero_le h
    exact p.mulN n i
  · obtain ⟨n, hn⟩ := Int.eq_ofNat_of_zero_le (show 0 ≤ -z by omega)
    obtain rfl : z = -(n : Int) := by omega
    have := p.mulN n (i + s * -(n : Int))
    rw [show i + (s : Int) * -(n : Int) + s * n = i by rw [Int.mul_neg]; omega] at this
    rw [this, Int.mul_neg, Int.mul_neg]
    omega
theorem Per.ext {g g' : Int → Int} {s : Nat} {d : Int} (hs : 1 ≤ s) (p : Per g s d) (p' : Per g' s d) (h : ∀ k : Nat, k < s → g k = g' k) (i : Int) : g i = g' i := by
  have e : i % s + s * (i / s) = i := Int.emod_add_mul_ediv ..
  have h0 := Int.emod_nonneg i (show (s : Int) ≠ 0 by omega)
  have h1 := Int.emod_lt_of_pos i (show (0 : Int) < s by omega)
  obtain ⟨k, hk⟩ := Int.eq_ofNat_of_zero_le h0
  rw [← e, p.mul, p'.mul, hk, h k (by omega)]
theorem Per.shift {g : Int → Int} {s : Nat} {d : Int} (p : Per g s d) (m : Int) : Per (fun i => g (i + m)) s d := fun i => by
  show g (i + s + m) = g (i + m) + d
  rw [show i + (s : Int) + m = i + m + s by omega, p]
theorem Per.unshift {g : Int → Int} {s : Nat} {d : Int} (m : Int) (p : Per (fun i => g (i + m)) s d) : Per g s d := fun i => by
  have := p (i - m)
  simp only at this
  rwa [show i - m + (s : Int) + m = i + s by omega, show i - m + m = i by omega] at this
theorem Per.val {g : Int → Int} {s : Nat} {d : Int} (p : Per g s d) : g s - g 0 = d := by
  have := p 0
  rw [Int.zero_add] at this
  omega
theorem extL_per {l : List Int} {r : Int} (hl : l ≠ []) : Per (extL l r) l.length r := fun i => by
  have h0 : 0 < l.length := List.length_pos_iff.mpr hl
  unfold extL
  rw [Int.add_emod_right, Int.add_ediv_of_dvd_right (Int.dvd_refl _), Int.ediv_self (by omega), Int.mul_add]
  omega
theorem extL_small {l : List Int} {r : Int} {k : Nat} (h : k < l.length) : extL l r k = gI l k := by
  unfold extL
  rw [Int.emod_eq_of_lt (by omega) (by omega), Int.ediv_eq_zero_of_lt (by omega) (by omega)]
  omega
theorem bkV_ext {l : List Int} {r : Int} (hl : l ≠ []) (back : Int) : bkV l r back = extL l r (-1 - back) := by
  have h0 : 0 < l.length := List.length_pos_iff.mpr hl
  have e : back % l.length + l.length * (back / l.length) = back := Int.emod_add_mul_ediv ..
  have h1 := Int.emod_nonneg back (show (l.length : Int) ≠ 0 by omega)
  have h2 := Int.emod_lt_of_pos back (show (0 : Int) < l.length by omega)
  have e2 : -1 - back = (-1 - back % l.length + l.length) + l.length * (-(back / l.length) - 1) := by
    rw [Int.mul_sub, Int.mul_neg]
    omega
  unfold extL bkV
  generalize back % (l.length : Int) = t at *
  generalize back / (l.length : Int) = q at *
  rw [e2, Int.add_mul_emod_self_left, Int.add_mul_ediv_left _ _ (by omega), Int.emod_eq_of_lt (by omega) (by omega), Int.ediv_eq_zero_of_lt (by omega) (by omega), Int.zero_add, Int.mul_sub, Int.mul_add, Int.mul_neg]
  omega
/-- the value behind j others -/
def fV (h l : List Int) (r : Int) (j : Nat) : Int := if j < h.length then gI h j else extL l r ((j : Int) - h.length)
theorem vat_fV {h l : List Int} {r : Int} (hl : l ≠ []) (j : Nat) : vat h l r ((j : Int) + 1) = some (fV h l r j) := by
  unfold vat fV
  rw [if_neg (by omega), if_neg hl]
  by_cases c : j < h.length
  · rw [if_pos (by omega), if_pos c, show (j : Int) + 1 - 1 = j by omega]
  · rw [if_neg (by omega), if_neg c]
    unfold extL
    rw [show (j : Int) + 1 - h.length - 1 = j - h.length by omega]
theorem fV_head {h l : List Int} {r : Int} {j : Nat} (c : j < h.length) : fV h l r j = gI h j := if_pos c
theorem fV_loop {h l : List Int} {r : Int} {j : Nat} (c : h.length ≤ j) : fV h l r j = extL l r ((j : Int) - h.length) := if_neg (by omega)
theorem slOk_per {l : List Int} {r : Int} {m : Nat} (hl : l ≠ []) (hm : 1 ≤ m) (h : slOk l r m) : Per (extL l r) m (r / ((l.length : Int) / m)) := by
  obtain ⟨h1, h2, h3⟩ := h
  have h0 : 0 < l.length := List.length_pos_iff.mpr hl
  obtain ⟨q, hq⟩ : m ∣ l.length := Int.natCast_dvd_natCast.mp (Int.dvd_of_emod_eq_zero h1)
  have hqL : (l.length : Int) / m = q := by
    rw [hq, Int.natCast_mul, Int.mul_ediv_cancel_left _ (by omega)]
  rw [hqL] at h2 h3 ⊢
  have hq0 : 0 < q := by
    rcases Nat.eq_zero_or_pos q with e | e
    · rw [e, Nat.mul_zero] at hq; omega
    · exact e
  obtain ⟨d, hd⟩ := Int.dvd_of_emod_eq_zero h2
  have hdq : r / (q : Int) = d := by rw [hd, Int.mul_ediv_cancel_left _ (by omega)]
  rw [hdq] at h3 ⊢
  have run : ∀ (k u : Nat), u + m * k < l.length → gI l ((u + m * k : Nat) : Int) = gI l u + d * k := by
    intro k
    induction k with
    | zero => intro u _; simp
    | succ k ih =>
      intro u hu
      rw [Nat.mul_add, Nat.mul_one, ← Nat.add_assoc] at hu ⊢
      rw [Int.natCast_add, h3 (u + m * k) hu, ih u (by omega), Int.natCast_add, Int.mul_add]
      omega
  have P := extL_per (r := r) hl
  intro i
  have e : i % l.length + l.length * (i / l.length) = i := Int.emod_add_mul_ediv ..
  have g0 := Int.emod_nonneg i (show (l.length : Int) ≠ 0 by omega)
  have g1 := Int.emod_lt_of_pos i (show (0 : Int) < l.length by omega)
  obtain ⟨t, ht⟩ := Int.eq_ofNat_of_zero_le g0
  rw [ht] at e g1
  generalize i / l.length = z at e
  subst e
  rw [show (t : Int) + l.length * z + m = ((t + m : Nat) : Int) + l.length * z by omega, P.mul, P.mul, extL_small (k := t) (by omega)]
  by_cases c : t + m < l.length
  · rw [extL_small c, Int.natCast_add, h3 t c]
    omega
  · have hu : t + m = (t + m - l.length) + l.length := by omega
    obtain ⟨q', rfl⟩ : ∃ q', q = q' + 1 := ⟨q - 1, by omega⟩
    have hq' : l.length = m * q' + m := by rw [hq, Nat.mul_add, Nat.mul_one]
    rw [hu, Int.natCast_add, P, extL_small (by omega)]
    have := run q' (t + m - l.length) (by omega)
    rw [show t + m - l.length + m * q' = t by omega] at this
    rw [this, hd, Int.natCast_add, Int.add_mul, Int.mul_comm d]
    simp only [Int.natCast_one, Int.one_mul]
    generalize (q' : Int) * d = y
    omega
theorem per_slOk {l : List Int} {r d : Int} {m q : Nat} (hm : 1 ≤ m) (hq : 1 ≤ q) (hL : l.length = m * q) (hr : r = d * q) (p : Per (extL l r) m d) : slOk l r m ∧ r / ((l.length : Int) / m) = d := by
  have hqL : (l.length : Int) / m = q := by
    rw [hL, Int.natCast_mul, Int.mul_ediv_cancel_left _ (by omega)]
  have hrq : r / (q : Int) = d := by rw [hr, Int.mul_ediv_cancel _ (by omega)]
  refine ⟨⟨by rw [hL, Int.natCast_mul, Int.mul_emod_right], by rw [hqL, hr, Int.mul_emod_left], fun i hi => ?_⟩, by rw [hqL, hrq]⟩
  rw [hqL, hrq]
  have := p i
  rw [extL_small (by omega), ← Int.natCast_add, extL_small hi] at this
  exact this
theorem per_dvd {g : Int → Int} {s L : Nat} {d r : Int} (hs : 1 ≤ s) (p : Per g s d) (hmin : ∀ t, 1 ≤ t → t < s → ∀ d, ¬ Per g t d) (P : Per g L r) : L = s * (L / s) ∧ r = d * ((L / s : Nat) : Int) := by
  have e : s * (L / s) + L % s = L := Nat.div_add_mod ..
  have hlt := Nat.mod_lt L hs
  have hz : L % s = 0 := by
    rcases Nat.eq_zero_or_pos (L % s) with h | h
    · exact h
    · refine (hmin _ h hlt (r - d * ((L / s : Nat) : Int)) fun i => ?_).elim
      have h1 := P i
      have h2 := p.mulN (L / s) (i + ((L % s : Nat) : Int))
      rw [show i + ((L % s : Nat) : Int) + (s : Int) * ((L / s : Nat) : Int) = i + L by
        rw [← Int.natCast_mul]; omega] at h2
      omega
  refine ⟨by omega, ?_⟩
  have h1 := P 0
  have h2 := p.mulN (L / s) 0
  rw [show (0 : Int) + (s : Int) * ((L / s : Nat) : Int) = 0 + L by rw [← Int.natCast_mul]; omega] at h2
  omega
theorem least_nat {p : Nat → Prop} {n : Nat} (h : p n) : ∃ m, m ≤ n ∧ p m ∧ ∀ j, j < m → ¬ p j := by
  induction n using Nat.strongRecOn with
  | _ n ih =>
    by_cases q : ∃ j, j < n ∧ p j
    · obtain ⟨j, h1, h2⟩ := q
      obtain ⟨m, h3, h4⟩ := ih j h1 h2
      exact ⟨m, by omega, h4⟩
    · exact ⟨n, Nat.le_refl _, h, fun j h1 h2 => q ⟨j, h1, h2⟩⟩
theorem shortLoop_char {l : List Int} {r : Int} (hl : l ≠ []) : ∃ s : Nat, 1 ≤ s ∧ s ≤ l.length ∧ shortLoop l r = (l.take s, extL l r s - extL l r 0) ∧ Per (extL l r) s (extL l r s - extL l r 0) ∧ ∀ t, 1 ≤ t → t < s → ∀ d, ¬ Per (extL l r) t d := by
  have h0 : 0 < l.length := List.length_pos_iff.mpr hl
  have P := extL_per (r := r) hl
  obtain ⟨s, hs, ⟨hs1, d, p⟩, hmin⟩ := least_nat (p := fun s => 1 ≤ s ∧ ∃ d, Per (extL l r) s d) (n := l.length) ⟨h0, r, P⟩
  have hmin' : ∀ t, 1 ≤ t → t < s → ∀ d, ¬ Per (extL l r) t d := fun t h1 h2 d h => hmin t h2 ⟨h1, d, h⟩
  refine ⟨s, hs1, hs, ?_, by rw [p.val]; exact p, hmin'⟩
  rw [p.val]
  have hno : ∀ j, 1 ≤ j → j < s → ¬ slOk l r j := fun j h1 h2 h => hmin' j h1 h2 _ (slOk_per hl h1 h)
  obtain ⟨e1, e2⟩ := per_dvd hs1 p hmin' P
  have hq : 1 ≤ l.length / s := Nat.div_pos hs hs1
  obtain ⟨o1, o2⟩ := per_slOk hs1 hq e1 e2 p
  by_cases c : s < l.length
  · rw [shortLoop_some hs1 c o1 hno, o2]
  · obtain rfl : s = l.length := by omega
    rw [shortLoop_none hno, List.take_length, ← p.val, P.val]
theorem gI_take {l : List Int} {s k : Nat} (h : k < s) : gI (l.take s) k = gI l k := by
  unfold gI
  rw [Int.toNat_natCast, List.getD_eq_getElem?_getD, List.getD_eq_getElem?_getD, List.getElem?_take_of_lt h]
theorem extL_take {l : List Int} {r d : Int} {s : Nat} (h1 : 1 ≤ s) (hs : s ≤ l.length) (p : Per (extL l r) s d) (i : Int) : extL (l.take s) d i = extL l r i := by
  have hl : (l.take s).length = s := by rw [List.length_take]; omega
  have P := extL_per (l := l.take s) (r := d) (by intro e; rw [e] at hl; simp at hl; omega)
  rw [hl] at P
  refine P.ext h1 p (fun k hk => ?_) i
  rw [extL_small (by omega), extL_small (by omega), gI_take hk]
theorem cutH_eq {h l : List Int} {r : Int} : ∀ k, ∀ j, cutH h l r k ≤ j → j < k → gI h j = bkV l r ((h.length : Int) - (j + 1))
  | 0, j, _, h2 => by omega
  | k + 1, j, h1, h2 => by
    unfold cutH at h1
    split at h1
    · rename_i c
      by_cases e : j = k
      · subst e; exact c
      · exact cutH_eq k j h1 (by omega)
    · omega
theorem cutH_ne {h l : List Int} {r : Int} : ∀ k c, cutH h l r k = c + 1 → gI h c ≠ bkV l r ((h.length : Int) - (c + 1))
  | 0, c, e => by simp [cutH] at e
  | k + 1, c, e => by
    unfold cutH at e
    split at e
    · exact cutH_ne k c e
    · rename_i q
      obtain rfl : k = c := by omega
      exact q

end
section
/-- the least period and the least head, from the values alone -/
structure PFat (f : Nat → Int) (g : Int → Int) (c s : Nat) (pf : List Int × List Int × Int) : Prop where
  s1 : 1 ≤ s
  per : Per g s (g s - g 0)
  min : ∀ t, 1 ≤ t → t < s → ∀ d, ¬ Per g t d
  eq : ∀ j : Nat, c ≤ j → f j = g j
  ne : ∀ c', c = c' + 1 → f c' ≠ g c'
  pf : pf = ((List.range c).map f, (List.range s).map fun i : Nat => g ((c + i : Nat) : Int), g s - g 0)
theorem PFat.uniq {f : Nat → Int} {g : Int → Int} {c s c' s' : Nat} {p q : List Int × List Int × Int} (a : PFat f g c s p) (b : PFat f g c' s' q) : p = q := by
  have e1 : s = s' := by
    rcases Nat.lt_trichotomy s s' with h | h | h
    · exact (b.min _ a.s1 h _ a.per).elim
    · exact h
    · exact (a.min _ b.s1 h _ b.per).elim
  have key : ∀ {c c' s s' : Nat} {p q : List Int × List Int × Int}, PFat f g c s p → PFat f g c' s' q → ¬ c < c' := fun {c c' s s' p q} a b h => by
    obtain ⟨m, rfl⟩ : ∃ m, c' = m + 1 := ⟨c' - 1, by omega⟩
    exact b.ne m rfl (a.eq m (by omega))
  have e2 : c = c' := by have := key a b; have := key b a; omega
  rw [a.pf, b.pf, e1, e2]
theorem gI_map_range {f : Nat → Int} {n k : Nat} (h : k < n) : gI ((List.range n).map f) k = f k := by
  unfold gI
  rw [Int.toNat_natCast, List.getD_eq_getElem?_getD, List.getElem?_map, List.getElem?_range h]
  rfl
theorem ext_gI {a b : List Int} (hl : a.length = b.length) (h : ∀ k : Nat, k < a.length → gI a k = gI b k) : a = b := by
  refine List.ext_getElem hl fun k h1 h2 => ?_
  have := h k h1
  unfold gI at this
  rw [Int.toNat_natCast, List.getD_eq_getElem?_getD, List.getD_eq_getElem?_getD, List.getElem?_eq_getElem h1, List.getElem?_eq_getElem h2] at this
  exact this
theorem plainF_at {h l : List Int} {r : Int} (hl : l ≠ []) : ∃ c s, c ≤ h.length ∧ s ≤ l.length ∧ PFat (fV h l r) (fun i => extL l r (i - h.length)) c s (plainF h l r) := by
  obtain ⟨s, h1, h2, e, p, hmin⟩ := shortLoop_char (r := r) hl
  have hs : (l.take s).length = s := by rw [List.length_take]; omega
  have hls : l.take s ≠ [] := fun e => by rw [e] at hs; simp at hs; omega
  have E := extL_take h1 h2 p
  have pv : ∀ m : Int, extL l r (s - m) - extL l r (0 - m) = extL l r s - extL l r 0 := fun m => by
    have q1 := p (0 - m)
    rw [show (0 : Int) - m + s = s - m by omega] at q1
    omega
  refine ⟨cutH h (l.take s) (extL l r s - extL l r 0) h.length, s, cutH_le _ _ _ _, h2, h1, ?_, ?_, fun j hj => ?_, fun c' hc => ?_, ?_⟩
  · show Per _ _ (extL l r (s - h.length) - extL l r (0 - h.length))
    rw [pv]
    intro i
    have := p (i - h.length)
    rwa [show i - (h.length : Int) + s = i + s - h.length by omega] at this
  · intro t t1 t2 d q
    refine hmin t t1 t2 d (Per.unshift (-(h.length : Int)) ?_)
    intro i
    have := q i
    simp only [Int.sub_eq_add_neg] at this ⊢
    exact this
  · by_cases c : j < h.length
    · rw [fV_head c, cutH_eq _ j hj c, bkV_ext hls, E]
      congr 1
      omega
    · exact fV_loop (by omega)
  · have hle := cutH_le h (l.take s) (extL l r s - extL l r 0) h.length
    have := cutH_ne _ c' hc
    rw [bkV_ext hls, E] at this
    rw [fV_head (by omega)]
    intro q
    refine this (q.trans ?_)
    congr 1
    omega
  · unfold plainF
    rw [if_neg hl, e]
    dsimp only
    have hle := cutH_le h (l.take s) (extL l r s - extL l r 0) h.length
    generalize hcd : cutH h (l.take s) (extL l r s - extL l r 0) h.length = c at *
    have hc1 : ∀ j, c ≤ j → j < h.length → gI h j = extL l r ((j : Int) - h.length) := fun j a b => by
      have := cutH_eq h.length j (by rw [hcd]; exact a) b
      rw [this, bkV_ext hls, E]
      congr 1
      omega
    rw [pv, hs]
    refine congr (congrArg _ ?_) (congr (congrArg _ ?_) rfl)
    · refine ext_gI (by rw [List.length_take, List.length_map, List.length_range]; omega) fun k hk => ?_
      rw [List.length_take] at hk
      rw [gI_take (by omega), gI_map_range (by omega), fV_head (by omega)]
    · refine List.map_congr_left fun i _ => ?_
      rw [show (c : Int) + 1 + i = ((c + i : Nat) : Int) + 1 by omega, vat_fV hls]
      show fV h (l.take s) _ (c + i) = _
      by_cases q : c + i < h.length
      · rw [fV_head q, hc1 _ (by omega) q]
      · rw [fV_loop (by omega), E]

end
section
theorem gI_append {a b : List Int} {k : Nat} : gI (a ++ b) k = if k < a.length then gI a k else gI b ((k - a.length : Nat) : Int) := by
  unfold gI
  rw [Int.toNat_natCast, Int.toNat_natCast, List.getD_eq_getElem?_getD, List.getD_eq_getElem?_getD, List.getD_eq_getElem?_getD]
  split
  · rename_i h
    rw [List.getElem?_append_left h]
  · rename_i h
    rw [List.getElem?_append_right (by omega)]
theorem gI_drop {a : List Int} {m k : Nat} : gI (a.drop m) k = gI a ((m + k : Nat) : Int) := by
  unfold gI
  rw [Int.toNat_natCast, Int.toNat_natCast, List.getD_eq_getElem?_getD, List.getD_eq_getElem?_getD, List.getElem?_drop]
theorem lcut_cutH {h l' : List Int} {r' : Int} {row : List Int} {s : Nat} (hs : 1 ≤ s) (hl : l' ≠ []) (hp : Per (extL l' r') s r')
    (h1 : ∀ k : Nat, k < h.length → gI row k = gI h k) (h2 : ∀ k : Nat, k < s → gI row ((h.length + k : Nat) : Int) = extL l' r' k) :
    ∀ k, k ≤ h.length → (∀ j : Nat, k ≤ j → j < h.length → gI h j = extL l' r' ((j : Int) - h.length)) → lcut row s r' (k + s) = cutH h l' r' k + s
  | 0, _, _ => by
    obtain ⟨s, rfl⟩ : ∃ t, s = t + 1 := ⟨s - 1, by omega⟩
    rw [Nat.zero_add]
    unfold lcut cutH
    rw [if_neg (by omega), Nat.zero_add]
  | k + 1, hk, hj => by
    have hkk : gI row ((k + s : Nat) : Int) = extL l' r' ((k : Int) - h.length) + r' := by
      have := hp ((k : Int) - h.length)
      rw [← this]
      by_cases c : k + s < h.length
      · rw [h1 _ c, hj _ (by omega) c]
        congr 1
        omega
      · have := h2 (k + s - h.length) (by omega)
        rw [show h.length + (k + s - h.length) = k + s by omega] at this
        rw [this]
        congr 1
        omega
    have e1 : gI row (((k + s : Nat) : Int) - s) = gI h k := by
      rw [show ((k + s : Nat) : Int) - s = (k : Int) by omega, h1 k (by omega)]
    have e2 : bkV l' r' ((h.length : Int) - (k + 1)) = extL l' r' ((k : Int) - h.length) := by
      rw [bkV_ext hl]
      congr 1
      omega
    rw [show k + 1 + s = (k + s) + 1 by omega]
    unfold lcut cutH
    rw [e1, hkk, e2]
    by_cases c : gI h k = extL l' r' ((k : Int) - h.length)
    · rw [if_pos ⟨by omega, by omega⟩, if_pos c]
      refine lcut_cutH hs hl hp h1 h2 k (by omega) fun j a b => ?_
      by_cases q : j = k
      · subst q; exact c
      · exact hj j (by omega) b
    · rw [if_neg (fun q => c (by omega)), if_neg c]
      omega
theorem lawF_eq (h l : List Int) (r : Int) : lawF h l r = plainF h l r := by
  by_cases hl : l = []
  · unfold lawF plainF
    rw [if_pos hl, if_pos hl]
  obtain ⟨s, h1, h2, e, p, hmin⟩ := shortLoop_char (r := r) hl
  have hs : (l.take s).length = s := by rw [List.length_take]; omega
  have hls : l.take s ≠ [] := fun e => by rw [e] at hs; simp at hs; omega
  have E := extL_take h1 h2 p
  have p' : Per (extL (l.take s) (extL l r s - extL l r 0)) s (extL l r s - extL l r 0) := fun i => by rw [E, E, p]
  unfold lawF plainF
  rw [if_neg hl, if_neg hl, e]
  dsimp only
  rw [hs, List.length_append, hs]
  have r1 : ∀ k : Nat, k < h.length → gI (h ++ l.take s) k = gI h k := fun k hk => by rw [gI_append, if_pos hk]
  have r2 : ∀ k : Nat, k < s → gI (h ++ l.take s) ((h.length + k : Nat) : Int) = extL (l.take s) (extL l r s - extL l r 0) k := fun k hk => by
    rw [gI_append, if_neg (by omega), show h.length + k - h.length = k by omega, extL_small (by omega)]
  have e3 := lcut_cutH h1 hls p' r1 r2 h.length (Nat.le_refl _) (fun j a b => by omega)
  have hle := cutH_le h (l.take s) (extL l r s - extL l r 0) h.length
  rw [e3, Nat.add_sub_cancel]
  have hc1 := fun j (a : cutH h (l.take s) (extL l r s - extL l r 0) h.length ≤ j) (b : j < h.length) => cutH_eq h.length j a b
  generalize cutH h (l.take s) (extL l r s - extL l r 0) h.length = c at *
  refine congr (congrArg _ ?_) (congr (congrArg _ ?_) rfl)
  · rw [List.take_append_of_le_length hle]
  · refine ext_gI (by rw [List.length_take, List.length_drop, List.length_append, hs, List.length_map, List.length_range]; omega) fun k hk => ?_
    rw [List.length_take, List.length_drop, List.length_append, hs] at hk
    have hk : k < s := by omega
    rw [gI_take hk, gI_drop, gI_map_range (f := fun i : Nat => (vat h (l.take s) (extL l r s - extL l r 0) ((c : Int) + 1 + i)).getD 0) hk, show (c : Int) + 1 + k = ((c + k : Nat) : Int) + 1 by omega, vat_fV hls]
    show _ = fV h (l.take s) _ (c + k)
    by_cases q : c + k < h.length
    · rw [r1 _ q, fV_head q]
    · have := r2 (c + k - h.length) (by omega)
      rw [show h.length + (c + k - h.length) = c + k by omega] at this
      rw [this, fV_loop (by omega)]
      congr 1
      omega
theorem gI_nn {a : List Int} (h : allPos a) (i : Int) : 0 ≤ gI a i := by
  unfold gI
  rw [List.getD_eq_getElem?_getD]
  by_cases c : i.toNat < a.length
  · rw [List.getElem?_eq_getElem c]
    exact h _ (List.getElem_mem _)
  · rw [List.getElem?_eq_none (by omega)]
    exact Int.le_refl _
theorem extL_nn {l : List Int} {r i : Int} (h : allPos l) (hr : 0 ≤ r) (hi : 0 ≤ i) : 0 ≤ extL l r i :=
  Int.add_nonneg (gI_nn h _) (Int.mul_nonneg hr (Int.ediv_nonneg hi (by omega)))
theorem fV_nn {h l : List Int} {r : Int} (V : Val h l r) (j : Nat) : 0 ≤ fV h l r j := by
  unfold fV
  split
  · exact gI_nn V.p1 _
  · exact extL_nn V.p2 V.r0 (by omega)
theorem extL_up {h l : List Int} {r : Int} (V : Val h l r) (hl : l ≠ []) (i : Int) : extL l r i ≤ extL l r (i + 1) := by
  have h0 : 0 < l.length := List.length_pos_iff.mpr hl
  have P := extL_per (r := r) hl
  have e : i % l.length + l.length * (i / l.length) = i := Int.emod_add_mul_ediv ..
  have g0 := Int.emod_nonneg i (show (l.length : Int) ≠ 0 by omega)
  have g1 := Int.emod_lt_of_pos i (show (0 : Int) < l.length by omega)
  obtain ⟨t, ht⟩ := Int.eq_ofNat_of_zero_le g0
  rw [ht] at e g1
  generalize i / l.length = z at e
  subst e
  rw [show (t : Int) + l.length * z + 1 = ((t + 1 : Nat) : Int) + l.length * z by omega, P.mul, P.mul, extL_small (k := t) (by omega)]
  by_cases c : t + 1 < l.length
  · rw [extL_small c]
    have := V.r2 t c
    rw [show ((t + 1 : Nat) : Int) = (t : Int) + 1 by omega]
    omega
  · have := V.ll hl
    have q := P 0
    have q0 := extL_small (r := r) (l := l) (k := 0) h0
    rw [Int.zero_add] at q
    rw [show (l.length : Int) - 1 = t by omega] at this
    rw [show t + 1 = l.length by omega, q, show (0 : Int) = ((0 : Nat) : Int) from rfl, q0]
    show gI l t + r * z ≤ gI l 0 + r + r * z
    omega
theorem fV_up {h l : List Int} {r : Int} (V : Val h l r) (hl : l ≠ []) (j : Nat) : fV h l r j ≤ fV h l r (j + 1) := by
  by_cases c : j + 1 < h.length
  · rw [fV_head c, fV_head (by omega)]
    exact V.r1 j c
  · by_cases d : j < h.length
    · rw [fV_head d, fV_loop (by omega)]
      have := V.hl (by intro e; rw [e] at d; simp at d) hl
      rw [show ((j + 1 : Nat) : Int) - h.length = ((0 : Nat) : Int) by omega, extL_small (List.length_pos_iff.mpr hl)]
      rw [show (h.length : Int) - 1 = j by omega] at this
      exact this
    · rw [fV_loop (by omega), fV_loop (by omega)]
      have := extL_up V hl ((j : Int) - h.length)
      rwa [show (j : Int) - h.length + 1 = ((j + 1 : Nat) : Int) - h.length by omega] at this
theorem tell_gI {f : Nat → Int} {n cut k : Nat} (h : cut + k < n) : gI (((List.range n).map f).drop cut) k = f (cut + k) := by
  rw [gI_drop, gI_map_range h]
theorem tell_gT {f : Nat → Int} {n cut k : Nat} (h : k < cut) (h2 : k < n) : gI (((List.range n).map f).take cut) k = f k := by
  rw [gI_take h, gI_map_range h2]
theorem tell_plain {h l : List Int} {r : Int} (hl : l ≠ []) (more turns : Nat) (ht : 1 ≤ turns) :
    plainF (((List.range (h.length + more + l.length * turns)).map (fV h l r)).take (h.length + more)) (((List.range (h.length + more + l.length * turns)).map (fV h l r)).drop (h.length + more)) (r * turns) = plainF h l r := by
  have h0 : 0 < l.length := List.length_pos_iff.mpr hl
  have hL : 0 < l.length * turns := Nat.mul_pos h0 ht
  have e1 : (((List.range (h.length + more + l.length * turns)).map (fV h l r)).take (h.length + more)).length = h.length + more := by
    rw [List.length_take, List.length_map, List.length_range]; omega
  have e2 : (((List.range (h.length + more + l.length * turns)).map (fV h l r)).drop (h.length + more)).length = l.length * turns := by
    rw [List.length_drop, List.length_map, List.length_range]; omega
  have g1 : ∀ k, k < h.length + more → gI (((List.range (h.length + more + l.length * turns)).map (fV h l r)).take (h.length + more)) k = fV h l r k := fun k hk => tell_gT hk (by omega)
  have g2 : ∀ k, k < l.length * turns → gI (((List.range (h.length + more + l.length * turns)).map (fV h l r)).drop (h.length + more)) k = fV h l r (h.length + more + k) := fun k hk => tell_gI (by omega)
  generalize ((List.range (h.length + more + l.length * turns)).map (fV h l r)).take (h.length + more) = h2 at *
  generalize ((List.range (h.length + more + l.length * turns)).map (fV h l r)).drop (h.length + more) = l2 at *
  have hl2 : l2 ≠ [] := fun e => by rw [e] at e2; simp at e2; omega
  have P2 := extL_per (r := r * turns) hl2
  have P1 : Per (fun i => extL l r (i + more)) l2.length (r * turns) := Per.shift (fun i => by
    rw [e2, Int.natCast_mul, (extL_per hl).mulN]) more
  have ee := P2.ext (by omega) P1 fun k hk => by
    rw [extL_small hk, g2 k (by omega), fV_loop (by omega)]
    congr 1
    omega
  have fe : fV h2 l2 (r * turns) = fV h l r := funext fun j => by
    by_cases c : j < h2.length
    · rw [fV_head c, g1 j (by omega)]
    · rw [fV_loop (by omega), ee, fV_loop (by omega), e1]
      congr 1
      omega
  have ge : (fun i : Int => extL l2 (r * turns) (i - h2.length)) = fun i => extL l r (i - h.length) := funext fun i => by
    rw [ee, e1]
    congr 1
    omega
  obtain ⟨c, s, _, _, A⟩ := plainF_at (h := h) (r := r) hl
  obtain ⟨c2, s2, _, _, B⟩ := plainF_at (h := h2) (r := r * turns) hl2
  rw [fe, ge] at B
  exact B.uniq A
theorem tell_val {h l : List Int} {r : Int} (V : Val h l r) (hl : l ≠ []) (more turns : Nat) (ht : 1 ≤ turns) (z1 : h.length + more ≤ 50000) (z2 : l.length * turns ≤ 50000) (z3 : r * turns < 1152921504606846976) :
    Val (((List.range (h.length + more + l.length * turns)).map (fV h l r)).take (h.length + more)) (((List.range (h.length + more + l.length * turns)).map (fV h l r)).drop (h.length + more)) (r * turns) := by
  have h0 : 0 < l.length := List.length_pos_iff.mpr hl
  have hL : 0 < l.length * turns := Nat.mul_pos h0 ht
  have e1 : (((List.range (h.length + more + l.length * turns)).map (fV h l r)).take (h.length + more)).length = h.length + more := by
    rw [List.length_take, List.length_map, List.length_range]; omega
  have e2 : (((List.range (h.length + more + l.length * turns)).map (fV h l r)).drop (h.length + more)).length = l.length * turns := by
    rw [List.length_drop, List.length_map, List.length_range]; omega
  have g1 : ∀ k, k < h.length + more → gI (((List.range (h.length + more + l.length * turns)).map (fV h l r)).take (h.length + more)) k = fV h l r k := fun k hk => tell_gT hk (by omega)
  have g2 : ∀ k, k < l.length * turns → gI (((List.range (h.length + more + l.length * turns)).map (fV h l r)).drop (h.length + more)) k = fV h l r (h.length + more + k) := fun k hk => tell_gI (by omega)
  have ps : ∀ n ∈ (List.range (h.length + more + l.length * turns)).map (fV h l r), 0 ≤ n := fun n hn => by
    obtain ⟨k, _, rfl⟩ := List.mem_map.mp hn
    exact fV_nn V k
  have p1 : allPos (((List.range (h.length + more + l.length * turns)).map (fV h l r)).take (h.length + more)) := fun n hn => ps n (List.mem_of_mem_take hn)
  have p2 : allPos (((List.range (h.length + more + l.length * turns)).map (fV h l r)).drop (h.length + more)) := fun n hn => ps n (List.mem_of_mem_drop hn)
  generalize ((List.range (h.length + more + l.length * turns)).map (fV h l r)).take (h.length + more) = h2 at *
  generalize ((List.range (h.length + more + l.length * turns)).map (fV h l r)).drop (h.length + more) = l2 at *
  have up := fV_up V hl
  have rt : 0 ≤ r * turns := Int.mul_nonneg V.r0 (by omega)
  refine ⟨p1, p2, fun i hi => ?_, fun i hi => ?_, rt, fun e => ?_, fun hne _ => ?_, fun _ => ?_, ⟨by omega, z3, by omega, by omega⟩⟩
  · rw [g1 i (by omega), show (i : Int) + 1 = ((i + 1 : Nat) : Int) by omega, g1 (i + 1) (by omega)]
    exact up i
  · rw [g2 i (by omega), show (i : Int) + 1 = ((i + 1 : Nat) : Int) by omega, g2 (i + 1) (by omega)]
    exact up (h.length + more + i)
  · rw [e] at e2; simp at e2; omega
  · have hp : 0 < h2.length := List.length_pos_iff.mpr hne
    rw [e1, show ((h.length + more : Nat) : Int) - 1 = ((h.length + more - 1 : Nat) : Int) by omega, g1 _ (by omega)]
    have := g2 0 hL
    rw [show (0 : Int) = ((0 : Nat) : Int) from rfl, this]
    have := up (h.length + more - 1)
    rwa [show h.length + more - 1 + 1 = h.length + more + 0 by omega] at this
  · rw [e2, show ((l.length * turns : Nat) : Int) - 1 = ((l.length * turns - 1 : Nat) : Int) by omega, g2 _ (by omega)]
    have q := g2 0 hL
    rw [show (0 : Int) = ((0 : Nat) : Int) from rfl, q]
    have u := up (h.length + more + (l.length * turns - 1))
    have P := (extL_per (r := r) hl).mulN turns ((more : Nat) : Int)
    rw [fV_loop (j := h.length + more + (l.length * turns - 1) + 1) (by omega)] at u
    rw [fV_loop (j := h.length + more + 0) (by omega), show (((h.length + more + 0 : Nat) : Int) - h.length) = more by omega, ← P]
    refine Int.le_trans u (Int.le_of_eq ?_)
    congr 1
    rw [← Int.natCast_mul]
    omega
/-- the plain form's parts are small and no less than 0 -/
theorem plainF_ok {h l : List Int} {r : Int} (V : Val h l r) : allPos (plainF h l r).1 ∧ allPos (plainF h l r).2.1 ∧ 0 ≤ (plainF h l r).2.2 ∧ (plainF h l r).2.2 ≤ r ∧ (plainF h l r).1.length ≤ h.length ∧ (plainF h l r).2.1.length ≤ l.length := by
  by_cases hl : l = []
  · unfold plainF
    rw [if_pos hl]
    exact ⟨V.p1, fun n hn => by simp at hn, Int.le_refl _, V.r0, Nat.le_refl _, Nat.zero_le _⟩
  · obtain ⟨q1, q2⟩ := shortLoop_len l r
    obtain ⟨q3, q4⟩ := shortLoop_rise (l := l) V.r0
    have q5 := q2 hl
    have pl : allPos (shortLoop l r).1 := by
      rcases shortLoop_cases l r with e | ⟨m, _, _, _, e⟩
      · rw [e]; exact V.p2
      · rw [e]; exact fun n hn => V.p2 n (List.mem_of_mem_take hn)
    unfold plainF
    rw [if_neg hl]
    refine ⟨fun n hn => V.p1 n (List.mem_of_mem_take hn), fun n hn => ?_, q3, q4, by show (h.take _).length ≤ _; rw [List.length_take]; omega, by show (List.map _ _).length ≤ _; rw [List.length_map, List.length_range]; exact q1⟩
    obtain ⟨i, _, rfl⟩ := List.mem_map.mp hn
    generalize cutH h (shortLoop l r).1 (shortLoop l r).2 h.length = c
    show 0 ≤ (vat h _ _ ((c : Int) + 1 + i)).getD 0
    rw [show (c : Int) + 1 + i = ((c + i : Nat) : Int) + 1 by omega, vat_fV q5]
    show 0 ≤ fV h _ _ (c + i)
    unfold fV
    split
    · exact gI_nn V.p1 _
    · exact extL_nn pl q3 (by omega)

end
section
/-- two tables with the same values have one plain form -/
theorem plain_ext {h l h' l' : List Int} {r r' : Int} (hl : l ≠ []) (hl' : l' ≠ []) (e : ∀ j, fV h l r j = fV h' l' r' j) : plainF h l r = plainF h' l' r' := by
  have l0 : 0 < l.length := List.length_pos_iff.mpr hl
  have l1 : 0 < l'.length := List.length_pos_iff.mpr hl'
  have P := (extL_per (r := r) hl)
  have P' := (extL_per (r := r') hl')
  have fe : fV h l r = fV h' l' r' := funext e
  have big : ∀ j : Nat, h.length ≤ j → h'.length ≤ j → extL l r ((j : Int) - h.length) = extL l' r' ((j : Int) - h'.length) := fun j a b => by
    rw [← fV_loop a, ← fV_loop b, e]
  have Q : Per (fun i => extL l r (i - h.length)) (l.length * l'.length) (r * l'.length) := fun i => by
    show extL l r (i + ((l.length * l'.length : Nat) : Int) - h.length) = extL l r (i - h.length) + _
    rw [← P.mulN, Int.natCast_mul]
    congr 1
    omega
  have Q' : Per (fun i => extL l' r' (i - h'.length)) (l.length * l'.length) (r' * l.length) := fun i => by
    show extL l' r' (i + ((l.length * l'.length : Nat) : Int) - h'.length) = extL l' r' (i - h'.length) + _
    rw [← P'.mulN, Int.natCast_mul, Int.mul_comm (l.length : Int)]
    congr 1
    omega
  generalize hM : h.length + h'.length = M at *
  have sl : r * l'.length = r' * l.length := by
    have a := Q M
    have b := Q' M
    have c := big M (by omega) (by omega)
    have d := big (M + l.length * l'.length) (by omega) (by omega)
    simp only at a b
    rw [Int.natCast_add] at d
    omega
  rw [← sl] at Q'
  have ge : (fun i : Int => extL l r (i - h.length)) = fun i => extL l' r' (i - h'.length) := by
    have key := (Q.shift M).ext (Nat.mul_pos l0 l1) (Q'.shift M) fun k _ => by
      have := big (k + M) (by omega) (by omega)
      rw [Int.natCast_add] at this
      exact this
    refine funext fun i => ?_
    have this : extL l r (i - M + M - h.length) = extL l' r' (i - M + M - h'.length) := key (i - M)
    rwa [show i - (M : Int) + M = i by omega] at this
  obtain ⟨c, s, _, _, A⟩ := plainF_at (h := h) (r := r) hl
  obtain ⟨c2, s2, _, _, B⟩ := plainF_at (h := h') (r := r') hl'
  rw [← fe, ← ge] at B
  exact A.uniq B
/-- a row of numbers that goes on evenly makes a table -/
theorem val_of {f : Nat → Int} {xs : List Int} {c s : Nat} {d : Int} (h0 : ∀ j, 0 ≤ f j) (up : ∀ j, f j ≤ f (j + 1)) (hs : 1 ≤ s) (per : ∀ j, c ≤ j → f (j + s) = f j + d)
    (hx : xs.length = c + s) (hf : ∀ k : Nat, k < c + s → gI xs k = f k) (zc : c ≤ 50000) (zs : s ≤ 50000) (zd : d < 1152921504606846976) :
    Val (xs.take c) (xs.drop c) d ∧ xs.drop c ≠ [] ∧ ∀ j, fV (xs.take c) (xs.drop c) d j = f j := by
  have e1 : (xs.take c).length = c := by rw [List.length_take]; omega
  have e2 : (xs.drop c).length = s := by rw [List.length_drop]; omega
  have g1 : ∀ k : Nat, k < c → gI (xs.take c) k = f k := fun k hk => by rw [gI_take hk, hf k (by omega)]
  have g2 : ∀ k : Nat, k < s → gI (xs.drop c) k = f (c + k) := fun k hk => by rw [gI_drop, hf _ (by omega)]
  have ps : ∀ n ∈ xs, 0 ≤ n := fun n hn => by
    obtain ⟨k, hk, rfl⟩ := List.getElem_of_mem hn
    have := hf k (by omega)
    unfold gI at this
    rw [Int.toNat_natCast, List.getD_eq_getElem?_getD, List.getElem?_eq_getElem hk] at this
    have e : xs[k] = f k := this
    rw [e]
    exact h0 k
  have p1 : allPos (xs.take c) := fun n hn => ps n (List.mem_of_mem_take hn)
  have p2 : allPos (xs.drop c) := fun n hn => ps n (List.mem_of_mem_drop hn)
  generalize xs.take c = h at *
  generalize xs.drop c = l at *
  have hl : l ≠ [] := fun e => by rw [e] at e2; simp at e2; omega
  have d0 : 0 ≤ d := by
    have a := per c (Nat.le_refl _)
    have mono : ∀ k, f c ≤ f (c + k) := fun k => by
      induction k with
      | zero => exact Int.le_refl _
      | succ k ih => exact Int.le_trans ih (up (c + k))
    have := mono s
    omega
  refine ⟨⟨p1, p2, fun i hi => ?_, fun i hi => ?_, d0, fun e => absurd e hl, fun hne _ => ?_, fun _ => ?_, ⟨by omega, zd, by omega, by omega⟩⟩, hl, fun j => ?_⟩
  · rw [g1 i (by omega), show (i : Int) + 1 = ((i + 1 : Nat) : Int) by omega, g1 (i + 1) (by omega)]
    exact up i
  · rw [g2 i (by omega), show (i : Int) + 1 = ((i + 1 : Nat) : Int) by omega, g2 (i + 1) (by omega)]
    exact up (c + i)
  · have hp : 0 < h.length := List.length_pos_iff.mpr hne
    rw [e1, show (c : Int) - 1 = ((c - 1 : Nat) : Int) by omega, g1 _ (by omega)]
    have q := g2 0 hs
    rw [show (0 : Int) = ((0 : Nat) : Int) from rfl, q]
    have := up (c - 1)
    rwa [show c - 1 + 1 = c + 0 by omega] at this
  · rw [e2, show (s : Int) - 1 = ((s - 1 : Nat) : Int) by omega, g2 _ (by omega)]
    have q := g2 0 hs
    rw [show (0 : Int) = ((0 : Nat) : Int) from rfl, q]
    have u := up (c + (s - 1))
    rw [show c + (s - 1) + 1 = c + 0 + s by omega, per (c + 0) (by omega)] at u
    exact u
  · by_cases hj : j < c
    · rw [fV_head (by omega), g1 j hj]
    · rw [fV_loop (by omega), e1]
      have pn : ∀ z k, f (c + k + s * z) = f (c + k) + d * z := fun z k => by
        induction z with
        | zero => simp
        | succ z ih =>
          rw [Nat.mul_succ, show c + k + (s * z + s) = (c + k + s * z) + s by omega, per _ (by omega), ih, Int.natCast_add, Int.mul_add]
          omega
      have P := (extL_per (r := d) hl).mulN ((j - c) / s) ((((j - c) % s : Nat)) : Int)
      have hm : (j - c) % s + s * ((j - c) / s) = j - c := Nat.mod_add_div ..
      have hlt : (j - c) % s < s := Nat.mod_lt _ hs
      rw [e2, extL_small (by omega), g2 _ hlt, ← Int.natCast_mul, ← Int.natCast_add, hm] at P
      rw [show (j : Int) - c = ((j - c : Nat) : Int) by omega, P, ← pn]
      congr 1
      omega
/-- the value behind j others, or none -/
def TV (h l : List Int) (r : Int) (j : Nat) : Option Int := if l = [] then h[j]? else some (fV h l r j)
theorem gI_get {h : List Int} {j : Nat} (c : j < h.length) : h[j]? = some (gI h j) := by
  unfold gI
  rw [Int.toNat_natCast, List.getD_eq_getElem?_getD, List.getElem?_eq_getElem c]
  rfl
theorem vat_TV {h l : List Int} {r : Int} (j : Nat) : vat h l r ((j : Int) + 1) = TV h l r j := by
  unfold TV
  by_cases hl : l = []
  · subst hl
    rw [if_pos rfl]
    unfold vat
    rw [if_neg (by omega)]
    by_cases c : j < h.length
    · rw [if_pos (by omega), gI_get c, show (j : Int) + 1 - 1 = j by omega]
    · rw [if_neg (by omega), if_pos rfl, List.getElem?_eq_none (by omega)]
  · rw [if_neg hl, vat_fV hl]
theorem plainF_nil {h : List Int} {r : Int} : plainF h [] r = (h, [], 0) := by
  unfold plainF
  rw [if_pos rfl]
/-- the plain form is a table with the same values, and stays -/
theorem plainF_val {h l : List Int} {r : Int} (V : Val h l r) : Val (plainF h l r).1 (plainF h l r).2.1 (plainF h l r).2.2 ∧ (∀ j, TV (plainF h l r).1 (plainF h l r).2.1 (plainF h l r).2.2 j = TV h l r j) ∧
    plainF (plainF h l r).1 (plainF h l r).2.1 (plainF h l r).2.2 = plainF h l r ∧ (plainF h l r).1.length ≤ h.length ∧
    (l ≠ [] → (plainF h l r).2.1 ≠ [] ∧ ∃ q : Nat, l.length = (plainF h l r).2.1.length * q ∧ r = (plainF h l r).2.2 * q) := by
  by_cases hl : l = []
  · subst hl
    have r0 := V.e0 rfl
    subst r0
    rw [plainF_nil]
    exact ⟨V, fun j => rfl, plainF_nil, Nat.le_refl _, fun e => absurd rfl e⟩
  · obtain ⟨c, s, hc, hs, A⟩ := plainF_at (h := h) (r := r) hl
    obtain ⟨z1, z2, z3, z4⟩ := V.sm
    have l0 : 0 < l.length := List.length_pos_iff.mpr hl
    have fr : ∀ j, c ≤ j → fV h l r (j + s) = fV h l r j + ((fun i => extL l r (i - h.length)) s - (fun i => extL l r (i - h.length)) 0) := fun j hj => by
      have a := A.eq (j + s) (by omega)
      have b := A.eq j hj
      have p := A.per (j : Int)
      rw [Int.natCast_add] at a
      rw [a, b]
      exact p
    have hG : Per (fun i => extL l r (i - h.length)) l.length r := fun i => by
      have := extL_per (r := r) hl (i - h.length)
      show extL l r (i + l.length - h.length) = _
      rw [show i + (l.length : Int) - h.length = i - h.length + l.length by omega, this]
    obtain ⟨k1, k2⟩ := per_dvd A.s1 A.per A.min hG
    generalize hd : ((fun i => extL l r (i - h.length)) s - (fun i => extL l r (i - h.length)) 0) = d at *
    have d0 : 0 ≤ d := by
      have mono : ∀ k, fV h l r c ≤ fV h l r (c + k) := fun k => by
        induction k with
        | zero => exact Int.le_refl _
        | succ k ih => exact Int.le_trans ih (fV_up V hl (c + k))
      have a := mono s
      have b := fr c (Nat.le_refl _)
      omega
    have q1 : 1 ≤ l.length / s := by
      rcases Nat.eq_zero_or_pos (l.length / s) with e | e
      · rw [e, Nat.mul_zero] at k1; omega
      · exact e
    have dr : d ≤ r := by
      have := Int.mul_le_mul_of_nonneg_left (show (1 : Int) ≤ ((l.length / s : Nat) : Int) by omega) d0
      rw [Int.mul_one] at this
      exact Int.le_trans this (Int.le_of_eq k2.symm)
    have B := val_of (f := fV h l r) (xs := (List.range (c + s)).map (fV h l r)) (c := c) (s := s) (d := d) (fV_nn V) (fV_up V hl) A.s1 fr (by rw [List.length_map, List.length_range]) (fun k hk => gI_map_range hk) (by omega) (by omega) (by omega)
    have t1 : ((List.range (c + s)).map (fV h l r)).take c = (List.range c).map (fV h l r) := by
      rw [← List.map_take, List.take_range]
      congr 2
      omega
    have t2 : ((List.range (c + s)).map (fV h l r)).drop c = (List.range s).map fun i : Nat => (fun i => extL l r (i - h.length)) ((c + i : Nat) : Int) := by
      refine ext_gI (by rw [List.length_drop, List.length_map, List.length_map, List.length_range, List.length_range]; omega) fun k hk => ?_
      rw [List.length_drop, List.length_map, List.length_range] at hk
      rw [tell_gI (by omega), gI_map_range (by omega), A.eq _ (by omega)]
    rw [t1, t2] at B
    have pf := A.pf
    rw [hd] at pf
    obtain ⟨B1, B2, B3⟩ := B
    have e1 : (plainF h l r).1 = (List.range c).map (fV h l r) := by rw [pf]
    have e2 : (plainF h l r).2.1 = (List.range s).map fun i : Nat => (fun i => extL l r (i - h.length)) ((c + i : Nat) : Int) := by rw [pf]
    have e3 : (plainF h l r).2.2 = d := by rw [pf]
    rw [e1, e2, e3]
    refine ⟨B1, fun j => ?_, ?_, by rw [List.length_map, List.length_range]; exact hc, fun _ => ⟨B2, l.length / s, by rw [List.length_map, List.length_range]; exact k1, k2⟩⟩
    · unfold TV
      rw [if_neg B2, if_neg hl, B3]
    · exact plain_ext B2 hl B3
/-- the plain form with these values -/
structure Pl (f : Nat → Option Int) (h l : List Int) (r : Int) : Prop where
  val : Val h l r
  pf : plainF h l r = (h, l, r)
  tv : ∀ j, TV h l r j = f j
theorem Pl.of {h l : List Int} {r : Int} (V : Val h l r) : Pl (TV h l r) (plainF h l r).1 (plainF h l r).2.1 (plainF h l r).2.2 := by
  obtain ⟨a, b, c, _⟩ := plainF_val V
  exact ⟨a, c, b⟩
theorem Pl.uniq {f : Nat → Option Int} {h l h' l' : List Int} {r r' : Int} (a : Pl f h l r) (b : Pl f h' l' r') : h = h' ∧ l = l' ∧ r = r' := by
  have e : ∀ j, TV h l r j = TV h' l' r' j := fun j => (a.tv j).trans (b.tv j).symm
  have nn : ∀ {h l h' l' : List Int} {r r' : Int}, (∀ j, TV h l r j = TV h' l' r' j) → l = [] → l' ≠ [] → False := fun {h l h' l' r r'} e c d => by
    have := e h.length
    unfold TV at this
    rw [if_pos c, if_neg d, List.getElem?_eq_none (Nat.le_refl _)] at this
    cases this
  by_cases c : l = []
  · by_cases d : l' = []
    · subst c; subst d
      refine ⟨List.ext_getElem? fun i => ?_, rfl, (a.val.e0 rfl).trans (b.val.e0 rfl).symm⟩
      have := e i
      unfold TV at this
      rwa [if_pos rfl, if_pos rfl] at this
    · exact (nn e c d).elim
  · by_cases d : l' = []
    · exact (nn (fun j => (e j).symm) d c).elim
    · have := plain_ext c d fun j => by
        have := e j
        unfold TV at this
        rw [if_neg c, if_neg d] at this
        exact Option.some.inj this
      rw [a.pf, b.pf] at this
      cases this
      exact ⟨rfl, rfl, rfl⟩

end
section
local macro_rules | `(tactic| walk_at "hp") => `(tactic| first
  | with_reducible assumption
  | (with_reducible refine' ex_tab ?a ?b; (case a => with_reducible assumption); (case b => walk_at "hp")))
local macro_rules | `(tactic| walk_at "w2") => `(tactic| first
  | ((with_reducible refine' r_tabHead ?a ?b ?q); (case a => with_reducible assumption); (case b => walk_at "hp"))
  | ((with_reducible refine' r_tabLoop ?a ?b ?q); (case a => with_reducible assumption); (case b => walk_at "hp"))
  | ((with_reducible refine' r_tabRise ?a ?b ?q); (case a => with_reducible assumption); (case b => walk_at "hp")))
abbrev N__law_table : List Str := ["raw"]
theorem sc__law_table : FnScope N__law_table ["raw"] (defScope s__law_table) := ⟨rfl, rfl, rfl, by decide +kernel, rfl, by decide +kernel, by decide +kernel⟩
theorem ok__law_table {P : Program} {w : World} {K : PySem.W.Frag} {mg : Str → Option Value} {base : Heap} (E : Env P K mg) : Fn P w K mg base CX0 12 "_law_table" (sp1 fun v H Q _ => ∃ h l r, Dp K H v (dRaw h l r) ∧ Val h l r ∧ ∀ x H2, Ex H H2 → TabAt K H2 x (plainF h l r).1 (plainF h l r).2.1 (plainF h l r).2.2 → Q (.ref x) H2) := by
  obtain ⟨fd, F⟩ := E.dd__law_table
  refine Fn.mk0 F E.g__law_table sc__law_table sp1_len (fun _ _ _ _ _ _ us hl => match us, hl with | [_], _ => rfl) (fun cdv A outer s H vs Q X hr h => ?_)
  have nd := sc__law_table.nd
  obtain ⟨v0, rfl, h⟩ := h
  refine ⟨_, (pss_one (ps_ret (pmk (ok_Table3 E) hr (by decide) pass0 rfl (pa_cons (pe_ix (kIx K) (pv 0) (pe_int) (fun _ _ => rfl)) (pa_cons (pe_ix (kIx K) (pv 0) (pe_int) (fun _ _ => rfl)) (pa_cons (pe_ix (kIx K) (pv 0) (pe_int) (fun _ _ => rfl)) pa_nil)))))), ?_⟩
  change (_ : TS) _ [some v0] H
  try dsimp only [cxOf, Cx.nox, Cx.blk]
  obtain ⟨h, l, r, hD, W, k⟩ := h
  obtain ⟨a, th, tl, rfl, s1, s2, s3⟩ := dp_raw hD
  walk_at "w"
  exact mk_tab (b1 := true) (b2 := true) rfl (dp_of_ints s2) (dp_of_ints s3) (.int r) W k
abbrev N__law_same : List Str := ["table", "raw", "one"]
theorem sc__law_same : FnScope N__law_same ["table", "raw"] (defScope s__law_same) := ⟨rfl, rfl, rfl, by decide +kernel, rfl, by decide +kernel, by decide +kernel⟩
theorem ok__law_same {P : Program} {w : World} {K : PySem.W.Frag} {mg : Str → Option Value} {base : Heap} (E : Env P K mg) : Fn P w K mg base CX0 3 "_law_same" (sp2 fun a b H Q _ => ∃ x h l r, a = .ref x ∧ TabAt K H x h l r ∧ Dp K H b (dRaw h l r) ∧ allPos h ∧ allPos l ∧ 0 ≤ r ∧ h.length ≤ 50000 ∧ l.length ≤ 50000 ∧ RetD K (.bool true) H Q) := by
  obtain ⟨fd, F⟩ := E.dd__law_same
  refine Fn.mk0 F E.g__law_same sc__law_same sp2_len (fun _ _ _ _ _ _ us hl => match us, hl with | [_, _], _ => rfl) (fun cdv A outer s H vs Q X hr h => ?_)
  have nd := sc__law_same.nd
  obtain ⟨v0, v1, rfl, h⟩ := h
  refine ⟨_, (pss_cons (ps_if (PW.pt (pw_or (pt_not (kTru K (pe_callB (kIsi K) (by rfl) E.f_isinstance (by decide +kernel) (pa_cons (pv 0) (pa_cons (pe_glob (v := .ref (He.ga K "Table")) (by rfl) E.g_Table rfl) pa_nil))) (by intro _; rfl))) (pw_or (pt_cmpR (kNe K hr) (kFld K (pv 0) rfl) (pe_ix (kIx K) (pv 1) (pe_int) (fun _ _ => rfl)) (nomark _)) (pw_or1 (pt_cmpR (kNe K hr) (kFld K (pv 0) rfl) (pe_ix (kIx K) (pv 1) (pe_int) (fun _ _ => rfl)) (nomark _))))))
   (pss_one (ps_ret (pe_bl)))
   pss_nil)
  (pss_cons (ps_if (PW.pt (pw_or (pt_not (kTru K (pe_callB (kIsi K) (by rfl) E.f_isinstance (by decide +kernel) (pa_cons (kFld K (pv 0) rfl) (pa_cons (pe_bltn (v := .ty "tuple") (by rfl) E.f_tuple (by decide +kernel) rfl) pa_nil))) (by intro _; rfl))) (pw_or1 (pt_not (kTru K (pe_callB (kIsi K) (by rfl) E.f_isinstance (by decide +kernel) (pa_cons (kFld K (pv 0) rfl) (pa_cons (pe_bltn (v := .ty "tuple") (by rfl) E.f_tuple (by decide +kernel) rfl) pa_nil))) (by intro _; rfl))))))
   (pss_one (ps_ret (pe_bl)))
   pss_nil)
  (pss_cons (ps_if (pt_not (kTru K (pe_callB (kAll K rfl) (by rfl) E.f_all (by decide +kernel) (pa_cons (pe_lc (own := [("one", 2)]) (g := gName 2) (tt := tYes) rfl nd (kSeq K (pe_op (kAdd K) (kFld K (pv 0) rfl) (kFld K (pv 0) rfl))) (blkOk_by (N := N__law_same) (sc := defScope s__law_same) (by decide +kernel)) (fun _ _ _ _ _ => pg_name (i := 2) nd rfl (Or.inl rfl)) (fun _ _ _ _ _ => pts_nil) (fun _ _ _ _ _ => pc (ok__law_is_count E) hr (by decide) pass0 rfl (pa_cons (pv 2) pa_nil))) pa_nil)) (by intro _; rfl)))
   (pss_one (ps_ret (pe_bl)))
   pss_nil)
  (pss_one (ps_ret (pe_and (pc (ok__law_is_count E) hr (by decide) pass0 rfl (pa_cons (kFld K (pv 0) rfl) pa_nil)) (pe_one (pe_cmpR (kEq K hr) (kFld K (pv 0) rfl) (pe_ix (kIx K) (pv 1) (pe_int) (fun _ _ => rfl)) (nomark _))))))))), ?_⟩
  change (_ : TS) _ [some v0, some v1, none] H
  try dsimp only [cxOf, Cx.nox, Cx.blk]
  obtain ⟨x, h, l, r, rfl, t, hD, p1, p2, p3, z1, z2, k⟩ := h
  obtain ⟨a, th, tl, rfl, s1, s2, s3⟩ := dp_raw hD
  walk_at "w"
  refine r_isiC (insB_ok E.ins_Table E.c_Table (tab_mine t).choose_spec.choose_spec) E.kit_Table_self ?_
  walk_at "w"
  intro th1 q1
  walk_at "w"
  intro tl1 q2
  walk_at "w"
  intro th2 q3
  walk_at "w"
  intro tl2 q4
  walk_at "w"
  refine i_seqT ?_
  walk_at "w"
  intro th3 q5
  walk_at "w"
  intro tl3 q6
  walk_at "w"
  refine r_addT q5 q6 (by walk_at "sz") fun p5 H5 e5 h5 => ?_
  walk_at "w"
  rw [show vI h ++ vI l = vI (h ++ l) from List.map_append.symm] at h5
  have hp : ∀ n ∈ h ++ l, 0 ≤ n := fun n hn => (List.mem_append.mp hn).elim (p1 n) (p2 n)
  refine lcJ_tup (v := fun _ => .bl true) h5 (by rw [List.length_map, List.length_append]; omega) (fun x => [_, _, some x]) (fun x => rfl) (fun x => rfl) (fun x H2 Q' e2 hx hq => ?_) (fun p H2 n2 e2 hp => ?_)
  · walk_at "w"
    obtain ⟨n, hn, rfl⟩ := List.mem_map.mp hx
    refine ⟨.int n, .int n, fun v H3 e3 d3 => ?_⟩
    rw [show dIsCount (.int n) = true from decide_eq_true (hp n hn)] at d3
    obtain rfl := dp_toBl d3
    exact hq H3 e3
  · walk_at "w"
    refine r_all (bs := (vI (h ++ l)).map fun _ => true) (sq_of hp) (List.map_map ..).symm ?_
    have : ((vI (h ++ l)).map fun _ => true).all id = true := by simp
    rw [this]
    walk_at "w"
    refine ⟨.int r, .int r, fun v H3 e3 d3 => ?_⟩
    rw [show dIsCount (.int r) = true from decide_eq_true p3] at d3
    obtain rfl := dp_toBl d3
    walk_at "w"
    rw [decide_eq_true (rfl : r = r)]
    exact k.bl (by walk_at "ex")

end
section
/-- deeds: none gives, some i takes at i -/
abbrev Dd := Option Int
def gV : Dd → V
  | none => .str "give"
  | some i => .int i
def gD : Dd → PyData
  | none => .str "give"
  | some i => .int i
def okD (k : Int) (d : Dd) : Prop := ∀ i, d = some i → 0 ≤ i ∧ i < k
theorem r_eqSS {K : PySem.W.Frag} {x y : Str} {H : Hp} {Q : VK} (h : Q (.bl (decide (x = y))) H) : rEqU K (.str x) (.str y) H Q := .inl ⟨rfl, by
  rw [show decide (V.str x = V.str y) = decide (x = y) from decide_eq_decide.mpr ⟨V.str.inj, congrArg _⟩]
  exact h⟩
section
variable {K : PySem.W.Frag} {H H' : Hp} {v : V} {a b : Addr} {Q : VK} {xs : List V}
theorem gV_inj {d e : Dd} : gV d = gV e ↔ d = e := by cases d <;> cases e <;> simp [gV]
theorem gV_scal (d e : Dd) : scal (gV d) (gV e) = true := by cases d <;> cases e <;> rfl
theorem r_eqG {d e : Dd} (h : Q (.bl (decide (d = e))) H) : rEqU K (gV d) (gV e) H Q := .inl ⟨gV_scal d e, by
  rw [show decide (gV d = gV e) = decide (d = e) from decide_eq_decide.mpr gV_inj]
  exact h⟩
theorem r_eqGive {d : Dd} (h : Q (.bl (decide (d = none))) H) : rEqU K (gV d) (.str "give") H Q := r_eqG (e := none) h
theorem r_eqTake {d : Dd} {i : Int} (h : Q (.bl (decide (d = some i))) H) : rEqU K (gV d) (.int i) H Q := r_eqG (e := some i) h
theorem dp_gD (d : Dd) : Dp K H (gV d) (gD d) := by
  cases d
  · exact .str _
  · exact .int _
theorem dpAll_gD : ∀ {w : List Dd}, DpAll K H (w.map gV) (w.map gD)
  | [] => .nil
  | d :: _ => .cons (dp_gD d) dpAll_gD
theorem dpAll_toG : ∀ {w : List Dd} {vs : List V}, DpAll K H vs (w.map gD) → vs = w.map gV
  | [], _, .nil => rfl
  | none :: _, _, .cons (.str _) r => by rw [dpAll_toG r]; rfl
  | some i :: _, _, .cons (.int _) r => by rw [dpAll_toG r]; rfl
def dW (w : List Dd) : PyData := .tuple (w.map gD)
theorem dp_dW {w : List Dd} (h : Dp K H v (dW w)) : ∃ a, v = .ref a ∧ SqT K H a (w.map gV) := by
  unfold dW at h
  cases h with
  | tup h a => rw [dpAll_toG a] at h; exact ⟨_, rfl, h⟩
theorem dp_of_dW {w : List Dd} (h : SqT K H a (w.map gV)) : Dp K H (.ref a) (dW w) := .tup h dpAll_gD
theorem shpAll_gD {n : Nat} : ∀ w : List Dd, shpAll n (w.map gD) = true
  | [] => by cases n <;> (unfold shpAll; rfl)
  | d :: w => by
    rw [List.map_cons]
    unfold shpAll
    rw [shpAll_gD w]
    cases d <;> cases n <;> rfl
theorem dDeep_gD (w : List Dd) : dDeepAll (w.map gD) = w.map gD := by
  rw [dDeepAll_eq, List.map_map]
  congr 1
  funext d
  cases d <;> rfl
/-- a seq of deeds as data -/
theorem sqE_d {w : List Dd} (h : SqE K H a (w.map gV)) (z : w.length ≤ 50000) : ∃ d, Dp K H (.ref a) d ∧ dIsSeq d = true ∧ dDeep d = dW w ∧ ∀ n, shp (n + 1) d = true := by
  have zz : decide ((w.map gD).length ≤ 50000) = true := by rw [List.length_map, decide_eq_true z]
  rcases h with h | h
  · refine ⟨.list (w.map gD), .lst h dpAll_gD, rfl, by show PyData.tuple (dDeepAll (w.map gD)) = _; rw [dDeep_gD]; rfl, fun n => ?_⟩
    show (decide ((w.map gD).length ≤ 50000) && shpAll n (w.map gD)) = true
    rw [zz, shpAll_gD]
    rfl
  · refine ⟨.tuple (w.map gD), .tup h dpAll_gD, rfl, by show PyData.tuple (dDeepAll (w.map gD)) = _; rw [dDeep_gD]; rfl, fun n => ?_⟩
    show (decide ((w.map gD).length ≤ 50000) && shpAll n (w.map gD)) = true
    rw [zz, shpAll_gD]
    rfl
/-- rows of deeds -/
def WsAt (K : PySem.W.Frag) (H : Hp) : List V → List (List Dd) → Prop
  | [], [] => True
  | x :: xs, w :: ws => (∃ p, x = .ref p ∧ SqE K H p (w.map gV)) ∧ WsAt K H xs ws
  | _, _ => False
theorem ws_len : ∀ {xs : List V} {ws : List (List Dd)}, WsAt K H xs ws → xs.length = ws.length
  | [], [], _ => rfl
  | _ :: _, _ :: _, h => congrArg Nat.succ (ws_len h.2)
  | [], _ :: _, h => h.elim
  | _ :: _, [], h => h.elim
theorem ws_ex (e : Ex H H') : ∀ {xs : List V} {ws : List (List Dd)}, WsAt K H xs ws → WsAt K H' xs ws
  | [], [], _ => trivial
  | _ :: _, _ :: _, h => ⟨let ⟨p, e1, s⟩ := h.1; ⟨p, e1, ex_e e s⟩, ws_ex e h.2⟩
  | [], _ :: _, h => h.elim
  | _ :: _, [], h => h.elim
theorem ws_get : ∀ {xs : List V} {ws : List (List Dd)} {i : Nat} {x : V}, WsAt K H xs ws → xs[i]? = some x → ∃ p w, x = .ref p ∧ ws[i]? = some w ∧ SqE K H p (w.map gV)
  | [], [], _, _, _, e => by simp at e
  | _ :: _, w :: _, 0, _, h, e => by
    obtain ⟨p, e1, s⟩ := h.1
    simp at e
    subst e
    exact ⟨p, w, e1, rfl, s⟩
  | _ :: _, _ :: _, i + 1, x, h, e => by
    obtain ⟨p, w, e1, e2, s⟩ := ws_get (i := i) (x := x) h.2 (by simpa using e)
    exact ⟨p, w, e1, by simpa using e2, s⟩
  | [], _ :: _, _, _, h, _ => h.elim
  | _ :: _, [], _, _, h, _ => h.elim
theorem ws_mem {xs : List V} {ws : List (List Dd)} {x : V} (h : WsAt K H xs ws) (hx : x ∈ xs) : ∃ p w, x = .ref p ∧ w ∈ ws ∧ SqE K H p (w.map gV) := by
  obtain ⟨i, hi⟩ := List.getElem?_of_mem hx
  obtain ⟨p, w, e1, e2, s⟩ := ws_get h hi
  exact ⟨p, w, e1, List.mem_of_getElem? e2, s⟩
theorem ws_of : ∀ {xs : List V} {ws : List (List Dd)}, DpAll K H xs (ws.map dW) → WsAt K H xs ws
  | _, [], .nil => trivial
  | _, _ :: _, .cons a r => ⟨let ⟨p, e, s⟩ := dp_dW a; ⟨p, e, .inr s⟩, ws_of r⟩
/-- rows as data -/
theorem ws_d : ∀ {xs : List V} {ws : List (List Dd)}, WsAt K H xs ws → (∀ w ∈ ws, w.length ≤ 50000) → ∃ ds, DpAll K H xs ds ∧ dDeepAll ds = ws.map dW ∧ (∀ n, shpAll (n + 1) ds = true) ∧ ds.length = ws.length
  | [], [], _, _ => ⟨[], .nil, rfl, fun n => (by unfold shpAll; rfl), rfl⟩
  | x :: xs, w :: ws, h, z => by
    obtain ⟨⟨p, rfl, s⟩, h2⟩ := h
    obtain ⟨d, h1, _, h3, h4⟩ := sqE_d s (z w List.mem_cons_self)
    obtain ⟨ds, g1, g2, g3, g4⟩ := ws_d h2 fun u hu => z u (List.mem_cons_of_mem _ hu)
    refine ⟨d :: ds, .cons h1 g1, ?_, fun n => ?_, congrArg Nat.succ g4⟩
    · show dDeep d :: dDeepAll ds = _
      rw [h3, g2]
      rfl
    · unfold shpAll
      rw [h4, g3]
      rfl
  | [], _ :: _, h, _ => h.elim
  | _ :: _, [], h, _ => h.elim
theorem sqW_d {ws : List (List Dd)} (h : SqE K H a xs) (hw : WsAt K H xs ws) (z : ∀ w ∈ ws, w.length ≤ 50000) (zz : ws.length ≤ 50000) : ∃ d, Dp K H (.ref a) d ∧ dIsSeq d = true ∧ dDeep d = .tuple (ws.map dW) ∧ shp 6 d = true := by
  obtain ⟨ds, g1, g2, g3, g4⟩ := ws_d hw z
  have z2 : decide (ds.length ≤ 50000) = true := decide_eq_true (by omega)
  rcases h with h | h
  · refine ⟨.list ds, .lst h g1, rfl, by show PyData.tuple (dDeepAll ds) = _; rw [g2], ?_⟩
    show (decide (ds.length ≤ 50000) && shpAll 5 ds) = true
    rw [z2, g3]
    rfl
  · refine ⟨.tuple ds, .tup h g1, rfl, by show PyData.tuple (dDeepAll ds) = _; rw [g2], ?_⟩
    show (decide (ds.length ≤ 50000) && shpAll 5 ds) = true
    rw [z2, g3]
    rfl
end
abbrev N_is_deed : List Str := ["inlets", "thing"]
theorem sc_is_deed : FnScope N_is_deed ["inlets", "thing"] (defScope s_is_deed) := ⟨rfl, rfl, rfl, by decide +kernel, rfl, by decide +kernel, by decide +kernel⟩
theorem ok_is_deed {P : Program} {w : World} {K : PySem.W.Frag} {mg : Str → Option Value} {base : Heap} (E : Env P K mg) : Fn P w K mg base CX0 2 "is_deed" (sp2 fun a v H Q _ => ∃ (k : Int) (d : Dd), a = .int k ∧ v = gV d ∧ okD k d ∧ ∀ H', Ex H H' → Q (.bl true) H') := by
  obtain ⟨fd, F⟩ := E.dd_is_deed
  refine Fn.mk0 F E.g_is_deed sc_is_deed sp2_len (fun _ _ _ _ _ _ us hl => match us, hl with | [_, _], _ => rfl) (fun cdv A outer s H vs Q X hr h => ?_)
  have nd := sc_is_deed.nd
  obtain ⟨v0, v1, rfl, h⟩ := h
  refine ⟨_, (pss_cons (ps_if (kTru K (pe_callB (kIsi K) (by rfl) E.f_isinstance (by decide +kernel) (pa_cons (pv 1) (pa_cons (pe_bltn (v := .ty "str") (by rfl) E.f_str (by decide +kernel) rfl) pa_nil))) (by intro _; rfl))
   (pss_one (ps_ret (pe_cmpR (kEq K hr) (pv 1) ((E.k_GIVE).elim fun t e => pe_glob (v := .str "give") (by rfl) e ⟨t, rfl⟩) (nomark _))))
   pss_nil)
  (pss_one (ps_ret (pe_and (pc (ok_is_integer E) hr (by decide) pass0 rfl (pa_cons (pv 1) pa_nil)) (pe_one (pe_chain op_le op_lt (pe_int) (pv 1) (pv 0))))))), ?_⟩
  change (_ : TS) _ [some v0, some v1] H
  try dsimp only [cxOf, Cx.nox, Cx.blk]
  obtain ⟨k0, d, rfl, rfl, ok, k⟩ := h
  cases d with
  | none =>
    simp only [gV]
    walk_at "w"
    refine r_eqSS ?_
    exact k _ (Ex.refl _)
  | some i =>
    obtain ⟨o1, o2⟩ := ok i rfl
    simp only [gV]
    walk_at "w"
    refine ⟨.int i, .int i, fun v H1 e1 d1 => ?_⟩
    obtain rfl := dp_toBl d1
    walk_at "w"
    rw [decide_eq_true o2]
    exact k _ e1
abbrev N_is_deeds : List Str := ["inlets", "thing", "one"]
theorem sc_is_deeds : FnScope N_is_deeds ["inlets", "thing"] (defScope s_is_deeds) := ⟨rfl, rfl, rfl, by decide +kernel, rfl, by decide +kernel, by decide +kernel⟩
theorem ok_is_deeds {P : Program} {w : World} {K : PySem.W.Frag} {mg : Str → Option Value} {base : Heap} (E : Env P K mg) : Fn P w K mg base CX0 3 "is_deeds" (sp2 fun a v H Q _ => ∃ (k : Int) (p : Addr) (b : List Dd), a = .int k ∧ v = .ref p ∧ SqE K H p (b.map gV) ∧ b.length ≤ 50000 ∧ (∀ d ∈ b, okD k d) ∧ ∀ H', Ex H H' → Q (.bl true) H') := by
  obtain ⟨fd, F⟩ := E.dd_is_deeds
  refine Fn.mk0 F E.g_is_deeds sc_is_deeds sp2_len (fun _ _ _ _ _ _ us hl => match us, hl with | [_, _], _ => rfl) (fun cdv A outer s H vs Q X hr h => ?_)
  have nd := sc_is_deeds.nd
  obtain ⟨v0, v1, rfl, h⟩ := h
  refine ⟨_, (pss_one (ps_ret (pe_and (pc (ok_is_listed E) hr (by decide) pass0 rfl (pa_cons (pv 1) pa_nil)) (pe_one (pe_callB (kAll K rfl) (by rfl) E.f_all (by decide +kernel) (pa_cons (pe_lc (own := [("one", 2)]) (g := gName 2) (tt := tYes) rfl nd (kSeq K (pv 1)) (blkOk_by (N := N_is_deeds) (sc := defScope s_is_deeds) (by decide +kernel)) (fun _ _ _ _ _ => pg_name (i := 2) nd rfl (Or.inl rfl)) (fun _ _ _ _ _ => pts_nil) (fun _ _ _ _ _ => pc (ok_is_deed E) hr (by decide) pass0 rfl (pa_cons (pv 0) (pa_cons (pv 2) pa_nil)))) pa_nil)))))), ?_⟩
  change (_ : TS) _ [some v0, some v1, none] H
  try dsimp only [cxOf, Cx.nox, Cx.blk]
  obtain ⟨k0, p, b, rfl, rfl, s, z, ok, k⟩ := h
  obtain ⟨d, hd, hq, _, _⟩ := sqE_d s z
  walk_at "w"
  refine ⟨d, .inl hd, fun v H1 e1 d1 => ?_⟩
  rw [hq] at d1
  obtain rfl := dp_toBl d1
  walk_at "w"
  have key : ∀ (x : V) (H2 : Hp) (Q' : VK), x ∈ b.map gV → (∀ H3, Ex H2 H3 → Q' (.bl true) H3) → ∃ (k : Int) (d : Dd), V.int k0 = .int k ∧ x = gV d ∧ okD k d ∧ ∀ H', Ex H2 H' → Q' (.bl true) H' := fun x H2 Q' hx hq => by
    obtain ⟨d, hd, rfl⟩ := List.mem_map.mp hx
    exact ⟨k0, d, rfl, rfl, ok d hd, hq⟩
  have fin : ∀ (p : Addr) (H2 : Hp), Ex H H2 → H2 p = some (.lst ((b.map gV).map fun _ => V.bl true)) → rAll K [.ref p] H2 (fun v H => Q v H) := fun p H2 e2 hp => by
    refine r_all (bs := (b.map gV).map fun _ => true) (sq_of hp) (by simp [Function.comp]) ?_
    rw [show ((b.map gV).map fun _ => true).all id = true by simp]
    exact k _ e2
  rcases s with s | s
  · refine i_seqL ?_
    walk_at "w"
    refine lcJ_list (v := fun _ => .bl true) (ex_l e1 s) (by rw [List.length_map]; omega) (fun x => [_, _, some x]) (fun x => rfl) (fun x => rfl) (fun x H2 Q' e2 hx hq => ?_) (fun p H2 n2 e2 hp => ?_)
    · walk_at "w"
      exact key x H2 Q' hx hq
    · walk_at "w"
      exact fin p H2 (e1.trans e2) hp
  · refine i_seqT ?_
    walk_at "w"
    refine lcJ_tup (v := fun _ => .bl true) (ex_t e1 s) (by rw [List.length_map]; omega) (fun x => [_, _, some x]) (fun x => rfl) (fun x => rfl) (fun x H2 Q' e2 hx hq => ?_) (fun p H2 n2 e2 hp => ?_)
    · walk_at "w"
      exact key x H2 Q' hx hq
    · walk_at "w"
      exact fin p H2 (e1.trans e2) hp
theorem r_lenE {K : PySem.W.Frag} {H : Hp} {Q : VK} {a : Addr} {xs : List V} (h : SqE K H a xs) (q : Q (.int (xs.length : Int)) H) : rLenU K [.ref a] H Q := h.elim (fun h => r_lenL h q) (fun h => r_lenT h q)
theorem r_ixE {K : PySem.W.Frag} {H : Hp} {Q : VK} {a : Addr} {xs : List V} {i : Int} {v : V} (h : SqE K H a xs) (ha : atI xs i = some v) (q : Q v H) : rIx K (.ref a) (.int i) H Q := h.elim (fun h => r_ixL h ha q) (fun h => r_ixT h ha q)
abbrev N_is_ways : List Str := ["inlets", "thing", "one"]
theorem sc_is_ways : FnScope N_is_ways ["inlets", "thing"] (defScope s_is_ways) := ⟨rfl, rfl, rfl, by decide +kernel, rfl, by decide +kernel, by decide +kernel⟩
theorem ok_is_ways {P : Program} {w : World} {K : PySem.W.Frag} {mg : Str → Option Value} {base : Heap} (E : Env P K mg) : Fn P w K mg base CX0 4 "is_ways" (sp2 fun a v H Q _ => ∃ (k : Int) (p : Addr) (xs : List V) (ws : List (List Dd)), a = .int k ∧ v = .ref p ∧ SqE K H p xs ∧ WsAt K H xs ws ∧ 1 ≤ ws.length ∧ ws.length ≤ 4 ∧ (∀ w ∈ ws, w ≠ [] ∧ w.length ≤ 50000 ∧ ∀ d ∈ w, okD k d) ∧ ∀ H', Ex H H' → Q (.bl true) H') := by
  obtain ⟨fd, F⟩ := E.dd_is_ways
  refine Fn.mk0 F E.g_is_ways sc_is_ways sp2_len (fun _ _ _ _ _ _ us hl => match us, hl with | [_, _], _ => rfl) (fun cdv A outer s H vs Q X hr h => ?_)
  have nd := sc_is_ways.nd
  obtain ⟨v0, v1, rfl, h⟩ := h
  refine ⟨_, (pss_cons (ps_if (PW.pt (pw_or (pt_not (kTru K (pc (ok_is_listed E) hr (by decide) pass0 rfl (pa_cons (pv 1) pa_nil)) (by intro _; rfl))) (pw_or1 (pt_not (pt_chain op_le op_le (pe_int) (pe_callB (kLen K) (by rfl) E.f_len (by decide +kernel) (pa_cons (pv 1) pa_nil)) ((E.k_MOST_WAYS).elim fun t e => pe_glob (v := .int 4) (by rfl) e ⟨t, rfl⟩))))))
   (pss_one (ps_ret (pe_bl)))
   pss_nil)
  (pss_one (ps_ret (pe_callB (kAll K rfl) (by rfl) E.f_all (by decide +kernel) (pa_cons (pe_lc (own := [("one", 2)]) (g := gName 2) (tt := tYes) rfl nd (kSeq K (pv 1)) (blkOk_by (N := N_is_ways) (sc := defScope s_is_ways) (by decide +kernel)) (fun _ _ _ _ _ => pg_name (i := 2) nd rfl (Or.inl rfl)) (fun _ _ _ _ _ => pts_nil) (fun _ _ _ _ _ => pe_and (pc (ok_is_deeds E) hr (by decide) pass0 rfl (pa_cons (pv 0) (pa_cons (pv 2) pa_nil))) (pe_one (pe_cmpR op_gt (pe_callB (kLen K) (by rfl) E.f_len (by decide +kernel) (pa_cons (pv 2) pa_nil)) (pe_int) (nomark _))))) pa_nil))))), ?_⟩
  change (_ : TS) _ [some v0, some v1, none] H
  try dsimp only [cxOf, Cx.nox, Cx.blk]
  obtain ⟨k0, p, xs, ws, rfl, rfl, s, hw, z1, z2, ok, k⟩ := h
  obtain ⟨d, hd, hq, _, _⟩ := sqW_d s hw (fun w h => (ok w h).2.1) (by omega)
  have zl := ws_len hw
  walk_at "w"
  refine ⟨d, .inl hd, fun v H1 e1 d1 => ?_⟩
  rw [hq] at d1
  obtain rfl := dp_toBl d1
  have s1 := ex_e e1 s
  walk_at "w"
  refine r_lenE s1 ?_
  walk_at "w"
  have key : ∀ (x : V) (H2 : Hp), Ex H H2 → x ∈ xs → ∃ p w, x = .ref p ∧ SqE K H2 p (w.map gV) ∧ w ≠ [] ∧ w.length ≤ 50000 ∧ ∀ d ∈ w, okD k0 d := fun x H2 e2 hx => by
    obtain ⟨p, w, e1, hm, s⟩ := ws_mem hw hx
    obtain ⟨a, b, c⟩ := ok w hm
    exact ⟨p, w, e1, ex_e e2 s, a, b, c⟩
  have fin : ∀ (p : Addr) (H2 : Hp), Ex H H2 → H2 p = some (.lst (xs.map fun _ => V.bl true)) → rAll K [.ref p] H2 (fun v H => Q v H) := fun p H2 e2 hp => by
    refine r_all (bs := xs.map fun _ => true) (sq_of hp) (by simp [Function.comp]) ?_
    rw [show (xs.map fun _ => true).all id = true by simp]
    exact k _ e2
  rcases s with s | s
  · refine i_seqL ?_
    walk_at "w"
    refine lcJ_list (v := fun _ => .bl true) (ex_l e1 s) (by omega) (fun x => [_, _, some x]) (fun x => rfl) (fun x => rfl) (fun x H2 Q' e2 hx hq => ?_) (fun p H2 n2 e2 hp => ?_)
    · obtain ⟨q, w, rfl, sw, wn, wz, wo⟩ := key x H2 (e1.trans e2) hx
      walk_at "w"
      refine ⟨k0, q, w, rfl, rfl, sw, wz, wo, fun H3 e3 => ?_⟩
      have sw3 := ex_e e3 sw
      have wl : 0 < w.length := List.length_pos_iff.mpr wn
      walk_at "w"
      refine r_lenE sw3 ?_
      rw [List.length_map]
      walk_at "w"
      rw [decide_eq_true (show (0 : Int) < w.length by omega)]
      exact hq _ e3
    · walk_at "w"
      exact fin p H2 (e1.trans e2) hp
  · refine i_seqT ?_
    walk_at "w"
    refine lcJ_tup (v := fun _ => .bl true) (ex_t e1 s) (by omega) (fun x => [_, _, some x]) (fun x => rfl) (fun x => rfl) (fun x H2 Q' e2 hx hq => ?_) (fun p H2 n2 e2 hp => ?_)
    · obtain ⟨q, w, rfl, sw, wn, wz, wo⟩ := key x H2 (e1.trans e2) hx
      walk_at "w"
      refine ⟨k0, q, w, rfl, rfl, sw, wz, wo, fun H3 e3 => ?_⟩
      have sw3 := ex_e e3 sw
      have wl : 0 < w.length := List.length_pos_iff.mpr wn
      walk_at "w"
      refine r_lenE sw3 ?_
      rw [List.length_map]
      walk_at "w"
      rw [decide_eq_true (show (0 : Int) < w.length by omega)]
      exact hq _ e3
    · walk_at "w"
      exact fin p H2 (e1.trans e2) hp

end
section
def dMk (k : Int) (b : List Dd) (ws : List (List Dd)) : PyData := .tuple [.int k, dW b, .tuple (ws.map dW)]
/-- a maker that may be made -/
structure MkOk (k : Int) (b : List Dd) (ws : List (List Dd)) : Prop where
  k1 : 1 ≤ k
  k3 : k ≤ 3
  ob : ∀ d ∈ b, okD k d
  zb : b.length ≤ 600
  w1 : 1 ≤ ws.length
  w4 : ws.length ≤ 4
  ow : ∀ w ∈ ws, w ≠ [] ∧ ∀ d ∈ w, okD k d
  zw : ∀ w ∈ ws, w.length ≤ if ws.length = 1 then 600 else 24
theorem MkOk.z6 {k : Int} {b : List Dd} {ws : List (List Dd)} (h : MkOk k b ws) : ∀ w ∈ ws, w.length ≤ 600 := fun w hw => by
  have := h.zw w hw
  split at this <;> omega
theorem kn_ib : ¬ (("inlets" : Str) = "begin") := by decide +kernel
theorem kn_iw : ¬ (("inlets" : Str) = "ways") := by decide +kernel
theorem kn_bw : ¬ (("begin" : Str) = "ways") := by decide +kernel
def kF (a b c : V) : List (Str × V) := putF "ways" c (putF "begin" b (putF "inlets" a []))
section
variable {a b c : V}
theorem kF_in : (kF a b c).lookup ("inlets" : Str) = some a := by
  unfold kF
  rw [lookup_putF, if_neg kn_iw, lookup_putF, if_neg kn_ib, lookup_putF, if_pos rfl]
theorem kF_be : (kF a b c).lookup ("begin" : Str) = some b := by
  unfold kF
  rw [lookup_putF, if_neg kn_bw, lookup_putF, if_pos rfl]
theorem kF_wa : (kF a b c).lookup ("ways" : Str) = some c := by
  unfold kF
  rw [lookup_putF, if_pos rfl]
theorem kF_no {m : Str} (h1 : ¬ m = "inlets") (h2 : ¬ m = "begin") (h3 : ¬ m = "ways") : (kF a b c).lookup m = none := by
  unfold kF
  rw [lookup_putF, if_neg h3, lookup_putF, if_neg h2, lookup_putF, if_neg h1]
  rfl
end
/-- a maker stands at x -/
def MakAt (K : PySem.W.Frag) (H : Hp) (x : Addr) (k : Int) (b : List Dd) (ws : List (List Dd)) : Prop := ∃ dx vb vw, H x = some (.ins (He.ga K "Maker") dx (kF (.int k) vb vw)) ∧ Dp K H vb (dW b) ∧ Dp K H vw (.tuple (ws.map dW))
theorem ex_mak {K : PySem.W.Frag} {H H' : Hp} {x : Addr} {k : Int} {b : List Dd} {ws : List (List Dd)} (e : Ex H H') (t : MakAt K H x k b ws) : MakAt K H' x k b ws := by
  obtain ⟨dx, vb, vw, h1, h2, h3⟩ := t
  exact ⟨dx, vb, vw, e _ _ h1, dp_ex e h2, dp_ex e h3⟩
section
variable {P : Program} {K : PySem.W.Frag} {mg : Str → Option Value} {H : Hp} {x : Addr} {k : Int} {b : List Dd} {ws : List (List Dd)} {Q : VK}
theorem r_makIn (E : Env P K mg) (t : MakAt K H x k b ws) (q : Q (.int k) H) : GetF K "inlets" (.ref x) H Q := by
  obtain ⟨dx, vb, vw, h1, h2, h3⟩ := t
  exact r_getF h1 E.c_Maker E.na_Maker_inlets kF_in q
theorem r_makBe (E : Env P K mg) (t : MakAt K H x k b ws) (q : ∀ a, SqT K H a (b.map gV) → Q (.ref a) H) : GetF K "begin" (.ref x) H Q := by
  obtain ⟨dx, vb, vw, h1, h2, h3⟩ := t
  obtain ⟨a, rfl, s⟩ := dp_dW h2
  exact r_getF h1 E.c_Maker E.na_Maker_begin kF_be (q a s)
theorem dp_ways {v : V} (h : Dp K H v (.tuple (ws.map dW))) : ∃ a xs, v = .ref a ∧ SqT K H a xs ∧ DpAll K H xs (ws.map dW) := by
  cases h with
  | tup h a => exact ⟨_, _, rfl, h, a⟩
theorem r_makWa (E : Env P K mg) (t : MakAt K H x k b ws) (q : ∀ a xs, SqT K H a xs → DpAll K H xs (ws.map dW) → Q (.ref a) H) : GetF K "ways" (.ref x) H Q := by
  obtain ⟨dx, vb, vw, h1, h2, h3⟩ := t
  obtain ⟨a, xs, rfl, s, d⟩ := dp_ways h3
  exact r_getF h1 E.c_Maker E.na_Maker_ways kF_wa (q a xs s d)
end
theorem tex_fri {H H' : Hp} {p C dx : Addr} {fs : List (Str × V)} (hp : H p = some (.ins C dx fs)) (f : Fr p H H') : TEx H H' := fun b xs q => by
  have hb : b ≠ p := by
    rintro rfl
    rcases q with q | ⟨o', q⟩ <;> rw [hp] at q <;> cases q
  rcases q with q | ⟨o', q⟩
  · exact .inl (f b _ hb q)
  · exact .inr ⟨o', f b _ hb q⟩
theorem imm_dW (w : List Dd) : imm (dW w) = true := by
  have : ∀ w : List Dd, immAll (w.map gD) = true := fun w => by
    induction w with
    | nil => rfl
    | cons d w ih =>
      show (imm (gD d) && immAll (w.map gD)) = true
      rw [ih]
      cases d <;> rfl
  exact this w
theorem imm_dWs (ws : List (List Dd)) : imm (.tuple (ws.map dW)) = true := by
  have : ∀ ws : List (List Dd), immAll (ws.map dW) = true := fun ws => by
    induction ws with
    | nil => rfl
    | cons d w ih =>
      show (imm (dW d) && immAll (w.map dW)) = true
      rw [ih, imm_dW]
      rfl
  exact this ws
abbrev spMaker (K : PySem.W.Frag) : Sp := sp4 fun x a b c H Q _ => ∃ (p dx : Addr) (k : Int) (pb pw : Addr) (bs : List Dd) (xs : List V) (ws : List (List Dd)), x = .ref p ∧ H p = some (.ins (He.ga K "Maker") dx []) ∧ a = .int k ∧ b = .ref pb ∧ c = .ref pw ∧
  SqE K H pb (bs.map gV) ∧ SqE K H pw xs ∧ WsAt K H xs ws ∧ MkOk k bs ws ∧ ∀ H', MakAt K H' p k bs ws → Fr p H H' → Q .non H'
theorem sqE_fri {K : PySem.W.Frag} {H H' : Hp} {p a C dx : Addr} {fs : List (Str × V)} {xs : List V} (hp : H p = some (.ins C dx fs)) (f : Fr p H H') (s : SqE K H a xs) : SqE K H' a xs := by
  rcases s with s | s
  · refine .inl ?_
    have key : ∀ u, H a = some u → (∃ o', u = .frz o' (.lst xs)) ∨ u = .lst xs → a ≠ p := by
      rintro u hu hc rfl
      rw [hp] at hu
      cases hu
      rcases hc with ⟨_, hc⟩ | hc <;> cases hc
    rcases s with (s | ⟨o', s⟩) | s
    · exact .inl (.inl (f _ _ (key _ s (.inr rfl)) s))
    · exact .inl (.inr ⟨o', f _ _ (key _ s (.inl ⟨o', rfl⟩)) s⟩)
    · exact .inr s
  · exact .inr (tex_t (tex_fri hp f) s)
theorem ws_fri {K : PySem.W.Frag} {H H' : Hp} {p C dx : Addr} {fs : List (Str × V)} (hp : H p = some (.ins C dx fs)) (f : Fr p H H') : ∀ {xs : List V} {ws : List (List Dd)}, WsAt K H xs ws → WsAt K H' xs ws
  | [], [], _ => trivial
  | _ :: _, _ :: _, h => ⟨let ⟨p, e1, s⟩ := h.1; ⟨p, e1, sqE_fri hp f s⟩, ws_fri hp f h.2⟩
  | [], _ :: _, h => h.elim
  | _ :: _, [], h => h.elim
abbrev N_Maker_init : List Str := ["self", "inlets", "begin", "ways", "most", "way"]
theorem sc_Maker_init : FnScope N_Maker_init ["self", "inlets", "begin", "ways"] (defScope s_Maker_init) := ⟨rfl, rfl, rfl, by decide +kernel, rfl, by decide +kernel, by decide +kernel⟩
theorem fx_Maker_init {P : Program} {w : World} {K : PySem.W.Frag} {mg : Str → Option Value} {base : Heap} (E : Env P K mg) : ∃ fd, FunD K "__init__" "Maker.__init__" (defArgs s_Maker_init) (defBody s_Maker_init) (defScope s_Maker_init) (d_Maker_init.dvs K) [] (d_Maker_init.adr K) fd ∧ FnOk P w K mg base CX0 9 (d_Maker_init.adr K) fd ["self", "inlets", "begin", "ways"] (spMaker K) := by
  obtain ⟨fd, F⟩ := E.dd_Maker_init
  refine ⟨fd, F, fnok0 F sc_Maker_init sp4_len (fun cdv A outer s H vs Q X hr h => ?_)⟩
  have nd := sc_Maker_init.nd
  obtain ⟨v0, v1, v2, v3, rfl, h⟩ := h
  refine ⟨_, (pss_cons (ps_if (PW.pt (pw_or (pt_not (kTru K (pc (ok_is_integer E) hr (by decide) pass0 rfl (pa_cons (pv 1) pa_nil)) (by intro _; rfl))) (pw_or1 (pt_not (pt_chain op_le op_le (pe_int) (pv 1) ((E.k_MOST_INLETS).elim fun t e => pe_glob (v := .int 3) (by rfl) e ⟨t, rfl⟩))))))
   (pss_one (ps_never))
   pss_nil)
  (pss_cons (ps_if (pt_not (kTru K (pc (ok_is_deeds E) hr (by decide) pass0 rfl (pa_cons (pv 1) (pa_cons (pv 2) pa_nil))) (by intro _; rfl)))
   (pss_one (ps_never))
   pss_nil)
  (pss_cons (ps_if (pt_not (kTru K (pc (ok_is_ways E) hr (by decide) pass0 rfl (pa_cons (pv 1) (pa_cons (pv 3) pa_nil))) (by intro _; rfl)))
   (pss_one (ps_never))
   pss_nil)
  (pss_cut (ps_set (i := 4) nd rfl (.inr rfl) (pe_ifExp (pt_cmpR (kEq K hr) (pe_callB (kLen K) (by rfl) E.f_len (by decide +kernel) (pa_cons (pv 3) pa_nil)) (pe_int) (nomark _)) ((E.k_MOST_DEEDS).elim fun t e => pe_glob (v := .int 600) (by rfl) e ⟨t, rfl⟩) ((E.k_MOST_DEEDS_EACH).elim fun t e => pe_glob (v := .int 24) (by rfl) e ⟨t, rfl⟩)))
  (pss_cut (ps_if (PW.pt (pw_or (pt_cmpR op_gt (pe_callB (kLen K) (by rfl) E.f_len (by decide +kernel) (pa_cons (pv 2) pa_nil)) ((E.k_MOST_DEEDS).elim fun t e => pe_glob (v := .int 600) (by rfl) e ⟨t, rfl⟩) (nomark _)) (pw_or1 (kTru K (pe_callB (kAny K rfl) (by rfl) E.f_any (by decide +kernel) (pa_cons (pe_lc (own := [("way", 5)]) (g := gName 5) (tt := tYes) rfl nd (kSeq K (pv 3)) (blkOk_by (N := N_Maker_init) (sc := defScope s_Maker_init) (by decide +kernel)) (fun _ _ _ _ _ => pg_name (i := 5) nd rfl (Or.inl rfl)) (fun _ _ _ _ _ => pts_nil) (fun _ _ _ _ _ => pe_cmpR op_gt (pe_callB (kLen K) (by rfl) E.f_len (by decide +kernel) (pa_cons (pv 5) pa_nil)) (pv 4) (nomark _))) pa_nil)) (by intro _; rfl)))))
   (pss_one (ps_never))
   pss_nil)
  (pss_cons (kFldS K (ps_fld (pv 0) (pv 1) rfl))
  (pss_cons (kFldS K (ps_fld (pv 0) (pc (ok_deep E) hr (by decide) pass0 rfl (pa_cons (pv 2) pa_nil)) rfl))
  (pss_one (kFldS K (ps_fld (pv 0) (pc (ok_deep E) hr (by decide) pass0 rfl (pa_cons (pv 3) pa_nil)) rfl)))))))))), ?_⟩
  change (_ : TS) _ [some v0, some v1, some v2, some v3, none, none] H
  try dsimp only [cxOf, Cx.nox, Cx.blk]
  obtain ⟨p, dx, k0, pb, pw, bs, xs, ws, rfl, hp, rfl, rfl, rfl, sb, sw, hw, ok, k⟩ := h
  obtain ⟨k1, k3, ob, zb, w1, w4, ow, zw⟩ := id ok
  have z6 := ok.z6
  have zl := ws_len hw
  walk_at "w"
  refine ⟨.int k0, .int k0, fun v H1 e1 d1 => ?_⟩
  obtain rfl := dp_toBl d1
  walk_at "w"
  refine ⟨k0, pb, bs, rfl, rfl, ex_e e1 sb, by omega, ob, fun H2 e2 => ?_⟩
  walk_at "w"
  have E2 := e1.trans e2
  refine ⟨k0, pw, xs, ws, rfl, rfl, ex_e E2 sw, ws_ex E2 hw, w1, w4, fun w h => ⟨(ow w h).1, by have := z6 w h; omega, (ow w h).2⟩, fun H3 e3 => ?_⟩
  have E3 := E2.trans e3
  have sw3 := ex_e E3 sw
  walk_at "w"
  refine w_cut (M := fun σ' H' => ∃ m : Int, σ' = [some (.ref p), some (.int k0), some (.ref pb), some (.ref pw), some (.int m), none] ∧ H' = H3 ∧ ∀ w ∈ ws, (w.length : Int) ≤ m) ?_ ?_
  · walk_at "w"
    refine r_lenE sw3 ?_
    by_cases c : ws.length = 1
    · walk_at "w"
      exact ⟨_, rfl, rfl, fun w h => by have := zw w h; rw [if_pos c] at this; omega⟩
    · walk_at "w"
      exact ⟨_, rfl, rfl, fun w h => by have := zw w h; rw [if_neg c] at this; omega⟩
  rintro σ' H' ⟨m, rfl, rfl, hm⟩
  have sb3 := ex_e E3 sb
  have hw3 := ws_ex E3 hw
  have key : ∀ (x : V) (H2 : Hp), Ex H' H2 → x ∈ xs → ∃ (p : Addr) (w : List Dd), x = .ref p ∧ SqE K H2 p (w.map gV) ∧ (w.length : Int) ≤ m := fun x H2 e2 hx => by
    obtain ⟨q, w, e1, hm2, s⟩ := ws_mem hw3 hx
    exact ⟨q, w, e1, ex_e e2 s, hm w hm2⟩
  have any0 : (xs.map fun _ => false).any id = false := by simp
  have sE : ∀ {H2 : Hp} {b : Bool}, b = false → b = false := fun h => h
  refine w_cut (M := fun σ' H2 => σ' = [some (.ref p), some (.int k0), some (.ref pb), some (.ref pw), some (.int m), none] ∧ Ex H' H2) ?_ ?_
  · walk_at "w"
    refine r_lenE sb3 ?_
    rw [List.length_map]
    walk_at "w"
    have sw4 := ex_e E3 sw
    rcases sw4 with s | s
    · refine i_seqL ?_
      walk_at "w"
      refine lcJ_list (v := fun _ => .bl false) s (by omega) (fun x => [_, _, _, _, _, some x]) (fun x => rfl) (fun x => rfl) (fun x H2 Q' e2 hx hq => ?_) (fun pl H2 n2 e2 hp => ?_)
      · obtain ⟨q, w, rfl, sq, hl⟩ := key x H2 e2 hx
        walk_at "w"
        refine r_lenE sq ?_
        rw [List.length_map]
        walk_at "w"
        rw [decide_eq_false (show ¬ m < (w.length : Int) by omega)]
        exact hq _ (Ex.refl _)
      · walk_at "w"
        refine r_any (bs := xs.map fun _ => false) (sq_of hp) (by simp [Function.comp]) ?_
        rw [any0]
        walk_at "w"
        exact ⟨rfl, e2⟩
    · refine i_seqT ?_
      walk_at "w"
      refine lcJ_tup (v := fun _ => .bl false) s (by omega) (fun x => [_, _, _, _, _, some x]) (fun x => rfl) (fun x => rfl) (fun x H2 Q' e2 hx hq => ?_) (fun pl H2 n2 e2 hp => ?_)
      · obtain ⟨q, w, rfl, sq, hl⟩ := key x H2 e2 hx
        walk_at "w"
        refine r_lenE sq ?_
        rw [List.length_map]
        walk_at "w"
        rw [decide_eq_false (show ¬ m < (w.length : Int) by omega)]
        exact hq _ (Ex.refl _)
      · walk_at "w"
        refine r_any (bs := xs.map fun _ => false) (sq_of hp) (by simp [Function.comp]) ?_
        rw [any0]
        walk_at "w"
        exact ⟨rfl, e2⟩
  rintro σ' G ⟨rfl, e4⟩
  have E4 := E3.trans e4
  have hpG := E4 _ _ hp
  have sbG := ex_e E4 sb
  have swG := ex_e E4 sw
  have hwG := ws_ex E4 hw
  clear key any0 sb3 hw3 sw3 e1 e2 e3 e4 E2 E3
  walk_at "w"
  refine r_putF hpG E.c_Maker E.na_Maker_inlets (by decide) ?_
  have F1 : Fr p G (upd G p (.ins (He.ga K "Maker") dx (putF "inlets" (.int k0) []))) := Fr.upd
  have hp1 : upd G p (.ins (He.ga K "Maker") dx (putF "inlets" (.int k0) [])) p = some (.ins (He.ga K "Maker") dx (putF "inlets" (.int k0) [])) := upd_same
  generalize upd G p (.ins (He.ga K "Maker") dx (putF "inlets" (.int k0) [])) = G1 at *
  have sb1 := sqE_fri hpG F1 sbG
  have sw1 := sqE_fri hpG F1 swG
  have hw1 := ws_fri hpG F1 hwG
  obtain ⟨d1, hd1, _, hq1, hs1⟩ := sqE_d sb1 (by omega)
  walk_at "w"
  refine ⟨d1, hd1, hs1 5, fun v2 G2 e2 t2 => ?_⟩
  rw [hq1] at t2
  have hp2 := e2 _ _ hp1
  walk_at "w"
  refine r_putF hp2 E.c_Maker E.na_Maker_begin (Nat.lt_of_le_of_lt (putF_len _ _ _) (by decide)) ?_
  have F3 : Fr p G2 (upd G2 p (.ins (He.ga K "Maker") dx (putF "begin" v2 (putF "inlets" (.int k0) [])))) := Fr.upd
  have hp3 : upd G2 p (.ins (He.ga K "Maker") dx (putF "begin" v2 (putF "inlets" (.int k0) []))) p = some (.ins (He.ga K "Maker") dx (putF "begin" v2 (putF "inlets" (.int k0) []))) := upd_same
  generalize upd G2 p (.ins (He.ga K "Maker") dx (putF "begin" v2 (putF "inlets" (.int k0) []))) = G3 at *
  have t3 := dp_tex (tex_fri hp2 F3) (imm_dW bs) t2
  have sw3 := sqE_fri hp2 F3 (ex_e e2 sw1)
  have hw3 := ws_fri hp2 F3 (ws_ex e2 hw1)
  obtain ⟨d2, hd2, _, hq2, hs2⟩ := sqW_d sw3 hw3 (fun w h => by have := z6 w h; omega) (by omega)
  walk_at "w"
  refine ⟨d2, hd2, hs2, fun v4 G4 e4 t4 => ?_⟩
  rw [hq2] at t4
  have hp4 := e4 _ _ hp3
  walk_at "w"
  refine r_putF hp4 E.c_Maker E.na_Maker_ways (Nat.lt_of_le_of_lt (Nat.le_trans (putF_len _ _ _) (Nat.succ_le_succ (putF_len _ _ _))) (by decide)) ?_
  have F5 : Fr p G4 (upd G4 p (.ins (He.ga K "Maker") dx (kF (.int k0) v2 v4))) := Fr.upd
  refine k _ ⟨dx, v2, v4, upd_same, dp_tex (tex_fri hp4 F5) (imm_dW bs) (dp_ex e4 t3), dp_tex (tex_fri hp4 F5) (imm_dWs ws) t4⟩ ?_
  exact (((((Fr.of E4).trans F1).trans (Fr.of e2)).trans F3).trans (Fr.of e4)).trans F5
section
variable {P : Program} {w : World} {K : PySem.W.Frag} {mg : Str → Option Value} {base : Heap}
theorem ok_Maker3 (E : Env P K mg) : Mkc P w K mg base CX0 9 "Maker" (He.ga K "Maker") (spMaker K) [] := by
  obtain ⟨fd, F, k⟩ := fx_Maker_init (P := P) (w := w) (base := base) E
  exact ⟨_, fd, _, [], E.mk_Maker, k, E.g_Maker, F.bindsN (fun _ _ _ _ _ _ us hl => match us, hl with | [_, _, _, _], _ => rfl), .nil⟩
end
/-- Maker(..) made -/
theorem mk_mak {K : PySem.W.Frag} {H : Hp} {Q : VK} {k : Int} {pb pw : Addr} {bs : List Dd} {xs : List V} {ws : List (List Dd)} (sb : SqE K H pb (bs.map gV)) (sw : SqE K H pw xs) (hw : WsAt K H xs ws) (ok : MkOk k bs ws)
    (q : ∀ x H2, Ex H H2 → MakAt K H2 x k bs ws → Q (.ref x) H2) : MakeI (He.ga K "Maker") (spMaker K) [] E0 [.int k, .ref pb, .ref pw] H Q := by
  intro x dx nx ndx ne
  have ex : Ex H (upd (upd H dx (.own x)) x (.ins (He.ga K "Maker") dx [])) := fun b o e => by
    rw [upd_ne (ne_of_none e nx), upd_ne (ne_of_none e ndx)]
    exact e
  refine ⟨_, _, _, _, rfl, x, dx, k, pb, pw, bs, xs, ws, rfl, upd_same, rfl, rfl, rfl, ex_e ex sb, ex_e ex sw, ws_ex ex hw, ok, fun H' t f => ⟨rfl, q x H' (fun b o e => ?_) t⟩⟩
  exact f b o (ne_of_none e nx) (ex b o e)
theorem mak_mine {K : PySem.W.Frag} {H : Hp} {x : Addr} {k : Int} {b : List Dd} {ws : List (List Dd)} (t : MakAt K H x k b ws) : ∃ dx fl, H x = some (.ins (He.ga K "Maker") dx fl) := by
  obtain ⟨dx, a, b, h1, _⟩ := t
  exact ⟨dx, _, h1⟩
theorem eqv_gD (d e : Dd) : PyData.eqv (gD d) (gD e) = decide (d = e) := by
  cases d with
  | none => cases e with
    | none => rw [decide_eq_true rfl]; show (("give" : Str) == "give") = true; exact beq_self_eq_true _
    | some j => rfl
  | some i => cases e with
    | none => rfl
    | some j =>
      show (i == j) = _
      by_cases h : i = j <;> simp [h]
theorem eqv_gDs : ∀ xs ys : List Dd, PyData.eqvAll (xs.map gD) (ys.map gD) = decide (xs = ys)
  | [], [] => rfl
  | [], _ :: _ => rfl
  | _ :: _, [] => rfl
  | x :: xs, y :: ys => by
    show (PyData.eqv (gD x) (gD y) && PyData.eqvAll (xs.map gD) (ys.map gD)) = _
    rw [eqv_gDs xs ys, eqv_gD]
    by_cases h : x = y
    · subst h; simp
    · simp [h]
theorem eqv_dW (x y : List Dd) : PyData.eqv (dW x) (dW y) = decide (x = y) := eqv_gDs x y
theorem eqv_dWs : ∀ xs ys : List (List Dd), PyData.eqvAll (xs.map dW) (ys.map dW) = decide (xs = ys)
  | [], [] => rfl
  | [], _ :: _ => rfl
  | _ :: _, [] => rfl
  | x :: xs, y :: ys => by
    show (PyData.eqv (dW x) (dW y) && PyData.eqvAll (xs.map dW) (ys.map dW)) = _
    rw [eqv_dWs xs ys, eqv_dW]
    by_cases h : x = y
    · subst h; simp
    · simp [h]
theorem lay_gD (d : Dd) : (gD d).canLay0 = true ∧ (gD d).depth = 0 := by
  cases d
  · exact ⟨by decide +kernel, rfl⟩
  · exact ⟨rfl, rfl⟩
theorem lay_gDs : ∀ w : List Dd, PyData.canLayAll0 (w.map gD) = true ∧ PyData.depthAll (w.map gD) = 0
  | [] => ⟨rfl, rfl⟩
  | d :: w => by
    obtain ⟨a, b⟩ := lay_gDs w
    obtain ⟨c, e⟩ := lay_gD d
    refine ⟨?_, ?_⟩
    · show ((gD d).canLay0 && PyData.canLayAll0 (w.map gD)) = true
      rw [a, c]; rfl
    · show max (gD d).depth (PyData.depthAll (w.map gD)) = 0
      rw [b, e]; rfl
theorem shaped_dW (w : List Dd) : SeqAt.shaped (dW w) = true := by
  show (PyData.canLayAll0 (w.map gD) && decide (PyData.depthAll (w.map gD) + 1 ≤ 64)) = true
  rw [(lay_gDs w).1, (lay_gDs w).2]
  rfl
theorem lay_dWs : ∀ ws : List (List Dd), PyData.canLayAll0 (ws.map dW) = true ∧ PyData.depthAll (ws.map dW) ≤ 1
  | [] => ⟨rfl, Nat.zero_le _⟩
  | w :: ws => by
    obtain ⟨a, b⟩ := lay_dWs ws
    refine ⟨?_, ?_⟩
    · show (PyData.canLayAll0 (w.map gD) && PyData.canLayAll0 (ws.map dW)) = true
      rw [a, (lay_gDs w).1]; rfl
    · show max (PyData.depthAll (w.map gD) + 1) (PyData.depthAll (ws.map dW)) ≤ 1
      rw [(lay_gDs w).2]; omega
theorem shaped_dWs (ws : List (List Dd)) : SeqAt.shaped (.tuple (ws.map dW)) = true := by
  show (PyData.canLayAll0 (ws.map dW) && decide (PyData.depthAll (ws.map dW) + 1 ≤ 64)) = true
  rw [(lay_dWs ws).1, decide_eq_true (show PyData.depthAll (ws.map dW) + 1 ≤ 64 by have := (lay_dWs ws).2; omega)]
  rfl
abbrev N_Maker_eq : List Str := ["self", "other"]
theorem sc_Maker_eq : FnScope N_Maker_eq ["self", "other"] (defScope s_Maker_eq) := ⟨rfl, rfl, rfl, by decide +kernel, rfl, by decide +kernel, by decide +kernel⟩
theorem fx_Maker_eq {P : Program} {w : World} {K : PySem.W.Frag} {mg : Str → Option Value} {base : Heap} (E : Env P K mg) : ∃ fd, FunD K "__eq__" "Maker.__eq__" (defArgs s_Maker_eq) (defBody s_Maker_eq) (defScope s_Maker_eq) (d_Maker_eq.dvs K) [] (d_Maker_eq.adr K) fd ∧ FnOk P w K mg base CX0 1 (d_Maker_eq.adr K) fd ["self", "other"] (sp2 fun x y H Q _ => ∃ p k b ws, x = .ref p ∧ MakAt K H p k b ws ∧ ((∃ q k' b' ws', y = .ref q ∧ MakAt K H q k' b' ws' ∧ RetD K (.bool (decide (k = k' ∧ b = b' ∧ ws = ws'))) H Q) ∨ (∃ n ∈ ["tuple", "int"], TyX K H y (.type n) ∧ RetD K (.bool false) H Q))) := by
  obtain ⟨fd, F⟩ := E.dd_Maker_eq
  refine ⟨fd, F, fnok0 F sc_Maker_eq sp2_len (fun cdv A outer s H vs Q X hr h => ?_)⟩
  have nd := sc_Maker_eq.nd
  obtain ⟨v0, v1, rfl, h⟩ := h
  refine ⟨_, (pss_one (ps_ret (pe_and (pe_callB (kIsi K) (by rfl) E.f_isinstance (by decide +kernel) (pa_cons (pv 1) (pa_cons (pe_glob (v := .ref (He.ga K "Maker")) (by rfl) E.g_Maker rfl) pa_nil))) (pe_and (pe_cmpR (kEq K hr) (kFld K (pv 0) rfl) (kFld K (pv 1) rfl) (nomark _)) (pe_and (pe_cmpR (kEq K hr) (kFld K (pv 0) rfl) (kFld K (pv 1) rfl) (nomark _)) (pe_one (pe_cmpR (kEq K hr) (kFld K (pv 0) rfl) (kFld K (pv 1) rfl) (nomark _)))))))), ?_⟩
  change (_ : TS) _ [some v0, some v1] H
  try dsimp only [cxOf, Cx.nox, Cx.blk]
  obtain ⟨p, k0, b, ws, rfl, ht, h2⟩ := h
  rcases h2 with ⟨q, k', b', ws', rfl, hu, k⟩ | ⟨n, hn, ty, k⟩
  · walk_at "w"
    refine r_isiC (insB_ok E.ins_Maker E.c_Maker (mak_mine hu).choose_spec.choose_spec) E.kit_Maker_self ?_
    walk_at "w"
    refine r_makIn E ht ?_
    walk_at "w"
    refine r_makIn E hu ?_
    walk_at "w"
    by_cases c1 : k0 = k'
    · walk_at "w"
      refine r_makBe E ht fun a sa => ?_
      walk_at "w"
      refine r_makBe E hu fun a' sa' => ?_
      refine r_eqD (dp_of_dW sa) (dp_of_dW sa') (shaped_dW _) (shaped_dW _) ?_
      rw [eqv_dW]
      walk_at "w"
      by_cases c2 : b = b'
      · walk_at "w"
        refine r_makWa E ht fun a2 xs sx dx => ?_
        walk_at "w"
        refine r_makWa E hu fun a3 ys sy dy => ?_
        refine r_eqD (.tup sx dx) (.tup sy dy) (shaped_dWs _) (shaped_dWs _) ?_
        rw [show PyData.eqv (.tuple (ws.map dW)) (.tuple (ws'.map dW)) = decide (ws = ws') from eqv_dWs ws ws']
        rw [show decide (k0 = k' ∧ b = b' ∧ ws = ws') = decide (ws = ws') by simp [c1, c2]] at k
        exact k.bl (Ex.refl _)
      · walk_at "w"
        rw [show decide (k0 = k' ∧ b = b' ∧ ws = ws') = false by simp [c2]] at k
        exact k.bl (Ex.refl _)
    · walk_at "w"
      rw [show decide (k0 = k' ∧ b = b' ∧ ws = ws') = false by simp [c1]] at k
      exact k.bl (Ex.refl _)
  · walk_at "w"
    refine r_isiC (b := false) ty ?_ ?_
    · simp at hn
      rcases hn with rfl | rfl
      · exact E.kit_Maker_tuple
      · exact E.kit_Maker_int
    walk_at "w"
    exact k.bl (Ex.refl _)
theorem ok_Maker_eq {P : Program} {w : World} {K : PySem.W.Frag} {mg : Str → Option Value} {base : Heap} (E : Env P K mg) : EqOf P w K mg base 1 (He.ga K "Maker") (sp2 fun x y H Q _ => ∃ p k b ws, x = .ref p ∧ MakAt K H p k b ws ∧ ((∃ q k' b' ws', y = .ref q ∧ MakAt K H q k' b' ws' ∧ RetD K (.bool (decide (k = k' ∧ b = b' ∧ ws = ws'))) H Q) ∨ (∃ n ∈ ["tuple", "int"], TyX K H y (.type n) ∧ RetD K (.bool false) H Q))) := by
  obtain ⟨fd, F, k⟩ := fx_Maker_eq (P := P) (w := w) (base := base) E
  exact ⟨_, fd, _, E.m_Maker_eq.at_, E.m_Maker_eq.fn, k, F.bindsN (fun _ _ _ _ _ _ us hl => match us, hl with | [_, _], _ => rfl)⟩

end
section
/-- one deed more: what was taken ahead of each give, and in all -/
def tkp (i : Int) (s : List Int × Int) (d : Dd) : List Int × Int := if d = none then (s.1 ++ [s.2], s.2) else if d = some i then (s.1, s.2 + 1) else s
def tkn (i : Int) (ds : List Dd) : List Int × Int := ds.foldl (tkp i) ([], 0)
theorem tkn_snoc (i : Int) (ds : List Dd) (d : Dd) : tkn i (ds ++ [d]) = tkp i (tkn i ds) d := by
  unfold tkn
  rw [List.foldl_append]
  rfl
/-- counts that do not fall, up to a number -/
structure Stn (k : Nat) (s : List Int × Int) : Prop where
  ri : rising s.1
  lo : ∀ n ∈ s.1, 0 ≤ n ∧ n ≤ s.2
  c0 : 0 ≤ s.2
  cl : s.2 ≤ k
  ll : s.1.length ≤ k
theorem tkp_ok {i : Int} {k : Nat} {s : List Int × Int} (h : Stn k s) (d : Dd) : Stn (k + 1) (tkp i s d) := by
  obtain ⟨h1, h2, h3, h4, h5⟩ := h
  unfold tkp
  split
  · refine ⟨rising_app h1 fun n hn => (h2 n hn).2, fun n hn => ?_, h3, by dsimp only; omega, by dsimp only; rw [List.length_append, List.length_singleton]; omega⟩
    rcases List.mem_append.mp hn with hn | hn
    · exact h2 n hn
    · rw [List.mem_singleton] at hn
      dsimp only
      omega
  · split
    · exact ⟨h1, fun n hn => by have := h2 n hn; dsimp only; omega, by dsimp only; omega, by dsimp only; omega, by dsimp only; omega⟩
    · exact ⟨h1, h2, h3, by omega, by omega⟩
theorem tkn_ok (i : Int) (ds : List Dd) : Stn ds.length (tkn i ds) := by
  suffices h : ∀ (ds : List Dd) (k : Nat) (s : List Int × Int), Stn k s → Stn (k + ds.length) (ds.foldl (tkp i) s) by
    have := h ds 0 ([], 0) ⟨fun i hi => absurd hi (by simp), fun n hn => absurd hn List.not_mem_nil, Int.le_refl _, Int.le_refl _, Nat.le_refl _⟩
    rwa [Nat.zero_add] at this
  intro ds
  induction ds with
  | nil => exact fun k s h => h
  | cons d ds ih =>
    intro k s h
    rw [List.foldl_cons, List.length_cons, show k + (ds.length + 1) = k + 1 + ds.length by omega]
    exact ih _ _ (tkp_ok h d)
abbrev spTakes (K : PySem.W.Frag) : Sp := sp2 fun a b H Q _ => ∃ (p : Addr) (ds : List Dd) (i : Int), a = .ref p ∧ b = .int i ∧ SqE K H p (ds.map gV) ∧ ds.length ≤ 50000 ∧ ∀ q t H', Ex H H' → SqT K H' q [.ref t, .int (tkn i ds).2] → H t = none → H' t = some (.lst (vI (tkn i ds).1)) → Q (.ref q) H'
/-- a for over a list or a tuple that stands -/
theorem forE {K : PySem.W.Frag} {a : Addr} {xs : List V} {g : TG} {tb : TS} {D : Ends} {σ : L2.St} {H H0 : Hp} {J : It} (hJ : (J = Itl K a ∧ SqL K H0 a xs) ∨ (J = Itt K a ∧ SqT K H0 a xs)) (Pv : Nat → L2.St → Hp → Prop) (h0 : Pv 0 σ H) (hk : ∀ i σ' H', Pv i σ' H' → Ex H0 H')
    (hb : ∀ i x σ' H', xs[i]? = some x → Pv i σ' H' → g x σ' H' fun σ2 H2 => tb { D with nx := Pv (i + 1), ct := Pv (i + 1), bk := D.nx } σ2 H2) (hd : ∀ σ' H', Pv xs.length σ' H' → D.nx σ' H') : ForJ J g tb D σ H := by
  rcases hJ with ⟨rfl, s⟩ | ⟨rfl, s⟩
  · exact for_list (xs := xs) (Pv := Pv) h0 (fun i σ' H' _ q => ex_l (hk i σ' H' q) s) hb hd
  · exact for_tup (xs := xs) (Pv := Pv) h0 (fun i σ' H' _ q => ex_t (hk i σ' H' q) s) hb hd
abbrev N_takes_ahead : List Str := ["deeds", "inlet", "told", "taken", "deed"]
theorem sc_takes_ahead : FnScope N_takes_ahead ["deeds", "inlet"] (defScope s_takes_ahead) := ⟨rfl, rfl, rfl, by decide +kernel, rfl, by decide +kernel, by decide +kernel⟩
theorem ok_takes_ahead {P : Program} {w : World} {K : PySem.W.Frag} {mg : Str → Option Value} {base : Heap} (E : Env P K mg) : Fn P w K mg base CX0 1 "takes_ahead" (spTakes K) := by
  obtain ⟨fd, F⟩ := E.dd_takes_ahead
  refine Fn.mk0 F E.g_takes_ahead sc_takes_ahead sp2_len (fun _ _ _ _ _ _ us hl => match us, hl with | [_, _], _ => rfl) (fun cdv A outer s H vs Q X hr h => ?_)
  have nd := sc_takes_ahead.nd
  obtain ⟨v0, v1, rfl, h⟩ := h
  refine ⟨_, (pss_cons (ps_set (i := 2) nd rfl (.inl rfl) (pe_lst (pa_nil)))
  (pss_cons (ps_set (i := 3) nd rfl (.inl rfl) (pe_int))
  (pss_cons (ps_for PassesOwn.never rfl (kSeq K (pv 0)) (pg_name (i := 4) nd rfl (.inl rfl))
   (pss_one (ps_if (pt_cmpR (kEq K hr) (pv 4) ((E.k_GIVE).elim fun t e => pe_glob (v := .str "give") (by rfl) e ⟨t, rfl⟩) (nomark _))
   (pss_one (ps_expr (kBM K (pe_bm PySem.F.plainAttrs_list PySem.F.slot_list_append PySem.F.type_list_append mt_append (pv 2) (pa_cons (pv 3) pa_nil)))))
   (pss_one (ps_if (pt_cmpR (kEq K hr) (pv 4) (pv 1) (nomark _))
   (pss_one (ps_aug (i := 3) nd rfl (.inl rfl) (pe_int) ip_add))
   pss_nil)))))
  (pss_one (ps_ret (pe_tup (pa_cons (pv 2) (pa_cons (pv 3) pa_nil)))))))), ?_⟩
  change (_ : TS) _ [some v0, some v1, none, none, none] H
  try dsimp only [cxOf, Cx.nox, Cx.blk]
  obtain ⟨p, ds, it, rfl, rfl, hs, hz, k⟩ := h
  walk_at "w"
  intro t H1 n1 e1 g1
  walk_at "w"
  rcases hs with s | s
  case' inl => refine i_seqL ?_; walk_at "w"
  case' inr => refine i_seqT ?_; walk_at "w"
  all_goals
    refine forE (xs := ds.map gV) (by first | exact .inl ⟨rfl, s⟩ | exact .inr ⟨rfl, s⟩) (Pv := fun i σ' H' => ∃ u : Option V, σ' = [some (.ref p), some (.int it), some (.ref t), some (.int (tkn it (ds.take i)).2), u] ∧ Ex H H' ∧ H' t = some (.lst (vI (tkn it (ds.take i)).1))) ⟨_, rfl, e1, g1⟩ (fun _ _ H' q => by obtain ⟨_, _, e, _⟩ := q; exact e) ?_ ?_
    · rintro i v σ' H' hi ⟨u, rfl, e, g⟩
      have hi2 := (List.getElem?_eq_some_iff.mp hi).1
      rw [List.length_map] at hi2
      rw [List.getElem?_map, List.getElem?_eq_getElem hi2] at hi
      obtain rfl : gV ds[i] = v := Option.some.inj hi
      have e2 : tkn it (ds.take (i + 1)) = tkp it (tkn it (ds.take i)) ds[i] := by
        rw [List.take_add_one, List.getElem?_eq_getElem hi2]
        exact tkn_snoc it _ _
      have zl := (tkn_ok it (ds.take i)).ll
      rw [List.length_take] at zl
      generalize ds[i] = d at *
      rw [e2]
      generalize tkn it (ds.take i) = sd at *
      unfold tkp
      have hsl : SqL K H' t (vI sd.1) := sq_of g
      walk_at "w"
      refine r_eqGive ?_
      by_cases c : d = none
      · rw [decide_eq_true c, if_pos c]
        walk_at "w"
        refine r_app (K := K) g (sz_lt (by rw [List.length_map]; omega)) ?_
        have gg : upd H' t (.lst (vI sd.1 ++ [.int sd.2])) t = some (.lst (vI (sd.1 ++ [sd.2]))) := by
          rw [upd_same]
          show _ = some (HO.lst (List.map V.int _))
          rw [List.map_append]
          rfl
        walk_at "w"
        exact ⟨_, rfl, Ex.mut e n1, gg⟩
      · rw [decide_eq_false c, if_neg c]
        walk_at "w"
        refine r_eqTake ?_
        by_cases c2 : d = some it
        · rw [decide_eq_true c2, if_pos c2]
          walk_at "w"
          refine ⟨_, rfl, ?_⟩
          walk_at "w"
          refine ⟨_, _, rfl, rfl, ?_⟩
          dsimp only [List.set]
          exact ⟨_, rfl, e, g⟩
        · rw [decide_eq_false c2, if_neg c2]
          walk_at "w"
          exact ⟨_, rfl, e, g⟩
    rintro σ' H' ⟨u, rfl, e, g⟩
    rw [List.length_map, List.take_length] at g
    rw [List.length_map, List.take_length]
    walk_at "w"
    intro q H2 n2 e2 g2
    exact k q t H2 (e.trans e2) (st_of g2) n1 (e2 _ _ g)
abbrev N__law_ahead : List Str := ["deeds", "inlet", "told", "taken", "deed"]
theorem sc__law_ahead : FnScope N__law_ahead ["deeds", "inlet"] (defScope s__law_ahead) := ⟨rfl, rfl, rfl, by decide +kernel, rfl, by decide +kernel, by decide +kernel⟩
theorem ok__law_ahead {P : Program} {w : World} {K : PySem.W.Frag} {mg : Str → Option Value} {base : Heap} (E : Env P K mg) : Fn P w K mg base CX0 1 "_law_ahead" (spTakes K) := by
  obtain ⟨fd, F⟩ := E.dd__law_ahead
  refine Fn.mk0 F E.g__law_ahead sc__law_ahead sp2_len (fun _ _ _ _ _ _ us hl => match us, hl with | [_, _], _ => rfl) (fun cdv A outer s H vs Q X hr h => ?_)
  have nd := sc__law_ahead.nd
  obtain ⟨v0, v1, rfl, h⟩ := h
  refine ⟨_, (pss_cons (ps_set (i := 2) nd rfl (.inl rfl) (pe_lst (pa_nil)))
  (pss_cons (ps_set (i := 3) nd rfl (.inl rfl) (pe_int))
  (pss_cons (ps_for PassesOwn.never rfl (kSeq K (pv 0)) (pg_name (i := 4) nd rfl (.inl rfl))
   (pss_one (ps_if (pt_cmpR (kEq K hr) (pv 4) (pe_str) (nomark _))
   (pss_one (ps_expr (kBM K (pe_bm PySem.F.plainAttrs_list PySem.F.slot_list_append PySem.F.type_list_append mt_append (pv 2) (pa_cons (pv 3) pa_nil)))))
   (pss_one (ps_if (pt_cmpR (kEq K hr) (pv 4) (pv 1) (nomark _))
   (pss_one (ps_set (i := 3) nd rfl (.inl rfl) (pe_op (kAdd K) (pv 3) (pe_int))))
   pss_nil)))))
  (pss_one (ps_ret (pe_tup (pa_cons (pv 2) (pa_cons (pv 3) pa_nil)))))))), ?_⟩
  change (_ : TS) _ [some v0, some v1, none, none, none] H
  try dsimp only [cxOf, Cx.nox, Cx.blk]
  obtain ⟨p, ds, it, rfl, rfl, hs, hz, k⟩ := h
  walk_at "w"
  intro t H1 n1 e1 g1
  walk_at "w"
  rcases hs with s | s
  case' inl => refine i_seqL ?_; walk_at "w"
  case' inr => refine i_seqT ?_; walk_at "w"
  all_goals
    refine forE (xs := ds.map gV) (by first | exact .inl ⟨rfl, s⟩ | exact .inr ⟨rfl, s⟩) (Pv := fun i σ' H' => ∃ u : Option V, σ' = [some (.ref p), some (.int it), some (.ref t), some (.int (tkn it (ds.take i)).2), u] ∧ Ex H H' ∧ H' t = some (.lst (vI (tkn it (ds.take i)).1))) ⟨_, rfl, e1, g1⟩ (fun _ _ H' q => by obtain ⟨_, _, e, _⟩ := q; exact e) ?_ ?_
    · rintro i v σ' H' hi ⟨u, rfl, e, g⟩
      have hi2 := (List.getElem?_eq_some_iff.mp hi).1
      rw [List.length_map] at hi2
      rw [List.getElem?_map, List.getElem?_eq_getElem hi2] at hi
      obtain rfl : gV ds[i] = v := Option.some.inj hi
      have e2 : tkn it (ds.take (i + 1)) = tkp it (tkn it (ds.take i)) ds[i] := by
        rw [List.take_add_one, List.getElem?_eq_getElem hi2]
        exact tkn_snoc it _ _
      have zl := (tkn_ok it (ds.take i)).ll
      rw [List.length_take] at zl
      generalize ds[i] = d at *
      rw [e2]
      generalize tkn it (ds.take i) = sd at *
      unfold tkp
      have hsl : SqL K H' t (vI sd.1) := sq_of g
      walk_at "w"
      refine r_eqGive ?_
      by_cases c : d = none
      · rw [decide_eq_true c, if_pos c]
        walk_at "w"
        refine r_app (K := K) g (sz_lt (by rw [List.length_map]; omega)) ?_
        have gg : upd H' t (.lst (vI sd.1 ++ [.int sd.2])) t = some (.lst (vI (sd.1 ++ [sd.2]))) := by
          rw [upd_same]
          show _ = some (HO.lst (List.map V.int _))
          rw [List.map_append]
          rfl
        walk_at "w"
        exact ⟨_, rfl, Ex.mut e n1, gg⟩
      · rw [decide_eq_false c, if_neg c]
        walk_at "w"
        refine r_eqTake ?_
        by_cases c2 : d = some it
        · rw [decide_eq_true c2, if_pos c2]
          walk_at "w"
          exact ⟨_, rfl, e, g⟩
        · rw [decide_eq_false c2, if_neg c2]
          walk_at "w"
          exact ⟨_, rfl, e, g⟩
    rintro σ' H' ⟨u, rfl, e, g⟩
    rw [List.length_map, List.take_length] at g
    rw [List.length_map, List.take_length]
    walk_at "w"
    intro q H2 n2 e2 g2
    exact k q t H2 (e.trans e2) (st_of g2) n1 (e2 _ _ g)
theorem gI_memR {ns : List Int} {r : Int} (r0 : 0 ≤ r) (r1 : r < ns.length) : gI ns r ∈ ns := by
  unfold gI
  rw [List.getD_eq_getElem?_getD, List.getElem?_eq_getElem (show r.toNat < ns.length by omega)]
  exact List.getElem_mem _
theorem gI_mapA {l : List Int} {c : Int} {i : Int} (h0 : 0 ≤ i) (h1 : i < l.length) : gI (l.map (c + ·)) i = c + gI l i := by
  unfold gI
  have h2 : i.toNat < l.length := by omega
  rw [List.getD_eq_getElem?_getD, List.getD_eq_getElem?_getD, List.getElem?_map, List.getElem?_eq_getElem h2]
  rfl
/-- a head and a loop counted through make a table -/
def tbL (s t : List Int × Int) : List Int := t.1.map (s.2 + ·)
def tbR (t : List Int × Int) : Int := if t.1 = [] then 0 else t.2
theorem tb_val {m n : Nat} {s t : List Int × Int} (A : Stn m s) (B : Stn n t) (zm : m ≤ 40000) (zn : n ≤ 40000) : Val s.1 (tbL s t) (tbR t) := by
  unfold tbL tbR
  obtain ⟨a1, a2, a3, a4, a5⟩ := A
  obtain ⟨b1, b2, b3, b4, b5⟩ := B
  have ne : t.1.map (s.2 + ·) ≠ [] → t.1 ≠ [] := fun h e => h (by rw [e]; rfl)
  have r0 : (0 : Int) ≤ (if t.1 = [] then 0 else t.2) ∧ (if t.1 = [] then 0 else t.2) ≤ n := by split <;> omega
  have rr : t.1 ≠ [] → (if t.1 = [] then 0 else t.2) = t.2 := fun h => if_neg h
  refine ⟨fun n hn => (a2 n hn).1, fun n hn => ?_, a1, fun i hi => ?_, r0.1, fun e => if_pos (List.map_eq_nil_iff.mp e), fun h1 h2 => ?_, fun h2 => ?_, ⟨by omega, by omega, by omega, by rw [List.length_map]; omega⟩⟩
  · obtain ⟨m, hm, rfl⟩ := List.mem_map.mp hn
    have := (b2 m hm).1
    omega
  · rw [List.length_map] at hi
    rw [gI_mapA (by omega) (by omega), gI_mapA (by omega) (by omega)]
    have := b1 i hi
    omega
  · have l0 : 0 < t.1.length := List.length_pos_iff.mpr (ne h2)
    have h0 : 0 < s.1.length := List.length_pos_iff.mpr h1
    rw [gI_mapA (by omega) (by omega)]
    have x1 := (a2 _ (gI_memR (ns := s.1) (r := (s.1.length : Int) - 1) (by omega) (by omega))).2
    have x2 := (b2 _ (gI_memR (ns := t.1) (r := 0) (by omega) (by omega))).1
    omega
  · have l0 : 0 < t.1.length := List.length_pos_iff.mpr (ne h2)
    rw [List.length_map, gI_mapA (by omega) (by omega), gI_mapA (by omega) (by omega), rr (ne h2)]
    have x1 := (b2 _ (gI_memR (ns := t.1) (r := (t.1.length : Int) - 1) (by omega) (by omega))).2
    have x2 := (b2 _ (gI_memR (ns := t.1) (r := 0) (by omega) (by omega))).1
    omega
def cntV : V → Int
  | .int i => i
  | _ => 0
theorem map_cnt (c : Int) (l : List Int) : (vI l).map (fun x => V.int (c + cntV x)) = vI (l.map (c + ·)) := by
  show (l.map V.int).map (fun x => V.int (c + cntV x)) = (l.map (c + ·)).map V.int
  rw [List.map_map, List.map_map]
  rfl
/-- the deeds of ways, by their numbers -/
def fl (ws : List (List Dd)) (ns : List Int) : List Dd := (ns.map fun n => ws.getD n.toNat []).flatten
theorem fl_snoc (ws : List (List Dd)) (ns : List Int) (n : Int) : fl ws (ns ++ [n]) = fl ws ns ++ ws.getD n.toNat [] := by
  unfold fl
  rw [List.map_append, List.flatten_append]
  simp
theorem fl_take_le (ws : List (List Dd)) : ∀ (ns : List Int) (i : Nat), (fl ws (ns.take i)).length ≤ (fl ws ns).length
  | [], i => by rw [List.take_nil]; exact Nat.le_refl _
  | n :: ns, 0 => Nat.zero_le _
  | n :: ns, i + 1 => by
    have := fl_take_le ws ns i
    show (fl ws (n :: ns.take i)).length ≤ _
    unfold fl at *
    rw [List.map_cons, List.map_cons, List.flatten_cons, List.flatten_cons, List.length_append, List.length_append]
    omega
/-- way numbers -/
def okN (ws : List (List Dd)) (ns : List Int) : Prop := ∀ n ∈ ns, 0 ≤ n ∧ n < ws.length
/-- a course: first rounds, then rounds -/
def CrsAt (K : PySem.W.Frag) (H : Hp) (v : V) (ns ms : List Int) : Prop := ∃ c p q, v = .ref c ∧ SqE K H c [.ref p, .ref q] ∧ SqE K H p (vI ns) ∧ SqE K H q (vI ms)
theorem crs_ex {K : PySem.W.Frag} {H H' : Hp} {v : V} {ns ms : List Int} (e : Ex H H') (h : CrsAt K H v ns ms) : CrsAt K H' v ns ms := by
  obtain ⟨c, p, q, rfl, a, b, d⟩ := h
  exact ⟨c, p, q, rfl, ex_e e a, ex_e e b, ex_e e d⟩
abbrev N_check_inlet : List Str := ["maker", "inlet"]
theorem sc_check_inlet : FnScope N_check_inlet ["maker", "inlet"] (defScope s_check_inlet) := ⟨rfl, rfl, rfl, by decide +kernel, rfl, by decide +kernel, by decide +kernel⟩
theorem ok_check_inlet {P : Program} {w : World} {K : PySem.W.Frag} {mg : Str → Option Value} {base : Heap} (E : Env P K mg) : Fn P w K mg base CX0 2 "check_inlet" (sp2 fun a b H Q _ => ∃ p k bs ws i, a = .ref p ∧ MakAt K H p k bs ws ∧ b = .int i ∧ 0 ≤ i ∧ i < k ∧ ∀ H', Ex H H' → Q .non H') := by
  obtain ⟨fd, F⟩ := E.dd_check_inlet
  refine Fn.mk0 F E.g_check_inlet sc_check_inlet sp2_len (fun _ _ _ _ _ _ us hl => match us, hl with | [_, _], _ => rfl) (fun cdv A outer s H vs Q X hr h => ?_)
  have nd := sc_check_inlet.nd
  obtain ⟨v0, v1, rfl, h⟩ := h
  refine ⟨_, (pss_one (ps_if (PW.pt (pw_or (pt_not (kTru K (pc (ok_is_integer E) hr (by decide) pass0 rfl (pa_cons (pv 1) pa_nil)) (by intro _; rfl))) (pw_or1 (pt_not (pt_chain op_le op_lt (pe_int) (pv 1) (kFld K (pv 0) rfl))))))
   (pss_one (ps_never))
   pss_nil)), ?_⟩
  change (_ : TS) _ [some v0, some v1] H
  try dsimp only [cxOf, Cx.nox, Cx.blk]
  obtain ⟨p, k0, bs, ws, i, rfl, t, rfl, i0, i1, k⟩ := h
  walk_at "w"
  refine ⟨.int i, .int i, fun v H1 e1 d1 => ?_⟩
  obtain rfl := dp_toBl d1
  walk_at "w"
  refine r_makIn E (ex_mak e1 t) ?_
  walk_at "w"
  exact k _ e1
theorem sqE_int_d {K : PySem.W.Frag} {H : Hp} {a : Addr} {ns : List Int} (h : SqE K H a (vI ns)) : ∃ d, Dp K H (.ref a) d ∧ dIsSeq d = true := by
  rcases h with h | h
  · exact ⟨_, dp_of_intL h, rfl⟩
  · exact ⟨_, dp_of_ints h, rfl⟩
abbrev N_is_way_numbers : List Str := ["thing", "ways", "least", "most", "one"]
theorem sc_is_way_numbers : FnScope N_is_way_numbers ["thing", "ways", "least", "most"] (defScope s_is_way_numbers) := ⟨rfl, rfl, rfl, by decide +kernel, rfl, by decide +kernel, by decide +kernel⟩
theorem ok_is_way_numbers {P : Program} {w : World} {K : PySem.W.Frag} {mg : Str → Option Value} {base : Heap} (E : Env P K mg) : Fn P w K mg base CX0 2 "is_way_numbers" (sp4 fun a b c d H Q _ => ∃ (p : Addr) (ns : List Int) (w lo hi : Int), a = .ref p ∧ SqE K H p (vI ns) ∧ b = .int w ∧ c = .int lo ∧ d = .int hi ∧ lo ≤ ns.length ∧ ns.length ≤ hi ∧ hi ≤ 1000 ∧ (∀ n ∈ ns, 0 ≤ n ∧ n < w) ∧ ∀ H', Ex H H' → Q (.bl true) H') := by
  obtain ⟨fd, F⟩ := E.dd_is_way_numbers
  refine Fn.mk0 F E.g_is_way_numbers sc_is_way_numbers sp4_len (fun _ _ _ _ _ _ us hl => match us, hl with | [_, _, _, _], _ => rfl) (fun cdv A outer s H vs Q X hr h => ?_)
  have nd := sc_is_way_numbers.nd
  obtain ⟨v0, v1, v2, v3, rfl, h⟩ := h
  refine ⟨_, (pss_cons (ps_if (PW.pt (pw_or (pt_not (kTru K (pc (ok_is_listed E) hr (by decide) pass0 rfl (pa_cons (pv 0) pa_nil)) (by intro _; rfl))) (pw_or1 (pt_not (pt_chain op_le op_le (pv 2) (pe_callB (kLen K) (by rfl) E.f_len (by decide +kernel) (pa_cons (pv 0) pa_nil)) (pv 3))))))
   (pss_one (ps_ret (pe_bl)))
   pss_nil)
  (pss_one (ps_ret (pe_callB (kAll K rfl) (by rfl) E.f_all (by decide +kernel) (pa_cons (pe_lc (own := [("one", 4)]) (g := gName 4) (tt := tYes) rfl nd (kSeq K (pv 0)) (blkOk_by (N := N_is_way_numbers) (sc := defScope s_is_way_numbers) (by decide +kernel)) (fun _ _ _ _ _ => pg_name (i := 4) nd rfl (Or.inl rfl)) (fun _ _ _ _ _ => pts_nil) (fun _ _ _ _ _ => pe_and (pc (ok_is_integer E) hr (by decide) pass0 rfl (pa_cons (pv 4) pa_nil)) (pe_one (pe_chain op_le op_lt (pe_int) (pv 4) (pv 1))))) pa_nil))))), ?_⟩
  change (_ : TS) _ [some v0, some v1, some v2, some v3, none] H
  try dsimp only [cxOf, Cx.nox, Cx.blk]
  obtain ⟨p, ns, wn, lo, hi, rfl, s, rfl, rfl, rfl, z1, z2, z3, ok, k⟩ := h
  obtain ⟨d, hd, hq⟩ := sqE_int_d s
  walk_at "w"
  refine ⟨d, .inl hd, fun v H1 e1 d1 => ?_⟩
  rw [hq] at d1
  obtain rfl := dp_toBl d1
  have s1 := ex_e e1 s
  walk_at "w"
  have fin : ∀ (p : Addr) (H2 : Hp), Ex H H2 → H2 p = some (.lst ((vI ns).map fun _ => V.bl true)) → rAll K [.ref p] H2 (fun v H => Q v H) := fun p H2 e2 hp => by
    refine r_all (bs := (vI ns).map fun _ => true) (sq_of hp) (by simp [Function.comp]) ?_
    rw [show ((vI ns).map fun _ => true).all id = true by simp]
    exact k _ e2
  rcases s1 with s | s
  case' inl =>
    refine i_seqL ?_
    walk_at "w"
    refine lcJ_list (v := fun _ => .bl true) s (by rw [List.length_map]; omega) (fun x => [_, _, _, _, some x]) (fun x => rfl) (fun x => rfl) (fun x H2 Q' e2 hx hq => ?_) (fun p H2 n2 e2 hp => ?_)
  case' inr =>
    refine i_seqT ?_
    walk_at "w"
    refine lcJ_tup (v := fun _ => .bl true) s (by rw [List.length_map]; omega) (fun x => [_, _, _, _, some x]) (fun x => rfl) (fun x => rfl) (fun x H2 Q' e2 hx hq => ?_) (fun p H2 n2 e2 hp => ?_)
  all_goals first
    | (walk_at "w"
       exact fin p H2 (e1.trans e2) hp)
    | (obtain ⟨n, hn, rfl⟩ := List.mem_map.mp hx
       obtain ⟨o1, o2⟩ := ok n hn
       walk_at "w"
       refine ⟨.int n, .int n, fun v H3 e3 d3 => ?_⟩
       obtain rfl := dp_toBl d3
       walk_at "w"
       rw [decide_eq_true o2]
       exact hq _ e3)
abbrev N_is_course : List Str := ["maker", "thing", "ways"]
theorem sc_is_course : FnScope N_is_course ["maker", "thing"] (defScope s_is_course) := ⟨rfl, rfl, rfl, by decide +kernel, rfl, by decide +kernel, by decide +kernel⟩
theorem ok_is_course {P : Program} {w : World} {K : PySem.W.Frag} {mg : Str → Option Value} {base : Heap} (E : Env P K mg) : Fn P w K mg base CX0 3 "is_course" (sp2 fun a b H Q _ => ∃ p k bs ws ns ms, a = .ref p ∧ MakAt K H p k bs ws ∧ CrsAt K H b ns ms ∧ okN ws ns ∧ okN ws ms ∧ ns.length ≤ 200 ∧ 1 ≤ ms.length ∧ ms.length ≤ 40 ∧ ∀ H', Ex H H' → Q (.bl true) H') := by
  obtain ⟨fd, F⟩ := E.dd_is_course
  refine Fn.mk0 F E.g_is_course sc_is_course sp2_len (fun _ _ _ _ _ _ us hl => match us, hl with | [_, _], _ => rfl) (fun cdv A outer s H vs Q X hr h => ?_)
  have nd := sc_is_course.nd
  obtain ⟨v0, v1, rfl, h⟩ := h
  refine ⟨_, (pss_cons (ps_if (PW.pt (pw_or (pt_not (kTru K (pc (ok_is_listed E) hr (by decide) pass0 rfl (pa_cons (pv 1) pa_nil)) (by intro _; rfl))) (pw_or1 (pt_cmpR (kNe K hr) (pe_callB (kLen K) (by rfl) E.f_len (by decide +kernel) (pa_cons (pv 1) pa_nil)) (pe_int) (nomark _)))))
   (pss_one (ps_ret (pe_bl)))
   pss_nil)
  (pss_cons (ps_set (i := 2) nd rfl (.inl rfl) (pe_callB (kLen K) (by rfl) E.f_len (by decide +kernel) (pa_cons (kFld K (pv 0) rfl) pa_nil)))
  (pss_one (ps_ret (pe_and (pc (ok_is_way_numbers E) hr (by decide) pass0 rfl (pa_cons (pe_ix (kIx K) (pv 1) (pe_int) (fun _ _ => rfl)) (pa_cons (pv 2) (pa_cons (pe_int) (pa_cons ((E.k_MOST_FIRST).elim fun t e => pe_glob (v := .int 200) (by rfl) e ⟨t, rfl⟩) pa_nil))))) (pe_one (pc (ok_is_way_numbers E) hr (by decide) pass0 rfl (pa_cons (pe_ix (kIx K) (pv 1) (pe_int) (fun _ _ => rfl)) (pa_cons (pv 2) (pa_cons (pe_int) (pa_cons ((E.k_MOST_THEN).elim fun t e => pe_glob (v := .int 40) (by rfl) e ⟨t, rfl⟩) pa_nil))))))))))), ?_⟩
  change (_ : TS) _ [some v0, some v1, none] H
  try dsimp only [cxOf, Cx.nox, Cx.blk]
  obtain ⟨p, k0, bs, ws, ns, ms, rfl, t, ⟨c, p1, p2, rfl, sc, s1, s2⟩, o1, o2, z1, z2, z3, k⟩ := h
  walk_at "w"
  obtain ⟨d1, hd1, _⟩ := sqE_int_d s1
  obtain ⟨d2, hd2, _⟩ := sqE_int_d s2
  have hd : ∃ d, Dp K H (.ref c) d ∧ dIsSeq d = true := by
    rcases sc with s | s
    · exact ⟨.list [d1, d2], .lst s (.cons hd1 (.cons hd2 .nil)), rfl⟩
    · exact ⟨.tuple [d1, d2], .tup s (.cons hd1 (.cons hd2 .nil)), rfl⟩
  obtain ⟨d, hd, hq⟩ := hd
  refine ⟨d, .inl hd, fun v H1 e1 q1 => ?_⟩
  rw [hq] at q1
  obtain rfl := dp_toBl q1
  walk_at "w"
  refine r_lenE (ex_e e1 sc) ?_
  walk_at "w"
  refine r_makWa E (ex_mak e1 t) fun pw xs sx dx => ?_
  have zl := (dpAll_len dx).trans (List.length_map ..)
  walk_at "w"
  refine r_ixE (ex_e e1 sc) (v := .ref p1) rfl ?_
  walk_at "w"
  refine ⟨p1, ns, _, 0, 200, rfl, ex_e e1 s1, rfl, rfl, rfl, by omega, by omega, by decide, fun n hn => by have := o1 n hn; omega, fun H2 e2 => ?_⟩
  walk_at "w"
  refine r_ixE (ex_e (e1.trans e2) sc) (v := .ref p2) rfl ?_
  walk_at "w"
  exact ⟨p2, ms, _, 1, 40, rfl, ex_e (e1.trans e2) s2, rfl, rfl, rfl, by omega, by omega, by decide, fun n hn => by have := o2 n hn; omega, fun H3 e3 => k _ ((e1.trans e2).trans e3)⟩

end
section
theorem way_get {K : PySem.W.Frag} {H : Hp} {xs : List V} {ws : List (List Dd)} {n : Int} (h : DpAll K H xs (ws.map dW)) (n0 : 0 ≤ n) (n1 : n < ws.length) : ∃ q, atI xs n = some (.ref q) ∧ SqT K H q ((ws.getD n.toNat []).map gV) := by
  have zl := (dpAll_len h).trans (List.length_map ..)
  have hl : n.toNat < xs.length := by omega
  have hw : n.toNat < ws.length := by omega
  obtain ⟨d, h1, h2⟩ := dpAll_get h (List.getElem?_eq_getElem hl)
  rw [List.getElem?_map, List.getElem?_eq_getElem hw] at h1
  have h1 : dW ws[n.toNat] = d := Option.some.inj h1
  subst h1
  obtain ⟨q, e, s⟩ := dp_dW h2
  refine ⟨q, atI_pos n0 (by rw [List.getElem?_eq_getElem hl, e]), ?_⟩
  rw [List.getD_eq_getElem?_getD, List.getElem?_eq_getElem hw]
  exact s
noncomputable def ndP (i : Int) (bs : List Dd) (ws : List (List Dd)) (ns ms : List Int) : List Int × List Int × Int := plainF (tkn i (bs ++ fl ws ns)).1 (tbL (tkn i (bs ++ fl ws ns)) (tkn i (fl ws ms))) (tbR (tkn i (fl ws ms)))
abbrev spNeed (K : PySem.W.Frag) : Sp := sp3 fun a b c H Q _ => ∃ (p : Addr) (k : Int) (bs : List Dd) (ws : List (List Dd)) (i : Int) (ns ms : List Int), a = .ref p ∧ MakAt K H p k bs ws ∧ b = .int i ∧ 0 ≤ i ∧ i < k ∧ CrsAt K H c ns ms ∧ okN ws ns ∧ okN ws ms ∧ ns.length ≤ 200 ∧ 1 ≤ ms.length ∧ ms.length ≤ 40 ∧
  (bs ++ fl ws ns).length ≤ 40000 ∧ (fl ws ms).length ≤ 40000 ∧ ∀ t H2, Ex H H2 → TabAt K H2 t (ndP i bs ws ns ms).1 (ndP i bs ws ns ms).2.1 (ndP i bs ws ns ms).2.2 → Q (.ref t) H2
abbrev N_need_on : List Str := ["maker", "inlet", "course", "deeds", "number", "head", "taken", "again", "loop", "rise", "more"]
theorem sc_need_on : FnScope N_need_on ["maker", "inlet", "course"] (defScope s_need_on) := ⟨rfl, rfl, rfl, by decide +kernel, rfl, by decide +kernel, by decide +kernel⟩
theorem ok_need_on {P : Program} {w : World} {K : PySem.W.Frag} {mg : Str → Option Value} {base : Heap} (E : Env P K mg) : Fn P w K mg base CX0 12 "need_on" (spNeed K) := by
  obtain ⟨fd, F⟩ := E.dd_need_on
  refine Fn.mk0 F E.g_need_on sc_need_on sp3_len (fun _ _ _ _ _ _ us hl => match us, hl with | [_, _, _], _ => rfl) (fun cdv A outer s H vs Q X hr h => ?_)
  have nd := sc_need_on.nd
  obtain ⟨v0, v1, v2, rfl, h⟩ := h
  refine ⟨_, (pss_cons (ps_set (i := 3) nd rfl (.inl rfl) (pe_callTy (kLst K) (by rfl) E.f_list (by decide +kernel) (pa_cons (kFld K (pv 0) rfl) pa_nil)))
  (pss_cut (ps_for PassesOwn.never rfl (kSeq K (pe_ix (kIx K) (pv 2) (pe_int) (fun _ _ => rfl))) (pg_name (i := 4) nd rfl (.inl rfl))
   (pss_one (ps_set (i := 3) nd rfl (.inl rfl) (pe_op (kAdd K) (pv 3) (pe_callTy (kLst K) (by rfl) E.f_list (by decide +kernel) (pa_cons (pe_ix (kIx K) (kFld K (pv 0) rfl) (pv 4) (fun _ _ => rfl)) pa_nil))))))
  (pss_cons (ps_asg (pc (ok_takes_ahead E) hr (by decide) pass0 rfl (pa_cons (pv 3) (pa_cons (pv 1) pa_nil))) (kGtup K rfl (pgs_cons (pg_name (i := 5) nd rfl (.inl rfl)) (pgs_cons (pg_name (i := 6) nd rfl (.inr rfl)) (pgs_nil)))))
  (pss_cons (ps_set (i := 7) nd rfl (.inl rfl) (pe_lst (pa_nil)))
  (pss_cut (ps_for PassesOwn.never rfl (kSeq K (pe_ix (kIx K) (pv 2) (pe_int) (fun _ _ => rfl))) (pg_name (i := 4) nd rfl (.inl rfl))
   (pss_one (ps_set (i := 7) nd rfl (.inl rfl) (pe_op (kAdd K) (pv 7) (pe_callTy (kLst K) (by rfl) E.f_list (by decide +kernel) (pa_cons (pe_ix (kIx K) (kFld K (pv 0) rfl) (pv 4) (fun _ _ => rfl)) pa_nil))))))
  (pss_cons (ps_asg (pc (ok_takes_ahead E) hr (by decide) pass0 rfl (pa_cons (pv 7) (pa_cons (pv 1) pa_nil))) (kGtup K rfl (pgs_cons (pg_name (i := 8) nd rfl (.inl rfl)) (pgs_cons (pg_name (i := 9) nd rfl (.inl rfl)) (pgs_nil)))))
  (pss_cons (ps_if (pt_cmpR (kEq K hr) (pe_callB (kLen K) (by rfl) E.f_len (by decide +kernel) (pa_cons (pv 8) pa_nil)) (pe_int) (nomark _))
   (pss_one (ps_ret (pmk (ok_Table1 E) hr (by decide) pass0 rfl (pa_cons (pv 5) pa_nil))))
   pss_nil)
  (pss_one (ps_ret (pmk (ok_Table3 E) hr (by decide) pass0 rfl (pa_cons (pv 5) (pa_cons (pe_lc (own := [("more", 10)]) (g := gName 10) (tt := tYes) rfl nd (kSeq K (pv 8)) (blkOk_by (N := N_need_on) (sc := defScope s_need_on) (by decide +kernel)) (fun _ _ _ _ _ => pg_name (i := 10) nd rfl (Or.inl rfl)) (fun _ _ _ _ _ => pts_nil) (fun _ _ _ _ _ => pe_op (kAdd K) (pv 6) (pv 10))) (pa_cons (pv 9) pa_nil))))))))))))), ?_⟩
  change (_ : TS) _ [some v0, some v1, some v2, none, none, none, none, none, none, none, none] H
  try dsimp only [cxOf, Cx.nox, Cx.blk]
  obtain ⟨p, k0, bs, ws, it, ns, ms, rfl, t, rfl, i0, i1, ⟨c, p1, p2, rfl, sc, s1, s2⟩, o1, o2, z1, z2, z3, zd, za, k⟩ := h
  have W := tb_val (tkn_ok it (bs ++ fl ws ns)) (tkn_ok it (fl ws ms)) zd za
  unfold ndP at k
  walk_at "w"
  refine r_makBe E t fun a sa => ?_
  walk_at "w"
  intro pd0 H1 n1 e1 g1
  refine w_cut (M := fun σ' H' => ∃ (pd : Addr) (u : Option V), σ' = [some (.ref p), some (.int it), some (.ref c), some (.ref pd), u, none, none, none, none, none, none] ∧ Ex H H' ∧ H' pd = some (.lst ((bs ++ fl ws ns).map gV))) ?_ ?_
  dsimp only [List.set]
  walk_at "w"
  rcases s1 with s | s
  case' inl =>
    refine i_seqL ?_
    walk_at "w"
    refine r_ixE (ex_e e1 sc) (v := .ref p1) rfl ?_
    walk_at "w"
  case' inr =>
    refine i_seqT ?_
    walk_at "w"
    refine r_ixE (ex_e e1 sc) (v := .ref p1) rfl ?_
    walk_at "w"
  iterate 2
   focus
    refine forE (xs := vI ns) (by first | exact .inl ⟨rfl, s⟩ | exact .inr ⟨rfl, s⟩) (Pv := fun i σ' H' => ∃ (pd : Addr) (u : Option V), σ' = [some (.ref p), some (.int it), some (.ref c), some (.ref pd), u, none, none, none, none, none, none] ∧ Ex H H' ∧ H' pd = some (.lst ((bs ++ fl ws (ns.take i)).map gV))) ⟨pd0, _, rfl, e1, by rw [g1]; simp [fl]⟩ (fun _ _ H' q => by obtain ⟨_, _, _, e, _⟩ := q; exact e) ?_ ?_
    · rintro i v σ' H' hi ⟨pd, u, rfl, e, g⟩
      have hi2 := (List.getElem?_eq_some_iff.mp hi).1
      rw [List.length_map] at hi2
      rw [List.getElem?_map, List.getElem?_eq_getElem hi2] at hi
      obtain rfl : V.int ns[i] = v := Option.some.inj hi
      obtain ⟨q0, q1⟩ := o1 ns[i] (List.getElem_mem _)
      have e2 : bs ++ fl ws (ns.take (i + 1)) = (bs ++ fl ws (ns.take i)) ++ ws.getD ns[i].toNat [] := by
        rw [List.take_add_one, List.getElem?_eq_getElem hi2]
        show bs ++ fl ws (ns.take i ++ [ns[i]]) = _
        rw [fl_snoc, List.append_assoc]
      have zl : (bs ++ fl ws (ns.take (i + 1))).length ≤ 40000 := by
        have := fl_take_le ws ns (i + 1)
        rw [List.length_append] at zd ⊢
        omega
      generalize ns[i] = nn at *
      rw [e2] at zl ⊢
      generalize bs ++ fl ws (ns.take i) = ds at *
      walk_at "w"
      refine r_makWa E (ex_mak e t) fun pw xs sx dx => ?_
      obtain ⟨q, ha, sq⟩ := way_get dx q0 q1
      walk_at "w"
      refine r_ixT sx ha ?_
      walk_at "w"
      intro pl H2 n2 e3 g2
      walk_at "w"
      refine r_addL (e3 _ _ g) g2 (sz_of (by rw [List.length_map, List.length_map]; rw [List.length_append] at zl; omega)) fun pd2 H3 n3 e4 g3 => ?_
      walk_at "w"
      refine ⟨pd2, _, rfl, (e.trans e3).trans e4, ?_⟩
      rw [g3, List.map_append]
    · rintro σ' H2 ⟨pd, u, rfl, e, g⟩
      rw [List.length_map, List.take_length] at g
      exact ⟨pd, _, rfl, e, g⟩
  rintro σ' H2 ⟨pd, u, rfl, e, g⟩
  walk_at "w"
  refine ⟨pd, _, it, rfl, rfl, .inl (sq_of g), by omega, fun q tl H3 e3 sq nt gt => ?_⟩
  walk_at "w"
  intro pa0 H4 n4 e4 g4
  have E4 := (e.trans e3).trans e4
  have gt4 := e4 _ _ gt
  clear sq nt g gt
  refine w_cut (M := fun σ' H' => ∃ (pa : Addr) (u : Option V), σ' = [some (.ref p), some (.int it), some (.ref c), some (.ref pd), u, some (.ref tl), some (.int (tkn it (bs ++ fl ws ns)).2), some (.ref pa), none, none, none] ∧ Ex H4 H' ∧ H' pa = some (.lst ((fl ws ms).map gV))) ?_ ?_
  dsimp only [List.set]
  walk_at "w"
  rcases s2 with s | s
  case' inl =>
    refine i_seqL ?_
    walk_at "w"
    refine r_ixE (ex_e E4 sc) (v := .ref p2) rfl ?_
    walk_at "w"
  case' inr =>
    refine i_seqT ?_
    walk_at "w"
    refine r_ixE (ex_e E4 sc) (v := .ref p2) rfl ?_
    walk_at "w"
  iterate 2
   focus
    refine forE (xs := vI ms) (by first | exact .inl ⟨rfl, s⟩ | exact .inr ⟨rfl, s⟩) (Pv := fun i σ' H' => ∃ (pa : Addr) (u : Option V), σ' = [some (.ref p), some (.int it), some (.ref c), some (.ref pd), u, some (.ref tl), some (.int (tkn it (bs ++ fl ws ns)).2), some (.ref pa), none, none, none] ∧ Ex H H' ∧ Ex H4 H' ∧ H' pa = some (.lst ((fl ws (ms.take i)).map gV))) ⟨pa0, _, rfl, E4, Ex.refl _, by rw [g4]; simp [fl]⟩ (fun _ _ H' q => by obtain ⟨_, _, _, e, _⟩ := q; exact e) ?_ ?_
    · rintro i v σ' H' hi ⟨pa, u, rfl, e, e', g⟩
      have hi2 := (List.getElem?_eq_some_iff.mp hi).1
      rw [List.length_map] at hi2
      rw [List.getElem?_map, List.getElem?_eq_getElem hi2] at hi
      obtain rfl : V.int ms[i] = v := Option.some.inj hi
      obtain ⟨q0, q1⟩ := o2 ms[i] (List.getElem_mem _)
      have e2 : fl ws (ms.take (i + 1)) = (fl ws (ms.take i)) ++ ws.getD ms[i].toNat [] := by
        rw [List.take_add_one, List.getElem?_eq_getElem hi2]
        show fl ws (ms.take i ++ [ms[i]]) = _
        rw [fl_snoc]
      have zl : (fl ws (ms.take (i + 1))).length ≤ 40000 := by
        have := fl_take_le ws ms (i + 1)
        omega
      generalize ms[i] = nn at *
      rw [e2] at zl ⊢
      generalize fl ws (ms.take i) = ds at *
      walk_at "w"
      refine r_makWa E (ex_mak e t) fun pw xs sx dx => ?_
      obtain ⟨q, ha, sq⟩ := way_get dx q0 q1
      walk_at "w"
      refine r_ixT sx ha ?_
      walk_at "w"
      intro pl H2 n2 e3 g2
      walk_at "w"
      refine r_addL (e3 _ _ g) g2 (sz_of (by rw [List.length_map, List.length_map]; rw [List.length_append] at zl; omega)) fun pd2 H3 n3 e4 g3 => ?_
      walk_at "w"
      refine ⟨pd2, _, rfl, (e.trans e3).trans e4, (e'.trans e3).trans e4, ?_⟩
      rw [g3, List.map_append]
    · rintro σ' H2 ⟨pa, u, rfl, e, e', g⟩
      rw [List.length_map, List.take_length] at g
      exact ⟨pa, _, rfl, e', g⟩
  rintro σ' H5 ⟨pa, u, rfl, e5, g5⟩
  walk_at "w"
  refine ⟨pa, _, it, rfl, rfl, .inl (sq_of g5), by omega, fun q2 t2 H6 e6 sq2 nt2 gt2 => ?_⟩
  have E6 := (E4.trans e5).trans e6
  have sh : SqL K H6 tl (vI (tkn it (bs ++ fl ws ns)).1) := sq_of (e6 _ _ (e5 _ _ gt4))
  have sl : SqL K H6 t2 (vI (tkn it (fl ws ms)).1) := sq_of gt2
  have zz := (tkn_ok it (fl ws ms)).ll
  unfold tbL tbR at W k
  walk_at "w"
  by_cases cc : (tkn it (fl ws ms)).1 = []
  · rw [if_pos cc, cc] at W k
    have c0 : ((tkn it (fl ws ms)).1.length : Int) = 0 := by rw [cc]; rfl
    walk_at "w"
    exact mk_tab (b1 := false) (b2 := true) rfl (dp_of_intL sh) (dp_of_ints (ns := []) (E.t0_Table _)) (.int 0) W fun x H7 e7 T => k x H7 (E6.trans e7) T
  · rw [if_neg cc] at W k
    have l0 : 0 < (tkn it (fl ws ms)).1.length := List.length_pos_iff.mpr cc
    walk_at "w"
    refine i_seqL ?_
    walk_at "w"
    refine lcJ_list (v := fun x => .int ((tkn it (bs ++ fl ws ns)).2 + cntV x)) sl (by rw [List.length_map]; omega) (fun x => [_, _, _, _, _, _, _, _, _, _, some x]) (fun x => rfl) (fun x => rfl) (fun x H3 Q' e3 hx hq => ?_) (fun p3 H3 n3 e3 g3 => ?_)
    · obtain ⟨n, hn, rfl⟩ := List.mem_map.mp hx
      walk_at "w"
      exact hq _ (Ex.refl _)
    · rw [map_cnt] at g3
      walk_at "w"
      exact mk_tab (b1 := false) (b2 := false) rfl (dp_of_intL (ex_l e3 sh)) (dp_of_intL (sq_of g3)) (.int _) W fun x H4 e4 T => k x H4 ((E6.trans e3).trans e4) T
abbrev N_Maker_need : List Str := ["self", "inlet", "course"]
theorem sc_Maker_need : FnScope N_Maker_need ["self", "inlet", "course"] (defScope s_Maker_need) := ⟨rfl, rfl, rfl, by decide +kernel, rfl, by decide +kernel, by decide +kernel⟩
theorem fx_Maker_need {P : Program} {w : World} {K : PySem.W.Frag} {mg : Str → Option Value} {base : Heap} (E : Env P K mg) : ∃ fd, FunD K "need" "Maker.need" (defArgs s_Maker_need) (defBody s_Maker_need) (defScope s_Maker_need) (d_Maker_need.dvs K) [] (d_Maker_need.adr K) fd ∧ FnOk P w K mg base CX0 13 (d_Maker_need.adr K) fd ["self", "inlet", "course"] (spNeed K) := by
  obtain ⟨fd, F⟩ := E.dd_Maker_need
  refine ⟨fd, F, fnok0 F sc_Maker_need sp3_len (fun cdv A outer s H vs Q X hr h => ?_)⟩
  have nd := sc_Maker_need.nd
  obtain ⟨v0, v1, v2, rfl, h⟩ := h
  refine ⟨_, (pss_cons (ps_expr (pc (ok_check_inlet E) hr (by decide) pass0 rfl (pa_cons (pv 0) (pa_cons (pv 1) pa_nil))))
  (pss_cons (ps_if (pt_not (kTru K (pc (ok_is_course E) hr (by decide) pass0 rfl (pa_cons (pv 0) (pa_cons (pv 2) pa_nil))) (by intro _; rfl)))
   (pss_one (ps_never))
   pss_nil)
  (pss_one (ps_ret (pc (ok_need_on E) hr (by decide) pass0 rfl (pa_cons (pv 0) (pa_cons (pv 1) (pa_cons (pv 2) pa_nil)))))))), ?_⟩
  change (_ : TS) _ [some v0, some v1, some v2] H
  try dsimp only [cxOf, Cx.nox, Cx.blk]
  obtain ⟨p, k0, bs, ws, it, ns, ms, rfl, t, rfl, i0, i1, hc, o1, o2, z1, z2, z3, zd, za, k⟩ := h
  walk_at "w"
  refine ⟨p, k0, bs, ws, it, rfl, t, rfl, i0, i1, fun H1 e1 => ?_⟩
  walk_at "w"
  refine ⟨p, k0, bs, ws, ns, ms, rfl, ex_mak e1 t, crs_ex e1 hc, o1, o2, z1, z2, z3, fun H2 e2 => ?_⟩
  walk_at "w"
  exact ⟨p, k0, bs, ws, it, ns, ms, rfl, ex_mak (e1.trans e2) t, rfl, i0, i1, crs_ex (e1.trans e2) hc, o1, o2, z1, z2, z3, zd, za, fun x H3 e3 T => k x H3 ((e1.trans e2).trans e3) T⟩
theorem ok_Maker_need {P : Program} {w : World} {K : PySem.W.Frag} {mg : Str → Option Value} {base : Heap} (E : Env P K mg) : Mt P w K mg base CX0 13 (He.ga K "Maker") "need" (spNeed K) := by
  obtain ⟨fd, F, k⟩ := fx_Maker_need (P := P) (w := w) (base := base) E
  exact ⟨_, fd, _, E.c_Maker, E.m_Maker_need, k, F.bindsN (fun _ _ _ _ _ _ us hl => match us, hl with | [_, _, _], _ => rfl)⟩

end
section
/-- all but lists stand -/
def Ls (H H' : Hp) : Prop := ∀ a o, H a = some o → (∀ zs, o ≠ .lst zs) → H' a = some o
section
variable {K : PySem.W.Frag} {H H' H2 : Hp} {a p x : Addr} {xs ys : List V}
theorem Ls.of (e : Ex H H') : Ls H H' := fun a o h _ => e a o h
theorem Ls.trans (l : Ls H H') (m : Ls H' H2) : Ls H H2 := fun a o h n => m a o (l a o h n) n
theorem Ls.upd (h : H p = some (.lst xs)) : Ls H (upd H p (.lst ys)) := fun a o ha hn => by
  have : a ≠ p := by
    rintro rfl
    rw [h] at ha
    exact hn xs (Option.some.inj ha).symm
  rw [upd_ne this]
  exact ha
theorem Ls.fr (f : Fr a H H') (s : SrcAt H a) : Ls H H' := fun b o hb hn => by
  obtain ⟨d, s, c, h1, _⟩ := s
  have : b ≠ a := by
    rintro rfl
    rw [h1] at hb
    exact hn _ (Option.some.inj hb).symm
  exact f b o this hb
theorem Ls.tex (l : Ls H H') : TEx H H' := fun b ys q => by
  rcases q with q | ⟨o', q⟩
  · exact .inl (l _ _ q fun _ e => nomatch e)
  · exact .inr ⟨o', l _ _ q fun _ e => nomatch e⟩
theorem ls_t (l : Ls H H') (s : SqT K H a xs) : SqT K H' a xs := tex_t l.tex s
end
/-- a comprehension over a range, whose element draws from the source at s -/
theorem lcS_range {K : PySem.W.Frag} {H : Hp} {Q : VK} {n j : Nat} {te : TE} {vs : List Nat} {σ : L2.St} {s : Addr} (P : V → Prop) (hn : n ≤ 100000) (hs : SrcAt H s) (σ' : V → L2.St) (hσ : ∀ x, (wipe σ vs).set j (some x) = σ' x) (hw : ∀ x, wipe ((wipe σ vs).set j (some x)) vs = wipe σ vs)
    (he : ∀ (i : Nat) (H1 : Hp) (Q' : VK), Fr s H H1 → SrcAt H1 s → i < n → (∀ v H2, P v → Fr s H1 H2 → SrcAt H2 s → Q' v H2) → te (σ' (.int (i : Int))) H1 Q')
    (hq : ∀ p H2 ys, H p = none → Fr s H H2 → SrcAt H2 s → H2 p = some (.lst ys) → ys.length = n → (∀ y ∈ ys, P y) → Q (.ref p) H2) : LcJ (Itr 0 n) (gName j) tYes te vs σ H Q := fun D hD =>
  lc_range (Pv := fun i H' => Fr s H H' ∧ SrcAt H' s ∧ ∃ ys, H' D = some (.lst ys) ∧ ys.length = i ∧ ∀ y ∈ ys, P y) ⟨Fr.of (Ex.new hD), hs.ex (Ex.new hD), [], upd_same, rfl, fun y hy => absurd hy List.not_mem_nil⟩ (fun i H' hi ⟨f, q, ys, g, hl, hp⟩ => ⟨hw _, by
    show te ((wipe σ vs).set j _) H' _
    rw [hσ, Int.zero_add]
    refine he i H' _ f q hi fun v H2 pv f2 q2 => ?_
    have hne : D ≠ s := hs.ne hD
    refine ⟨ys, f2 D _ hne g, sz_lt (by omega), fun b o nb hb => ?_, ?_, ys ++ [v], upd_same, by rw [List.length_append, hl]; rfl, fun y hy => ?_⟩
    · rw [upd_ne (ne_of_none hb hD)]
      exact f2 b o nb (f b o nb hb)
    · obtain ⟨d, s2, c, w1, w2⟩ := q2
      exact ⟨d, s2, c, by rw [upd_ne hne.symm]; exact w1, w2⟩
    · rcases List.mem_append.mp hy with hy | hy
      · exact hp y hy
      · rw [List.mem_singleton.mp hy]
        exact pv⟩) fun H' ⟨f, q, ys, g, hl, hp⟩ => hq D H' ys hD f q g hl hp
theorem src_fr {x y : Addr} {H H' : Hp} (n : x ≠ y) (f : Fr y H H') (q : SrcAt H x) : SrcAt H' x := by
  obtain ⟨d, s, c, w1, w2⟩ := q
  exact ⟨d, s, c, f _ _ n w1, w2⟩
theorem l_fr {K : PySem.W.Frag} {a x : Addr} {H0 H H' : Hp} {xs : List V} (f : Fr x H H') (s0 : SqL K H0 a xs) (n : H0 x = none) (s : SqL K H a xs) : SqL K H' a xs := by
  rcases s0 with s0 | s0
  · have hne : a ≠ x := by
      rintro rfl
      rcases s0 with q | ⟨o', q⟩ <;> rw [n] at q <;> cases q
    rcases s with s | s
    · rcases s with q | ⟨o', q⟩
      · exact .inl (.inl (f _ _ hne q))
      · exact .inl (.inr ⟨o', f _ _ hne q⟩)
    · exact .inr s
  · exact .inr s0
theorem dp_toOpt {K : PySem.W.Frag} {H : Hp} {v : V} {o : Option Int} (h : Dp K H v (dOpt o)) : v = optV o := by
  cases o with
  | none => exact dp_toNon h
  | some i => exact dp_toInt h
theorem r_neB {K : PySem.W.Frag} {i j : Bool} {H : Hp} {Q : VK} (h : Q (.bl (!decide (i = j))) H) : rNeU K (.bl i) (.bl j) H Q := .inl ⟨rfl, by
  rw [show decide (V.bl i = V.bl j) = decide (i = j) from decide_eq_decide.mpr ⟨V.bl.inj, congrArg _⟩]
  exact h⟩
theorem r_neSS {K : PySem.W.Frag} {x : Str} {H : Hp} {Q : VK} (h : Q (.bl false) H) : rNeU K (.str x) (.str x) H Q := .inl ⟨rfl, by
  rw [decide_eq_true rfl]
  exact h⟩
theorem r_repL {K : PySem.W.Frag} {l : Addr} {k : Int} {xs : List V} {H : Hp} {Q : VK} (h : H l = some (.lst xs)) (h1 : 0 ≤ k) (h2 : k < 1000) (hz : xs.length * k.toNat ≤ sizeLine) (q : ∀ p H1, H p = none → Ex H H1 → H1 p = some (.lst (List.replicate k.toNat xs).flatten) → Q (.ref p) H1) : rMul K (.ref l) (.int k) H Q :=
  .inr (.inl ⟨l, k, xs, rfl, rfl, h, by omega, by omega, hz, fun p hp => q p _ hp (Ex.new hp) upd_same⟩)

end
section
--@import PyProof.AutoSeq1
/-! list.extend of a tuple -/
open PySem.AutoSeq1 in
theorem list_extend_tup (l : Addr) (items : Array Value) (n : Nat) (b : Addr) (items2 : Array Value) (n2 : Nat) (dd : Option Addr) (sl : Array (Option Value)) (hs0 : ¬(!items.isEmpty && Builtin.List.listTooLong (items.size + items2.size)) = true) (hs1 : items.size ≤ sizeLine) (hs2 : items.size + items2.size ≤ sizeLine + 1) :
    Meets (Builtin.«list.extend» ⟨[.ref l, .ref b], []⟩) (fun _ R s => s.heap.get? l = some { cls := .type "list", dict := none, data := .seq items n, slots := #[] } ∧ s.heap.get? b = some { cls := .type "tuple", dict := dd, data := .seq items2 n2, slots := sl } ∧ R (.ok (.ret Value.none)) { s with heap := s.heap.update l (Obj.mapSeq fun x => x ++ items2), toks := s.toks }) :=
  .of_wp fun prog w A R s h => by
    obtain ⟨hp, g, d, tk, os⟩ := s
    obtain ⟨hl, hb, h⟩ := h
    have f1 := PySem.AutoSeq1.idx_int
    have f2 := PySem.AutoSeq1.sub_tuple_tuple
    have f3 := PySem.AutoSeq1.sub_list_list
    have f4 := PySem.AutoSeq1.sub_tuple_list
    have f5 := PySem.AutoSeq1.sub_list_tuple
    have hz' : (items ++ items2).size ≤ sizeLine + 1 := by rw [Array.size_append]; exact hs2
    wp_walk using (wpAny_updateSeq hl rfl (hz := hs1) (_hz' := hz')), wpAny_loadPart' hl, wpAny_loadPart' hb
    exact ⟨_, rfl, h⟩
def rExtT (K : PySem.W.Frag) : V → List V → Hp → VK → Prop := fun x vs H Q => ∃ l b xs zs, x = .ref l ∧ vs = [.ref b] ∧ H l = some (.lst xs) ∧ SqT K H b zs ∧ xs.length + zs.length ≤ sizeLine ∧ Q .non (upd H l (.lst (xs ++ zs)))
theorem mt_extT {X : Cx} : MtM X "list.extend" (rExtT X.K) := by
  intro pins s σ H x vs v us Q I rx rv h
  obtain ⟨l, b, xs, zs, rfl, rfl, hH, hB, hz, q⟩ := h
  cases rx
  obtain ⟨u, rfl, ru⟩ := rv.one
  cases ru
  obtain ⟨z, its, n, r, hl, e⟩ := I.lstM hH
  obtain ⟨its2, r2, ⟨o2, e2, c2, n2, d2⟩, hl2⟩ := I.tuple hB
  have hl3 := r2.length
  obtain ⟨oc, od, odt, osl⟩ := o2
  dsimp only at c2 d2
  subst c2 d2
  have hsz : its.toArray.size + its2.toArray.size ≤ sizeLine := by rw [List.size_toArray, List.size_toArray]; omega
  have hlong : ¬ (!its.toArray.isEmpty && Builtin.List.listTooLong (its.toArray.size + its2.toArray.size)) = true := by
    rw [notLongL hsz, Bool.and_false]
    exact Bool.false_ne_true
  refine call_meets F.slot_list_extend ⟨_, e, rfl⟩ F.entry_list_extend (F.args_list_extend_2 _ _)
    (list_extend_tup l its.toArray n b its2.toArray n2 od osl hlong (by rw [List.size_toArray]; omega) (by omega)) ⟨e, e2, ?_⟩
  refine ⟨.non, _, I.lset (its' := its ++ its2) hH e (by simp) (r.append r2) ?_, rfl, q⟩
  rw [List.length_append]
  omega
theorem kExtT (K : PySem.W.Frag) {X : Cx} (h : X.K = K := by rfl) : MtM X "list.extend" (rExtT K) := by subst h; exact mt_extT
theorem r_extT {K : PySem.W.Frag} {l b : Addr} {xs zs : List V} {H : Hp} {Q : VK} (h : H l = some (.lst xs)) (hb : SqT K H b zs) (hz : xs.length + zs.length ≤ sizeLine) (q : Q .non (upd H l (.lst (xs ++ zs)))) : rExtT K (.ref l) [.ref b] H Q := ⟨l, b, xs, zs, rfl, rfl, h, hb, hz, q⟩
/-! x in, not in a list or a tuple of flat values -/
theorem kInF (K : PySem.W.Frag) {X : Cx} (h : X.K = K := by rfl) : OpR X (compareOp .In) (rIn K false) := by subst h; exact op_in_seq
theorem kNotInF (K : PySem.W.Frag) {X : Cx} (h : X.K = K := by rfl) : OpR X (compareOp .NotIn) (rIn K true) := by subst h; exact op_notIn_seq
theorem r_inF {K : PySem.W.Frag} {x : V} {p : Addr} {xs : List V} {H : Hp} {Q : VK} (h : SqE K H p xs) (fx : flatV x = true) (fs : xs.all flatV = true) (q : Q (.bl (inV x xs)) H) : rIn K false x (.ref p) H Q := ⟨p, xs, rfl, h, fx, fs, q⟩
theorem r_notInF {K : PySem.W.Frag} {x : V} {p : Addr} {xs : List V} {H : Hp} {Q : VK} (h : SqE K H p xs) (fx : flatV x = true) (fs : xs.all flatV = true) (q : Q (.bl (!inV x xs)) H) : rIn K true x (.ref p) H Q := ⟨p, xs, rfl, h, fx, fs, q⟩

end
section
abbrev spDeeds (K : PySem.W.Frag) : Sp := sp4 fun s a b c H Q _ => ∃ (x : Addr) (k : Int) (n : Nat) (g : Int), s = .ref x ∧ a = .int k ∧ b = .int n ∧ c = .int g ∧ 1 ≤ k ∧ k ≤ 3 ∧ n ≤ 1000 ∧ SrcAt H x ∧ ∀ (p : Addr) (ds : List Dd) (H' : Hp), H p = none → Fr x H H' → SrcAt H' x → H' p = some (.lst (ds.map gV)) → ds.length = n → (∀ d ∈ ds, okD k d) → Q (.ref p) H'
theorem gV_app (ds : List Dd) (d : Dd) : ds.map gV ++ [gV d] = (ds ++ [d]).map gV := by rw [List.map_append]; rfl
theorem dp_mk {K : PySem.W.Frag} {H : Hp} {v : V} {k : Int} {b : List Dd} {ws : List (List Dd)} (h : Dp K H v (dMk k b ws)) : ∃ a pb pw xs, v = .ref a ∧ SqT K H a [.int k, .ref pb, .ref pw] ∧ SqT K H pb (b.map gV) ∧ SqT K H pw xs ∧ DpAll K H xs (ws.map dW) := by
  obtain ⟨a, x, y, z, rfl, s, h1, h2, h3⟩ := dp_t3 h
  obtain rfl := dp_toInt h1
  obtain ⟨pb, rfl, s1⟩ := dp_dW h2
  obtain ⟨pw, xs, rfl, s2, d⟩ := dp_ways h3
  exact ⟨a, pb, pw, xs, rfl, s, s1, s2, d⟩
theorem dp_of_mk {K : PySem.W.Frag} {H : Hp} {a pb pw : Addr} {xs : List V} {k : Int} {b : List Dd} {ws : List (List Dd)} (s : SqT K H a [.int k, .ref pb, .ref pw]) (s1 : SqT K H pb (b.map gV)) (s2 : SqT K H pw xs) (d : DpAll K H xs (ws.map dW)) : Dp K H (.ref a) (dMk k b ws) :=
  .tup s (.cons (.int k) (.cons (dp_of_dW s1) (.cons (.tup s2 d) .nil)))
theorem imm_dMk (k : Int) (b : List Dd) (ws : List (List Dd)) : imm (dMk k b ws) = true := by
  show (true && (imm (dW b) && (imm (.tuple (ws.map dW)) && true))) = true
  rw [imm_dW, imm_dWs]
  rfl
abbrev spLawOn (K : PySem.W.Frag) : Sp := sp3 fun a b c H Q _ => ∃ (k : Int) (bs : List Dd) (ws : List (List Dd)) (i : Int) (ns ms : List Int), Dp K H a (dMk k bs ws) ∧ b = .int i ∧ CrsAt K H c ns ms ∧ okN ws ns ∧ okN ws ms ∧ ns.length ≤ 200 ∧ 1 ≤ ms.length ∧ ms.length ≤ 40 ∧ (bs ++ fl ws ns).length ≤ 40000 ∧ (fl ws ms).length ≤ 40000 ∧ RetD K (dRaw (ndP i bs ws ns ms).1 (ndP i bs ws ns ms).2.1 (ndP i bs ws ns ms).2.2) H Q
abbrev N__law_on : List Str := ["maker", "inlet", "course", "deeds", "number", "head", "taken", "again", "loop", "rise", "more"]
theorem sc__law_on : FnScope N__law_on ["maker", "inlet", "course"] (defScope s__law_on) := ⟨rfl, rfl, rfl, by decide +kernel, rfl, by decide +kernel, by decide +kernel⟩
theorem ok__law_on {P : Program} {w : World} {K : PySem.W.Frag} {mg : Str → Option Value} {base : Heap} (E : Env P K mg) : Fn P w K mg base CX0 2 "_law_on" (spLawOn K) := by
  obtain ⟨fd, F⟩ := E.dd__law_on
  refine Fn.mk0 F E.g__law_on sc__law_on sp3_len (fun _ _ _ _ _ _ us hl => match us, hl with | [_, _, _], _ => rfl) (fun cdv A outer s H vs Q X hr h => ?_)
  have nd := sc__law_on.nd
  obtain ⟨v0, v1, v2, rfl, h⟩ := h
  refine ⟨_, (pss_cons (ps_set (i := 3) nd rfl (.inl rfl) (pe_callTy (kLst K) (by rfl) E.f_list (by decide +kernel) (pa_cons (pe_ix (kIx K) (pv 0) (pe_int) (fun _ _ => rfl)) pa_nil)))
  (pss_cut (ps_for PassesOwn.never rfl (kSeq K (pe_ix (kIx K) (pv 2) (pe_int) (fun _ _ => rfl))) (pg_name (i := 4) nd rfl (.inl rfl))
   (pss_one (ps_expr (kBM K (pe_bm PySem.F.plainAttrs_list PySem.F.slot_list_extend PySem.F.type_list_extend (kExtT K) (pv 3) (pa_cons (pe_ix (kIx K) (pe_ix (kIx K) (pv 0) (pe_int) (fun _ _ => rfl)) (pv 4) (fun _ _ => rfl)) pa_nil))))))
  (pss_cons (ps_asg (pc (ok__law_ahead E) hr (by decide) pass0 rfl (pa_cons (pv 3) (pa_cons (pv 1) pa_nil))) (kGtup K rfl (pgs_cons (pg_name (i := 5) nd rfl (.inl rfl)) (pgs_cons (pg_name (i := 6) nd rfl (.inr rfl)) (pgs_nil)))))
  (pss_cons (ps_set (i := 7) nd rfl (.inl rfl) (pe_lst (pa_nil)))
  (pss_cut (ps_for PassesOwn.never rfl (kSeq K (pe_ix (kIx K) (pv 2) (pe_int) (fun _ _ => rfl))) (pg_name (i := 4) nd rfl (.inl rfl))
   (pss_one (ps_expr (kBM K (pe_bm PySem.F.plainAttrs_list PySem.F.slot_list_extend PySem.F.type_list_extend (kExtT K) (pv 7) (pa_cons (pe_ix (kIx K) (pe_ix (kIx K) (pv 0) (pe_int) (fun _ _ => rfl)) (pv 4) (fun _ _ => rfl)) pa_nil))))))
  (pss_cons (ps_asg (pc (ok__law_ahead E) hr (by decide) pass0 rfl (pa_cons (pv 7) (pa_cons (pv 1) pa_nil))) (kGtup K rfl (pgs_cons (pg_name (i := 8) nd rfl (.inl rfl)) (pgs_cons (pg_name (i := 9) nd rfl (.inl rfl)) (pgs_nil)))))
  (pss_one (ps_ret (pc (ok__law_plain E) hr (by decide) pass0 rfl (pa_cons (pv 5) (pa_cons (pe_lc (own := [("more", 10)]) (g := gName 10) (tt := tYes) rfl nd (kSeq K (pv 8)) (blkOk_by (N := N__law_on) (sc := defScope s__law_on) (by decide +kernel)) (fun _ _ _ _ _ => pg_name (i := 10) nd rfl (Or.inl rfl)) (fun _ _ _ _ _ => pts_nil) (fun _ _ _ _ _ => pe_op (kAdd K) (pv 6) (pv 10))) (pa_cons (pe_ifExp (pt_cmpR op_gt (pe_callB (kLen K) (by rfl) E.f_len (by decide +kernel) (pa_cons (pv 8) pa_nil)) (pe_int) (nomark _)) (pv 9) (pe_int)) pa_nil)))))))))))), ?_⟩
  change (_ : TS) _ [some v0, some v1, some v2, none, none, none, none, none, none, none, none] H
  try dsimp only [cxOf, Cx.nox, Cx.blk]
  obtain ⟨k0, bs, ws, it, ns, ms, hd, rfl, ⟨c, p1, p2, rfl, sc, s1, s2⟩, o1, o2, z1, z2, z3, zd, za, k⟩ := h
  obtain ⟨am, pb, pw, xs, rfl, sm, sb, sx, dx⟩ := dp_mk hd
  have W := tb_val (tkn_ok it (bs ++ fl ws ns)) (tkn_ok it (fl ws ms)) zd za
  unfold ndP at k
  walk_at "w"
  intro pd H1 n1 e1 g1
  refine w_cut (M := fun σ' H' => ∃ u : Option V, σ' = [some (.ref am), some (.int it), some (.ref c), some (.ref pd), u, none, none, none, none, none, none] ∧ Ex H H' ∧ H' pd = some (.lst ((bs ++ fl ws ns).map gV))) ?_ ?_
  dsimp only [List.set]
  walk_at "w"
  rcases s1 with s | s
  case' inl =>
    refine i_seqL ?_
    walk_at "w"
    refine r_ixE (ex_e e1 sc) (v := .ref p1) rfl ?_
    walk_at "w"
  case' inr =>
    refine i_seqT ?_
    walk_at "w"
    refine r_ixE (ex_e e1 sc) (v := .ref p1) rfl ?_
    walk_at "w"
  iterate 2
   focus
    refine forE (xs := vI ns) (by first | exact .inl ⟨rfl, s⟩ | exact .inr ⟨rfl, s⟩) (Pv := fun i σ' H' => ∃ u : Option V, σ' = [some (.ref am), some (.int it), some (.ref c), some (.ref pd), u, none, none, none, none, none, none] ∧ Ex H H' ∧ H' pd = some (.lst ((bs ++ fl ws (ns.take i)).map gV))) ⟨_, rfl, e1, by rw [g1]; simp [fl]⟩ (fun _ _ H' q => by obtain ⟨_, _, e, _⟩ := q; exact e) ?_ ?_
    · rintro i v σ' H' hi ⟨u, rfl, e, g⟩
      have hi2 := (List.getElem?_eq_some_iff.mp hi).1
      rw [List.length_map] at hi2
      rw [List.getElem?_map, List.getElem?_eq_getElem hi2] at hi
      obtain rfl : V.int ns[i] = v := Option.some.inj hi
      obtain ⟨q0, q1⟩ := o1 ns[i] (List.getElem_mem _)
      have e2 : bs ++ fl ws (ns.take (i + 1)) = (bs ++ fl ws (ns.take i)) ++ ws.getD ns[i].toNat [] := by
        rw [List.take_add_one, List.getElem?_eq_getElem hi2]
        show bs ++ fl ws (ns.take i ++ [ns[i]]) = _
        rw [fl_snoc, List.append_assoc]
      have zl : (bs ++ fl ws (ns.take (i + 1))).length ≤ 40000 := by
        have := fl_take_le ws ns (i + 1)
        rw [List.length_append] at zd ⊢
        omega
      generalize ns[i] = nn at *
      rw [e2] at zl ⊢
      generalize bs ++ fl ws (ns.take i) = ds at *
      have hsl : SqL K H' pd (ds.map gV) := sq_of g
      walk_at "w"
      obtain ⟨q, ha, sq⟩ := way_get dx q0 q1
      refine r_ixT (ex_t e sx) ha ?_
      walk_at "w"
      refine r_extT g (ex_t e sq) (sz_of (by rw [List.length_map, List.length_map]; rw [List.length_append] at zl; omega)) ?_
      walk_at "w"
      refine ⟨_, rfl, Ex.mut e n1, ?_⟩
      rw [upd_same, List.map_append]
    · rintro σ' H2 ⟨u, rfl, e, g⟩
      rw [List.length_map, List.take_length] at g
      exact ⟨_, rfl, e, g⟩
  rintro σ' H2 ⟨u, rfl, e, g⟩
  walk_at "w"
  refine ⟨pd, _, it, rfl, rfl, .inl (sq_of g), by omega, fun q tl H3 e3 sq nt gt => ?_⟩
  walk_at "w"
  intro pa H4 n4 e4 g4
  have E4 := (e.trans e3).trans e4
  have gt4 := e4 _ _ gt
  clear sq nt g
  refine w_cut (M := fun σ' H' => ∃ u : Option V, σ' = [some (.ref am), some (.int it), some (.ref c), some (.ref pd), u, some (.ref tl), some (.int (tkn it (bs ++ fl ws ns)).2), some (.ref pa), none, none, none] ∧ Ex H3 H' ∧ H' pa = some (.lst ((fl ws ms).map gV))) ?_ ?_
  dsimp only [List.set]
  walk_at "w"
  rcases s2 with s | s
  case' inl =>
    refine i_seqL ?_
    walk_at "w"
    refine r_ixE (ex_e E4 sc) (v := .ref p2) rfl ?_
    walk_at "w"
  case' inr =>
    refine i_seqT ?_
    walk_at "w"
    refine r_ixE (ex_e E4 sc) (v := .ref p2) rfl ?_
    walk_at "w"
  iterate 2
   focus
    refine forE (xs := vI ms) (by first | exact .inl ⟨rfl, s⟩ | exact .inr ⟨rfl, s⟩) (Pv := fun i σ' H' => ∃ u : Option V, σ' = [some (.ref am), some (.int it), some (.ref c), some (.ref pd), u, some (.ref tl), some (.int (tkn it (bs ++ fl ws ns)).2), some (.ref pa), none, none, none] ∧ Ex H H' ∧ Ex H3 H' ∧ H' pa = some (.lst ((fl ws (ms.take i)).map gV))) ⟨_, rfl, E4, e4, by rw [g4]; simp [fl]⟩ (fun _ _ H' q => by obtain ⟨_, _, e, _⟩ := q; exact e) ?_ ?_
    · rintro i v σ' H' hi ⟨u, rfl, e, e', g⟩
      have hi2 := (List.getElem?_eq_some_iff.mp hi).1
      rw [List.length_map] at hi2
      rw [List.getElem?_map, List.getElem?_eq_getElem hi2] at hi
      obtain rfl : V.int ms[i] = v := Option.some.inj hi
      obtain ⟨q0, q1⟩ := o2 ms[i] (List.getElem_mem _)
      have e2 : fl ws (ms.take (i + 1)) = (fl ws (ms.take i)) ++ ws.getD ms[i].toNat [] := by
        rw [List.take_add_one, List.getElem?_eq_getElem hi2]
        show fl ws (ms.take i ++ [ms[i]]) = _
        rw [fl_snoc]
      have zl : (fl ws (ms.take (i + 1))).length ≤ 40000 := by
        have := fl_take_le ws ms (i + 1)
        omega
      generalize ms[i] = nn at *
      rw [e2] at zl ⊢
      generalize fl ws (ms.take i) = ds at *
      have hsl : SqL K H' pa (ds.map gV) := sq_of g
      walk_at "w"
      obtain ⟨q, ha, sq⟩ := way_get dx q0 q1
      refine r_ixT (ex_t e sx) ha ?_
      walk_at "w"
      refine r_extT g (ex_t e sq) (sz_of (by rw [List.length_map, List.length_map]; rw [List.length_append] at zl; omega)) ?_
      walk_at "w"
      refine ⟨_, rfl, Ex.mut e (fresh_back ((‹Ex H H2›).trans e3) n4), Ex.mut e' n4, ?_⟩
      rw [upd_same, List.map_append]
    · rintro σ' H2 ⟨u, rfl, e, e', g⟩
      rw [List.length_map, List.take_length] at g
      exact ⟨_, rfl, e', g⟩
  rintro σ' H5 ⟨u, rfl, e5, g5⟩
  walk_at "w"
  refine ⟨pa, _, it, rfl, rfl, .inl (sq_of g5), by omega, fun q2 t2 H6 e6 sq2 nt2 gt2 => ?_⟩
  have E6 := ((e.trans e3).trans e5).trans e6
  have sh : SqL K H6 tl (vI (tkn it (bs ++ fl ws ns)).1) := sq_of (e6 _ _ (e5 _ _ gt))
  have sl : SqL K H6 t2 (vI (tkn it (fl ws ms)).1) := sq_of gt2
  have zz := (tkn_ok it (fl ws ms)).ll
  unfold tbL tbR at W k
  walk_at "w"
  refine i_seqL ?_
  walk_at "w"
  refine lcJ_list (v := fun x => .int ((tkn it (bs ++ fl ws ns)).2 + cntV x)) sl (by rw [List.length_map]; omega) (fun x => [_, _, _, _, _, _, _, _, _, _, some x]) (fun x => rfl) (fun x => rfl) (fun x H3 Q' e3 hx hq => ?_) (fun p3 H3 n3 e3 g3 => ?_)
  · obtain ⟨n, hn, rfl⟩ := List.mem_map.mp hx
    walk_at "w"
    exact hq _ (Ex.refl _)
  · rw [map_cnt] at g3
    have sl3 := ex_l e3 sl
    walk_at "w"
    by_cases cc : (tkn it (fl ws ms)).1 = []
    · rw [if_pos cc] at W k
      have c0 : ((tkn it (fl ws ms)).1.length : Int) = 0 := by rw [cc]; rfl
      walk_at "w"
      refine ⟨false, false, _, _, 0, dp_of_intL (ex_l e3 sh), dp_of_intL (sq_of g3), .int 0, Int.le_refl 0, W.sm, fun v H4 e4 d4 => ?_⟩
      rw [lawF_eq] at d4
      exact k v H4 ((E6.trans e3).trans e4) d4
    · rw [if_neg cc] at W k
      have l0 : 0 < (tkn it (fl ws ms)).1.length := List.length_pos_iff.mpr cc
      walk_at "w"
      refine ⟨false, false, _, _, _, dp_of_intL (ex_l e3 sh), dp_of_intL (sq_of g3), .int _, W.r0, W.sm, fun v H4 e4 d4 => ?_⟩
      rw [lawF_eq] at d4
      exact k v H4 ((E6.trans e3).trans e4) d4

end
section
theorem tk_from (i : Int) : ∀ (ds : List Dd) (s : List Int × Int), ds.foldl (tkp i) s = (s.1 ++ (tkn i ds).1.map (s.2 + ·), s.2 + (tkn i ds).2)
  | [], s => by
    show s = (s.1 ++ [], s.2 + 0)
    rw [List.append_nil, Int.add_zero]
  | d :: ds, s => by
    have e : tkn i (d :: ds) = ds.foldl (tkp i) (tkp i ([], 0) d) := rfl
    rw [e, List.foldl_cons, tk_from i ds (tkp i s d), tk_from i ds (tkp i ([], 0) d)]
    unfold tkp
    by_cases c : d = none
    · simp only [if_pos c]
      refine Prod.ext ?_ ?_
      · simp
      · simp
    · by_cases c2 : d = some i
      · simp only [if_neg c, if_pos c2]
        refine Prod.ext ?_ ?_
        · simp
          intro a _
          omega
        · simp
          omega
      · simp only [if_neg c, if_neg c2]
        simp
theorem tkn_app (i : Int) (a b : List Dd) : tkn i (a ++ b) = ((tkn i a).1 ++ (tkn i b).1.map ((tkn i a).2 + ·), (tkn i a).2 + (tkn i b).2) := by
  unfold tkn
  rw [List.foldl_append]
  exact tk_from i b _
theorem rep_el {i : Int} {m : List Dd} (hl : (tkn i m).1 ≠ []) : ∀ g : Nat, (tkn i (List.replicate g m).flatten).1.length = g * (tkn i m).1.length ∧ ∀ k : Nat, k < g * (tkn i m).1.length → gI (tkn i (List.replicate g m).flatten).1 k = extL (tkn i m).1 (tkn i m).2 k
  | 0 => ⟨by simp [tkn], fun k hk => by simp at hk⟩
  | g + 1 => by
    obtain ⟨h1, h2⟩ := rep_el hl g
    have e : (List.replicate (g + 1) m).flatten = m ++ (List.replicate g m).flatten := rfl
    rw [e, tkn_app]
    have L0 : 0 < (tkn i m).1.length := List.length_pos_iff.mpr hl
    refine ⟨?_, fun k hk => ?_⟩
    · show ((tkn i m).1 ++ (tkn i (List.replicate g m).flatten).1.map ((tkn i m).2 + ·)).length = _
      rw [List.length_append, List.length_map, h1, Nat.succ_mul, Nat.add_comm]
    · show gI ((tkn i m).1 ++ (tkn i (List.replicate g m).flatten).1.map ((tkn i m).2 + ·)) k = _
      by_cases c : k < (tkn i m).1.length
      · rw [extL_small c]
        unfold gI
        rw [Int.toNat_natCast, List.getD_eq_getElem?_getD, List.getD_eq_getElem?_getD, List.getElem?_append_left c]
      · obtain ⟨d, hd⟩ : ∃ d : Nat, k = (tkn i m).1.length + d := ⟨k - (tkn i m).1.length, by omega⟩
        have hd2 : d < g * (tkn i m).1.length := by rw [Nat.succ_mul] at hk; omega
        have e2 : gI ((tkn i m).1 ++ (tkn i (List.replicate g m).flatten).1.map ((tkn i m).2 + ·)) k = (tkn i m).2 + gI (tkn i (List.replicate g m).flatten).1 d := by
          rw [← gI_mapA (by omega) (by rw [h1]; omega)]
          unfold gI
          rw [Int.toNat_natCast, Int.toNat_natCast, List.getD_eq_getElem?_getD, List.getD_eq_getElem?_getD, List.getElem?_append_right (by omega), hd, Nat.add_sub_cancel_left]
        rw [e2, h2 d hd2, hd]
        have := extL_per (r := (tkn i m).2) hl (d : Int)
        rw [show (((tkn i m).1.length + d : Nat) : Int) = (d : Int) + (tkn i m).1.length by omega, this]
        omega
/-- the values of the table are what walking tells -/
theorem walk_TV {i : Int} {b m : List Dd} {g j : Nat} (hj : j < g) : TV (tkn i b).1 (tbL (tkn i b) (tkn i m)) (tbR (tkn i m)) j = (tkn i (b ++ (List.replicate g m).flatten)).1[j]? := by
  rw [tkn_app]
  show _ = ((tkn i b).1 ++ (tkn i (List.replicate g m).flatten).1.map ((tkn i b).2 + ·))[j]?
  unfold TV tbL tbR
  by_cases hl : (tkn i m).1 = []
  · have e : (tkn i (List.replicate g m).flatten).1 = [] := by
      clear hj
      induction g with
      | zero => rfl
      | succ g ih =>
        rw [show (List.replicate (g + 1) m).flatten = m ++ (List.replicate g m).flatten from rfl, tkn_app]
        show (tkn i m).1 ++ _ = []
        rw [hl, ih]
        rfl
    rw [hl, e, List.map_nil, if_pos rfl, List.append_nil]
  · obtain ⟨h1, h2⟩ := rep_el hl g
    have L0 : 0 < (tkn i m).1.length := List.length_pos_iff.mpr hl
    rw [if_neg (fun e => hl (List.map_eq_nil_iff.mp e)), if_neg hl]
    by_cases c : j < (tkn i b).1.length
    · rw [fV_head c, List.getElem?_append_left c, gI_get c]
    · have hk : j - (tkn i b).1.length < g * (tkn i m).1.length := Nat.lt_of_lt_of_le (show j - (tkn i b).1.length < g by omega) (Nat.le_mul_of_pos_right _ L0)
      rw [fV_loop (by omega), List.getElem?_append_right (by omega), List.getElem?_map, gI_get (by rw [h1]; exact hk), h2 _ hk]
      show some _ = some _
      congr 1
      unfold extL
      rw [List.length_map, show ((j - (tkn i b).1.length : Nat) : Int) = (j : Int) - (tkn i b).1.length by omega]
      have m0 := Int.emod_nonneg ((j : Int) - (tkn i b).1.length) (show ((tkn i m).1.length : Int) ≠ 0 by omega)
      have m1 := Int.emod_lt_of_pos ((j : Int) - (tkn i b).1.length) (show (0 : Int) < (tkn i m).1.length by omega)
      rw [gI_mapA m0 m1]
      show (tkn i b).2 + _ + _ = (tkn i b).2 + (_ + _)
      omega
/-- one round more, if not enough was told -/
def wk1 (g : Nat) (i : Int) (s : List Int × Int) (w : List Dd) : List Int × Int := if g ≤ s.1.length then s else w.foldl (tkp i) s
theorem wk_done {g : Nat} {i : Int} {s : List Int × Int} (h : g ≤ s.1.length) : ∀ ws : List (List Dd), ws.foldl (wk1 g i) s = s
  | [] => rfl
  | w :: ws => by
    rw [List.foldl_cons, show wk1 g i s w = s from if_pos h]
    exact wk_done h ws
theorem wk_full {g : Nat} {i : Int} : ∀ (ws : List (List Dd)) (s : List Int × Int), ws.foldl (wk1 g i) s = ws.flatten.foldl (tkp i) s ∨ (g ≤ (ws.foldl (wk1 g i) s).1.length ∧ ∃ t, (ws.flatten.foldl (tkp i) s).1 = (ws.foldl (wk1 g i) s).1 ++ t)
  | [], s => .inl rfl
  | w :: ws, s => by
    by_cases c : g ≤ s.1.length
    · rw [wk_done c]
      exact .inr ⟨c, _, by rw [tk_from]⟩
    · rw [List.foldl_cons, show wk1 g i s w = w.foldl (tkp i) s from if_neg c, List.flatten_cons, List.foldl_append]
      exact wk_full ws _
theorem wk_len {i : Int} : ∀ (ws : List (List Dd)) (s : List Int × Int), (∀ w ∈ ws, w.length ≤ 600) → s.1.length ≤ 700 → (ws.foldl (wk1 30 i) s).1.length ≤ 700
  | [], s, _, h => h
  | w :: ws, s, hw, h => by
    rw [List.foldl_cons]
    refine wk_len ws _ (fun u hu => hw u (List.mem_cons_of_mem _ hu)) ?_
    unfold wk1
    split
    · exact h
    · rw [tk_from]
      have a := (tkn_ok i w).ll
      have b := hw w List.mem_cons_self
      show (s.1 ++ (tkn i w).1.map (s.2 + ·)).length ≤ 700
      rw [List.length_append, List.length_map]
      omega
/-- the row that is told -/
def rowW (s : List Int × Int) : List V := (vI s.1 ++ List.replicate 30 V.non).take 30
theorem rowW_el (s : List Int × Int) : rowW s = (List.range 30).map fun j => optV s.1[j]? := by
  unfold rowW
  apply List.ext_getElem
  · simp
  · intro j h1 h2
    have hj : j < 30 := by simpa using h2
    rw [List.getElem_take, List.getElem_map, List.getElem_range]
    by_cases c : j < s.1.length
    · rw [List.getElem_append_left (by rw [List.length_map]; exact c), List.getElem_map, List.getElem?_eq_getElem c]
      rfl
    · rw [List.getElem_append_right (by rw [List.length_map]; omega), List.getElem_replicate, List.getElem?_eq_none (by omega)]
      rfl
theorem rowW_full {i : Int} (ws : List (List Dd)) : rowW (ws.foldl (wk1 30 i) ([], 0)) = rowW (tkn i ws.flatten) := by
  rcases wk_full (g := 30) (i := i) ws ([], 0) with h | ⟨h, t, e⟩
  · rw [h]; rfl
  · rw [rowW_el, rowW_el]
    apply List.map_congr_left
    intro j hj
    have hj := List.mem_range.mp hj
    show _ = optV (ws.flatten.foldl (tkp i) ([], 0)).1[j]?
    rw [e, List.getElem?_append_left (by omega)]
/-- the rounds of a course -/
def rwl (ws : List (List Dd)) (bs : List Dd) (ns ms : List Int) (g : Nat) : List (List Dd) := (bs :: ns.map fun n => ws.getD n.toNat []) ++ (List.replicate g (ms.map fun n => ws.getD n.toNat [])).flatten
theorem rwl_flat (ws : List (List Dd)) (bs : List Dd) (ns ms : List Int) (g : Nat) : (rwl ws bs ns ms g).flatten = (bs ++ fl ws ns) ++ (List.replicate g (fl ws ms)).flatten := by
  unfold rwl fl
  rw [List.flatten_append, List.flatten_cons]
  congr 1
  induction g with
  | zero => rfl
  | succ g ih =>
    show ((ms.map fun n => ws.getD n.toNat []) ++ (List.replicate g (ms.map fun n => ws.getD n.toNat [])).flatten).flatten = _
    rw [List.flatten_append, ih]
    rfl
theorem row_TV {i : Int} {ws : List (List Dd)} {bs : List Dd} {ns ms : List Int} : rowW ((rwl ws bs ns ms 30).foldl (wk1 30 i) ([], 0)) = (List.range 30).map fun j => optV (TV (tkn i (bs ++ fl ws ns)).1 (tbL (tkn i (bs ++ fl ws ns)) (tkn i (fl ws ms))) (tbR (tkn i (fl ws ms))) j) := by
  rw [rowW_full, rwl_flat, rowW_el]
  apply List.map_congr_left
  intro j hj
  rw [walk_TV (List.mem_range.mp hj)]
theorem rwl_len {ws : List (List Dd)} {bs : List Dd} {ns ms : List Int} {g : Nat} (hb : bs.length ≤ 600) (hw : ∀ w ∈ ws, w.length ≤ 600) : ∀ w ∈ rwl ws bs ns ms g, w.length ≤ 600 := by
  have key : ∀ n : Int, (ws.getD n.toNat []).length ≤ 600 := fun n => by
    rw [List.getD_eq_getElem?_getD]
    cases e : ws[n.toNat]? with
    | none => exact Nat.zero_le _
    | some w => exact hw w (List.mem_of_getElem? e)
  intro w h
  unfold rwl at h
  rcases List.mem_append.mp h with h | h
  · rcases List.mem_cons.mp h with rfl | h
    · exact hb
    · obtain ⟨n, _, rfl⟩ := List.mem_map.mp h
      exact key n
  · obtain ⟨l, hl, hw2⟩ := List.mem_flatten.mp h
    rw [(List.mem_replicate.mp hl).2] at hw2
    obtain ⟨n, _, rfl⟩ := List.mem_map.mp hw2
    exact key n

end
section
abbrev N_WrongNumber_init : List Str := ["self", "number", "__class__"]
abbrev rest_WrongNumber_init : List Stmt := (defBody s_WrongNumber_init).drop 1
theorem sc_WrongNumber_init : NdefX.NScope N_WrongNumber_init ["self", "number"] ["__class__"] (defScope s_WrongNumber_init) := NdefX.nscope_by (by decide +kernel)
theorem fx_WrongNumber_init {P : Program} {w : World} {K : PySem.W.Frag} {mg : Str → Option Value} {base : Heap} (E : Env P K mg) : ∃ fd, FunS K "__init__" "WrongNumber.__init__" (defArgs s_WrongNumber_init) (defBody s_WrongNumber_init) (defScope s_WrongNumber_init) (d_WrongNumber_init.adr K) fd (cellOf K (d_WrongNumber_init.adr K)) (codeOf K (d_WrongNumber_init.adr K)) ∧ FnOk P w K mg base CX0 1 (d_WrongNumber_init.adr K) fd ["self", "number"] (spXN K (He.ga K "WrongNumber") "number") := by
  obtain ⟨fd, F⟩ := E.dd_WrongNumber_init
  refine ⟨fd, F, XS.fnsupx (rest := rest_WrongNumber_init) (k := 0) F E.supx_WrongNumber rfl sc_WrongNumber_init (by decide +kernel) rfl rfl rfl sp2_len (fun A outer s H vs Q X hr h => ?_)⟩
  have nd := sc_WrongNumber_init.nd
  obtain ⟨v0, v1, rfl, x, C, w, rfl, rfl, hw1, hw2, hx, T, U, hf, k⟩ := h
  have js_len : ∀ {y : Str}, y.length ≤ 100000 → y.length ≤ sizeLine := fun q => sz_of q
  refine ⟨_, _, x, C, pe_joined (.cons pe_str (.cons (pe_fmt (pv 1)) (.cons pe_str (.nil)))), pss_one (ps_ost (pv 0) (pv 1)), rfl, hx, T, U, ?_⟩
  have lc0 : ("item " : Str).length = 5 := by decide +kernel
  have lc1 : (" does not have the form that is asked for" : Str).length = 41 := by decide +kernel
  have lce : (Str.empty).length = 0 := by decide +kernel
  have hw := sml_len hw1 hw2
  refine w_js (w_c ⟨_, rfl, ?_, ?_⟩)
  · exact js_len (by simp only [sapp_len, lce, lc0, lc1]; omega)
  refine w_js (w_fmtN rfl (sml_log hw1 hw2) ⟨_, rfl, ?_, ?_⟩)
  · exact js_len (by simp only [sapp_len, lce, lc0, lc1]; omega)
  refine w_js (w_c ⟨_, rfl, ?_, ?_⟩)
  · exact js_len (by simp only [sapp_len, lce, lc0, lc1]; omega)
  refine w_js0 ⟨rfl, hx, ?_⟩
  exact ⟨.int w, rfl, .ref x, rfl, x, C, rfl, T, hf, .inl ⟨hx, fun dx n1 n2 => k dx n1 n2⟩⟩
theorem ok_X_BadTables {P : Program} {w : World} {K : PySem.W.Frag} {mg : Str → Option Value} {base : Heap} (E : Env P K mg) : Xcl P w K mg base 1 "BadTables" (He.ga K "BadTables") (spXN K (He.ga K "WrongNumber") "number") := by
  obtain ⟨fd, F, k⟩ := fx_WrongNumber_init (P := P) (w := w) (base := base) E
  exact ⟨_, fd, _, E.ox_BadTables, E.xi_BadTables, E.xt_BadTables, k, E.g_BadTables, F.bindsN (fun _ _ _ _ _ _ us hl => match us, hl with | [_, _], _ => rfl)⟩
abbrev N_TooMany_init : List Str := ["self", "word", "__class__"]
abbrev rest_TooMany_init : List Stmt := (defBody s_TooMany_init).drop 1
theorem sc_TooMany_init : NdefX.NScope N_TooMany_init ["self", "word"] ["__class__"] (defScope s_TooMany_init) := NdefX.nscope_by (by decide +kernel)
theorem fx_TooMany_init {P : Program} {w : World} {K : PySem.W.Frag} {mg : Str → Option Value} {base : Heap} (E : Env P K mg) : ∃ fd, FunS K "__init__" "TooMany.__init__" (defArgs s_TooMany_init) (defBody s_TooMany_init) (defScope s_TooMany_init) (d_TooMany_init.adr K) fd (cellOf K (d_TooMany_init.adr K)) (codeOf K (d_TooMany_init.adr K)) ∧ FnOk P w K mg base CX0 1 (d_TooMany_init.adr K) fd ["self", "word"] (spXS K (He.ga K "TooMany") "word") := by
  obtain ⟨fd, F⟩ := E.dd_TooMany_init
  refine ⟨fd, F, XS.fnsupx (rest := rest_TooMany_init) (k := 0) F E.supx_TooMany rfl sc_TooMany_init (by decide +kernel) rfl rfl rfl sp2_len (fun A outer s H vs Q X hr h => ?_)⟩
  have nd := sc_TooMany_init.nd
  obtain ⟨v0, v1, rfl, x, C, w, rfl, rfl, hw, hx, T, U, hf, k⟩ := h
  have js_len : ∀ {y : Str}, y.length ≤ 100000 → y.length ≤ sizeLine := fun q => sz_of q
  refine ⟨_, _, x, C, pe_joined (.cons pe_str (.cons (pe_fmt (pv 1)) (.nil))), pss_one (ps_ost (pv 0) (pv 1)), rfl, hx, T, U, ?_⟩
  have lc0 : ("too many: " : Str).length = 10 := by decide +kernel
  have lce : (Str.empty).length = 0 := by decide +kernel
  refine w_js (w_c ⟨_, rfl, ?_, ?_⟩)
  · exact js_len (by simp only [sapp_len, lce, lc0]; omega)
  refine w_js (w_fmtV rfl (js_len (by omega)) ⟨_, rfl, ?_, ?_⟩)
  · exact js_len (by simp only [sapp_len, lce, lc0]; omega)
  refine w_js0 ⟨rfl, hx, ?_⟩
  exact ⟨.str w, rfl, .ref x, rfl, x, C, rfl, T, hf, .inl ⟨hx, fun dx n1 n2 => k dx n1 n2⟩⟩
theorem ok_X_TooMany {P : Program} {w : World} {K : PySem.W.Frag} {mg : Str → Option Value} {base : Heap} (E : Env P K mg) : Xcl P w K mg base 1 "TooMany" (He.ga K "TooMany") (spXS K (He.ga K "TooMany") "word") := by
  obtain ⟨fd, F, k⟩ := fx_TooMany_init (P := P) (w := w) (base := base) E
  exact ⟨_, fd, _, E.ox_TooMany, E.xi_TooMany, E.xt_TooMany, k, E.g_TooMany, F.bindsN (fun _ _ _ _ _ _ us hl => match us, hl with | [_, _], _ => rfl)⟩

end
section
/-- tables as told -/
abbrev Tb := List Int × List Int × Int
/-- the value of a table at a place, 0 ahead of the first and where there is none -/
def tv (t : Tb) (p : Nat) : Int := match p with
  | 0 => 0
  | j + 1 => (TV t.1 t.2.1 t.2.2 j).getD 0
/-- what is lacking for the next piece -/
def tdd (t : Tb) (p : Nat) : Int := tv t (p + 1) - tv t p
/-- the takes ahead of a give, the first inlet being k -/
def tkL (k : Int) (ts : List Tb) (p : Nat) : List Dd := match ts with
  | [] => []
  | t :: r => List.replicate (tdd t p).toNat (some k) ++ tkL (k + 1) r p
/-- the deeds for piece p + 1 -/
def dlL (ts : List Tb) (p : Nat) : List Dd := tkL 0 ts p ++ [none]
/-- the deeds for n pieces behind a -/
def sgL (ts : List Tb) (a n : Nat) : List Dd := ((List.range n).map fun j => dlL ts (a + j)).flatten
theorem tkn_rep (i k : Int) : ∀ n : Nat, tkn i (List.replicate n (some k)) = ([], if k = i then (n : Int) else 0)
  | 0 => by
    show (([], 0) : List Int × Int) = _
    split <;> rfl
  | n + 1 => by
    rw [List.replicate_succ', tkn_snoc, tkn_rep i k n]
    unfold tkp
    rw [if_neg (fun h => nomatch h)]
    by_cases c : k = i
    · rw [if_pos (by rw [c]), if_pos c, if_pos c]
      rfl
    · rw [if_neg (fun h => c (Option.some.inj h)), if_neg c, if_neg c]
theorem tkn_tk (i : Int) : ∀ (ts : List Tb) (k : Int) (p : Nat), (∀ t ∈ ts, 0 ≤ tdd t p) → tkn i (tkL k ts p) = ([], if k ≤ i ∧ i < k + ts.length then tdd (ts.getD (i - k).toNat ([], [], 0)) p else 0)
  | [], k, p, _ => by
    rw [if_neg (by simp)]
    rfl
  | t :: r, k, p, h => by
    unfold tkL
    rw [tkn_app, tkn_rep, tkn_tk i r (k + 1) p fun x hx => h x (List.mem_cons_of_mem _ hx)]
    have t0 := h t List.mem_cons_self
    refine Prod.ext rfl ?_
    show (if k = i then (((tdd t p).toNat : Nat) : Int) else 0) + _ = _
    by_cases c : k = i
    · subst c
      rw [if_pos rfl, if_neg (by omega), if_pos (by rw [List.length_cons]; omega), Int.sub_self]
      show (((tdd t p).toNat : Nat) : Int) + 0 = tdd t p
      omega
    · rw [if_neg c]
      by_cases d : k ≤ i ∧ i < k + (t :: r).length
      · rw [List.length_cons] at d
        rw [if_pos (by omega), if_pos (by rw [List.length_cons]; omega), show (i - k).toNat = (i - (k + 1)).toNat + 1 by omega]
        show 0 + tdd (r.getD _ _) p = tdd (r.getD _ _) p
        omega
      · rw [List.length_cons] at d
        rw [if_neg (by omega), if_neg (by rw [List.length_cons]; omega)]
        rfl
section
variable {ts : List Tb} {i : Int}
theorem tkn_dl (p : Nat) (h : ∀ t ∈ ts, 0 ≤ tdd t p) (i0 : 0 ≤ i) (i1 : i < ts.length) : tkn i (dlL ts p) = ([tdd (ts.getD i.toNat ([], [], 0)) p], tdd (ts.getD i.toNat ([], [], 0)) p) := by
  unfold dlL
  rw [tkn_snoc, tkn_tk i ts 0 p h, if_pos (by omega), Int.sub_zero]
  rfl
theorem sgL_succ (a n : Nat) : sgL ts a (n + 1) = sgL ts a n ++ dlL ts (a + n) := by
  unfold sgL
  rw [List.range_succ, List.map_append, List.flatten_append]
  simp
theorem tkn_sg (a : Nat) (i0 : 0 ≤ i) (i1 : i < ts.length) : ∀ n, (∀ p, p < a + n → ∀ t ∈ ts, 0 ≤ tdd t p) → tkn i (sgL ts a n) =
    ((List.range n).map fun j => tv (ts.getD i.toNat ([], [], 0)) (a + j + 1) - tv (ts.getD i.toNat ([], [], 0)) a, tv (ts.getD i.toNat ([], [], 0)) (a + n) - tv (ts.getD i.toNat ([], [], 0)) a)
  | 0, _ => by
    refine Prod.ext rfl ?_
    show (0 : Int) = _
    rw [Nat.add_zero, Int.sub_self]
  | n + 1, h => by
    rw [sgL_succ, tkn_app, tkn_sg a i0 i1 n (fun p hp => h p (by omega)), tkn_dl (a + n) (h _ (by omega)) i0 i1]
    generalize ts.getD i.toNat ([], [], 0) = t
    unfold tdd
    refine Prod.ext ?_ ?_
    · rw [List.range_succ, List.map_append]
      show _ ++ [_] = _ ++ [_]
      congr 2
      show tv t (a + n) - tv t a + (tv t (a + n + 1) - tv t (a + n)) = tv t (a + n + 1) - tv t a
      omega
    · show tv t (a + n) - tv t a + (tv t (a + n + 1) - tv t (a + n)) = tv t (a + (n + 1)) - tv t a
      rw [show a + (n + 1) = a + n + 1 by omega]
      omega
end
theorem tv_fV {h l : List Int} {r : Int} (hl : l ≠ []) (j : Nat) : tv (h, l, r) (j + 1) = fV h l r j := by
  show (TV h l r j).getD 0 = _
  unfold TV
  rw [if_neg hl]
  rfl
theorem tv_head {h : List Int} {r : Int} {j : Nat} (c : j < h.length) : tv (h, [], r) (j + 1) = gI h j := by
  show (TV h [] r j).getD 0 = _
  unfold TV
  rw [if_pos rfl, gI_get c]
  rfl
/-- values never fall -/
theorem tv_up {h l : List Int} {r : Int} (V : Val h l r) (hl : l ≠ []) (p : Nat) : 0 ≤ tdd (h, l, r) p := by
  unfold tdd
  cases p with
  | zero =>
    show 0 ≤ tv (h, l, r) (0 + 1) - 0
    rw [tv_fV hl]
    have := fV_nn V 0
    omega
  | succ j =>
    rw [tv_fV hl, tv_fV hl]
    have := fV_up V hl j
    omega
/-- the need of the made maker is the table: told through a start behind the head and some turns of the loop -/
theorem mkr_plain {h l : List Int} {r : Int} (hl : l ≠ []) (more turns : Nat) (hm : 1 ≤ more) (ht : 1 ≤ turns) :
    plainF ((List.range (h.length + more)).map fun j => tv (h, l, r) (0 + j + 1) - tv (h, l, r) 0)
      (((List.range (l.length * turns)).map fun j => tv (h, l, r) (h.length + more + j + 1) - tv (h, l, r) (h.length + more)).map ((tv (h, l, r) (0 + (h.length + more)) - tv (h, l, r) 0) + ·))
      (tv (h, l, r) (h.length + more + l.length * turns) - tv (h, l, r) (h.length + more)) = plainF h l r := by
  have h0 : 0 < l.length := List.length_pos_iff.mpr hl
  have e1 : ((List.range (h.length + more)).map fun j => tv (h, l, r) (0 + j + 1) - tv (h, l, r) 0) = ((List.range (h.length + more + l.length * turns)).map (fV h l r)).take (h.length + more) := by
    rw [← List.map_take, List.take_range, Nat.min_eq_left (by omega)]
    refine List.map_congr_left fun j _ => ?_
    rw [Nat.zero_add, tv_fV hl]
    show _ - (0 : Int) = _
    omega
  have e2 : (((List.range (l.length * turns)).map fun j => tv (h, l, r) (h.length + more + j + 1) - tv (h, l, r) (h.length + more)).map ((tv (h, l, r) (0 + (h.length + more)) - tv (h, l, r) 0) + ·)) = ((List.range (h.length + more + l.length * turns)).map (fV h l r)).drop (h.length + more) := by
    refine List.ext_getElem (by simp) fun k h1 h2 => ?_
    simp only [List.getElem_map, List.getElem_range, List.getElem_drop]
    rw [tv_fV hl, Nat.zero_add]
    show tv (h, l, r) (h.length + more) - 0 + _ = _
    omega
  have e3 : tv (h, l, r) (h.length + more + l.length * turns) - tv (h, l, r) (h.length + more) = r * turns := by
    obtain ⟨m, rfl⟩ : ∃ m, more = m + 1 := ⟨more - 1, by omega⟩
    rw [show h.length + (m + 1) + l.length * turns = (h.length + m + l.length * turns) + 1 by omega, show h.length + (m + 1) = (h.length + m) + 1 by omega, tv_fV hl, tv_fV hl, fV_loop (by omega), fV_loop (by omega)]
    have := (extL_per (r := r) hl).mulN turns ((m : Nat) : Int)
    rw [show (((h.length + m + l.length * turns : Nat) : Int) - h.length) = (m : Int) + l.length * turns by rw [Int.natCast_add, Int.natCast_add, Int.natCast_mul]; omega, show (((h.length + m : Nat) : Int) - h.length) = (m : Int) by omega, this]
    omega
  rw [e1, e2, e3]
  exact tell_plain hl more turns ht
/-- what may be made into a maker: no table has a value never, or all have as many as n -/
structure TsOk (ts : List Tb) (ends : Bool) (n : Nat) : Prop where
  z1 : 1 ≤ ts.length
  z3 : ts.length ≤ 3
  val : ∀ t ∈ ts, Val t.1 t.2.1 t.2.2
  pl : ∀ t ∈ ts, plainF t.1 t.2.1 t.2.2 = t
  lp : ends = false → ∀ t ∈ ts, t.2.1 ≠ []
  en : ends = true → ∀ t ∈ ts, t.2.1 = [] ∧ t.1.length = n
/-- values of ended tables never fall up to their end -/
theorem tv_upE {h : List Int} {r : Int} (V : Val h [] r) (p : Nat) (hp : p < h.length) : 0 ≤ tdd (h, [], r) p := by
  unfold tdd
  rw [tv_head hp]
  cases p with
  | zero =>
    show 0 ≤ gI h 0 - 0
    have := gI_nn V.p1 0
    omega
  | succ j =>
    rw [tv_head (by omega)]
    have := V.r1 j (by omega)
    rw [show ((j + 1 : Nat) : Int) = (j : Int) + 1 by omega]
    omega
/-- an ended table's need -/
theorem mkr_ended {h : List Int} {r : Int} (hr : plainF h [] r = (h, [], r)) : plainF ((List.range h.length).map fun j => tv (h, [], r) (0 + j + 1) - tv (h, [], r) 0) [] 0 = (h, [], r) := by
  rw [plainF_nil] at hr ⊢
  have e : (List.range h.length).map (fun j => tv (h, [], r) (0 + j + 1) - tv (h, [], r) 0) = h := by
    refine List.ext_getElem (by simp) fun k h1 h2 => ?_
    simp only [List.getElem_map, List.getElem_range]
    rw [Nat.zero_add, tv_head h2]
    show gI h k - 0 = _
    unfold gI
    rw [Int.toNat_natCast, List.getD_eq_getElem?_getD, List.getElem?_eq_getElem h2]
    simp
  rw [e]
  exact hr
theorem tv_per {h l : List Int} {r : Int} (hl : l ≠ []) (turns : Nat) {j : Nat} (hj : h.length ≤ j) : tv (h, l, r) (j + l.length * turns + 1) = tv (h, l, r) (j + 1) + r * turns := by
  rw [tv_fV hl, tv_fV hl, fV_loop (by omega), fV_loop hj]
  have := (extL_per (r := r) hl).mulN turns ((j : Int) - h.length)
  rw [show (((j + l.length * turns : Nat) : Int) - h.length) = ((j : Int) - h.length) + l.length * turns by rw [Int.natCast_add, Int.natCast_mul]; omega, this]
section
variable {ts : List Tb} {i : Int} {h l : List Int} {r : Int}
theorem fl_one (w : List Dd) : fl [w] [0] = w := by
  unfold fl
  simp
theorem fl_two (w : List Dd) : fl [w] [0, 0] = w ++ w := by
  unfold fl
  simp
/-- the way taken twice is the way of twice as many pieces -/
theorem tkn_two (hl : l ≠ []) (turns more : Nat) (hm : 1 ≤ more) (i0 : 0 ≤ i) (i1 : i < ts.length) (ht : ts.getD i.toNat ([], [], 0) = (h, l, r))
    (up : ∀ p, ∀ t ∈ ts, 0 ≤ tdd t p) : tkn i (sgL ts (h.length + more) (l.length * turns) ++ sgL ts (h.length + more) (l.length * turns)) = tkn i (sgL ts (h.length + more) (l.length * (turns * 2))) := by
  have A := tkn_sg (ts := ts) (h.length + more) i0 i1 (l.length * turns) (fun p _ => up p)
  have B := tkn_sg (ts := ts) (h.length + more) i0 i1 (l.length * (turns * 2)) (fun p _ => up p)
  rw [ht] at A B
  obtain ⟨m, rfl⟩ : ∃ m, more = m + 1 := ⟨more - 1, by omega⟩
  have two : l.length * (turns * 2) = l.length * turns + l.length * turns := by rw [← Nat.mul_assoc]; omega
  have R : tv (h, l, r) (h.length + (m + 1) + l.length * turns) = tv (h, l, r) (h.length + (m + 1)) + r * turns := by
    have := tv_per (h := h) (r := r) hl turns (j := h.length + m) (by omega)
    rwa [show h.length + m + l.length * turns + 1 = h.length + (m + 1) + l.length * turns by omega] at this
  have R2 : tv (h, l, r) (h.length + (m + 1) + (l.length * turns + l.length * turns)) = tv (h, l, r) (h.length + (m + 1)) + r * turns + r * turns := by
    have := tv_per (h := h) (r := r) hl turns (j := h.length + m + l.length * turns) (by omega)
    rw [show h.length + m + l.length * turns + l.length * turns + 1 = h.length + (m + 1) + (l.length * turns + l.length * turns) by omega, show h.length + m + l.length * turns + 1 = h.length + (m + 1) + l.length * turns by omega, R] at this
    exact this
  rw [tkn_app, A, B, two, R, R2]
  refine Prod.ext ?_ ?_
  · refine List.ext_getElem (by simp) fun k h1 h2 => ?_
    simp only [List.length_map, List.length_range] at h2
    by_cases c : k < l.length * turns
    · rw [List.getElem_append_left (by simpa using c)]
      simp only [List.getElem_map, List.getElem_range]
    · rw [List.getElem_append_right (by simpa using Nat.le_of_not_lt c)]
      simp only [List.getElem_map, List.getElem_range, List.length_map, List.length_range]
      have := tv_per (h := h) (r := r) hl turns (j := h.length + (m + 1) + (k - l.length * turns)) (by omega)
      rw [show h.length + (m + 1) + (k - l.length * turns) + l.length * turns + 1 = h.length + (m + 1) + k + 1 by omega] at this
      rw [this]
      omega
  · show tv (h, l, r) (h.length + (m + 1)) + r * turns - tv (h, l, r) (h.length + (m + 1)) + (tv (h, l, r) (h.length + (m + 1)) + r * turns - tv (h, l, r) (h.length + (m + 1))) = _
    omega
/-- the need of the made maker -/
theorem mkr_need (hl : l ≠ []) (more turns : Nat) (hm : 1 ≤ more) (htu : 1 ≤ turns) (i0 : 0 ≤ i) (i1 : i < ts.length) (ht : ts.getD i.toNat ([], [], 0) = (h, l, r)) (up : ∀ p, ∀ t ∈ ts, 0 ≤ tdd t p) :
    ndP i (sgL ts 0 (h.length + more)) [sgL ts (h.length + more) (l.length * turns)] [] [0] = plainF h l r := by
  have A := tkn_sg (ts := ts) 0 i0 i1 (h.length + more) (fun p _ => up p)
  have B := tkn_sg (ts := ts) (h.length + more) i0 i1 (l.length * turns) (fun p _ => up p)
  rw [ht] at A B
  have h0 : 0 < l.length := List.length_pos_iff.mpr hl
  have hL : 0 < l.length * turns := Nat.mul_pos h0 htu
  unfold ndP
  rw [fl_one, show fl [sgL ts (h.length + more) (l.length * turns)] [] = [] from rfl, List.append_nil]
  unfold tbL tbR
  rw [A, B, if_neg (by intro e; have := congrArg List.length e; simp at this; omega)]
  exact mkr_plain hl more turns hm htu
theorem mkr_need2 (hl : l ≠ []) (more turns : Nat) (hm : 1 ≤ more) (htu : 1 ≤ turns) (i0 : 0 ≤ i) (i1 : i < ts.length) (ht : ts.getD i.toNat ([], [], 0) = (h, l, r)) (up : ∀ p, ∀ t ∈ ts, 0 ≤ tdd t p) :
    ndP i (sgL ts 0 (h.length + more)) [sgL ts (h.length + more) (l.length * turns)] [] [0, 0] = plainF h l r := by
  have e := tkn_two (ts := ts) hl turns more hm i0 i1 ht up
  have := mkr_need (ts := ts) hl more (turns * 2) hm (by omega) i0 i1 ht up
  unfold ndP at this ⊢
  rw [fl_one, show fl [sgL ts (h.length + more) (l.length * (turns * 2))] [] = [] from rfl] at this
  rw [fl_two, show fl [sgL ts (h.length + more) (l.length * turns)] [] = [] from rfl, e]
  exact this
end

end
section
theorem Ls.of_fr {H H' : Hp} {p : Addr} {xs : List V} (h : H p = some (.lst xs)) (f : Fr p H H') : Ls H H' := fun a o ha hn => f a o (fun e => by
  subst e
  rw [h] at ha
  exact hn xs (Option.some.inj ha).symm) ha
theorem ls_tab {K : PySem.W.Frag} {H H' : Hp} {x : Addr} {h l : List Int} {r : Int} (e : Ls H H') (t : TabAt K H x h l r) : TabAt K H' x h l r := by
  obtain ⟨dx, th, tl, h1, h2, h3⟩ := t
  exact ⟨dx, th, tl, e _ _ h1 (fun _ q => nomatch q), ls_t e h2, ls_t e h3⟩
/-- tables at values -/
inductive Tbs (K : PySem.W.Frag) (H : Hp) : List V → List Tb → Prop
  | nil : Tbs K H [] []
  | cons {a : Addr} {t : Tb} {vs : List V} {ts : List Tb} (h : TabAt K H a t.1 t.2.1 t.2.2) (r : Tbs K H vs ts) : Tbs K H (.ref a :: vs) (t :: ts)
section
variable {K : PySem.W.Frag} {H H' : Hp} {vs : List V} {ts : List Tb}
theorem Tbs.len (p : Tbs K H vs ts) : vs.length = ts.length := by
  induction p with
  | nil => rfl
  | cons _ _ ih => rw [List.length_cons, List.length_cons, ih]
theorem Tbs.map (f : ∀ a h l r, TabAt K H a h l r → TabAt K H' a h l r) (p : Tbs K H vs ts) : Tbs K H' vs ts := by
  induction p with
  | nil => exact .nil
  | cons h _ ih => exact .cons (f _ _ _ _ h) ih
theorem Tbs.ex (e : Ex H H') (p : Tbs K H vs ts) : Tbs K H' vs ts := p.map fun _ _ _ _ => ex_tab e
theorem Tbs.ls (e : Ls H H') (p : Tbs K H vs ts) : Tbs K H' vs ts := p.map fun _ _ _ _ => ls_tab e
theorem Tbs.get (p : Tbs K H vs ts) : ∀ {i : Nat} {v : V}, vs[i]? = some v → ∃ a t, v = .ref a ∧ ts[i]? = some t ∧ TabAt K H a t.1 t.2.1 t.2.2 := by
  induction p with
  | nil => intro i v h; cases h
  | @cons a t vs ts hh _ ih =>
    intro i v h
    cases i with
    | zero => cases h; exact ⟨a, t, rfl, rfl, hh⟩
    | succ i => exact ih h
theorem sqE_frN {a p : Addr} {xs : List V} (n : a ≠ p) (f : Fr p H H') (s : SqE K H a xs) : SqE K H' a xs := by
  rcases s with s | s
  · refine .inl ?_
    rcases s with (s | ⟨o', s⟩) | s
    · exact .inl (.inl (f _ _ n s))
    · exact .inl (.inr ⟨o', f _ _ n s⟩)
    · exact .inr s
  · refine .inr ?_
    rcases s with (s | ⟨o', s⟩) | s
    · exact .inl (.inl (f _ _ n s))
    · exact .inl (.inr ⟨o', f _ _ n s⟩)
    · exact .inr s
end
/-- how many takes in all -/
def sumD (ts : List Tb) (p : Nat) : Int := (ts.map (tdd · p)).sum
theorem tkL_snoc (p : Nat) (t : Tb) : ∀ (a : List Tb) (k : Int), tkL k (a ++ [t]) p = tkL k a p ++ List.replicate (tdd t p).toNat (some (k + a.length))
  | [], k => by
    show List.replicate _ _ ++ [] = [] ++ _
    rw [List.append_nil, List.nil_append]
    simp
  | b :: a, k => by
    show List.replicate _ _ ++ tkL (k + 1) (a ++ [t]) p = (List.replicate _ _ ++ tkL (k + 1) a p) ++ _
    rw [tkL_snoc p t a (k + 1), List.append_assoc, List.length_cons, show k + 1 + (a.length : Int) = k + ((a.length + 1 : Nat) : Int) by omega]
theorem tkL_take {ts : List Tb} {i p : Nat} {t : Tb} (h : ts[i]? = some t) : tkL 0 (ts.take (i + 1)) p = tkL 0 (ts.take i) p ++ List.replicate (tdd t p).toNat (some (i : Int)) := by
  rw [List.take_add_one, h]
  show tkL 0 (ts.take i ++ [t]) p = _
  rw [tkL_snoc, List.length_take, Nat.min_eq_left (by have := (List.getElem?_eq_some_iff.mp h).1; omega), Int.zero_add]
theorem sumD_take {ts : List Tb} {i p : Nat} {t : Tb} (h : ts[i]? = some t) : sumD (ts.take (i + 1)) p = sumD (ts.take i) p + tdd t p := by
  unfold sumD
  rw [List.take_add_one, h, List.map_append, List.sum_append]
  simp
theorem sumD_le {ts : List Tb} {p : Nat} (h : ∀ t ∈ ts, 0 ≤ tdd t p) (i : Nat) : sumD (ts.take i) p ≤ sumD ts p := by
  have key : ∀ l : List Tb, (∀ t ∈ l, 0 ≤ tdd t p) → 0 ≤ sumD l p := fun l hl => by
    unfold sumD
    induction l with
    | nil => exact Int.le_refl _
    | cons a l ih =>
      rw [List.map_cons, List.sum_cons]
      have := hl a List.mem_cons_self
      have := ih fun t ht => hl t (List.mem_cons_of_mem _ ht)
      omega
  have e : sumD ts p = sumD (ts.take i) p + sumD (ts.drop i) p := by
    unfold sumD
    rw [← List.sum_append, ← List.map_append, List.take_append_drop]
  have := key (ts.drop i) fun t ht => h t (List.mem_of_mem_drop ht)
  omega
theorem tkL_len (p : Nat) : ∀ (ts : List Tb) (k : Int), (∀ t ∈ ts, 0 ≤ tdd t p) → ((tkL k ts p).length : Int) = sumD ts p
  | [], _, _ => rfl
  | t :: ts, k, h => by
    have ih := tkL_len p ts (k + 1) fun x hx => h x (List.mem_cons_of_mem _ hx)
    have t0 := h t List.mem_cons_self
    show ((List.replicate _ _ ++ tkL (k + 1) ts p).length : Int) = tdd t p + sumD ts p
    rw [List.length_append, List.length_replicate, Int.natCast_add, ih]
    omega
/-- what was taken, the first i brought up to date -/
def mixL (ts : List Tb) (p i : Nat) : List Int := (ts.take i).map (tv · (p + 1)) ++ (ts.drop i).map (tv · p)
theorem mix_zero (ts : List Tb) (p : Nat) : mixL ts p 0 = ts.map (tv · p) := by unfold mixL; simp
theorem mix_all (ts : List Tb) (p : Nat) : mixL ts p ts.length = ts.map (tv · (p + 1)) := by unfold mixL; simp
theorem mix_len (ts : List Tb) (p i : Nat) : (mixL ts p i).length = ts.length := by unfold mixL; simp; omega
theorem mix_at {ts : List Tb} {p i : Nat} {t : Tb} (h : ts[i]? = some t) : (mixL ts p i)[i]? = some (tv t p) := by
  have hi := (List.getElem?_eq_some_iff.mp h).1
  unfold mixL
  rw [List.getElem?_append_right (by simp; omega)]
  simp only [List.length_map, List.length_take, List.getElem?_map, List.getElem?_drop]
  rw [Nat.min_eq_left (by omega), Nat.sub_self, Nat.add_zero, h]
  rfl
theorem mix_set {ts : List Tb} {p i : Nat} {t : Tb} (h : ts[i]? = some t) : (mixL ts p i).set i (tv t (p + 1)) = mixL ts p (i + 1) := by
  obtain ⟨hi, rfl⟩ := List.getElem?_eq_some_iff.mp h
  unfold mixL
  have e : ((ts.take i).map (tv · (p + 1))).length = i := by simp; omega
  rw [List.set_append_right _ _ (by omega), e, Nat.sub_self, List.drop_eq_getElem_cons hi, List.map_cons, List.set_cons_zero, List.take_add_one, List.getElem?_eq_getElem hi, List.map_append]
  simp
theorem valAt {t : Tb} {p : Nat} (h : (TV t.1 t.2.1 t.2.2 p).isSome = true) : valueAt t.1 t.2.1 t.2.2 (some (((p + 1 : Nat) : Int))) = some (tv t (p + 1)) := by
  obtain ⟨v, e⟩ := Option.isSome_iff_exists.mp h
  have e2 : vat t.1 t.2.1 t.2.2 (((p + 1 : Nat) : Int)) = some v := by
    rw [show (((p + 1 : Nat) : Int)) = (p : Int) + 1 by omega, vat_TV, e]
  show valueAt t.1 t.2.1 t.2.2 (some (((p + 1 : Nat) : Int))) = some ((TV t.1 t.2.1 t.2.2 p).getD 0)
  rw [e]
  exact e2
theorem i_enumE {K : PySem.W.Frag} {ta : TA} {σ : L2.St} {H : Hp} {R : It → Hp → Prop} (h : ta σ H fun vs H1 => ∃ a xs, vs = [.ref a] ∧ ((SqL K H1 a xs ∧ R (Ite K a) H1) ∨ (SqT K H1 a xs ∧ R (IteT K a) H1))) : iEnumE K ta σ H R := h
theorem sqL_frN {K : PySem.W.Frag} {H H' : Hp} {a p : Addr} {xs : List V} (n : a ≠ p) (f : Fr p H H') (s : SqL K H a xs) : SqL K H' a xs := by
  rcases s with (s | ⟨o', s⟩) | s
  · exact .inl (.inl (f _ _ n s))
  · exact .inl (.inr ⟨o', f _ _ n s⟩)
  · exact .inr s
theorem sqT_frN {K : PySem.W.Frag} {H H' : Hp} {a p : Addr} {xs : List V} (n : a ≠ p) (f : Fr p H H') (s : SqT K H a xs) : SqT K H' a xs := by
  rcases s with (s | ⟨o', s⟩) | s
  · exact .inl (.inl (f _ _ n s))
  · exact .inl (.inr ⟨o', f _ _ n s⟩)
  · exact .inr s
theorem fr_mutK {p t : Addr} {H H' : Hp} {o : HO} (f : Fr p H H') (n : H t = none) : Fr p H (upd H' t o) := fun b u ne e => by
  rw [upd_ne (ne_of_none e n)]
  exact f b u ne e
theorem mix_gI {ts : List Tb} {p i : Nat} {t : Tb} (h : ts[i]? = some t) : gI (mixL ts p i) (i : Int) = tv t p := by
  unfold gI
  rw [Int.toNat_natCast, List.getD_eq_getElem?_getD, mix_at h]
  rfl
theorem w_xcatL {K : PySem.W.Frag} {l b : Addr} {xs zs : List V} {H : Hp} {Q : VK} (h1 : H l = some (.lst xs)) (h2 : H b = some (.lst zs)) (hz : xs.length + zs.length ≤ sizeLine) (q : ∀ p H1, H p = none → Ex H H1 → H1 p = some (.lst (xs ++ zs)) → Q (.ref p) H1) : rAdd K (.ref l) (.ref b) H Q :=
  .inr (.inl ⟨l, b, xs, zs, rfl, rfl, h1, h2, hz, fun p hp => q p _ hp (Ex.new hp) upd_same⟩)
abbrev spDt (K : PySem.W.Frag) : Sp := sp3 fun a b c H Q X => ∃ (pt pk : Addr) (xs : List V) (ts : List Tb) (p : Nat), a = .ref pt ∧ b = .ref pk ∧ c = .int ((p + 1 : Nat) : Int) ∧ SqE K H pt xs ∧ pt ≠ pk ∧ Tbs K H xs ts ∧ ts.length ≤ 3 ∧ H pk = some (.lst (vI (ts.map (tv · p)))) ∧
  (∀ t ∈ ts, RSm t.1 t.2.1 t.2.2 ∧ 0 ≤ tdd t p ∧ (TV t.1 t.2.1 t.2.2 p).isSome = true) ∧
  ((sumD ts p ≤ 600 ∧ ∀ q H', H q = none → Fr pk H H' → H' pk = some (.lst (vI (ts.map (tv · (p + 1))))) → H' q = some (.lst ((dlL ts p).map gV)) → Q (.ref q) H') ∨
   (∃ t, ts = [t] ∧ 600 < tdd t p ∧ ∀ dd H', H' dd = some (.xd [("word", .str "deed")]) → X (.ref (He.ga K "TooMany")) (some dd) H'))
abbrev N_deeds_to : List Str := ["tables", "taken", "place", "deeds", "inlet", "table", "wanted", "step"]
theorem sc_deeds_to : FnScope N_deeds_to ["tables", "taken", "place"] (defScope s_deeds_to) := ⟨rfl, rfl, rfl, by decide +kernel, rfl, by decide +kernel, by decide +kernel⟩
theorem ok_deeds_to {P : Program} {w : World} {K : PySem.W.Frag} {mg : Str → Option Value} {base : Heap} (E : Env P K mg) : Fn P w K mg base (L2.CX P w) 4 "deeds_to" (spDt K) := by
  obtain ⟨fd, F⟩ := E.dd_deeds_to
  refine Fn.mkX F E.g_deeds_to sc_deeds_to sp3_len (fun _ _ _ _ _ _ us hl => match us, hl with | [_, _, _], _ => rfl) (fun cdv A outer s H vs Q X hr h tk => ?_)
  have nd := sc_deeds_to.nd
  obtain ⟨v0, v1, v2, rfl, h⟩ := h
  refine ⟨_, (pss_cons (ps_set (i := 3) nd rfl (.inl rfl) (pe_lst (pa_nil)))
  (pss_cons (ps_for (passes_of rfl) rfl (pi_enumE K (by rfl) E.f_enumerate (pa_cons (pv 0) pa_nil)) (kGtup K rfl (pgs_cons (pg_name (i := 4) nd rfl (.inr rfl)) (pgs_cons (pg_name (i := 5) nd rfl (.inl rfl)) (pgs_nil))))
   (pss_cons (ps_set (i := 6) nd rfl (.inl rfl) (pcl (ok_Table_call E) hr (by decide) (pv 5) (pa_cons (pv 2) pa_nil)))
  (pss_cons (ps_if (pt_cmpR op_gt (pe_op xSub (pe_op (kAdd K) (pe_callB (kLen K) (by rfl) E.f_len (by decide +kernel) (pa_cons (pv 3) pa_nil)) (pv 6)) (pe_ix (kIx K) (pv 1) (pv 4) (fun _ _ => rfl))) ((E.k_MOST_DEEDS).elim fun t e => pe_glob (v := .int 600) (by rfl) e ⟨t, rfl⟩) (nomark _))
   (pss_one (praise (ok_X_TooMany E) hr (by decide) rfl tk rfl (pa_cons (pe_str) pa_nil)))
   pss_nil)
  (pss_cons (ps_expr (kBM K (pe_bm PySem.F.plainAttrs_list PySem.F.slot_list_extend PySem.F.type_list_extend mt_extend (pv 3) (pa_cons (pe_lc (own := [("step", 7)]) (g := gName 7) (tt := tYes) rfl nd (pi_range1 (by rfl) E.f_range (pa_cons (pe_op xSub (pv 6) (pe_ix (kIx K) (pv 1) (pv 4) (fun _ _ => rfl))) pa_nil)) (blkOk_by (N := N_deeds_to) (sc := defScope s_deeds_to) (by decide +kernel)) (fun _ _ _ _ _ => pg_name (i := 7) nd rfl (Or.inl rfl)) (fun _ _ _ _ _ => pts_nil) (fun _ _ _ _ _ => pv 4)) pa_nil))))
  (pss_one (ps_asg (pv 6) (pg_sub (pv 1) (pv 4) set_list)))))))
  (pss_one (ps_ret (pe_op (kAdd K) (pv 3) (pe_lst (pa_cons ((E.k_GIVE).elim fun t e => pe_glob (v := .str "give") (by rfl) e ⟨t, rfl⟩) pa_nil))))))), ?_⟩
  change (_ : TS) _ [some v0, some v1, some v2, none, none, none, none, none] H
  try dsimp only [cxOf, Cx.nox, Cx.blk]
  obtain ⟨pt, pk, xs, ts, p, rfl, rfl, rfl, hpt, ntk, T, z3, hk, ok, h⟩ := h
  have tl := T.len
  walk_at "w"
  intro pd H1 n1 e1 g1
  walk_at "w"
  refine i_enumE ?_
  walk_at "w"
  have hk1 := e1 _ _ hk
  have kd : pk ≠ pd := ne_of_none hk n1
  have h0 : ∃ (x y z w : Option V), [some (V.ref pt), some (.ref pk), some (.int ((p + 1 : Nat) : Int)), some (.ref pd), none, none, none, none] = [some (.ref pt), some (.ref pk), some (.int ((p + 1 : Nat) : Int)), some (.ref pd), x, y, z, w] ∧ Fr pk H H1 ∧ H1 pk = some (.lst (vI (mixL ts p 0))) ∧ H1 pd = some (.lst ((tkL 0 (ts.take 0) p).map gV)) ∧ (0 ≠ 0 → sumD (ts.take 0) p ≤ 600) :=
    ⟨_, _, _, _, rfl, Fr.of e1, by rw [mix_zero]; exact hk1, by rw [List.take_zero]; exact g1, fun h => absurd rfl h⟩
  rcases hpt with s | s
  case' inl =>
    refine ⟨pt, xs, rfl, .inl ⟨ex_l e1 s, ?_⟩⟩
    refine for_enumL (xs := xs) (Pv := fun i σ' H' => ∃ (x y z w : Option V), σ' = [some (.ref pt), some (.ref pk), some (.int ((p + 1 : Nat) : Int)), some (.ref pd), x, y, z, w] ∧ Fr pk H H' ∧ H' pk = some (.lst (vI (mixL ts p i))) ∧ H' pd = some (.lst ((tkL 0 (ts.take i) p).map gV)) ∧ (i ≠ 0 → sumD (ts.take i) p ≤ 600)) h0 (fun i σ' H' _ h => by obtain ⟨_, _, _, _, _, f, _⟩ := h; exact sqL_frN ntk f s) ?sa ?da
  case' inr =>
    refine ⟨pt, xs, rfl, .inr ⟨ex_t e1 s, ?_⟩⟩
    refine for_enumT (xs := xs) (Pv := fun i σ' H' => ∃ (x y z w : Option V), σ' = [some (.ref pt), some (.ref pk), some (.int ((p + 1 : Nat) : Int)), some (.ref pd), x, y, z, w] ∧ Fr pk H H' ∧ H' pk = some (.lst (vI (mixL ts p i))) ∧ H' pd = some (.lst ((tkL 0 (ts.take i) p).map gV)) ∧ (i ≠ 0 → sumD (ts.take i) p ≤ 600)) h0 (fun i σ' H' _ h => by obtain ⟨_, _, _, _, _, f, _⟩ := h; exact sqT_frN ntk f s) ?sb ?db
  case' da =>
    rintro σ' H' ⟨x, y, z, w, rfl, f, g, gd, zz⟩
    rw [tl, mix_all] at g
    rw [tl, List.take_length] at gd
    walk_at "w"
    intro p5 H5 n5 e5 g5
    have gd5 := e5 _ _ gd
    rcases h with ⟨hs, k⟩ | ⟨t, rfl, hs, k⟩
    · have ln := tkL_len p ts 0 fun t ht => (ok t ht).2.1
      refine w_xcatL gd5 g5 (sz_of (by rw [List.length_map]; show _ + 1 ≤ _; omega)) fun q H6 n6 e6 g6 => ?_
      rw [show (tkL 0 ts p).map gV ++ [V.str "give"] = (dlL ts p).map gV by unfold dlL; rw [List.map_append]; rfl] at g6
      refine k q H6 ?_ ((f.trans (Fr.of e5)).trans (Fr.of e6)) (e6 _ _ (e5 _ _ g)) g6
      cases hq : H q with
      | none => rfl
      | some o =>
        by_cases c : q = pk
        · rw [c] at n6
          rw [e5 _ _ g] at n6
          cases n6
        · have := e5 _ _ (f _ _ c hq)
          rw [n6] at this
          cases this
    · rw [tl] at zz
      have := zz (fun q => nomatch q)
      rw [List.take_length] at this
      have e : sumD [t] p = tdd t p + 0 := rfl
      omega
  case' db =>
    rintro σ' H' ⟨x, y, z, w, rfl, f, g, gd, zz⟩
    rw [tl, mix_all] at g
    rw [tl, List.take_length] at gd
    walk_at "w"
    intro p5 H5 n5 e5 g5
    have gd5 := e5 _ _ gd
    rcases h with ⟨hs, k⟩ | ⟨t, rfl, hs, k⟩
    · have ln := tkL_len p ts 0 fun t ht => (ok t ht).2.1
      refine w_xcatL gd5 g5 (sz_of (by rw [List.length_map]; show _ + 1 ≤ _; omega)) fun q H6 n6 e6 g6 => ?_
      rw [show (tkL 0 ts p).map gV ++ [V.str "give"] = (dlL ts p).map gV by unfold dlL; rw [List.map_append]; rfl] at g6
      refine k q H6 ?_ ((f.trans (Fr.of e5)).trans (Fr.of e6)) (e6 _ _ (e5 _ _ g)) g6
      cases hq : H q with
      | none => rfl
      | some o =>
        by_cases c : q = pk
        · rw [c] at n6
          rw [e5 _ _ g] at n6
          cases n6
        · have := e5 _ _ (f _ _ c hq)
          rw [n6] at this
          cases this
    · rw [tl] at zz
      have := zz (fun q => nomatch q)
      rw [List.take_length] at this
      have e : sumD [t] p = tdd t p + 0 := rfl
      omega
  all_goals
    rintro i v σ' H' T0 hv ⟨x, y, z, w, rfl, f, g, gd, _⟩ hT
    obtain ⟨a, t, rfl, ht, tab⟩ := T.get hv
    have il := (List.getElem?_eq_some_iff.mp ht).1
    obtain ⟨rs, t0, tsome⟩ := ok t (List.mem_of_getElem? ht)
    have e4 : Ex H' (upd H' T0 (.tup [.int (i : Nat), .ref a])) := Ex.new hT
    have tab4 := ex_tab e4 (ls_tab (Ls.of_fr hk f) tab)
    have g4 := e4 _ _ g
    have gd4 := e4 _ _ gd
    have f4 : Fr pk H (upd H' T0 (.tup [.int (i : Nat), .ref a])) := f.trans (Fr.of e4)
    have st : SqT K (upd H' T0 (.tup [.int (i : Nat), .ref a])) T0 [.int (i : Nat), .ref a] := st_of upd_same
    generalize upd H' T0 (.tup [.int (i : Nat), .ref a]) = H4 at *
    walk_at "w"
    refine r_callO1 (tab_mine tab4).choose_spec.choose_spec ?_
    refine ⟨a, t.1, t.2.1, t.2.2, some (((p + 1 : Nat) : Int)), rfl, tab4, rfl, (fun j hj => by cases hj; omega), rs, fun v H5 e5 dv => ?_⟩
    rw [valAt tsome] at dv
    obtain rfl := dp_toOpt dv
    simp only [optV]
    have g5 := e5 _ _ g4
    have gd5 := e5 _ _ gd4
    have f5 := f4.trans (Fr.of e5)
    walk_at "w"
    have gv : atI (vI (mixL ts p i)) (i : Int) = some (.int (tv t p)) := atI_pos (Int.natCast_nonneg i) (by
      rw [Int.toNat_natCast]
      show ((mixL ts p i).map V.int)[i]? = _
      rw [List.getElem?_map, mix_at ht]
      rfl)
    refine r_ixL (sq_of g5) gv ?_
    have ln := tkL_len p (ts.take i) 0 fun t ht => (ok t (List.mem_of_mem_take ht)).2.1
    have sm := sumD_take (p := p) ht
    have td : tdd t p = tv t (p + 1) - tv t p := rfl
    walk_at "w"
    rw [List.length_map]
    rcases h with ⟨hs, k⟩ | ⟨t', rfl, hs, k⟩
    · have le := sumD_le (fun t ht => (ok t ht).2.1) (i + 1)
      have c : ¬ (600 : Int) < ((tkL 0 (ts.take i) p).length : Nat) + tv t (p + 1) - tv t p := by omega
      walk_at "w"
      refine r_ixL (sq_of g5) gv ?_
      walk_at "w"
      have tn : (tv t (p + 1) - tv t p).toNat ≤ 600 := by omega
      refine lcJ_r0 (v := fun _ => .int (i : Int)) (by omega) (fun y => [_, _, _, _, _, _, _, some y]) (fun _ => rfl) (fun _ => rfl) (fun j H6 Q' e6 hj hq => ?_) (fun pl H6 n6 e6 g6 => ?_)
      · walk_at "w"
        exact hq _ (Ex.refl _)
      walk_at "w"
      have gd6 := e6 _ _ gd5
      have er : (List.range (tv t (p + 1) - tv t p).toNat).map (fun _ => V.int (i : Int)) = (List.replicate (tdd t p).toNat (some (i : Int))).map gV := by
        rw [List.map_replicate, List.map_const', List.length_range, td]
        rfl
      rw [er] at g6
      refine ⟨pd, pl, _, _, rfl, rfl, gd6, g6, sz_of (by rw [List.length_map, List.length_map, List.length_replicate]; omega), ?_⟩
      rw [← List.map_append, ← tkL_take ht]
      have dp : pd ≠ pk := kd.symm
      walk_at "w"
      refine r_set (xs := vI (mixL ts p i)) (j := i) (by rw [upd_ne kd]; exact e6 _ _ g5) (by
        have : i < (vI (mixL ts p i)).length := by show i < ((mixL ts p i).map V.int).length; rw [List.length_map, mix_len]; exact il
        unfold ixN
        rw [if_pos (Int.natCast_nonneg i), if_pos (by omega), Int.toNat_natCast]) ?_
      refine ⟨_, _, _, _, rfl, ?_, ?_, ?_, fun _ => by omega⟩
      · exact (fr_mutK (f5.trans (Fr.of e6)) n1).trans Fr.upd
      · rw [upd_same]
        show some (HO.lst (((mixL ts p i).map V.int).set i (.int (tv t (p + 1))))) = _
        rw [← List.map_set, mix_set ht]
      · rw [upd_ne dp, upd_same]
    · have i0 : i = 0 := by
        have : i < 1 := il
        omega
      subst i0
      cases ht
      have c : (600 : Int) < ((tkL 0 (([t] : List Tb).take 0) p).length : Nat) + tv t (p + 1) - tv t p := by
        show (600 : Int) < ((0 : Nat) : Int) + tv t (p + 1) - tv t p
        omega
      walk_at "w"
      refine w_raise ?_
      walk_at "w"
      refine r_mkOS E.ox_TooMany E.xs_TooMany E.nf_TooMany_word (by decide +kernel) fun dd H' n e g => ?_
      exact k dd H' g

end
section
/-- where a table ends, -1 for never -/
def endv (t : Tb) : Int := if t.2.1 = [] then (t.1.length : Nat) else -1
def intV : V → Int
  | .int i => i
  | _ => 0
def AllEnd (ts : List Tb) : Prop := ∀ t ∈ ts, endv t = endv (ts.getD 0 ([], [], 0))
theorem range_getD (ts : List Tb) (f : Tb → Int) : (List.range ts.length).map (fun i => PyData.int (f (ts.getD i ([], [], 0)))) = (ts.map f).map .int := by
  refine List.ext_getElem (by simp) fun k h1 h2 => ?_
  simp only [List.getElem_map, List.getElem_range]
  rw [List.getD_eq_getElem?_getD, List.getElem?_eq_getElem (by simpa using h2)]
  rfl
abbrev spCL (K : PySem.W.Frag) : Sp := sp1 fun v H Q X => ∃ (pt : Addr) (xs : List V) (ts : List Tb), v = .ref pt ∧ SqE K H pt xs ∧ Tbs K H xs ts ∧ 1 ≤ ts.length ∧ ts.length ≤ 3 ∧
  (AllEnd ts → ∀ H', Ex H H' → Q .non H') ∧ (¬ AllEnd ts → ∀ dd H', Ex H H' → H' dd = some (.xd [("number", .int (-1))]) → X (.ref (He.ga K "BadTables")) (some dd) H')
abbrev N_check_lengths : List Str := ["tables", "ends", "table", "end"]
theorem sc_check_lengths : FnScope N_check_lengths ["tables"] (defScope s_check_lengths) := ⟨rfl, rfl, rfl, by decide +kernel, rfl, by decide +kernel, by decide +kernel⟩
theorem ok_check_lengths {P : Program} {w : World} {K : PySem.W.Frag} {mg : Str → Option Value} {base : Heap} (E : Env P K mg) : Fn P w K mg base (L2.CX P w) 3 "check_lengths" (spCL K) := by
  obtain ⟨fd, F⟩ := E.dd_check_lengths
  refine Fn.mkX F E.g_check_lengths sc_check_lengths sp1_len (fun _ _ _ _ _ _ us hl => match us, hl with | [_], _ => rfl) (fun cdv A outer s H vs Q X hr h tk => ?_)
  have nd := sc_check_lengths.nd
  obtain ⟨v0, rfl, h⟩ := h
  refine ⟨_, (pss_cons (ps_set (i := 1) nd rfl (.inr rfl) (pe_lc (own := [("table", 2)]) (g := gName 2) (tt := tYes) rfl nd (kSeq K (pv 0)) (blkOk_by (N := N_check_lengths) (sc := defScope s_check_lengths) (by decide +kernel)) (fun _ _ _ _ _ => pg_name (i := 2) nd rfl (Or.inl rfl)) (fun _ _ _ _ _ => pts_nil) (fun _ _ _ _ _ => pe_ifExp (pt_cmpR (kEq K hr) (pe_callB (kLen K) (by rfl) E.f_len (by decide +kernel) (pa_cons (kFld K (pv 2) rfl) pa_nil)) (pe_int) (nomark _)) (pe_callB (kLen K) (by rfl) E.f_len (by decide +kernel) (pa_cons (kFld K (pv 2) rfl) pa_nil)) (pe_un un_neg (pe_int)))))
  (pss_one (ps_if (kTru K (pe_callB (kAny K rfl) (by rfl) E.f_any (by decide +kernel) (pa_cons (pe_lc (own := [("end", 3)]) (g := gName 3) (tt := tYes) rfl nd (kSeq K (pv 1)) (blkOk_by (N := N_check_lengths) (sc := defScope s_check_lengths) (by decide +kernel)) (fun _ _ _ _ _ => pg_name (i := 3) nd rfl (Or.inl rfl)) (fun _ _ _ _ _ => pts_nil) (fun _ _ _ _ _ => pe_cmpR (kNe K hr) (pv 3) (pe_ix (kIx K) (pv 1) (pe_int) (fun _ _ => rfl)) (nomark _))) pa_nil)) (by intro _; rfl))
   (pss_one (praise (ok_X_BadTables E) hr (by decide) rfl tk rfl (pa_cons (pe_un un_neg (pe_int)) pa_nil)))
   pss_nil))), ?_⟩
  change (_ : TS) _ [some v0, none, none, none] H
  try dsimp only [cxOf, Cx.nox, Cx.blk]
  obtain ⟨pt, xs, ts, rfl, hpt, T, z1, z3, kG, kB⟩ := h
  have tl := T.len
  have el : ∀ (i : Nat) (x : V) (H1 : Hp) (t : Tb), Ex H H1 → xs[i]? = some x → ts[i]? = some t → ∃ a, x = .ref a ∧ TabAt K H1 a t.1 t.2.1 t.2.2 := fun i x H1 t e hx ht => by
    obtain ⟨a, t', rfl, ht', tab⟩ := T.get hx
    rw [ht] at ht'
    cases ht'
    exact ⟨a, rfl, ex_tab e tab⟩
  walk_at "w"
  have xl : xs.length ≤ 100000 := by omega
  rcases hpt with s | s
  case' inl =>
    refine i_seqL ?_
    walk_at "w"
    refine lcD_list (f := fun i => .int (endv (ts.getD i ([], [], 0)))) (fun _ => rfl) s xl (fun y => [_, _, some y, _]) (fun _ => rfl) (fun _ => rfl) ?ea ?qa
  case' inr =>
    refine i_seqT ?_
    walk_at "w"
    refine lcD_tup (f := fun i => .int (endv (ts.getD i ([], [], 0)))) (fun _ => rfl) s xl (fun y => [_, _, some y, _]) (fun _ => rfl) (fun _ => rfl) ?eb ?qb
  case' ea => skip
  case' eb => skip
  any_goals
    rintro i x H1 Q' e1 hx hq
    obtain ⟨a, t, rfl, ht, tab0⟩ := T.get hx
    have tab := ex_tab e1 tab0
    rw [List.getD_eq_getElem?_getD, ht] at hq
    walk_at "w"
    refine r_tabLoop E tab fun tl' stl => ?_
    walk_at "w"
    by_cases c : t.2.1 = []
    · have c' : (t.2.1.length : Int) = 0 := by rw [c]; rfl
      walk_at "w"
      refine r_tabHead E tab fun th sth => ?_
      walk_at "w"
      refine hq _ _ (Ex.refl _) ?_
      show Dp K H1 (.int (t.1.length : Nat)) (.int (if t.2.1 = [] then _ else _))
      rw [if_pos c]
      exact .int _
    · have c' : ¬ (t.2.1.length : Int) = 0 := by
        have := List.length_pos_iff.mpr c
        omega
      walk_at "w"
      refine hq _ _ (Ex.refl _) ?_
      show Dp K H1 (.int (-1)) (.int (if t.2.1 = [] then _ else _))
      rw [if_neg c]
      exact .int _
  all_goals
    rintro pe H1 ys n1 e1 g1 dy
    rw [tl, range_getD] at dy
    obtain rfl := dpAll_ints dy
    have el1 : 0 < (ts.map endv).length := by rw [List.length_map]; omega
    have g0 : gI (ts.map endv) 0 = endv (ts.getD 0 ([], [], 0)) := by
      cases ts with
      | nil => exact absurd z1 (by decide)
      | cons t r => rfl
    have sq1 : SqL K H1 pe (vI (ts.map endv)) := sq_of g1
    walk_at "w"
    refine i_seqL ?_
    walk_at "w"
    refine lcJ_list (v := fun x => .bl (!decide (intV x = gI (ts.map endv) 0))) sq1 (by show ((ts.map endv).map V.int).length ≤ 100000; rw [List.length_map, List.length_map]; omega) (fun y => [_, _, _, some y]) (fun _ => rfl) (fun _ => rfl) (fun x H2 Q' e2 hx hq => ?_) (fun p2 H2 n2 e2 g2 => ?_)
    · obtain ⟨e, _, rfl⟩ := List.mem_map.mp hx
      walk_at "w"
      exact hq _ (Ex.refl _)
    walk_at "w"
    refine r_any (bs := (ts.map endv).map fun e => !decide (e = gI (ts.map endv) 0)) (sq_of g2) (by
      show ((ts.map endv).map V.int).map _ = _
      simp only [List.map_map]
      rfl) ?_
    rw [g0]
    by_cases c : AllEnd ts
    · have hf : (((ts.map endv).map fun e => !decide (e = endv (ts.getD 0 ([], [], 0)))).any id) = false := by
        rw [List.any_eq_false]
        intro b hb
        obtain ⟨e, he, rfl⟩ := List.mem_map.mp hb
        obtain ⟨t, ht, rfl⟩ := List.mem_map.mp he
        rw [decide_eq_true (c t ht)]
        decide
      rw [hf]
      walk_at "w"
      exact kG c _ (e1.trans e2)
    · have hf : (((ts.map endv).map fun e => !decide (e = endv (ts.getD 0 ([], [], 0)))).any id) = true := by
        rw [← Bool.not_eq_false]
        intro hn
        refine c fun t ht => ?_
        have := List.any_eq_false.mp hn (!decide (endv t = endv (ts.getD 0 ([], [], 0)))) (List.mem_map.mpr ⟨_, List.mem_map.mpr ⟨t, ht, rfl⟩, rfl⟩)
        simpa using this
      rw [hf]
      walk_at "w"
      refine w_raise ?_
      walk_at "w"
      refine r_mkON E.ox_BadTables E.xs_BadTables E.nf_BadTables_number (by decide) (by decide) fun dd H' n e g => ?_
      exact kB c dd H' ((e1.trans e2).trans e) g

end
section
theorem lcm_div (i j : Nat) : ((i : Int) / (Int.gcd i j : Int)) * j = ((Nat.lcm i j : Nat) : Int) := by
  show ((i : Int) / ((Nat.gcd i j : Nat) : Int)) * j = _
  rw [← Int.natCast_ediv, ← Int.natCast_mul]
  congr 1
  unfold Nat.lcm
  exact (Nat.div_mul_right_comm (Nat.gcd_dvd_left i j) j)
abbrev N_common_multiple : List Str := ["one", "other"]
theorem sc_common_multiple : FnScope N_common_multiple ["one", "other"] (defScope s_common_multiple) := ⟨rfl, rfl, rfl, by decide +kernel, rfl, by decide +kernel, by decide +kernel⟩
theorem ok_common_multiple {P : Program} {w : World} {K : PySem.W.Frag} {mg : Str → Option Value} {base : Heap} (E : Env P K mg) : Fn P w K mg base CX0 2 "common_multiple" (sp2 fun a b H Q _ => ∃ i j : Nat, a = .int i ∧ b = .int j ∧ 0 < i ∧ i ≤ 50000 ∧ j ≤ 50000 ∧ Q (.int (Nat.lcm i j : Nat)) H) := by
  obtain ⟨fd, F⟩ := E.dd_common_multiple
  refine Fn.mk0 F E.g_common_multiple sc_common_multiple sp2_len (fun _ _ _ _ _ _ us hl => match us, hl with | [_, _], _ => rfl) (fun cdv A outer s H vs Q X hr h => ?_)
  have nd := sc_common_multiple.nd
  obtain ⟨v0, v1, rfl, h⟩ := h
  refine ⟨_, (pss_one (ps_ret (pe_op (kMul K) (pe_op xDiv (pv 0) (pc (ok_common_divisor E) hr (by decide) pass0 rfl (pa_cons (pv 0) (pa_cons (pv 1) pa_nil)))) (pv 1)))), ?_⟩
  change (_ : TS) _ [some v0, some v1] H
  try dsimp only [cxOf, Cx.nox, Cx.blk]
  obtain ⟨i, j, rfl, rfl, hi, zi, zj, k⟩ := h
  rw [← lcm_div] at k
  walk_at "w"
  refine ⟨_, _, rfl, rfl, by omega, by omega, ?_⟩
  have g0 : (0 : Int) < Int.gcd i j := by
    have := Int.gcd_pos_of_ne_zero_left (j : Int) (show (i : Int) ≠ 0 by omega)
    omega
  have g1 : (Int.gcd i j : Int) ≤ i := Int.le_of_dvd (by omega) (Int.gcd_dvd_left ..)
  have h1 : (i : Int) / (Int.gcd i j : Int) ≤ i := Int.ediv_le_self _ (by omega)
  have h2 : 0 ≤ (i : Int) / (Int.gcd i j : Int) := Int.ediv_nonneg (by omega) (by omega)
  walk_at "w"
  exact k
/-- how many pieces a way is for -/
def mnL (ts : List Tb) : Nat := ts.foldl (fun m t => Nat.lcm m t.2.1.length) 1
/-- how many pieces the beginning is for -/
def stL (ts : List Tb) (ends : Bool) (st : Nat) : Prop := ∃ m : Nat, (∃ t ∈ ts, t.1.length = m) ∧ (∀ t ∈ ts, t.1.length ≤ m) ∧ st = m + if ends = true then 0 else 1
/-- the deeds for n pieces behind a fit -/
structure DpOk (ts : List Tb) (a n : Nat) : Prop where
  one : ∀ p, a ≤ p → p < a + n → sumD ts p ≤ 600 ∧ ∀ t ∈ ts, RSm t.1 t.2.1 t.2.2 ∧ 0 ≤ tdd t p ∧ (TV t.1 t.2.1 t.2.2 p).isSome = true
  all : (sgL ts a n).length ≤ 600
theorem sgL_add (ts : List Tb) (a n : Nat) : ∀ m, sgL ts a (n + m) = sgL ts a n ++ sgL ts (a + n) m
  | 0 => by
    show sgL ts a n = sgL ts a n ++ []
    rw [List.append_nil]
  | m + 1 => by
    rw [← Nat.add_assoc, sgL_succ, sgL_add ts a n m, sgL_succ, List.append_assoc, Nat.add_assoc]
theorem DpOk.le {ts : List Tb} {a n : Nat} (h : DpOk ts a n) {i : Nat} (hi : i ≤ n) : (sgL ts a i).length ≤ 600 := by
  have := h.all
  rw [show n = i + (n - i) by omega, sgL_add, List.length_append] at this
  omega
theorem tkL_mem {p : Nat} {d : Dd} : ∀ {ts : List Tb} {k : Int}, d ∈ tkL k ts p → ∃ j, d = some j ∧ k ≤ j ∧ j < k + ts.length
  | [], _, h => absurd h List.not_mem_nil
  | t :: ts, k, h => by
    unfold tkL at h
    rcases List.mem_append.mp h with h | h
    · obtain ⟨_, rfl⟩ := List.mem_replicate.mp h
      exact ⟨k, rfl, Int.le_refl _, by rw [List.length_cons]; omega⟩
    · obtain ⟨j, e, a, b⟩ := tkL_mem h
      exact ⟨j, e, by omega, by rw [List.length_cons]; omega⟩
theorem sgL_ok {ts : List Tb} {a n : Nat} : ∀ d ∈ sgL ts a n, okD ts.length d := by
  intro d hd
  unfold sgL at hd
  obtain ⟨l, hl, hd⟩ := List.mem_flatten.mp hd
  obtain ⟨j, _, rfl⟩ := List.mem_map.mp hl
  unfold dlL at hd
  rcases List.mem_append.mp hd with h | h
  · obtain ⟨j, rfl, a, b⟩ := tkL_mem h
    intro i e
    cases e
    exact ⟨a, by omega⟩
  · rw [List.mem_singleton.mp h]
    intro i e
    cases e
theorem sgL_ne {ts : List Tb} {a n : Nat} (h : 1 ≤ n) : sgL ts a n ≠ [] := by
  rw [show n = (n - 1) + 1 by omega, sgL_succ]
  unfold dlL
  simp
theorem mnL_take {ts : List Tb} {i : Nat} {t : Tb} (h : ts[i]? = some t) : mnL (ts.take (i + 1)) = Nat.lcm (mnL (ts.take i)) t.2.1.length := by
  unfold mnL
  rw [List.take_add_one, h, List.foldl_append]
  rfl
abbrev spLi (K : PySem.W.Frag) : Sp := sp1 fun v H Q _ => (∃ a xs, v = .ref a ∧ SqE K H a xs ∧ ∀ H', Ex H H' → Q (.bl true) H') ∨ (∃ d, Dp K H v d ∧ dIsSeq d = false ∧ ∀ H', Ex H H' → Q (.bl false) H')
--derivation of is_listed:
theorem ok_is_listedE {P : Program} {w : World} {K : PySem.W.Frag} {mg : Str → Option Value} {base : Heap} (E : Env P K mg) : Fn P w K mg base CX0 1 "is_listed" (spLi K) := by
  obtain ⟨fd, F⟩ := E.dd_is_listed
  refine Fn.mk0 F E.g_is_listed sc_is_listed sp1_len (fun _ _ _ _ _ _ us hl => match us, hl with | [_], _ => rfl) (fun cdv A outer s H vs Q X hr h => ?_)
  have nd := sc_is_listed.nd
  obtain ⟨v0, rfl, h⟩ := h
  refine ⟨_, (pss_one (ps_ret (pe_callB (kIsiT K) (by rfl) E.f_isinstance (by decide +kernel) (pa_cons (pv 0) (pa_cons (pe_tup (pa_cons (pe_bltn (v := .ty "tuple") (by rfl) E.f_tuple (by decide +kernel) rfl) (pa_cons (pe_bltn (v := .ty "list") (by rfl) E.f_list (by decide +kernel) rfl) pa_nil))) pa_nil))))), ?_⟩
  change (_ : TS) _ [some v0] H
  rcases h with ⟨a, xs, rfl, s | s, k⟩ | ⟨d, hd, hn, k⟩
  · walk_at "w"
    intro p H1 n1 e1 h1
    refine r_isiT (b := true) h1 (SqL.ty (ex_l e1 s)) rfl ?_
    exact k _ e1
  · walk_at "w"
    intro p H1 n1 e1 h1
    refine r_isiT (b := true) h1 (SqT.ty (ex_t e1 s)) rfl ?_
    exact k _ e1
  · cases d with
    | dict x => exact (dp_nodict hd).elim
    | list x => cases hn
    | tuple x => cases hn
    | _ => cases hd <;> (walk_at "w"; intro p H1 n1 e1 h1; walk_at "w"; exact k _ (by walk_at "ex"))
theorem none_of_ex2 {H H1 : Hp} {b : Addr} (e : Ex H H1) (n : H1 b = none) : H b = none := by
  cases h : H b with
  | none => rfl
  | some o => rw [e b o h] at n; cases n
theorem allEnd_ok {ts : List Tb} {ends : Bool} {n : Nat} (ok : TsOk ts ends n) : AllEnd ts := by
  have h0 : ts.getD 0 ([], [], 0) ∈ ts := by
    have := ok.z1
    rw [List.getD_eq_getElem?_getD, List.getElem?_eq_getElem (show 0 < ts.length by omega)]
    exact List.getElem_mem _
  intro t ht
  unfold endv
  cases ends with
  | true =>
    obtain ⟨a, b⟩ := ok.en rfl t ht
    obtain ⟨a', b'⟩ := ok.en rfl _ h0
    rw [if_pos a, if_pos a', b, b']
  | false => rw [if_neg (ok.lp rfl t ht), if_neg (ok.lp rfl _ h0)]
/-- a comprehension over a list or a tuple, item i giving data f i -/
theorem lcE {K : PySem.W.Frag} {H : Hp} {Q : VK} {a : Addr} {xs : List V} {J : It} {j : Nat} {te : TE} {vs : List Nat} {σ : L2.St} (hJ : (J = Itl K a ∧ SqL K H a xs) ∨ (J = Itt K a ∧ SqT K H a xs)) (f : Nat → PyData) (hf : ∀ i, imm (f i) = true) (hn : xs.length ≤ 100000) (σ' : V → L2.St) (hσ : ∀ x, (wipe σ vs).set j (some x) = σ' x) (hw : ∀ x, wipe ((wipe σ vs).set j (some x)) vs = wipe σ vs)
    (he : ∀ (i : Nat) (x : V) (H1 : Hp) (Q' : VK), Ex H H1 → xs[i]? = some x → (∀ y H2, Ex H1 H2 → Dp K H2 y (f i) → Q' y H2) → te (σ' x) H1 Q')
    (hq : ∀ p H2 ys, H p = none → Ex H H2 → H2 p = some (.lst ys) → DpAll K H2 ys ((List.range xs.length).map f) → Q (.ref p) H2) : LcJ J (gName j) tYes te vs σ H Q := by
  rcases hJ with ⟨rfl, h⟩ | ⟨rfl, h⟩
  · exact lcD_list f hf h hn σ' hσ hw he hq
  · exact lcD_tup f hf h hn σ' hσ hw he hq

end
section
abbrev XTyp (K : PySem.W.Frag) (H : Hp) (v : V) : Prop := ∀ H', Ex H H' → ∃ n ∈ ["tuple", "list", "int", "NoneType", "str", "bool"], TyX K H' v (.type n)
theorem ex_fr {H A A1 : Hp} {p : Addr} (e : Ex H A) (n : H p = none) (f : Fr p A A1) : Ex H A1 := fun b u hb => f b u (by rintro rfl; rw [n] at hb; cases hb) (e b u hb)
def MoB (K : PySem.W.Frag) (v : V) (H : Hp) (Q : VK) (X : XK) : Prop := (∃ d, Dp K H v d ∧ dIsSeq d = false ∧ ∀ dd H', Ex H H' → H' dd = some (.xd [("number", .int (-1))]) → X (.ref (He.ga K "BadTables")) (some dd) H') ∨ ∃ (pt : Addr) (xs : List V), v = .ref pt ∧ SqE K H pt xs ∧ xs.length ≤ 100 ∧ (
  ((xs.length = 0 ∨ 3 < xs.length) ∧ ∀ dd H', Ex H H' → H' dd = some (.xd [("number", .int (-1))]) → X (.ref (He.ga K "BadTables")) (some dd) H') ∨
  (∃ (i : Nat) (b : V) (ts : List Tb), xs.length ≤ 3 ∧ xs[i]? = some b ∧ Tbs K H (xs.take i) ts ∧ XTyp K H b ∧ ∀ dd H', Ex H H' → H' dd = some (.xd [("number", .int (i : Nat))]) → X (.ref (He.ga K "BadTables")) (some dd) H') ∨
  (∃ ts : List Tb, Tbs K H xs ts ∧ 1 ≤ ts.length ∧ ts.length ≤ 3 ∧ ¬ AllEnd ts ∧ ∀ dd H', Ex H H' → H' dd = some (.xd [("number", .int (-1))]) → X (.ref (He.ga K "BadTables")) (some dd) H') ∨
  (∃ (ts : List Tb) (ends : Bool) (n st : Nat), H pt ≠ none ∧ Tbs K H xs ts ∧ TsOk ts ends n ∧ stL ts ends st ∧ (ends = false → ∀ i, 0 < mnL (ts.take i) ∧ mnL (ts.take i) ≤ 50000) ∧ (∀ t ∈ ts, t.2.1.length ≤ 50000) ∧ st ≤ 50000 ∧
    ((DpOk ts 0 st ∧ (ends = false → DpOk ts st (mnL ts)) ∧ ∀ x H', Ex H H' → MakAt K H' x ts.length (sgL ts 0 st) [if ends = true then [some 0] else sgL ts st (mnL ts)] → Q (.ref x) H') ∨
     (1 ≤ st ∧ ∃ t, ts = [t] ∧ RSm t.1 t.2.1 t.2.2 ∧ (TV t.1 t.2.1 t.2.2 0).isSome = true ∧ 600 < tdd t 0 ∧ ∀ dd H', H' dd = some (.xd [("word", .str "deed")]) → X (.ref (He.ga K "TooMany")) (some dd) H'))))
abbrev spMo (K : PySem.W.Frag) : Sp := sp1 fun v H Q X => MoB K v H Q X
abbrev N_maker_of : List Str := ["tables", "number", "table", "taken", "ends", "many", "start", "begin", "place", "way"]
theorem sc_maker_of : FnScope N_maker_of ["tables"] (defScope s_maker_of) := ⟨rfl, rfl, rfl, by decide +kernel, rfl, by decide +kernel, by decide +kernel⟩
theorem ok_maker_of {P : Program} {w : World} {K : PySem.W.Frag} {mg : Str → Option Value} {base : Heap} (E : Env P K mg) : Fn P w K mg base (L2.CX P w) 11 "maker_of" (spMo K) := by
  obtain ⟨fd, F⟩ := E.dd_maker_of
  refine Fn.mkX F E.g_maker_of sc_maker_of sp1_len (fun _ _ _ _ _ _ us hl => match us, hl with | [_], _ => rfl) (fun cdv A outer s H vs Q X hr h tk => ?_)
  have nd := sc_maker_of.nd
  obtain ⟨v0, rfl, h⟩ := h
  refine ⟨_, (pss_cons (ps_if (PW.pt (pw_or (pt_not (kTru K (pc (ok_is_listedE E) hr (by decide) pass0 rfl (pa_cons (pv 0) pa_nil)) (by intro _; rfl))) (pw_or1 (pt_not (pt_chain op_le op_le (pe_int) (pe_callB (kLen K) (by rfl) E.f_len (by decide +kernel) (pa_cons (pv 0) pa_nil)) (pe_int))))))
   (pss_one (praise (ok_X_BadTables E) hr (by decide) rfl tk rfl (pa_cons (pe_un un_neg (pe_int)) pa_nil)))
   pss_nil)
  (pss_cut (ps_for (passes_of rfl) rfl (pi_enumE K (by rfl) E.f_enumerate (pa_cons (pv 0) pa_nil)) (kGtup K rfl (pgs_cons (pg_name (i := 1) nd rfl (.inl rfl)) (pgs_cons (pg_name (i := 2) nd rfl (.inl rfl)) (pgs_nil))))
   (pss_one (ps_if (pt_not (kTru K (pe_callB (kIsi K) (by rfl) E.f_isinstance (by decide +kernel) (pa_cons (pv 2) (pa_cons (pe_glob (v := .ref (He.ga K "Table")) (by rfl) E.g_Table rfl) pa_nil))) (by intro _; rfl)))
   (pss_one (praise (ok_X_BadTables E) hr (by decide) rfl tk rfl (pa_cons (pv 1) pa_nil)))
   pss_nil)))
  (pss_cons (ps_expr (pcS (ok_check_lengths E) hr (by decide) tk rfl (pa_cons (pv 0) pa_nil)))
  (pss_cut (ps_setLc (i := 3) (own := [("table", 2)]) (g := gName 2) (tt := tYes) rfl nd rfl rfl (sw_true rfl rfl rfl (by decide +kernel)) (kSeq K (pv 0)) (blkOk_by (N := N_maker_of) (sc := defScope s_maker_of) (by decide +kernel)) (fun _ _ _ _ _ => pg_name (i := 2) nd rfl (Or.inl rfl)) (fun _ _ _ _ _ => pts_nil) (fun _ _ _ _ _ => pe_int))
  (pss_cons (ps_set (i := 4) nd rfl (.inl rfl) (pe_cmpR (kEq K hr) (pe_callB (kLen K) (by rfl) E.f_len (by decide +kernel) (pa_cons (kFld K (pe_ix (kIx K) (pv 0) (pe_int) (fun _ _ => rfl)) rfl) pa_nil)) (pe_int) (nomark _)))
  (pss_cons (ps_set (i := 5) nd rfl (.inl rfl) (pe_int))
  (pss_cut (ps_for (passes_of rfl) rfl (kSeq K (pv 0)) (pg_name (i := 2) nd rfl (.inl rfl))
   (pss_one (ps_set (i := 5) nd rfl (.inl rfl) (pe_ifExp (kTru K (pv 4) (by intro _; rfl)) (pv 5) (pc (ok_common_multiple E) hr (by decide) pass0 rfl (pa_cons (pv 5) (pa_cons (pe_callB (kLen K) (by rfl) E.f_len (by decide +kernel) (pa_cons (kFld K (pv 2) rfl) pa_nil)) pa_nil)))))))
  (pss_cut (ps_set (i := 6) nd rfl (.inl rfl) (pe_op (kAdd K) (pe_callB (kMaxL K rfl) (by rfl) E.f_max (by decide +kernel) (pa_cons (pe_lc (own := [("table", 2)]) (g := gName 2) (tt := tYes) rfl nd (kSeq K (pv 0)) (blkOk_by (N := N_maker_of) (sc := defScope s_maker_of) (by decide +kernel)) (fun _ _ _ _ _ => pg_name (i := 2) nd rfl (Or.inl rfl)) (fun _ _ _ _ _ => pts_nil) (fun _ _ _ _ _ => pe_callB (kLen K) (by rfl) E.f_len (by decide +kernel) (pa_cons (kFld K (pv 2) rfl) pa_nil))) pa_nil)) (pe_ifExp (kTru K (pv 4) (by intro _; rfl)) (pe_int) (pe_int))))
  (pss_cons (ps_set (i := 7) nd rfl (.inl rfl) (pe_lst (pa_nil)))
  (pss_cut (ps_for (passes_of rfl) rfl (pi_range1 (by rfl) E.f_range (pa_cons (pv 6) pa_nil)) (pg_name (i := 8) nd rfl (.inl rfl))
   (pss_cons (ps_expr (kBM K (pe_bm PySem.F.plainAttrs_list PySem.F.slot_list_extend PySem.F.type_list_extend mt_extend (pv 7) (pa_cons (pcS (ok_deeds_to E) hr (by decide) tk rfl (pa_cons (pv 0) (pa_cons (pv 3) (pa_cons (pe_op (kAdd K) (pv 8) (pe_int)) pa_nil)))) pa_nil))))
  (pss_one (ps_if (pt_cmpR op_gt (pe_callB (kLen K) (by rfl) E.f_len (by decide +kernel) (pa_cons (pv 7) pa_nil)) ((E.k_MOST_DEEDS).elim fun t e => pe_glob (v := .int 600) (by rfl) e ⟨t, rfl⟩) (nomark _))
   (pss_one (praise (ok_X_TooMany E) hr (by decide) rfl tk rfl (pa_cons (pe_str) pa_nil)))
   pss_nil))))
  (pss_cons (ps_set (i := 9) nd rfl (.inl rfl) (pe_lst (pa_cons (pe_int) pa_nil)))
  (pss_cut (ps_if (pt_not (kTru K (pv 4) (by intro _; rfl)))
   (pss_cons (ps_set (i := 9) nd rfl (.inl rfl) (pe_lst (pa_nil)))
  (pss_one (ps_for (passes_of rfl) rfl (pi_range2 (by rfl) E.f_range (pa_cons (pv 6) (pa_cons (pe_op (kAdd K) (pv 6) (pv 5)) pa_nil))) (pg_name (i := 8) nd rfl (.inl rfl))
   (pss_cons (ps_expr (kBM K (pe_bm PySem.F.plainAttrs_list PySem.F.slot_list_extend PySem.F.type_list_extend mt_extend (pv 9) (pa_cons (pcS (ok_deeds_to E) hr (by decide) tk rfl (pa_cons (pv 0) (pa_cons (pv 3) (pa_cons (pe_op (kAdd K) (pv 8) (pe_int)) pa_nil)))) pa_nil))))
  (pss_one (ps_if (pt_cmpR op_gt (pe_callB (kLen K) (by rfl) E.f_len (by decide +kernel) (pa_cons (pv 9) pa_nil)) ((E.k_MOST_DEEDS).elim fun t e => pe_glob (v := .int 600) (by rfl) e ⟨t, rfl⟩) (nomark _))
   (pss_one (praise (ok_X_TooMany E) hr (by decide) rfl tk rfl (pa_cons (pe_str) pa_nil)))
   pss_nil))))))
   pss_nil)
  (pss_one (ps_ret (pmk (ok_Maker3 E) hr (by decide) pass0 rfl (pa_cons (pe_callB (kLen K) (by rfl) E.f_len (by decide +kernel) (pa_cons (pv 0) pa_nil)) (pa_cons (pv 7) (pa_cons (pe_lst (pa_cons (pv 9) pa_nil)) pa_nil)))))))))))))))))), ?_⟩
  change (_ : TS) _ [some v0, none, none, none, none, none, none, none, none, none] H
  try dsimp only [cxOf, Cx.nox, Cx.blk]
  unfold MoB at h
  rcases h with ⟨d, hd, hdq, kX⟩ | ⟨pt, xs, rfl, hpt, xl, h | h | h | ⟨ts, ends, n, st, npt, T, ok, hst, hmb, hlb, zst, k⟩⟩
  · walk_at "w"
    refine .inr ⟨d, hd, hdq, fun H1 e1 => ?_⟩
    walk_at "w"
    refine w_raise ?_
    walk_at "w"
    refine r_mkON E.ox_BadTables E.xs_BadTables E.nf_BadTables_number (by decide) (by decide) fun dd H' n e g => ?_
    exact kX dd H' (e1.trans e) g
  · obtain ⟨hl, kX⟩ := h
    walk_at "w"
    refine .inl ⟨pt, xs, rfl, hpt, fun H1 e1 => ?_⟩
    walk_at "w"
    refine r_lenE (ex_e e1 hpt) ?_
    rcases hl with hl | hl
    · rw [hl]
      walk_at "w"
      refine w_raise ?_
      walk_at "w"
      refine r_mkON E.ox_BadTables E.xs_BadTables E.nf_BadTables_number (by decide) (by decide) fun dd H' n e g => ?_
      exact kX dd H' (e1.trans e) g
    · have y1 : (1 : Int) ≤ (xs.length : Nat) := by omega
      have y3 : ¬ ((xs.length : Nat) : Int) ≤ 3 := by omega
      walk_at "w"
      refine w_raise ?_
      walk_at "w"
      refine r_mkON E.ox_BadTables E.xs_BadTables E.nf_BadTables_number (by decide) (by decide) fun dd H' n e g => ?_
      exact kX dd H' (e1.trans e) g
  · obtain ⟨i0, b, ts, x3, hb, T, hty, kX⟩ := h
    have il := (List.getElem?_eq_some_iff.mp hb).1
    walk_at "w"
    refine .inl ⟨pt, xs, rfl, hpt, fun H1 e1 => ?_⟩
    have hpt1 := ex_e e1 hpt
    walk_at "w"
    refine r_lenE hpt1 ?_
    have y1 : (1 : Int) ≤ (xs.length : Nat) := by omega
    have y3 : ((xs.length : Nat) : Int) ≤ 3 := by omega
    walk_at "w"
    refine w_cut (M := fun _ _ => False) ?_ (fun _ _ h => h.elim)
    walk_at "w"
    refine i_enumE ?_
    walk_at "w"
    rcases hpt1 with s | s
    case' inl =>
      refine ⟨pt, xs, rfl, .inl ⟨s, ?_⟩⟩
      refine for_enumL (xs := xs) (Pv := fun j σ' H' => ∃ x y : Option V, j ≤ i0 ∧ σ' = [some (.ref pt), x, y, none, none, none, none, none, none, none] ∧ Ex H1 H') ⟨_, _, Nat.zero_le _, rfl, Ex.refl _⟩ (fun i σ' H' _ h => by obtain ⟨_, _, _, _, e⟩ := h; exact ex_l e s) ?sa1 ?da1
    case' inr =>
      refine ⟨pt, xs, rfl, .inr ⟨s, ?_⟩⟩
      refine for_enumT (xs := xs) (Pv := fun j σ' H' => ∃ x y : Option V, j ≤ i0 ∧ σ' = [some (.ref pt), x, y, none, none, none, none, none, none, none] ∧ Ex H1 H') ⟨_, _, Nat.zero_le _, rfl, Ex.refl _⟩ (fun i σ' H' _ h => by obtain ⟨_, _, _, _, e⟩ := h; exact ex_t e s) ?sb1 ?db1
    case' da1 =>
      rintro σ' H' ⟨x, y, h, _⟩
      omega
    case' db1 =>
      rintro σ' H' ⟨x, y, h, _⟩
      omega
    all_goals
      rintro j v σ' H' T0 hv ⟨x, y, hj, rfl, e⟩ hT
      have e4 : Ex H' (upd H' T0 (.tup [.int (j : Nat), v])) := Ex.new hT
      have st : SqT K (upd H' T0 (.tup [.int (j : Nat), v])) T0 [.int (j : Nat), v] := st_of upd_same
      have e5 := e.trans e4
      generalize upd H' T0 (.tup [.int (j : Nat), v]) = H4 at *
      by_cases c : j < i0
      · obtain ⟨a, t, rfl, ht, tab⟩ := T.get (i := j) (v := v) (by rw [List.getElem?_take, if_pos c]; exact hv)
        have tab4 := ex_tab (e1.trans e5) tab
        walk_at "w"
        refine r_isiC (insB_ok E.ins_Table E.c_Table (tab_mine tab4).choose_spec.choose_spec) E.kit_Table_self ?_
        walk_at "w"
        exact ⟨_, _, by omega, rfl, e5⟩
      · obtain rfl : j = i0 := by omega
        rw [hb] at hv
        cases hv
        obtain ⟨n, hn, ty⟩ := hty _ (e1.trans e5)
        walk_at "w"
        refine r_isiC ty (b := false) (by
          simp only [List.mem_cons, List.not_mem_nil, or_false] at hn
          rcases hn with rfl | rfl | rfl | rfl | rfl | rfl
          · exact E.kit_Table_tuple
          · exact E.kit_Table_list
          · exact E.kit_Table_int
          · exact E.kit_Table_NoneType
          · exact E.kit_Table_str
          · exact E.kit_Table_bool) ?_
        walk_at "w"
        refine w_raise ?_
        walk_at "w"
        refine r_mkON E.ox_BadTables E.xs_BadTables E.nf_BadTables_number (by omega) (by omega) fun dd H' n e g => ?_
        exact kX dd H' ((e1.trans e5).trans e) g
  · obtain ⟨ts, T, z1, z3, ne, kX⟩ := h
    have tl := T.len
    walk_at "w"
    refine .inl ⟨pt, xs, rfl, hpt, fun H1 e1 => ?_⟩
    have hpt1 := ex_e e1 hpt
    have T1 := T.ex e1
    walk_at "w"
    refine r_lenE hpt1 ?_
    rw [tl]
    have y1 : (1 : Int) ≤ (ts.length : Nat) := by omega
    have y3 : ((ts.length : Nat) : Int) ≤ 3 := by omega
    walk_at "w"
    refine w_cut (M := fun σ' H' => ∃ x y : Option V, σ' = [some (.ref pt), x, y, none, none, none, none, none, none, none] ∧ Ex H H') ?_ ?_
    · walk_at "w"
      refine i_enumE ?_
      walk_at "w"
      rcases hpt1 with s | s
      case' inl =>
        refine ⟨pt, xs, rfl, .inl ⟨s, ?_⟩⟩
        refine for_enumL (xs := xs) (Pv := fun i σ' H' => ∃ x y : Option V, σ' = [some (.ref pt), x, y, none, none, none, none, none, none, none] ∧ Ex H1 H') ⟨_, _, rfl, Ex.refl _⟩ (fun i σ' H' _ h => by obtain ⟨_, _, _, e⟩ := h; exact ex_l e s) ?sa2 ?da2
      case' inr =>
        refine ⟨pt, xs, rfl, .inr ⟨s, ?_⟩⟩
        refine for_enumT (xs := xs) (Pv := fun i σ' H' => ∃ x y : Option V, σ' = [some (.ref pt), x, y, none, none, none, none, none, none, none] ∧ Ex H1 H') ⟨_, _, rfl, Ex.refl _⟩ (fun i σ' H' _ h => by obtain ⟨_, _, _, e⟩ := h; exact ex_t e s) ?sb2 ?db2
      case' da2 =>
        rintro σ' H' ⟨x, y, rfl, e⟩
        exact ⟨_, _, rfl, e1.trans e⟩
      case' db2 =>
        rintro σ' H' ⟨x, y, rfl, e⟩
        exact ⟨_, _, rfl, e1.trans e⟩
      all_goals
        rintro i v σ' H' T0 hv ⟨x, y, rfl, e⟩ hT
        obtain ⟨a, t, rfl, ht, tab⟩ := T1.get hv
        have e4 : Ex H' (upd H' T0 (.tup [.int (i : Nat), .ref a])) := Ex.new hT
        have tab4 := ex_tab (e.trans e4) tab
        have st : SqT K (upd H' T0 (.tup [.int (i : Nat), .ref a])) T0 [.int (i : Nat), .ref a] := st_of upd_same
        have e5 := e.trans e4
        generalize upd H' T0 (.tup [.int (i : Nat), .ref a]) = H4 at *
        walk_at "w"
        refine r_isiC (insB_ok E.ins_Table E.c_Table (tab_mine tab4).choose_spec.choose_spec) E.kit_Table_self ?_
        walk_at "w"
        exact ⟨_, _, rfl, e5⟩
    rintro σ' H1 ⟨x, y, rfl, e1⟩
    walk_at "w"
    refine w_callS ?_
    walk_at "w"
    exact ⟨_, rfl, pt, xs, ts, rfl, ex_e e1 hpt, T.ex e1, z1, z3, fun h => absurd h ne, fun _ dd H' e g => kX dd H' (e1.trans e) g⟩
  have tl := T.len
  have z1 := ok.z1
  have z3 := ok.z3
  walk_at "w"
  refine .inl ⟨pt, xs, rfl, hpt, fun H1 e1 => ?_⟩
  have hpt1 := ex_e e1 hpt
  have T1 := T.ex e1
  walk_at "w"
  refine r_lenE hpt1 ?_
  rw [tl]
  have y1 : (1 : Int) ≤ (ts.length : Nat) := by omega
  have y3 : ((ts.length : Nat) : Int) ≤ 3 := by omega
  walk_at "w"
  refine w_cut (M := fun σ' H' => ∃ x y : Option V, σ' = [some (.ref pt), x, y, none, none, none, none, none, none, none] ∧ Ex H H') ?_ ?_
  · walk_at "w"
    refine i_enumE ?_
    walk_at "w"
    rcases hpt1 with s | s
    case' inl =>
      refine ⟨pt, xs, rfl, .inl ⟨s, ?_⟩⟩
      refine for_enumL (xs := xs) (Pv := fun i σ' H' => ∃ x y : Option V, σ' = [some (.ref pt), x, y, none, none, none, none, none, none, none] ∧ Ex H1 H') ⟨_, _, rfl, Ex.refl _⟩ (fun i σ' H' _ h => by obtain ⟨_, _, _, e⟩ := h; exact ex_l e s) ?sa3 ?da3
    case' inr =>
      refine ⟨pt, xs, rfl, .inr ⟨s, ?_⟩⟩
      refine for_enumT (xs := xs) (Pv := fun i σ' H' => ∃ x y : Option V, σ' = [some (.ref pt), x, y, none, none, none, none, none, none, none] ∧ Ex H1 H') ⟨_, _, rfl, Ex.refl _⟩ (fun i σ' H' _ h => by obtain ⟨_, _, _, e⟩ := h; exact ex_t e s) ?sb3 ?db3
    case' da3 =>
      rintro σ' H' ⟨x, y, rfl, e⟩
      exact ⟨_, _, rfl, e1.trans e⟩
    case' db3 =>
      rintro σ' H' ⟨x, y, rfl, e⟩
      exact ⟨_, _, rfl, e1.trans e⟩
    all_goals
      rintro i v σ' H' T0 hv ⟨x, y, rfl, e⟩ hT
      obtain ⟨a, t, rfl, ht, tab⟩ := T1.get hv
      have e4 : Ex H' (upd H' T0 (.tup [.int (i : Nat), .ref a])) := Ex.new hT
      have tab4 := ex_tab (e.trans e4) tab
      have st : SqT K (upd H' T0 (.tup [.int (i : Nat), .ref a])) T0 [.int (i : Nat), .ref a] := st_of upd_same
      have e5 := e.trans e4
      generalize upd H' T0 (.tup [.int (i : Nat), .ref a]) = H4 at *
      walk_at "w"
      refine r_isiC (insB_ok E.ins_Table E.c_Table (tab_mine tab4).choose_spec.choose_spec) E.kit_Table_self ?_
      walk_at "w"
      exact ⟨_, _, rfl, e5⟩
  clear hpt1 T1 e1 H1
  rintro σ' H1 ⟨x, y, rfl, e1⟩
  have hpt1 := ex_e e1 hpt
  have T1 := T.ex e1
  walk_at "w"
  refine w_callS ?_
  walk_at "w"
  refine ⟨_, rfl, pt, xs, ts, rfl, hpt1, T1, z1, z3, fun _ H2 e2 => ?_, fun h => absurd (allEnd_ok ok) h⟩
  have hpt2 := ex_e e2 hpt1
  have T2 := T1.ex e2
  walk_at "w"
  refine w_cut (M := fun σ' H' => ∃ (x y : Option V) (pk : Addr), σ' = [some (.ref pt), x, y, some (.ref pk), none, none, none, none, none, none] ∧ Ex H H' ∧ H pk = none ∧ H' pk = some (.lst (vI (ts.map (tv · 0))))) ?_ ?_
  · walk_at "w"
    rcases hpt2 with s | s
    case' inl => refine i_seqL ?_; walk_at "w"
    case' inr => refine i_seqT ?_; walk_at "w"
    all_goals
      refine lcE (by first | exact .inl ⟨rfl, s⟩ | exact .inr ⟨rfl, s⟩) (fun _ => .int 0) (fun _ => rfl) (by omega) (fun v => [_, _, some v, _, _, _, _, _, _, _]) (fun _ => rfl) (fun _ => rfl) (fun i v G Q' e hv hq => ?_) (fun pk G ys nk e g dy => ?_)
      · walk_at "w"
        exact hq _ _ (Ex.refl _) (.int _)
      · have ez : (List.range xs.length).map (fun _ => PyData.int 0) = (ts.map (tv · 0)).map .int := by
          rw [tl, List.map_const', List.length_range, List.map_map]
          exact (List.map_const' ..).symm
        rw [ez] at dy
        obtain rfl := dpAll_ints dy
        dsimp only [gName, List.set]
        exact ⟨_, _, pk, rfl, (e1.trans e2).trans e, none_of_ex2 (e1.trans e2) nk, g⟩
  clear hpt1 hpt2 T1 T2 e1 e2 H1 H2
  rintro σ' H1 ⟨x, y, pk, rfl, e1, nk, gk⟩
  have hpt1 := ex_e e1 hpt
  have T1 := T.ex e1
  obtain ⟨v0, hv0⟩ : ∃ v0, xs[0]? = some v0 := ⟨_, List.getElem?_eq_getElem (show 0 < xs.length by omega)⟩
  obtain ⟨a0, t0, rfl, ht0, tab0⟩ := T1.get hv0
  have en0 : decide (((t0.2.1.length : Nat) : Int) = 0) = ends := by
    cases hb : ends with
    | true => rw [(ok.en hb t0 (List.mem_of_getElem? ht0)).1]; rfl
    | false =>
      have := List.length_pos_iff.mpr (ok.lp hb t0 (List.mem_of_getElem? ht0))
      exact decide_eq_false (by omega)
  walk_at "w"
  refine r_ixE hpt1 (v := .ref a0) (atI_pos (Int.le_refl _) hv0) ?_
  walk_at "w"
  refine r_tabLoop E tab0 fun tl0 stl0 => ?_
  walk_at "w"
  rw [en0]
  walk_at "w"
  refine w_cut (M := fun σ' H' => ∃ (x y : Option V), σ' = [some (.ref pt), x, y, some (.ref pk), some (.bl ends), some (.int ((if ends = true then 1 else mnL ts : Nat) : Int)), none, none, none, none] ∧ H' = H1) ?_ ?_
  · walk_at "w"
    rcases hpt1 with s | s
    case' inl => refine i_seqL ?_; walk_at "w"
    case' inr => refine i_seqT ?_; walk_at "w"
    all_goals
      refine forE (xs := xs) (H0 := H1) (by first | exact .inl ⟨rfl, s⟩ | exact .inr ⟨rfl, s⟩) (Pv := fun i σ' H' => ∃ (x y : Option V), σ' = [some (.ref pt), x, y, some (.ref pk), some (.bl ends), some (.int ((if ends = true then 1 else mnL (ts.take i) : Nat) : Int)), none, none, none, none] ∧ H' = H1) ⟨_, _, by rw [List.take_zero]; cases ends <;> rfl, rfl⟩ (fun i σ' H' h => by obtain ⟨_, _, _, rfl⟩ := h; exact Ex.refl _) ?_ ?_
      · rintro i v σ' H' hv ⟨x, y, rfl, rfl⟩
        obtain ⟨a, t, rfl, ht, tab⟩ := T1.get hv
        cases hb : ends with
        | true =>
          subst hb
          walk_at "w"
          exact ⟨_, _, rfl, rfl⟩
        | false =>
          subst hb
          obtain ⟨m0, m1⟩ := hmb rfl i
          walk_at "w"
          refine r_tabLoop E tab fun tl' stl => ?_
          walk_at "w"
          refine ⟨mnL (ts.take i), t.2.1.length, rfl, rfl, m0, m1, hlb t (List.mem_of_getElem? ht), ?_⟩
          walk_at "w"
          refine ⟨x, some (.ref a), ?_, rfl⟩
          rw [mnL_take ht]
          rfl
      · rintro σ' H' ⟨x, y, rfl, rfl⟩
        rw [tl, List.take_length]
        exact ⟨_, _, rfl, rfl⟩
  rintro σ' H' ⟨x, y, rfl, rfl⟩
  refine w_cut (M := fun σ'' H'' => ∃ (x y : Option V), σ'' = [some (.ref pt), x, y, some (.ref pk), some (.bl ends), some (.int ((if ends = true then 1 else mnL ts : Nat) : Int)), some (.int (st : Nat)), none, none, none] ∧ Ex H' H'') ?_ ?_
  · walk_at "w"
    rcases hpt1 with s | s
    case' inl => refine i_seqL ?_; walk_at "w"
    case' inr => refine i_seqT ?_; walk_at "w"
    all_goals
      refine lcE (by first | exact .inl ⟨rfl, s⟩ | exact .inr ⟨rfl, s⟩) (fun i => .int ((ts.getD i ([], [], 0)).1.length : Nat)) (fun _ => rfl) (by omega) (fun v => [_, _, some v, _, _, _, _, _, _, _]) (fun _ => rfl) (fun _ => rfl) (fun i v G Q' e hv hq => ?_) (fun pe G ys ne e g dy => ?_)
      · obtain ⟨a, t, rfl, ht, tab⟩ := T1.get hv
        rw [List.getD_eq_getElem?_getD, ht] at hq
        walk_at "w"
        refine r_tabHead E (ex_tab e tab) fun th sth => ?_
        walk_at "w"
        exact hq _ _ (Ex.refl _) (.int _)
      · rw [tl, range_getD ts (fun t => (t.1.length : Nat))] at dy
        obtain rfl := dpAll_ints dy
        walk_at "w"
        refine r_maxL (sq_of g) (by rw [List.length_map]; omega) fun m hm hx => ?_
        obtain ⟨m0, ⟨t1, ht1, e1'⟩, hle, rfl⟩ := hst
        obtain ⟨t2, ht2, rfl⟩ := List.mem_map.mp hm
        have em : t2.1.length = m0 := by
          have a1 := hle t2 ht2
          have a2 := hx _ (List.mem_map.mpr ⟨t1, ht1, rfl⟩)
          omega
        rw [em]
        cases hb : ends with
        | true =>
          subst hb
          walk_at "w"
          refine ⟨x, y, ?_, e⟩
          simp
        | false =>
          subst hb
          walk_at "w"
          refine ⟨x, y, ?_, e⟩
          simp
  rintro σ'' H2 ⟨x, y, rfl, e2⟩
  have e12 := e1.trans e2
  have gk2 := e2 _ _ gk
  obtain ⟨mm, hmm⟩ : ∃ mm : Nat, mm = (if ends = true then 1 else mnL ts : Nat) := ⟨_, rfl⟩
  rw [← hmm]
  have ptk : pt ≠ pk := fun e => npt (e ▸ nk)
  walk_at "w"
  intro pb H3 n3 e3 g3
  have e13 := e12.trans e3
  have nb := none_of_ex2 e12 n3
  have bk : pb ≠ pk := (ne_of_none gk2 n3).symm
  have ptb : pt ≠ pb := fun e => npt (e ▸ nb)
  walk_at "w"
  refine w_cut (M := fun σ' H' => ∃ (z : Option V), σ' = [some (.ref pt), x, y, some (.ref pk), some (.bl ends), some (.int (mm : Nat)), some (.int (st : Nat)), some (.ref pb), z, none] ∧ Ex H H' ∧ H' pk = some (.lst (vI (ts.map (tv · st)))) ∧ H' pb = some (.lst ((sgL ts 0 st).map gV)) ∧ (DpOk ts 0 st ∧ (ends = false → DpOk ts st (mnL ts)) ∧ ∀ x H', Ex H H' → MakAt K H' x ts.length (sgL ts 0 st) [if ends = true then [some 0] else sgL ts st (mnL ts)] → Q (.ref x) H')) ?_ ?_
  · walk_at "w"
    refine for_range (lo := 0) (Pv := fun i σ' H' => ∃ (z : Option V), σ' = [some (.ref pt), x, y, some (.ref pk), some (.bl ends), some (.int (mm : Nat)), some (.int (st : Nat)), some (.ref pb), z, none] ∧ Ex H H' ∧ H' pk = some (.lst (vI (ts.map (tv · i)))) ∧ H' pb = some (.lst ((sgL ts 0 i).map gV)) ∧ (0 < i → DpOk ts 0 st ∧ (ends = false → DpOk ts st (mnL ts)) ∧ ∀ x H', Ex H H' → MakAt K H' x ts.length (sgL ts 0 st) [if ends = true then [some 0] else sgL ts st (mnL ts)] → Q (.ref x) H')) ⟨_, rfl, e13, e3 _ _ gk2, g3, fun h => absurd h (Nat.lt_irrefl 0)⟩ ?_ ?_
    · rintro i σ' A hi ⟨z, rfl, eA, gkA, gbA, hk0⟩
      walk_at "w"
      refine w_callS ?_
      walk_at "w"
      rw [show (0 : Int) + (i : Int) + 1 = ((i + 1 : Nat) : Int) by omega]
      have K1 : (DpOk ts 0 st ∧ (ends = false → DpOk ts st (mnL ts)) ∧ ∀ x H', Ex H H' → MakAt K H' x ts.length (sgL ts 0 st) [if ends = true then [some 0] else sgL ts st (mnL ts)] → Q (.ref x) H') ∨ (i = 0 ∧ ∃ t, ts = [t] ∧ RSm t.1 t.2.1 t.2.2 ∧ (TV t.1 t.2.1 t.2.2 0).isSome = true ∧ 600 < tdd t 0 ∧ ∀ dd H', H' dd = some (.xd [("word", .str "deed")]) → X (.ref (He.ga K "TooMany")) (some dd) H') := by
        rcases k with k | ⟨_, k⟩
        · exact .inl k
        · by_cases i0 : 0 < i
          · exact .inl (hk0 i0)
          · exact .inr ⟨by omega, k⟩
      rcases K1 with ⟨d0, d1, kG⟩ | ⟨rfl, t, rfl, rs, tn, big, kX⟩
      · skip
        obtain ⟨sd, okp⟩ := d0.one i (Nat.zero_le _) (by omega)
        refine ⟨_, _, _, rfl, pt, pk, xs, ts, i, rfl, rfl, rfl, ex_e eA hpt, ptk, T.ex eA, z3, gkA, okp, .inl ⟨sd, fun q A1 nq f1 gk1 gq => ?_⟩⟩
        have gb1 := f1 _ _ bk gbA
        have qb : q ≠ pb := fun e => by rw [e, gbA] at nq; cases nq
        have le := d0.le (i := i + 1) (by omega)
        rw [sgL_succ, Nat.zero_add, List.length_append] at le
        walk_at "w"
        refine ⟨pb, q, _, _, rfl, rfl, gb1, gq, sz_of (by rw [List.length_map, List.length_map]; omega), ?_⟩
        rw [← List.map_append]
        have gb2 : upd A1 pb (.lst ((sgL ts 0 i ++ dlL ts i).map gV)) pb = some (.lst ((sgL ts 0 i ++ dlL ts i).map gV)) := upd_same
        walk_at "w"
        refine ⟨_, rfl, Ex.mut (ex_fr eA nk f1) nb, by rw [upd_ne bk.symm]; exact gk1, by rw [sgL_succ, Nat.zero_add]; exact gb2, fun _ => ⟨d0, d1, kG⟩⟩
      · exact ⟨_, _, _, rfl, pt, pk, xs, _, 0, rfl, rfl, rfl, ex_e eA hpt, ptk, T.ex eA, z3, gkA, fun t' ht => (List.mem_singleton.mp ht) ▸ ⟨rs, by omega, tn⟩, .inr ⟨t, rfl, big, fun dd H' g => kX dd H' g⟩⟩
    · rintro σ' A ⟨z, rfl, eA, gkA, gbA, hk0⟩
      refine ⟨z, rfl, eA, gkA, gbA, ?_⟩
      rcases k with k | ⟨s1, t, rfl, _⟩
      · exact k
      · exact hk0 (by omega)
  rintro σ3 A ⟨z, rfl, eA, gkA, gbA, d0, d1, kG⟩
  walk_at "w"
  intro p0 A1 n1' e1' g1'
  have gkB := e1' _ _ gkA
  have gbB := e1' _ _ gbA
  have eB := eA.trans e1'
  clear eA gkA gbA
  walk_at "w"
  refine w_cut (M := fun σ' A' => ∃ (z : Option V) (pw : Addr), σ' = [some (.ref pt), x, y, some (.ref pk), some (.bl ends), some (.int (mm : Nat)), some (.int (st : Nat)), some (.ref pb), z, some (.ref pw)] ∧ Ex H A' ∧ A' pb = some (.lst ((sgL ts 0 st).map gV)) ∧ A' pw = some (.lst ((if ends = true then [some 0] else sgL ts st (mnL ts)).map gV))) ?_ ?_
  · cases hb : ends with
    | true =>
      subst hb
      walk_at "w"
      exact ⟨_, _, rfl, eB, gbB, g1'⟩
    | false =>
      subst hb
      have d1 := d1 rfl
      have emm : mm = mnL ts := hmm
      have m2 : mm ≤ 50000 := by
        have := (hmb rfl ts.length).2
        rw [List.take_length] at this
        omega
      walk_at "w"
      intro pw A2 n2 e2' g2
      have gkC := e2' _ _ gkB
      have gbC := e2' _ _ gbB
      have eC := eB.trans e2'
      have wk : pw ≠ pk := (ne_of_none gkB n2).symm
      have wb : pw ≠ pb := (ne_of_none gbB n2).symm
      have nw := none_of_ex2 eB n2
      walk_at "w"
      rw [show ((st : Int) + (mm : Nat) - (st : Nat)).toNat = mm by omega]
      refine for_range (lo := (st : Nat)) (Pv := fun i σ' A' => ∃ (z : Option V), σ' = [some (.ref pt), x, y, some (.ref pk), some (.bl false), some (.int (mm : Nat)), some (.int (st : Nat)), some (.ref pb), z, some (.ref pw)] ∧ Ex H A' ∧ A' pb = some (.lst ((sgL ts 0 st).map gV)) ∧ A' pk = some (.lst (vI (ts.map (tv · (st + i))))) ∧ A' pw = some (.lst ((sgL ts st i).map gV))) ⟨_, rfl, eC, gbC, gkC, g2⟩ ?_ ?_
      · rintro i σ' A hi ⟨z, rfl, eA, gbA, gkA, gwA⟩
        walk_at "w"
        refine w_callS ?_
        walk_at "w"
        rw [show (st : Int) + (i : Int) + 1 = ((st + i + 1 : Nat) : Int) by omega]
        obtain ⟨sd, okp⟩ := d1.one (st + i) (by omega) (by omega)
        refine ⟨_, _, _, rfl, pt, pk, xs, ts, st + i, rfl, rfl, rfl, ex_e eA hpt, ptk, T.ex eA, z3, gkA, okp, .inl ⟨sd, fun q A1 nq f1 gk1 gq => ?_⟩⟩
        have gb1 := f1 _ _ bk gbA
        have gw1 := f1 _ _ wk gwA
        have qb : q ≠ pb := fun e => by rw [e, gbA] at nq; cases nq
        have le := d1.le (i := i + 1) (by omega)
        rw [sgL_succ, List.length_append] at le
        walk_at "w"
        refine ⟨pw, q, _, _, rfl, rfl, gw1, gq, sz_of (by rw [List.length_map, List.length_map]; omega), ?_⟩
        rw [← List.map_append]
        have gw2 : upd A1 pw (.lst ((sgL ts st i ++ dlL ts (st + i)).map gV)) pw = some (.lst ((sgL ts st i ++ dlL ts (st + i)).map gV)) := upd_same
        walk_at "w"
        refine ⟨_, rfl, Ex.mut (ex_fr eA nk f1) nw, by rw [upd_ne wb.symm]; exact gb1, by rw [upd_ne wk.symm]; exact gk1, by rw [sgL_succ]; exact gw2⟩
      · rintro σ' A ⟨z, rfl, eA, gbA, gkA, gwA⟩
        exact ⟨z, pw, rfl, eA, gbA, by rw [← emm]; exact gwA⟩
  rintro σ4 G ⟨z, pw, rfl, eG, gbG, gwG⟩
  walk_at "w"
  refine r_lenE (ex_e eG hpt) ?_
  rw [tl]
  walk_at "w"
  intro pl G1 n1 e1'' g1
  walk_at "w"
  have ow : ∀ d ∈ (if ends = true then [some 0] else sgL ts st (mnL ts)), okD ts.length d := by
    intro d hd
    split at hd
    · rw [List.mem_singleton.mp hd]
      intro j e
      cases e
      omega
    · exact sgL_ok d hd
  refine mk_mak (k := ts.length) (bs := sgL ts 0 st) (xs := [.ref pw]) (ws := [if ends = true then [some 0] else sgL ts st (mnL ts)]) (.inl (sq_of (e1'' _ _ gbG))) (.inl (sq_of g1)) ⟨⟨pw, rfl, .inl (sq_of (e1'' _ _ gwG))⟩, trivial⟩ ⟨by omega, by omega, sgL_ok, d0.all, Nat.le_refl 1, show 1 ≤ 4 by decide, fun w hw => ?_, fun w hw => ?_⟩ fun mk G2 e2 M => kG mk G2 ((eG.trans e1'').trans e2) M
  · rw [List.mem_singleton.mp hw]
    refine ⟨?_, ow⟩
    cases hb : ends with
    | true => exact List.cons_ne_nil _ _
    | false =>
      refine sgL_ne ?_
      have := (hmb hb ts.length).1
      rw [List.take_length] at this
      exact this
  · rw [List.mem_singleton.mp hw]
    show _ ≤ 600
    cases hb : ends with
    | true => exact show 1 ≤ 600 by decide
    | false => exact (d1 hb).all

end
section
/-- the counts ahead of the first never -/
def cnts : List (Option Int) → List Int
  | some a :: r => a :: cnts r
  | _ => []
theorem cnts_snoc : ∀ {xs : List (Option Int)} {i : Nat} {a : Int}, (cnts (xs.take i)).length = i → xs[i]? = some (some a) → cnts (xs.take (i + 1)) = cnts (xs.take i) ++ [a] ∧ (cnts (xs.take (i + 1))).length = i + 1
  | [], _, _, _, e => by simp at e
  | none :: r, 0, a, _, e => by simp at e
  | some b :: r, 0, a, _, e => by
    simp at e
    subst e
    simp [cnts]
  | none :: r, i + 1, a, h, _ => by simp [cnts] at h
  | some b :: r, i + 1, a, h, e => by
    simp only [List.take_succ_cons, cnts, List.length_cons] at h
    have := cnts_snoc (xs := r) (i := i) (a := a) (by omega) (by simpa using e)
    simp only [List.take_succ_cons, cnts, List.length_cons, List.cons_append]
    exact ⟨congrArg _ this.1, by omega⟩
theorem cnts_stop : ∀ {xs : List (Option Int)} {i : Nat}, (cnts (xs.take i)).length = i → xs[i]? = some none → cnts xs = cnts (xs.take i)
  | [], _, _, e => by simp at e
  | none :: r, 0, _, _ => rfl
  | some b :: r, 0, _, e => by simp at e
  | none :: r, i + 1, h, _ => by simp [cnts] at h
  | some b :: r, i + 1, h, e => by
    simp only [List.take_succ_cons, cnts, List.length_cons] at h
    have := cnts_stop (xs := r) (i := i) (by omega) (by simpa using e)
    simp only [List.take_succ_cons, cnts]
    rw [this]
abbrev N__law_counts : List Str := ["values", "told", "value"]
theorem sc__law_counts : FnScope N__law_counts ["values"] (defScope s__law_counts) := ⟨rfl, rfl, rfl, by decide +kernel, rfl, by decide +kernel, by decide +kernel⟩
theorem ok__law_counts {P : Program} {w : World} {K : PySem.W.Frag} {mg : Str → Option Value} {base : Heap} (E : Env P K mg) : Fn P w K mg base CX0 1 "_law_counts" (sp1 fun v H Q _ => ∃ a xs, v = .ref a ∧ SqL K H a (xs.map optV) ∧ xs.length ≤ 60000 ∧ ∀ p H', H p = none → Ex H H' → H' p = some (.lst (vI (cnts xs))) → Q (.ref p) H') := by
  obtain ⟨fd, F⟩ := E.dd__law_counts
  refine Fn.mk0 F E.g__law_counts sc__law_counts sp1_len (fun _ _ _ _ _ _ us hl => match us, hl with | [_], _ => rfl) (fun cdv A outer s H vs Q X hr h => ?_)
  have nd := sc__law_counts.nd
  obtain ⟨v0, rfl, h⟩ := h
  refine ⟨_, (pss_cons (ps_set (i := 1) nd rfl (.inl rfl) (pe_lst (pa_nil)))
  (pss_cons (ps_for PassesOwn.never rfl (kSeq K (pv 0)) (pg_name (i := 2) nd rfl (.inl rfl))
   (pss_cons (ps_if (pt_cmpR xIs (pv 2) (pe_non) (nomark _))
   (pss_one (ps_ret (pv 1)))
   pss_nil)
  (pss_one (ps_expr (kBM K (pe_bm PySem.F.plainAttrs_list PySem.F.slot_list_append PySem.F.type_list_append mt_append (pv 1) (pa_cons (pv 2) pa_nil)))))))
  (pss_one (ps_ret (pv 1))))), ?_⟩
  change (_ : TS) _ [some v0, none, none] H
  try dsimp only [cxOf, Cx.nox, Cx.blk]
  obtain ⟨a, xs, rfl, hx, hz, k⟩ := h
  walk_at "w"
  intro p H1 n1 e1 h1
  walk_at "w"
  refine i_seqL ?_
  walk_at "w"
  refine for_list (xs := xs.map optV) (Pv := fun i σ' H' => ∃ v, σ' = [some (.ref a), some (.ref p), v] ∧ Ex H H' ∧ H' p = some (.lst (vI (cnts (xs.take i)))) ∧ (cnts (xs.take i)).length = i) ⟨_, rfl, e1, h1, rfl⟩ (fun _ _ H' _ q => by obtain ⟨_, _, e, _⟩ := q; exact ex_l e hx) ?_ ?_
  · rintro i y σ' H' hi ⟨v, rfl, e, g, hl⟩
    rw [List.getElem?_map] at hi
    obtain ⟨o, ho, rfl⟩ : ∃ o, xs[i]? = some o ∧ optV o = y := by
      cases q : xs[i]? with
      | none => rw [q] at hi; cases hi
      | some o => rw [q] at hi; exact ⟨o, rfl, Option.some.inj hi⟩
    have hlt := (List.getElem?_eq_some_iff.mp ho).1
    cases o with
    | none =>
      simp only [optV]
      walk_at "w"
      exact k p H' n1 e (by rw [cnts_stop hl ho]; exact g)
    | some c =>
      simp only [optV]
      obtain ⟨q1, q2⟩ := cnts_snoc hl ho
      walk_at "w"
      have hs : SqL K H' p (vI (cnts (xs.take i))) := sq_of g
      walk_at "w"
      refine r_app (K := K) g (sz_lt (by rw [List.length_map]; omega)) ?_
      walk_at "w"
      refine ⟨_, rfl, Ex.mut e n1, ?_, q2⟩
      rw [q1, show vI (cnts (xs.take i) ++ [c]) = vI (cnts (xs.take i)) ++ [V.int c] from List.map_append ..]
      exact upd_same
  · rintro σ' H' ⟨v, rfl, e, g, hl⟩
    walk_at "w"
    rw [List.length_map, List.take_length] at g
    exact k p H' n1 e g

end
section
theorem kEqS (K : PySem.W.Frag) {X : Cx} {a : Addr} {pn : List (Addr × Obj)} {j : Nat} (hr : Room j X.A) (h : X.K = K := by rfl) : OpR (X.suite a pn) (compareOp .Eq) (rEqU K) := by
  subst h
  exact op_eq.or (op_eqD (by have := hr.un; show X.A.units + 64 < cLine; omega))

end
section
theorem pss_dead {X : Cx} {l : List Stmt} : PSs X l (fun _ _ _ => False) := ⟨fun _ _ _ _ _ _ h => h.elim⟩
abbrev spExt (K : PySem.W.Frag) : Sp := sp3 fun a b c H Q _ => ∃ (p : Addr) (k : Int) (bs w : List Dd) (i : Int) (m : Bool), a = .ref p ∧ b = .int i ∧ c = .bl m ∧ MakAt K H p k bs [w] ∧ 0 ≤ i ∧ i < k ∧ bs.length ≤ 600 ∧ w.length ≤ 600 ∧
  ∀ t H2, Ex H H2 → TabAt K H2 t (ndP i bs [w] [] [0]).1 (ndP i bs [w] [] [0]).2.1 (ndP i bs [w] [] [0]).2.2 → Q (.ref t) H2
abbrev spLeast (K : PySem.W.Frag) : Sp := sp2 fun a b H Q _ => ∃ (p : Addr) (k : Int) (bs w : List Dd) (i : Int), a = .ref p ∧ b = .int i ∧ MakAt K H p k bs [w] ∧ 0 ≤ i ∧ i < k ∧ bs.length ≤ 600 ∧ w.length ≤ 600 ∧
  ∀ t H2, Ex H H2 → TabAt K H2 t (ndP i bs [w] [] [0]).1 (ndP i bs [w] [] [0]).2.1 (ndP i bs [w] [] [0]).2.2 → Q (.ref t) H2
abbrev N_extreme : List Str := ["maker", "inlet", "most", "rounds", "many", "rise", "longest", "cut", "values", "way"]
theorem sc_extreme : FnScope N_extreme ["maker", "inlet", "most"] (defScope s_extreme) := ⟨rfl, rfl, rfl, by decide +kernel, rfl, by decide +kernel, by decide +kernel⟩
theorem ok_extreme {P : Program} {w : World} {K : PySem.W.Frag} {mg : Str → Option Value} {base : Heap} (E : Env P K mg) : Fn P w K mg base CX0 13 "extreme" (spExt K) := by
  obtain ⟨fd, F⟩ := E.dd_extreme
  refine Fn.mk0 F E.g_extreme sc_extreme sp3_len (fun _ _ _ _ _ _ us hl => match us, hl with | [_, _, _], _ => rfl) (fun cdv A outer s H vs Q X hr h => ?_)
  have nd := sc_extreme.nd
  obtain ⟨v0, v1, v2, rfl, h⟩ := h
  refine ⟨_, (pss_cons (ps_if (pt_cmpR (kEq K hr) (pe_callB (kLen K) (by rfl) E.f_len (by decide +kernel) (pa_cons (kFld K (pv 0) rfl) pa_nil)) (pe_int) (nomark _))
   (pss_one (ps_ret (pc (ok_need_on E) hr (by decide) pass0 rfl (pa_cons (pv 0) (pa_cons (pv 1) (pa_cons (pe_tup (pa_cons (pe_tup pa_nil) (pa_cons (pe_tup (pa_cons (pe_int) pa_nil)) pa_nil))) pa_nil))))))
   pss_nil)
  pss_dead), ?_⟩
  change (_ : TS) _ [some v0, some v1, some v2, none, none, none, none, none, none, none] H
  try dsimp only [cxOf, Cx.nox, Cx.blk]
  obtain ⟨p, k0, bs, w', i, m, rfl, rfl, rfl, t, i0, i1, zb, zw, k⟩ := h
  walk_at "w"
  refine r_makWa E t fun a xs sx dx => ?_
  walk_at "w"
  have xl : xs.length = 1 := by
    have := dpAll_len dx
    simpa using this
  rw [xl]
  walk_at "w"
  intro pe G1 _ e1 g1
  walk_at "w"
  intro pz G2 _ e2 g2
  walk_at "w"
  intro pc G3 _ e3 g3
  walk_at "w"
  refine ⟨p, k0, bs, [w'], i, [], [0], rfl, ex_mak ((e1.trans e2).trans e3) t, rfl, i0, i1, ⟨pc, pe, pz, rfl, .inr (st_of g3), .inr (st_of (e3 _ _ (e2 _ _ g1))), .inr (st_of (e3 _ _ g2))⟩, ?_, ?_, by decide, by decide, by decide, ?_, ?_, fun t H2 e4 T => k t H2 (((e1.trans e2).trans e3).trans e4) T⟩
  · exact fun x hx => absurd hx List.not_mem_nil
  · intro x hx
    rw [List.mem_singleton.mp hx]
    exact ⟨by decide, by show (0 : Int) < ((1 : Nat) : Int); decide⟩
  · show (bs ++ []).length ≤ _
    rw [List.append_nil]
    omega
  · rw [fl_one]
    omega
abbrev N_least : List Str := ["maker", "inlet"]
theorem sc_least : FnScope N_least ["maker", "inlet"] (defScope s_least) := ⟨rfl, rfl, rfl, by decide +kernel, rfl, by decide +kernel, by decide +kernel⟩
theorem ok_least {P : Program} {w : World} {K : PySem.W.Frag} {mg : Str → Option Value} {base : Heap} (E : Env P K mg) : Fn P w K mg base CX0 14 "least" (spLeast K) := by
  obtain ⟨fd, F⟩ := E.dd_least
  refine Fn.mk0 F E.g_least sc_least sp2_len (fun _ _ _ _ _ _ us hl => match us, hl with | [_, _], _ => rfl) (fun cdv A outer s H vs Q X hr h => ?_)
  have nd := sc_least.nd
  obtain ⟨v0, v1, rfl, h⟩ := h
  refine ⟨_, (pss_cons (ps_expr (pc (ok_check_inlet E) hr (by decide) pass0 rfl (pa_cons (pv 0) (pa_cons (pv 1) pa_nil))))
  (pss_one (ps_ret (pc (ok_extreme E) hr (by decide) pass0 rfl (pa_cons (pv 0) (pa_cons (pv 1) (pa_cons (pe_bl) pa_nil))))))), ?_⟩
  change (_ : TS) _ [some v0, some v1] H
  try dsimp only [cxOf, Cx.nox, Cx.blk]
  obtain ⟨p, k0, bs, w', i, rfl, rfl, t, i0, i1, zb, zw, k⟩ := h
  walk_at "w"
  refine ⟨p, k0, bs, [w'], i, rfl, t, rfl, i0, i1, fun H1 e1 => ?_⟩
  walk_at "w"
  exact ⟨p, k0, bs, w', i, false, rfl, rfl, rfl, ex_mak e1 t, i0, i1, zb, zw, fun t H2 e2 T => k t H2 (e1.trans e2) T⟩
abbrev N_greatest : List Str := ["maker", "inlet"]
theorem sc_greatest : FnScope N_greatest ["maker", "inlet"] (defScope s_greatest) := ⟨rfl, rfl, rfl, by decide +kernel, rfl, by decide +kernel, by decide +kernel⟩
theorem ok_greatest {P : Program} {w : World} {K : PySem.W.Frag} {mg : Str → Option Value} {base : Heap} (E : Env P K mg) : Fn P w K mg base CX0 14 "greatest" (spLeast K) := by
  obtain ⟨fd, F⟩ := E.dd_greatest
  refine Fn.mk0 F E.g_greatest sc_greatest sp2_len (fun _ _ _ _ _ _ us hl => match us, hl with | [_, _], _ => rfl) (fun cdv A outer s H vs Q X hr h => ?_)
  have nd := sc_greatest.nd
  obtain ⟨v0, v1, rfl, h⟩ := h
  refine ⟨_, (pss_cons (ps_expr (pc (ok_check_inlet E) hr (by decide) pass0 rfl (pa_cons (pv 0) (pa_cons (pv 1) pa_nil))))
  (pss_one (ps_ret (pc (ok_extreme E) hr (by decide) pass0 rfl (pa_cons (pv 0) (pa_cons (pv 1) (pa_cons (pe_bl) pa_nil))))))), ?_⟩
  change (_ : TS) _ [some v0, some v1] H
  try dsimp only [cxOf, Cx.nox, Cx.blk]
  obtain ⟨p, k0, bs, w', i, rfl, rfl, t, i0, i1, zb, zw, k⟩ := h
  walk_at "w"
  refine ⟨p, k0, bs, [w'], i, rfl, t, rfl, i0, i1, fun H1 e1 => ?_⟩
  walk_at "w"
  exact ⟨p, k0, bs, w', i, true, rfl, rfl, rfl, ex_mak e1 t, i0, i1, zb, zw, fun t H2 e2 T => k t H2 (e1.trans e2) T⟩
theorem spMo_mono {K : PySem.W.Frag} {v : V} {H : Hp} {Q Q' : VK} {X X' : XK} (h : MoB K v H Q X) (hq : ∀ v H', Q v H' → Q' v H') (hx : ∀ c d H', X c d H' → X' c d H') : MoB K v H Q' X' := by
  unfold MoB at h ⊢
  rcases h with ⟨d, a, b, k⟩ | ⟨pt, xs, rfl, s, z, h⟩
  · exact .inl ⟨d, a, b, fun dd H' e g => hx _ _ _ (k dd H' e g)⟩
  · refine .inr ⟨pt, xs, rfl, s, z, ?_⟩
    rcases h with ⟨a, k⟩ | ⟨i, b, ts, a1, a2, a3, a4, k⟩ | ⟨ts, a1, a2, a3, a4, k⟩ | ⟨ts, ends, n, st, a1, a2, a3, a4, a5, a6, a7, k⟩
    · exact .inl ⟨a, fun dd H' e g => hx _ _ _ (k dd H' e g)⟩
    · exact .inr (.inl ⟨i, b, ts, a1, a2, a3, a4, fun dd H' e g => hx _ _ _ (k dd H' e g)⟩)
    · exact .inr (.inr (.inl ⟨ts, a1, a2, a3, a4, fun dd H' e g => hx _ _ _ (k dd H' e g)⟩))
    · refine .inr (.inr (.inr ⟨ts, ends, n, st, a1, a2, a3, a4, a5, a6, a7, ?_⟩))
      rcases k with ⟨b1, b2, k⟩ | ⟨b1, t, b2, b3, b4, b5, k⟩
      · exact .inl ⟨b1, b2, fun x H' e m => hq _ _ (k x H' e m)⟩
      · exact .inr ⟨b1, t, b2, b3, b4, b5, fun dd H' g => hx _ _ _ (k dd H' g)⟩
/-- what _law_seen makes of an error -/
def SeenX (K : PySem.W.Frag) (Q : VK) : XK := fun cls od H' => (cls = .ref (He.ga K "BadTables") ∧ ∃ dd n, od = some dd ∧ H' dd = some (.xd [("number", .int n)]) ∧ Q (.int n) H') ∨ (cls = .ref (He.ga K "TooMany") ∧ ∃ dd, od = some dd ∧ H' dd = some (.xd [("word", .str "deed")]) ∧ Q (.str "many") H')
abbrev spSeen (K : PySem.W.Frag) : Sp := sp1 fun v H Q _ => MoB K v H (fun _ H' => Q .non H') (SeenX K Q)
abbrev N__law_seen : List Str := ["tables", "error"]
theorem sc__law_seen : FnScope N__law_seen ["tables"] (defScope s__law_seen) := ⟨rfl, rfl, rfl, by decide +kernel, rfl, by decide +kernel, by decide +kernel⟩
theorem ok__law_seen {P : Program} {w : World} {K : PySem.W.Frag} {mg : Str → Option Value} {base : Heap} (E : Env P K mg) : Fn P w K mg base CX0 12 "_law_seen" (spSeen K) := by
  obtain ⟨fd, F⟩ := E.dd__law_seen
  refine Fn.mk0 F E.g__law_seen sc__law_seen sp1_len (fun _ _ _ _ _ _ us hl => match us, hl with | [_], _ => rfl) (fun cdv A outer s H vs Q X hr h => ?_)
  have nd := sc__law_seen.nd
  obtain ⟨v0, rfl, h⟩ := h
  refine ⟨_, (pss_one (ptryas2 K (i := 1) rfl rfl nd rfl rfl ⟨rfl, rfl, .inl E.g_BadTables⟩ ⟨rfl, rfl, .inl E.g_TooMany⟩ (fun W pn xe tk =>
   (pss_cons (ps_expr (pcS (ok_maker_of E) hr (by decide) tk rfl (pa_cons (pv 0) pa_nil)))
  (pss_one (ps_ret (pe_non))))) (fun a oe cls d pn hz hf =>
   (pss_one (ps_ret (pe_xf E.xf_BadTables E.nf_BadTables_number hz hf (pv 1))))) (fun a oe cls d pn hz hf =>
   (pss_one (ps_ret (pe_ifExp (pt_cmpR (kEqS K hr) (pe_xf E.xf_TooMany E.nf_TooMany_word hz hf (pv 1)) (pe_str) (nomark _)) (pe_str) (pe_str))))))), ?_⟩
  change (_ : TS) _ [some v0, none] H
  try dsimp only [cxOf, Cx.nox, Cx.blk]
  refine w_tryAs2 ?_
  walk_at "w"
  refine w_callS ?_
  walk_at "w"
  refine ⟨_, rfl, ?_⟩
  refine spMo_mono h (fun v H' q => ?_) (fun c d H' q => ?_)
  · walk_at "w"
    exact q
  · rcases q with ⟨rfl, dd, n, rfl, g, q⟩ | ⟨rfl, dd, rfl, g, q⟩
    · refine w_mas1 E.xe_BadTables fun ae na => ?_
      dsimp only [List.set]
      walk_at "w"
      refine w_xf (fs := []) (v := .non) ?_
      walk_at "w"
      refine ⟨rfl, rfl, dd, _, .int n, rfl, g, by simp only [List.lookup, beq_self_eq_true], ?_⟩
      walk_at "w"
      exact q
    · refine w_mas0 E.xn_TooMany_BadTables (w_mas1 E.xe_TooMany fun ae na => ?_)
      dsimp only [List.set]
      walk_at "w"
      refine w_xf (fs := []) (v := .non) ?_
      walk_at "w"
      refine ⟨rfl, rfl, dd, _, .str "deed", rfl, g, by simp only [List.lookup, beq_self_eq_true], ?_⟩
      walk_at "w"
      refine r_eqSS ?_
      rw [decide_eq_true rfl]
      walk_at "w"
      exact q

end
section
--@import HandS.Deep
abbrev dT (t : Tb) : PyData := dRaw t.1 t.2.1 t.2.2
theorem imm_dT (t : Tb) : imm (dT t) = true := by
  have key : ∀ l : List Int, immAll (l.map .int) = true := fun l => by
    induction l with
    | nil => rfl
    | cons a l ih => exact ih
  show (immAll (t.1.map .int) && (immAll (t.2.1.map .int) && _)) = true
  rw [key, key]
  rfl
theorem imm_dTs (ts : List Tb) : immAll (ts.map dT) = true := by
  induction ts with
  | nil => rfl
  | cons a l ih =>
    show (imm (dT a) && immAll (l.map dT)) = true
    rw [ih, imm_dT]
    rfl
theorem TV_fV {h l : List Int} {r : Int} (hl : l ≠ []) (j : Nat) : TV h l r j = some (fV h l r j) := by
  unfold TV
  rw [if_neg hl]
theorem cnts_all (f : Nat → Int) : ∀ l : List Nat, cnts (l.map fun j => some (f j)) = l.map f
  | [] => rfl
  | a :: l => by
    show f a :: cnts (l.map _) = _
    rw [cnts_all f l]
    rfl
/-- the law's raws: steady ones, or ended ones of n pieces -/
structure RwsOk (ts : List Tb) (ends : Bool) (n : Nat) : Prop where
  z1 : 1 ≤ ts.length
  z3 : ts.length ≤ 3
  st : ends = false → ∀ t ∈ ts, RawOk t.1 t.2.1 t.2.2 ∧ t.2.1 ≠ []
  en : ends = true → ∀ t ∈ ts, t.2.1 = [] ∧ t.2.2 = 0 ∧ t.1.length = n ∧ n ≤ 5 ∧ Val t.1 [] 0 ∧ ∀ v ∈ t.1, v ≤ 100
theorem raw_le {h l : List Int} {r : Int} (ok : RawOk h l r) (hl : l ≠ []) (j : Nat) : fV h l r j ≤ 16 + 12 * (j : Int) := by
  have l0 : 0 < l.length := List.length_pos_iff.mpr hl
  by_cases c : j < h.length
  · rw [fV_head c]
    have := ok.bh _ (gI_memR (ns := h) (r := (j : Int)) (by omega) (by omega))
    omega
  · rw [fV_loop (by omega)]
    unfold extL
    have m0 := Int.emod_nonneg ((j : Int) - h.length) (show (l.length : Int) ≠ 0 by omega)
    have m1 := Int.emod_lt_of_pos ((j : Int) - h.length) (show (0 : Int) < l.length by omega)
    have b := ok.bl _ (gI_memR (ns := l) m0 m1)
    have q0 : 0 ≤ ((j : Int) - h.length) / l.length := Int.ediv_nonneg (by omega) (by omega)
    have q1 : ((j : Int) - h.length) / l.length ≤ (j : Int) - h.length := Int.ediv_le_self _ (by omega)
    have := Int.mul_le_mul_of_nonneg_right ok.br q0
    omega
theorem rawOk_one {h l : List Int} {r : Int} (ok : RawOk h l r) (hl : l ≠ []) : RawOk h [gI l 0] 0 := by
  have l0 := List.length_pos_iff.mpr hl
  have g : gI [gI l 0] 0 = gI l 0 := rfl
  have b := ok.bl _ (gI_memR (ns := l) (r := 0) (by decide) (by omega))
  have nn := gI_nn ok.val.p2 0
  have one : ∀ n ∈ [gI l 0], n = gI l 0 := fun n hn => List.mem_singleton.mp hn
  refine ⟨⟨ok.val.p1, fun n hn => by rw [one n hn]; exact nn, ok.val.r1, fun i hi => absurd hi (by simp), Int.le_refl _, (fun e => nomatch e), fun e _ => by rw [g]; exact ok.val.hl e hl, fun _ => ?_, ?_⟩, ok.zh, show 1 ≤ 4 by decide, ok.bh, fun n hn => by rw [one n hn]; exact b, by decide⟩
  · show gI [gI l 0] ((1 : Nat) - 1 : Int) ≤ _
    rw [show (((1 : Nat) : Int) - 1) = 0 from rfl, g]
    omega
  · have := ok.zh
    exact ⟨by decide, by decide, by omega, show 1 ≤ 50000 by decide⟩
theorem ended_val {h l : List Int} {r : Int} (ok : RawOk h l r) (hl : l ≠ []) {n : Nat} (hn : n ≤ 5) : Val ((List.range n).map (fV h l r)) [] 0 ∧ ∀ v ∈ (List.range n).map (fV h l r), v ≤ 100 := by
  have mem : ∀ v ∈ (List.range n).map (fV h l r), ∃ j, j < n ∧ v = fV h l r j := fun v hv => by
    obtain ⟨j, hj, rfl⟩ := List.mem_map.mp hv
    exact ⟨j, List.mem_range.mp hj, rfl⟩
  refine ⟨⟨fun v hv => ?_, fun v hv => absurd hv List.not_mem_nil, fun i hi => ?_, fun i hi => absurd hi (by simp), Int.le_refl _, fun _ => rfl, fun _ e => absurd rfl e, fun e => absurd rfl e, ?_⟩, fun v hv => ?_⟩
  · obtain ⟨j, _, rfl⟩ := mem v hv
    exact fV_nn ok.val j
  · rw [List.length_map, List.length_range] at hi
    rw [gI_map_range (by omega), show ((i : Int) + 1) = ((i + 1 : Nat) : Int) by omega, gI_map_range (by omega)]
    exact fV_up ok.val hl i
  · exact ⟨by decide, by decide, by simp; omega, by simp⟩
  · obtain ⟨j, hj, rfl⟩ := mem v hv
    have := raw_le ok hl j
    omega
theorem hq' {o o' : Option Int} {H H' : Hp} {Q : VK} (e : o = o') (x : Ex H H') (hq : ∀ H2, Ex H H2 → Q (optV o') H2) : Q (optV o) H' := by rw [e]; exact hq _ x
theorem dpRaw {K : PySem.W.Frag} {H : Hp} {a th tl : Addr} {h l : List Int} {r : Int} (s1 : SqT K H a [.ref th, .ref tl, .int r]) (s2 : SqT K H th (vI h)) (s3 : SqT K H tl (vI l)) : Dp K H (.ref a) (dRaw h l r) := .tup s1 (.cons (dp_of_ints s2) (.cons (dp_of_ints s3) (.cons (.int _) .nil)))
theorem srcAt_upd {H : Hp} {a b : Addr} {o : HO} (n : b ≠ a) (h : SrcAt H a) : SrcAt (upd H b o) a := by
  obtain ⟨d, s, c, h1, h2⟩ := h
  exact ⟨d, s, c, by rw [upd_ne n.symm]; exact h1, h2⟩
abbrev N__law_ended : List Str := ["source", "raw", "upto", "values", "n"]
theorem sc__law_ended : FnScope N__law_ended ["source", "raw", "upto"] (defScope s__law_ended) := ⟨rfl, rfl, rfl, by decide +kernel, rfl, by decide +kernel, by decide +kernel⟩
theorem ok__law_ended {P : Program} {w : World} {K : PySem.W.Frag} {mg : Str → Option Value} {base : Heap} (E : Env P K mg) : Fn P w K mg base CX0 3 "_law_ended" (sp3 fun s a b H Q _ => ∃ h l r, ∃ n : Nat, Dp K H a (dRaw h l r) ∧ b = .int n ∧ n ≤ 5 ∧ RawOk h l r ∧ l ≠ [] ∧ RetD K (dRaw ((List.range n).map (fV h l r)) [] 0) H Q) := by
  obtain ⟨fd, F⟩ := E.dd__law_ended
  refine Fn.mk0 F E.g__law_ended sc__law_ended sp3_len (fun _ _ _ _ _ _ us hl => match us, hl with | [_, _, _], _ => rfl) (fun cdv A outer s H vs Q X hr h => ?_)
  have nd := sc__law_ended.nd
  obtain ⟨v0, v1, v2, rfl, h⟩ := h
  refine ⟨_, (pss_cons (ps_setLc (i := 3) (own := [("n", 4)]) (g := gName 4) (tt := tYes) rfl nd rfl rfl (sw_true rfl rfl rfl (by decide +kernel)) (pi_range1 (by rfl) E.f_range (pa_cons (pv 2) pa_nil)) (blkOk_by (N := N__law_ended) (sc := defScope s__law_ended) (by decide +kernel)) (fun _ _ _ _ _ => pg_name (i := 4) nd rfl (Or.inl rfl)) (fun _ _ _ _ _ => pts_nil) (fun _ _ _ _ _ => pc (ok__law_at E) hr (by decide) pass0 rfl (pa_cons (pv 1) (pa_cons (pe_op (kAdd K) (pv 4) (pe_int)) pa_nil))))
  (pss_one (ps_ret (pe_tup (pa_cons (pe_callTy (kTup K) (by rfl) E.f_tuple (by decide +kernel) (pa_cons (pc (ok__law_counts E) hr (by decide) pass0 rfl (pa_cons (pv 3) pa_nil)) pa_nil)) (pa_cons (pe_tup pa_nil) (pa_cons (pe_int) pa_nil))))))), ?_⟩
  change (_ : TS) _ [some v0, some v1, some v2, none, none] H
  try dsimp only [cxOf, Cx.nox, Cx.blk]
  obtain ⟨h, l, r, n, hD, rfl, hn, ok, hl, k⟩ := h
  walk_at "w"
  refine lcJ_r0 (v := fun j => optV (some (fV h l r j))) (by omega) (fun y => [_, _, _, none, some y]) (fun _ => rfl) (fun _ => rfl) (fun j H6 Q' e6 hj hq => ?_) (fun pl H6 n6 e6 g6 => ?_)
  · walk_at "w"
    refine ⟨h, l, r, some ((j : Int) + 1), dp_ex e6 hD, .int _, fun n e => by cases e; omega, ok.val.sm, fun v H7 e7 dv => ?_⟩
    obtain rfl := dp_toOpt dv
    refine hq' ?_ e7 hq
    show vat h l r ((j : Int) + 1) = _
    rw [vat_TV, TV_fV hl]
  · walk_at "w"
    rw [Int.toNat_natCast, show (List.range n).map (fun j => optV (some (fV h l r j))) = ((List.range n).map fun j => some (fV h l r j)).map optV by rw [List.map_map]; rfl] at g6
    refine ⟨pl, _, rfl, sq_of g6, by rw [List.length_map, List.length_range]; omega, fun p H7 n7 e7 g7 => ?_⟩
    rw [cnts_all] at g7
    walk_at "w"
    intro pt G1 e1 g1
    walk_at "w"
    intro pe G2 n2 e2 g2
    walk_at "w"
    intro pr G3 n3 e3 g3
    walk_at "w"
    exact k _ _ ((((e6.trans e7).trans e1).trans e2).trans e3) (dpRaw (st_of g3) (ex_t e3 (ex_t e2 g1)) (st_of (e3 _ _ g2)))
abbrev spTbs (K : PySem.W.Frag) : Sp := sp1 fun s H Q _ => ∃ x, s = .ref x ∧ SrcAt H x ∧ ∀ (p : Addr) (xs : List V) (ts : List Tb) (ends : Bool) (n : Nat) H', H p = none → Fr x H H' → SrcAt H' x → H' p = some (.lst xs) → DpAll K H' xs (ts.map dT) → RwsOk ts ends n → Q (.ref p) H'
abbrev N__law_tables : List Str := ["source", "many", "told", "k", "raw", "upto"]
theorem sc__law_tables : FnScope N__law_tables ["source"] (defScope s__law_tables) := ⟨rfl, rfl, rfl, by decide +kernel, rfl, by decide +kernel, by decide +kernel⟩
theorem ok__law_tables {P : Program} {w : World} {K : PySem.W.Frag} {mg : Str → Option Value} {base : Heap} (E : Env P K mg) : Fn P w K mg base CX0 4 "_law_tables" (spTbs K) := by
  obtain ⟨fd, F⟩ := E.dd__law_tables
  refine Fn.mk0 F E.g__law_tables sc__law_tables sp1_len (fun _ _ _ _ _ _ us hl => match us, hl with | [_], _ => rfl) (fun cdv A outer s H vs Q X hr h => ?_)
  have nd := sc__law_tables.nd
  obtain ⟨v0, rfl, h⟩ := h
  refine ⟨_, (pss_cons (ps_set (i := 1) nd rfl (.inl rfl) (pe_op (kAdd K) (pe_int) (pc (ok__law_pick E) hr (by decide) pass0 rfl (pa_cons (pv 0) (pa_cons (pe_int) pa_nil)))))
  (pss_cons (ps_set (i := 2) nd rfl (.inl rfl) (pe_lst (pa_nil)))
  (pss_cut (ps_for PassesOwn.never rfl (pi_range1 (by rfl) E.f_range (pa_cons (pv 1) pa_nil)) (pg_name (i := 3) nd rfl (.inl rfl))
   (pss_cons (ps_set (i := 4) nd rfl (.inl rfl) (pc (ok__law_raw E) hr (by decide) pass0 rfl (pa_cons (pv 0) (pa_cons (pe_bl) pa_nil))))
  (pss_cons (ps_if (pt_cmpR (kEq K hr) (pc (ok__law_pick E) hr (by decide) pass0 rfl (pa_cons (pv 0) (pa_cons (pe_int) pa_nil))) (pe_int) (nomark _))
   (pss_one (ps_set (i := 4) nd rfl (.inl rfl) (pe_tup (pa_cons (pe_ix (kIx K) (pv 4) (pe_int) (fun _ _ => rfl)) (pa_cons (pe_tup (pa_cons (pe_ix (kIx K) (pe_ix (kIx K) (pv 4) (pe_int) (fun _ _ => rfl)) (pe_int) (fun _ _ => rfl)) pa_nil)) (pa_cons (pe_int) pa_nil))))))
   pss_nil)
  (pss_one (ps_expr (kBM K (pe_bm PySem.F.plainAttrs_list PySem.F.slot_list_append PySem.F.type_list_append mt_append (pv 2) (pa_cons (pv 4) pa_nil))))))))
  (pss_cons (ps_if (pt_cmpR (kEq K hr) (pc (ok__law_pick E) hr (by decide) pass0 rfl (pa_cons (pv 0) (pa_cons (pe_int) pa_nil))) (pe_int) (nomark _))
   (pss_cons (ps_set (i := 5) nd rfl (.inr rfl) (pc (ok__law_pick E) hr (by decide) pass0 rfl (pa_cons (pv 0) (pa_cons (pe_int) pa_nil))))
  (pss_one (ps_setLc (i := 2) (own := [("raw", 4)]) (g := gName 4) (tt := tYes) rfl nd rfl rfl (sw_true rfl rfl rfl (by decide +kernel)) (kSeq K (pv 2)) (blkOk_by (N := N__law_tables) (sc := defScope s__law_tables) (by decide +kernel)) (fun _ _ _ _ _ => pg_name (i := 4) nd rfl (Or.inl rfl)) (fun _ _ _ _ _ => pts_nil) (fun _ _ _ _ _ => pc (ok__law_ended E) hr (by decide) pass0 rfl (pa_cons (pv 0) (pa_cons (pv 4) (pa_cons (pv 5) pa_nil)))))))
   pss_nil)
  (pss_one (ps_ret (pv 2))))))), ?_⟩
  change (_ : TS) _ [some v0, none, none, none, none, none] H
  try dsimp only [cxOf, Cx.nox, Cx.blk]
  obtain ⟨x, rfl, hs, k⟩ := h
  walk_at "w"
  refine ⟨x, 3, rfl, rfl, by decide, by decide, hs, fun m H1 m0 m1 q1 f1 => ?_⟩
  walk_at "w"
  intro pl H2 n2 e2 g2
  walk_at "w"
  have hpx : pl ≠ x := q1.ne n2
  have npl : H pl = none := by
    cases q : H pl with
    | none => rfl
    | some o => rw [f1 _ _ hpx q] at n2; cases n2
  refine w_cut (M := fun σ' H' => ∃ (u v : Option V) (xs : List V) (ts : List Tb), σ' = [some (.ref x), some (.int (1 + m)), some (.ref pl), u, v, none] ∧ Fr x H H' ∧ SrcAt H' x ∧ H' pl = some (.lst xs) ∧ DpAll K H' xs (ts.map dT) ∧ (ts.length : Int) = 1 + m ∧ ∀ t ∈ ts, RawOk t.1 t.2.1 t.2.2 ∧ t.2.1 ≠ []) ?_ ?_
  · walk_at "w"
    refine for_range (lo := 0) (Pv := fun i σ' H' => ∃ (u v : Option V) (xs : List V) (ts : List Tb), σ' = [some (.ref x), some (.int (1 + m)), some (.ref pl), u, v, none] ∧ Fr x H H' ∧ SrcAt H' x ∧ H' pl = some (.lst xs) ∧ DpAll K H' xs (ts.map dT) ∧ ts.length = i ∧ ∀ t ∈ ts, RawOk t.1 t.2.1 t.2.2 ∧ t.2.1 ≠ []) ⟨_, _, [], [], rfl, f1.trans (Fr.of e2), q1.ex e2, g2, .nil, rfl, fun t h => absurd h List.not_mem_nil⟩ ?_ ?_
    · rintro i σ' A hi ⟨u, v, xs, ts, rfl, fA, qA, gA, dA, rfl, okA⟩
      walk_at "w"
      refine ⟨x, true, rfl, rfl, qA, fun v A1 h l r f1' q1' d ok bn => ?_⟩
      have hl := (bn rfl).1
      have g1 := f1' _ _ hpx gA
      have d1 := dpAll_tex (f1'.tex qA) (imm_dTs _) dA
      walk_at "w"
      refine ⟨x, 6, rfl, rfl, by decide, by decide, q1', fun r2 A2 r20 r21 q2 f2 => ?_⟩
      have g2' := f2 _ _ hpx g1
      have d2 := dpAll_tex (f2.tex q1') (imm_dTs _) d1
      have dv := fr_dp f2 q1' (imm_dT (h, l, r)) d
      have zx := dpAll_len d2
      rw [List.length_map] at zx
      walk_at "w"
      refine w_ite (fun c => ?_) (fun c => ?_)
      · obtain ⟨a, th, tl, rfl, s1, s2, s3⟩ := dp_raw dv
        have l0 : 0 < l.length := List.length_pos_iff.mpr hl
        walk_at "w"
        intro pp A3 n3 e3 g3
        walk_at "w"
        intro pr A4 n4 e4 g4
        walk_at "w"
        have g5 := e4 _ _ (e3 _ _ g2')
        have d5 := dpAll_ex (e3.trans e4) d2
        refine r_app (K := K) g5 (sz_lt (by omega)) ?_
        have L : Ls A4 (upd A4 pl (.lst (xs ++ [.ref pr]))) := Ls.of_fr g5 Fr.upd
        refine ⟨_, _, _, ts ++ [(h, [gI l 0], 0)], rfl, fr_mutK ((((fA.trans f1').trans f2).trans (Fr.of e3)).trans (Fr.of e4)) npl, srcAt_upd hpx ((q2.ex e3).ex e4), upd_same, ?_, by simp, fun t ht => ?_⟩
        · rw [List.map_append]
          refine dpAll_tex L.tex (immAll_app (imm_dTs _) (by show (imm _ && true) = true; rw [imm_dT]; rfl)) (dpAll_app d5 (.cons (dpRaw (st_of g4) (ex_t e4 (ex_t e3 s2)) (st_of (e4 _ _ g3))) .nil))
        · rcases List.mem_append.mp ht with ht | ht
          · exact okA t ht
          · rw [List.mem_singleton.mp ht]
            exact ⟨rawOk_one ok hl, List.cons_ne_nil _ _⟩
      · walk_at "w"
        refine r_app (K := K) g2' (sz_lt (by omega)) ?_
        have L : Ls A2 (upd A2 pl (.lst (xs ++ [v]))) := Ls.of_fr g2' Fr.upd
        refine ⟨_, _, _, ts ++ [(h, l, r)], rfl, fr_mutK ((fA.trans f1').trans f2) npl, srcAt_upd hpx q2, upd_same, ?_, by simp, fun t ht => ?_⟩
        · rw [List.map_append]
          exact dpAll_tex L.tex (immAll_app (imm_dTs _) (by show (imm _ && true) = true; rw [imm_dT]; rfl)) (dpAll_app d2 (.cons dv .nil))
        · rcases List.mem_append.mp ht with ht | ht
          · exact okA t ht
          · rw [List.mem_singleton.mp ht]
            exact ⟨ok, hl⟩
    · rintro σ' A ⟨u, v, xs, ts, rfl, fA, qA, gA, dA, hz, okA⟩
      exact ⟨u, v, xs, ts, rfl, fA, qA, gA, dA, by omega, okA⟩
  rintro σ' A ⟨u, v, xs, ts, rfl, fA, qA, gA, dA, hz, okA⟩
  have zx := dpAll_len dA
  rw [List.length_map] at zx
  walk_at "w"
  refine ⟨x, 5, rfl, rfl, by decide, by decide, qA, fun r3 A1 r30 r31 q3 f3 => ?_⟩
  have gA1 := f3 _ _ hpx gA
  have dA1 := dpAll_tex (f3.tex qA) (imm_dTs _) dA
  walk_at "w"
  refine w_ite (fun c => ?_) (fun c => ?_)
  · walk_at "w"
    refine ⟨x, 6, rfl, rfl, by decide, by decide, q3, fun r4 A2 r40 r41 q4 f4 => ?_⟩
    have gA2 := f4 _ _ hpx gA1
    have dA2 := dpAll_tex (f4.tex q3) (imm_dTs _) dA1
    have F2 := (fA.trans f3).trans f4
    obtain ⟨nn, hnn⟩ := Int.eq_ofNat_of_zero_le r40
    subst hnn
    walk_at "w"
    refine i_seqL ?_
    walk_at "w"
    refine lcD_list (f := fun i => dT ((ts.map fun t => ((List.range nn).map (fV t.1 t.2.1 t.2.2), ([] : List Int), (0 : Int))).getD i ([], [], 0))) (fun _ => imm_dT _) (sq_of gA2) (by omega) (fun y => [_, _, _, _, _, _]) (fun _ => rfl) (fun _ => rfl) ?_ ?_
    · rintro i y A3 Q' e3 hy hq
      have il : i < ts.length := by have := (List.getElem?_eq_some_iff.mp hy).1; omega
      obtain ⟨d, hd, dd⟩ := dpAll_get (dpAll_ex e3 dA2) hy
      rw [List.getElem?_map, List.getElem?_eq_getElem il] at hd
      cases hd
      obtain ⟨ok, hl⟩ := okA _ (List.getElem_mem il)
      walk_at "w"
      refine ⟨_, _, _, nn, dd, rfl, by omega, ok, hl, fun v A4 e4 dv => hq v A4 e4 ?_⟩
      rw [List.getD_eq_getElem?_getD, List.getElem?_map, List.getElem?_eq_getElem il]
      exact dv
    · intro pe A3 ys n3 e3 g3 dy
      walk_at "w"
      have npe : H pe = none := by
        cases q : H pe with
        | none => rfl
        | some o => rw [F2 _ _ (q4.ne n3) q] at n3; cases n3
      refine k pe ys (ts.map fun t => ((List.range nn).map (fV t.1 t.2.1 t.2.2), ([] : List Int), (0 : Int))) true nn A3 npe (F2.trans (Fr.of e3)) (q4.ex e3) g3 ?_ ⟨by rw [List.length_map]; omega, by rw [List.length_map]; omega, (fun h => nomatch h), fun _ t ht => ?_⟩
      · have ez : (List.range xs.length).map (fun i => dT ((ts.map fun t => ((List.range nn).map (fV t.1 t.2.1 t.2.2), ([] : List Int), (0 : Int))).getD i ([], [], 0))) = (ts.map fun t => ((List.range nn).map (fV t.1 t.2.1 t.2.2), ([] : List Int), (0 : Int))).map dT := by
          rw [zx]
          refine List.ext_getElem (by simp) fun j h1 h2 => ?_
          simp only [List.getElem_map, List.getElem_range]
          rw [List.getD_eq_getElem?_getD, List.getElem?_map, List.getElem?_eq_getElem (by simpa using h2)]
          rfl
        rw [ez] at dy
        exact dy
      · obtain ⟨t0, ht0, rfl⟩ := List.mem_map.mp ht
        obtain ⟨ok, hl⟩ := okA _ ht0
        obtain ⟨a, b⟩ := ended_val ok hl (n := nn) (by omega)
        exact ⟨rfl, rfl, by simp, by omega, a, b⟩
  · walk_at "w"
    exact k pl xs ts false 0 A1 npl (fA.trans f3) q3 gA1 dA1 ⟨by omega, by omega, fun _ => okA, (fun h => nomatch h)⟩

end
section
/-- plain tables of the law's raws -/
structure PlT (t : Tb) : Prop where
  val : Val t.1 t.2.1 t.2.2
  pl : plainF t.1 t.2.1 t.2.2 = t
  ne : t.2.1 ≠ []
  zh : t.1.length ≤ 4
  zl : t.2.1.length ≤ 4
  br : t.2.2 ≤ 12
  bd : ∀ j : Nat, fV t.1 t.2.1 t.2.2 j ≤ 16 + 12 * (j : Int)
theorem plT_of {h l : List Int} {r : Int} (ok : RawOk h l r) (hl : l ≠ []) : PlT (plainF h l r) := by
  obtain ⟨v1, v2, v3, v4, v5⟩ := plainF_val ok.val
  obtain ⟨p1, p2, p3, p4, p5, p6⟩ := plainF_ok ok.val
  have ne := (v5 hl).1
  have a := ok.zh
  have b := ok.zl
  have c := ok.br
  refine ⟨v1, v3, ne, by omega, by omega, by omega, fun j => ?_⟩
  have e := v2 j
  rw [TV_fV ne, TV_fV hl] at e
  rw [Option.some.inj e]
  exact raw_le ok hl j
theorem sum_map_add {α : Type} (f g : α → Int) : ∀ l : List α, (l.map f).sum + (l.map g).sum = (l.map fun a => f a + g a).sum
  | [] => rfl
  | a :: l => by
    have := sum_map_add f g l
    simp only [List.map_cons, List.sum_cons]
    omega
theorem sum_map_le {α : Type} {f : α → Int} {B : Int} : ∀ {l : List α}, (∀ a ∈ l, f a ≤ B) → (l.map f).sum ≤ l.length * B
  | [], _ => by simp
  | a :: l, h => by
    have := sum_map_le (f := f) (B := B) (l := l) fun x hx => h x (List.mem_cons_of_mem _ hx)
    have b := h a List.mem_cons_self
    simp only [List.map_cons, List.sum_cons, List.length_cons]
    rw [Int.natCast_add, Int.add_mul]
    omega
theorem sum_le3 {α : Type} {f : α → Int} {B : Int} {l : List α} (h : ∀ a ∈ l, f a ≤ B) (b0 : 0 ≤ B) (z : l.length ≤ 3) : (l.map f).sum ≤ 3 * B := by
  have a := sum_map_le h
  have : (l.length : Int) * B ≤ 3 * B := Int.mul_le_mul_of_nonneg_right (by omega) b0
  omega
theorem sgL_len (ts : List Tb) (a : Nat) : ∀ n, (∀ p, a ≤ p → p < a + n → ∀ t ∈ ts, 0 ≤ tdd t p) → ((sgL ts a n).length : Int) = (ts.map fun t => tv t (a + n) - tv t a).sum + n
  | 0, _ => by
    have : (ts.map fun t => tv t (a + 0) - tv t a) = ts.map fun _ => (0 : Int) := List.map_congr_left fun t _ => by rw [Nat.add_zero, Int.sub_self]
    rw [this]
    have z : ∀ l : List Tb, (l.map fun _ => (0 : Int)).sum = 0 := fun l => by
      induction l with
      | nil => rfl
      | cons a l ih => rw [List.map_cons, List.sum_cons, ih]; rfl
    rw [z]
    rfl
  | n + 1, h => by
    rw [sgL_succ, List.length_append, Int.natCast_add, sgL_len ts a n fun p h1 h2 => h p h1 (by omega)]
    have d : ((dlL ts (a + n)).length : Int) = sumD ts (a + n) + 1 := by
      unfold dlL
      rw [List.length_append, Int.natCast_add, tkL_len (a + n) ts 0 (h (a + n) (by omega) (by omega))]
      rfl
    rw [d]
    have := sum_map_add (fun t => tv t (a + n) - tv t a) (fun t => tdd t (a + n)) ts
    have e : (ts.map fun t => tv t (a + n) - tv t a + tdd t (a + n)) = ts.map fun t => tv t (a + (n + 1)) - tv t a := List.map_congr_left fun t _ => by
      unfold tdd
      rw [show a + n + 1 = a + (n + 1) by omega]
      omega
    rw [e] at this
    unfold sumD
    rw [← this]
    omega
theorem mnL_dvd {ts : List Tb} (h : ∀ t ∈ ts, 0 < t.2.1.length ∧ t.2.1.length ≤ 4) : mnL ts ∣ 12 ∧ 0 < mnL ts := by
  have key : ∀ (l : List Tb) (m : Nat), (∀ t ∈ l, 0 < t.2.1.length ∧ t.2.1.length ≤ 4) → m ∣ 12 → 0 < m → (l.foldl (fun m t => Nat.lcm m t.2.1.length) m) ∣ 12 ∧ 0 < l.foldl (fun m t => Nat.lcm m t.2.1.length) m := fun l => by
    induction l with
    | nil => exact fun m _ a b => ⟨a, b⟩
    | cons t l ih =>
      intro m hl a b
      obtain ⟨c, d⟩ := hl t List.mem_cons_self
      refine ih _ (fun x hx => hl x (List.mem_cons_of_mem _ hx)) (Nat.lcm_dvd a ?_) (Nat.lcm_pos b c)
      have : t.2.1.length = 1 ∨ t.2.1.length = 2 ∨ t.2.1.length = 3 ∨ t.2.1.length = 4 := by omega
      rcases this with e | e | e | e <;> rw [e] <;> decide
  exact key ts 1 h (by decide) (by decide)
theorem dvd_mnL {ts : List Tb} {t : Tb} (ht : t ∈ ts) : t.2.1.length ∣ mnL ts := by
  have up : ∀ (l : List Tb) (m : Nat), m ∣ l.foldl (fun m t => Nat.lcm m t.2.1.length) m := fun l => by
    induction l with
    | nil => exact fun m => Nat.dvd_refl m
    | cons t l ih => exact fun m => Nat.dvd_trans (Nat.dvd_lcm_left m _) (ih _)
  have key : ∀ (l : List Tb) (m : Nat), t ∈ l → t.2.1.length ∣ l.foldl (fun m t => Nat.lcm m t.2.1.length) m := fun l => by
    induction l with
    | nil => exact fun m h => absurd h List.not_mem_nil
    | cons x l ih =>
      intro m h
      rcases List.mem_cons.mp h with rfl | h
      · exact Nat.dvd_trans (Nat.dvd_lcm_right m _) (up l _)
      · exact ih _ h
  exact key ts 1 ht
theorem stL_ex : ∀ {ts : List Tb}, 1 ≤ ts.length → ∃ m : Nat, (∃ t ∈ ts, t.1.length = m) ∧ ∀ t ∈ ts, t.1.length ≤ m
  | [], h => absurd h (by decide)
  | [t], _ => ⟨t.1.length, ⟨t, List.mem_cons_self, rfl⟩, fun x hx => by rw [List.mem_singleton.mp hx]; exact Nat.le_refl _⟩
  | t :: u :: ts, _ => by
    obtain ⟨m, ⟨x, hx, e⟩, h⟩ := stL_ex (ts := u :: ts) (by simp)
    by_cases c : t.1.length ≤ m
    · exact ⟨m, ⟨x, List.mem_cons_of_mem _ hx, e⟩, fun y hy => (List.mem_cons.mp hy).elim (fun e => e ▸ c) (h y)⟩
    · exact ⟨t.1.length, ⟨t, List.mem_cons_self, rfl⟩, fun y hy => (List.mem_cons.mp hy).elim (fun e => e ▸ Nat.le_refl _) fun hy => by have := h y hy; omega⟩
theorem fV_monoT {h l : List Int} {r : Int} (V : Val h l r) (hl : l ≠ []) {i : Nat} : ∀ k, fV h l r i ≤ fV h l r (i + k)
  | 0 => Int.le_refl _
  | k + 1 => Int.le_trans (fV_monoT V hl k) (fV_up V hl (i + k))
section
variable {t : Tb}
theorem PlT.tv1 (P : PlT t) (p : Nat) : tv t (p + 1) = fV t.1 t.2.1 t.2.2 p := tv_fV P.ne p
theorem PlT.up (P : PlT t) (p : Nat) : 0 ≤ tdd t p := tv_up P.val P.ne p
theorem PlT.nn (P : PlT t) (p : Nat) : 0 ≤ tv t p := by
  cases p with
  | zero => exact Int.le_refl _
  | succ p => rw [P.tv1]; exact fV_nn P.val p
theorem PlT.per (P : PlT t) (q : Nat) {j : Nat} (hj : t.1.length ≤ j) : tv t (j + t.2.1.length * q + 1) = tv t (j + 1) + t.2.2 * q := tv_per P.ne q hj
theorem PlT.one (P : PlT t) (p : Nat) : tdd t p ≤ 64 := by
  by_cases c : p ≤ 4
  · have := P.nn p
    have b := P.bd p
    unfold tdd
    rw [P.tv1]
    omega
  · have z := P.zh
    have l0 := List.length_pos_iff.mpr P.ne
    have e := P.per 1 (j := p - 1) (by omega)
    rw [Nat.mul_one, show p - 1 + t.2.1.length + 1 = (p + t.2.1.length - 1) + 1 by omega, P.tv1, show p - 1 + 1 = p by omega] at e
    have m := fV_monoT P.val P.ne (i := p) (t.2.1.length - 1)
    rw [show p + (t.2.1.length - 1) = p + t.2.1.length - 1 by omega] at m
    have br := P.br
    unfold tdd
    rw [P.tv1]
    omega
end
/-- steady tables may be made into a maker -/
theorem steady_ok {ts : List Tb} (z1 : 1 ≤ ts.length) (z3 : ts.length ≤ 3) (P : ∀ t ∈ ts, PlT t) : ∃ m : Nat, stL ts false (m + 1) ∧ m ≤ 4 ∧ (∀ t ∈ ts, t.1.length ≤ m) ∧ DpOk ts 0 (m + 1) ∧ DpOk ts (m + 1) (mnL ts) ∧ mnL ts ≤ 12 ∧ 0 < mnL ts := by
  obtain ⟨m, ⟨t0, h0, e0⟩, hm⟩ := stL_ex z1
  have m4 : m ≤ 4 := by rw [← e0]; exact (P t0 h0).zh
  obtain ⟨d12, mp⟩ := mnL_dvd fun t ht => ⟨List.length_pos_iff.mpr (P t ht).ne, (P t ht).zl⟩
  have m12 := Nat.le_of_dvd (by decide) d12
  have one : ∀ p, sumD ts p ≤ 600 ∧ ∀ t ∈ ts, RSm t.1 t.2.1 t.2.2 ∧ 0 ≤ tdd t p ∧ (TV t.1 t.2.1 t.2.2 p).isSome = true := fun p => by
    refine ⟨?_, fun t ht => ⟨(P t ht).val.sm, (P t ht).up p, by rw [TV_fV (P t ht).ne]; rfl⟩⟩
    have := sum_le3 (f := fun t => tdd t p) (B := 64) (fun t ht => (P t ht).one p) (by decide) z3
    unfold sumD
    omega
  refine ⟨m, ⟨m, ⟨t0, h0, e0⟩, hm, rfl⟩, m4, hm, ⟨fun p _ _ => one p, ?_⟩, ⟨fun p _ _ => one p, ?_⟩, m12, mp⟩
  · have e := sgL_len ts 0 (m + 1) fun p _ _ t ht => (P t ht).up p
    have b := sum_le3 (f := fun t => tv t (0 + (m + 1)) - tv t 0) (B := 64) (fun t ht => by
      rw [Nat.zero_add, (P t ht).tv1]
      have := (P t ht).bd m
      show _ - (0 : Int) ≤ _
      omega) (by decide) z3
    omega
  · have e := sgL_len ts (m + 1) (mnL ts) fun p _ _ t ht => (P t ht).up p
    have b := sum_le3 (f := fun t => tv t (m + 1 + mnL ts) - tv t (m + 1)) (B := 144) (fun t ht => by
      obtain ⟨q, hq⟩ := dvd_mnL ht
      have l0 := List.length_pos_iff.mpr (P t ht).ne
      have q12 : q ≤ 12 := by
        have : q ≤ t.2.1.length * q := Nat.le_mul_of_pos_left q l0
        omega
      have := (P t ht).per q (j := m) (hm t ht)
      rw [hq, show m + 1 + t.2.1.length * q = m + t.2.1.length * q + 1 by omega, this]
      have r0 := (P t ht).val.r0
      have x1 := Int.mul_le_mul_of_nonneg_right (P t ht).br (show (0 : Int) ≤ (q : Int) by omega)
      omega) (by decide) z3
    omega
/-- ended tables, too -/
theorem ended_ok {ts : List Tb} {n : Nat} (z1 : 1 ≤ ts.length) (z3 : ts.length ≤ 3) (hn : n ≤ 5) (P : ∀ t ∈ ts, t.2.1 = [] ∧ t.2.2 = 0 ∧ t.1.length = n ∧ Val t.1 [] 0 ∧ ∀ v ∈ t.1, v ≤ 100) : stL ts true n ∧ DpOk ts 0 n := by
  have T : ∀ t ∈ ts, ∃ h, t = (h, [], 0) ∧ h.length = n ∧ Val h [] 0 ∧ ∀ v ∈ h, v ≤ 100 := fun t ht => by
    obtain ⟨a, b, c, d, e⟩ := P t ht
    obtain ⟨h, l, r⟩ := t
    dsimp only at a b c d e
    subst a b
    exact ⟨h, rfl, c, d, e⟩
  have nn : ∀ t ∈ ts, ∀ p, 0 ≤ tv t p := fun t ht p => by
    obtain ⟨h, rfl, c, d, e⟩ := T t ht
    cases p with
    | zero => exact Int.le_refl _
    | succ p =>
      by_cases q : p < h.length
      · rw [tv_head q]; exact gI_nn d.p1 _
      · show 0 ≤ (TV h [] 0 p).getD 0
        unfold TV
        rw [if_pos rfl, List.getElem?_eq_none (by omega)]
        exact Int.le_refl _
  have le : ∀ t ∈ ts, ∀ p, p < n → tv t (p + 1) ≤ 100 := fun t ht p hp => by
    obtain ⟨h, rfl, c, d, e⟩ := T t ht
    rw [tv_head (by omega)]
    exact e _ (gI_memR (by omega) (by omega))
  have up : ∀ p, 0 ≤ p → p < 0 + n → ∀ t ∈ ts, 0 ≤ tdd t p := fun p _ hp t ht => by
    obtain ⟨h, rfl, c, d, e⟩ := T t ht
    exact tv_upE d p (by omega)
  obtain ⟨t0, h0⟩ : ∃ t0, t0 ∈ ts := by
    cases ts with
    | nil => exact absurd z1 (by decide)
    | cons t _ => exact ⟨t, List.mem_cons_self⟩
  refine ⟨⟨n, ⟨t0, h0, (P t0 h0).2.2.1⟩, fun t ht => Nat.le_of_eq (P t ht).2.2.1, rfl⟩, ⟨fun p p0 hp => ⟨?_, fun t ht => ?_⟩, ?_⟩⟩
  · have := sum_le3 (f := fun t => tdd t p) (B := 100) (fun t ht => by
      have a := le t ht p (by omega)
      have b := nn t ht p
      unfold tdd
      omega) (by decide) z3
    unfold sumD
    omega
  · refine ⟨?_, up p p0 hp t ht, ?_⟩
    · obtain ⟨h, rfl, c, d, e⟩ := T t ht
      exact d.sm
    · obtain ⟨h, rfl, c, d, e⟩ := T t ht
      show (TV h [] 0 p).isSome = true
      unfold TV
      rw [if_pos rfl, List.getElem?_eq_getElem (by omega)]
      rfl
  · have e := sgL_len ts 0 n up
    have b := sum_le3 (f := fun t => tv t (0 + n) - tv t 0) (B := 100) (fun t ht => by
      show tv t (0 + n) - 0 ≤ 100
      cases n with
      | zero => show (0 : Int) - 0 ≤ 100; decide
      | succ n =>
        rw [Nat.zero_add]
        have := le t ht n (by omega)
        omega) (by decide) z3
    omega

end
section
/-- the only way -/
noncomputable def wayOf (ts : List Tb) (ends : Bool) (st : Nat) : List Dd := if ends = true then [some 0] else sgL ts st (mnL ts)
theorem getD_of {ts : List Tb} {i : Int} {t : Tb} (i0 : 0 ≤ i) (h : ts[i.toNat]? = some t) : ts.getD i.toNat ([], [], 0) = t := by
  rw [List.getD_eq_getElem?_getD, h]
  rfl
structure Made (ts : List Tb) (ends : Bool) (n st : Nat) : Prop where
  ok : TsOk ts ends n
  sL : stL ts ends st
  mb : ends = false → ∀ i, 0 < mnL (ts.take i) ∧ mnL (ts.take i) ≤ 50000
  lb : ∀ t ∈ ts, t.2.1.length ≤ 50000
  zs : st ≤ 50000
  d0 : DpOk ts 0 st
  d1 : ends = false → DpOk ts st (mnL ts)
  nd : ∀ (i : Int) (t : Tb), 0 ≤ i → ts[i.toNat]? = some t → ndP i (sgL ts 0 st) [wayOf ts ends st] [] [0] = t ∧ ndP i (sgL ts 0 st) [wayOf ts ends st] [] [0, 0] = t
  zb : (sgL ts 0 st).length ≤ 600
  zw : (wayOf ts ends st).length ≤ 600
theorem made_steady {ts : List Tb} (z1 : 1 ≤ ts.length) (z3 : ts.length ≤ 3) (P : ∀ t ∈ ts, PlT t) : ∃ st, Made ts false 0 st := by
  obtain ⟨m, s1, m4, hm, d0, d1, m12, mp⟩ := steady_ok z1 z3 P
  refine ⟨m + 1, ⟨⟨z1, z3, fun t ht => (P t ht).val, fun t ht => (P t ht).pl, fun _ t ht => (P t ht).ne, fun h => nomatch h⟩, s1, fun _ i => ?_, fun t ht => by have := (P t ht).zl; omega, by omega, d0, fun _ => d1, fun i t i0 ht => ?_, d0.all, d1.all⟩⟩
  · obtain ⟨a, b⟩ := mnL_dvd (ts := ts.take i) fun t ht => ⟨List.length_pos_iff.mpr (P t (List.mem_of_mem_take ht)).ne, (P t (List.mem_of_mem_take ht)).zl⟩
    have := Nat.le_of_dvd (by decide) a
    exact ⟨b, by omega⟩
  · have hmem := List.mem_of_getElem? ht
    have p := P t hmem
    have i1 : i < ts.length := by have := (List.getElem?_eq_some_iff.mp ht).1; omega
    obtain ⟨q, hq⟩ := dvd_mnL hmem
    have q1 : 1 ≤ q := by
      rcases Nat.eq_zero_or_pos q with e | e
      · rw [e, Nat.mul_zero] at hq; omega
      · exact e
    have hl := hm t hmem
    have e : m + 1 = t.1.length + (m + 1 - t.1.length) := by omega
    have w : wayOf ts false (m + 1) = sgL ts (m + 1) (t.2.1.length * q) := by
      unfold wayOf
      rw [if_neg (by decide), hq]
    rw [w]
    have A := mkr_need (ts := ts) (i := i) (h := t.1) (l := t.2.1) (r := t.2.2) p.ne (m + 1 - t.1.length) q (by omega) q1 i0 i1 (getD_of i0 ht) fun pp t ht => (P t ht).up pp
    have B := mkr_need2 (ts := ts) (i := i) (h := t.1) (l := t.2.1) (r := t.2.2) p.ne (m + 1 - t.1.length) q (by omega) q1 i0 i1 (getD_of i0 ht) fun pp t ht => (P t ht).up pp
    rw [← e, p.pl] at A B
    exact ⟨A, B⟩
theorem made_ended {ts : List Tb} {n : Nat} (z1 : 1 ≤ ts.length) (z3 : ts.length ≤ 3) (hn : n ≤ 5) (P : ∀ t ∈ ts, t.2.1 = [] ∧ t.2.2 = 0 ∧ t.1.length = n ∧ Val t.1 [] 0 ∧ ∀ v ∈ t.1, v ≤ 100) : Made ts true n n := by
  obtain ⟨s1, d0⟩ := ended_ok z1 z3 hn P
  have T : ∀ t ∈ ts, ∃ h, t = (h, [], 0) ∧ h.length = n ∧ Val h [] 0 := fun t ht => by
    obtain ⟨a, b, c, d, e⟩ := P t ht
    obtain ⟨h, l, r⟩ := t
    dsimp only at a b c d e
    subst a b
    exact ⟨h, rfl, c, d⟩
  have up : ∀ p, p < 0 + n → ∀ t ∈ ts, 0 ≤ tdd t p := fun p hp t ht => ((d0.one p (Nat.zero_le _) hp).2 t ht).2.1
  refine ⟨⟨z1, z3, fun t ht => ?_, fun t ht => ?_, (fun h => nomatch h), fun _ t ht => ⟨(P t ht).1, (P t ht).2.2.1⟩⟩, s1, (fun h => nomatch h), fun t ht => by rw [(P t ht).1]; exact Nat.zero_le _, by omega, d0, (fun h => nomatch h), fun i t i0 ht => ?_, d0.all, by show 1 ≤ 600; decide⟩
  · obtain ⟨h, rfl, c, d⟩ := T t ht
    exact d
  · obtain ⟨h, rfl, c, d⟩ := T t ht
    exact plainF_nil
  · have hmem := List.mem_of_getElem? ht
    have i1 : i < ts.length := by have := (List.getElem?_eq_some_iff.mp ht).1; omega
    obtain ⟨h, rfl, c, d⟩ := T t hmem
    have A := tkn_sg (ts := ts) 0 i0 i1 n up
    rw [getD_of i0 ht] at A
    have w1 : fl [wayOf ts true n] [0] = [some 0] := fl_one _
    have w2 : fl [wayOf ts true n] [0, 0] = [some 0, some 0] := fl_two _
    have k1 : (tkn i [some 0]).1 = [] := by
      have := tkn_rep i 0 1
      show (tkn i (List.replicate 1 (some 0))).1 = _
      rw [this]
    have k2 : (tkn i [some 0, some 0]).1 = [] := by
      have := tkn_rep i 0 2
      show (tkn i (List.replicate 2 (some 0))).1 = _
      rw [this]
    have fin : plainF ((List.range n).map fun j => tv (h, [], 0) (0 + j + 1) - tv (h, [], 0) 0) [] 0 = (h, [], 0) := by
      have := mkr_ended (h := h) (r := 0) plainF_nil
      rw [c] at this
      exact this
    unfold ndP
    rw [w1, w2, show fl [wayOf ts true n] [] = [] from rfl, List.append_nil]
    unfold tbL tbR
    rw [k1, k2, if_pos rfl, A]
    exact ⟨fin, fin⟩
theorem Tbs.snoc {K : PySem.W.Frag} {H : Hp} {vs : List V} {ts : List Tb} {a : Addr} {t : Tb} (p : Tbs K H vs ts) (h : TabAt K H a t.1 t.2.1 t.2.2) : Tbs K H (vs ++ [.ref a]) (ts ++ [t]) := by
  induction p with
  | nil => exact .cons h .nil
  | cons h' _ ih => exact .cons h' ih
/-- a comprehension over a list whose items give tables -/
theorem lcT {K : PySem.W.Frag} {H : Hp} {Q : VK} {a : Addr} {xs : List V} {ts : List Tb} {j : Nat} {te : TE} {vs : List Nat} {σ : L2.St} (hx : SqL K H a xs) (hz : xs.length = ts.length) (hn : xs.length ≤ 1000) (σ' : V → L2.St) (hσ : ∀ x, (wipe σ vs).set j (some x) = σ' x) (hw : ∀ x, wipe ((wipe σ vs).set j (some x)) vs = wipe σ vs)
    (he : ∀ (i : Nat) (x : V) (t : Tb) (H1 : Hp) (Q' : VK), Ex H H1 → xs[i]? = some x → ts[i]? = some t → (∀ y H2, Ex H1 H2 → TabAt K H2 y t.1 t.2.1 t.2.2 → Q' (.ref y) H2) → te (σ' x) H1 Q')
    (hq : ∀ p H2 ys, H p = none → Ex H H2 → H2 p = some (.lst ys) → Tbs K H2 ys ts → Q (.ref p) H2) : LcJ (Itl K a) (gName j) tYes te vs σ H Q := fun D hD =>
  lc_list (xs := xs) (Pv := fun i H' => Ex H H' ∧ ∃ ys, H' D = some (.lst ys) ∧ Tbs K H' ys (ts.take i)) ⟨Ex.new hD, [], upd_same, .nil⟩ (fun i H' _ p => ex_l p.1 hx) (fun i x H' hi ⟨p1, ys, p2, p3⟩ => ⟨hw x, by
    show te ((wipe σ vs).set j _) H' _
    rw [hσ]
    have hi' := (List.getElem?_eq_some_iff.mp hi).1
    have hi2 : i < ts.length := by omega
    refine he i x ts[i] H' _ p1 hi (List.getElem?_eq_getElem hi2) fun y H2 e2 d2 => ⟨ys, e2 D _ p2, sz_lt (by rw [p3.len, List.length_take]; omega), Ex.mut (p1.trans e2) hD, ys ++ [.ref y], upd_same, ?_⟩
    have L : Ls H2 (upd H2 D (.lst (ys ++ [V.ref y]))) := Ls.upd (e2 D _ p2)
    rw [List.take_add_one, List.getElem?_eq_getElem hi2]
    exact ((p3.ex e2).ls L).snoc (ls_tab L d2)⟩) fun H' ⟨p1, ys, p2, p3⟩ => by
      rw [hz, List.take_length] at p3
      exact hq D H' ys hD p1 p2 p3

end
section
theorem w_v16 {v : V} {H : Hp} {Q : VK} {x0 x1 x2 x3 x4 x5 x6 x7 x8 x9 x10 x11 x12 x13 x14 x15 : Option V} {l : L2.St} (h : Q v H) : GetN 16 (x0 :: x1 :: x2 :: x3 :: x4 :: x5 :: x6 :: x7 :: x8 :: x9 :: x10 :: x11 :: x12 :: x13 :: x14 :: x15 :: some v :: l) H Q := ⟨v, rfl, h⟩
/-- the table of a raw -/
noncomputable abbrev pT (t : Tb) : Tb := plainF t.1 t.2.1 t.2.2
theorem made_of {raws : List Tb} {ends : Bool} {n : Nat} (R : RwsOk raws ends n) : ∃ n' st, Made (raws.map pT) ends n' st := by
  cases ends with
  | false =>
    obtain ⟨st, M⟩ := made_steady (ts := raws.map pT) (by rw [List.length_map]; exact R.z1) (by rw [List.length_map]; exact R.z3) fun t ht => by
      obtain ⟨t0, h0, rfl⟩ := List.mem_map.mp ht
      obtain ⟨a, b⟩ := R.st rfl t0 h0
      exact plT_of a b
    exact ⟨0, st, M⟩
  | true =>
    have e : raws.map pT = raws := by
      have : ∀ t ∈ raws, pT t = t := fun t ht => by
        obtain ⟨a, b, _⟩ := R.en rfl t ht
        obtain ⟨h, l, r⟩ := t
        dsimp only at a b
        subst a b
        exact plainF_nil
      exact (List.map_congr_left this).trans (List.map_id _)
    rw [e]
    obtain ⟨t0, h0⟩ : ∃ t0, t0 ∈ raws := by
      have := R.z1
      cases raws with
      | nil => exact absurd this (by decide)
      | cons t _ => exact ⟨t, List.mem_cons_self⟩
    have hn := (R.en rfl t0 h0).2.2.2.1
    exact ⟨n, n, made_ended R.z1 R.z3 hn fun t ht => by
      obtain ⟨a, b, c, _, d, e⟩ := R.en rfl t ht
      exact ⟨a, b, c, d, e⟩⟩
theorem rws_val {raws : List Tb} {ends : Bool} {n : Nat} (R : RwsOk raws ends n) : ∀ t ∈ raws, Val t.1 t.2.1 t.2.2 ∧ t.1.length ≤ 50 ∧ t.2.1.length ≤ 50 := fun t ht => by
  cases ends with
  | false =>
    obtain ⟨a, b⟩ := R.st rfl t ht
    exact ⟨a.val, by have := a.zh; omega, by have := a.zl; omega⟩
  | true =>
    obtain ⟨a, b, c, d, e, f⟩ := R.en rfl t ht
    obtain ⟨h, l, r⟩ := t
    dsimp only at a b c e
    subst a b
    exact ⟨e, by show h.length ≤ 50; omega, by show 0 ≤ 50; omega⟩
/-- what a good lot of tables gives -/
theorem mo_good {K : PySem.W.Frag} {H : Hp} {Q : VK} {X : XK} {pt : Addr} {xs : List V} {ts : List Tb} {ends : Bool} {n st : Nat} (s : SqE K H pt xs) (np : H pt ≠ none) (T : Tbs K H xs ts) (M : Made ts ends n st) (k : ∀ x H', Ex H H' → MakAt K H' x ts.length (sgL ts 0 st) [wayOf ts ends st] → Q (.ref x) H') : MoB K (.ref pt) H Q X := by
  unfold MoB
  exact .inr ⟨pt, xs, rfl, s, by have := T.len; have := M.ok.z3; omega, .inr (.inr (.inr ⟨ts, ends, n, st, np, T, M.ok, M.sL, M.mb, M.lb, M.zs, .inl ⟨M.d0, M.d1, k⟩⟩))⟩
theorem plain_one (v r : Int) : plainF [] [v] r = ([], [v], r) := by
  obtain ⟨c, s, hc, hs, A⟩ := plainF_at (h := []) (l := [v]) (r := r) (List.cons_ne_nil _ _)
  have s1 := A.s1
  obtain rfl : c = 0 := by simpa using hc
  obtain rfl : s = 1 := by
    have : s ≤ 1 := hs
    omega
  rw [A.pf]
  have e0 : extL [v] r (0 - (([] : List Int).length : Int)) = v := by
    show gI [v] ((0 - 0) % 1) + r * ((0 - 0) / 1) = v
    simp [gI]
  have e1 : extL [v] r ((1 : Nat) - (([] : List Int).length : Int)) = v + r := by
    show gI [v] ((1 - 0) % 1) + r * ((1 - 0) / 1) = v + r
    simp [gI]
  refine Prod.ext rfl (Prod.ext ?_ ?_)
  · show [extL [v] r (((0 + 0 : Nat) : Int) - (([] : List Int).length : Int))] = [v]
    exact congrArg (· :: []) e0
  · show extL [v] r ((1 : Nat) - (([] : List Int).length : Int)) - extL [v] r (0 - (([] : List Int).length : Int)) = r
    rw [e0, e1]
    omega
theorem val_one {v r : Int} (v0 : 0 ≤ v) (r0 : 0 ≤ r) (rr : r ≤ 1000) : Val [] [v] r := by
  refine ⟨fun n h => absurd h List.not_mem_nil, fun n h => by rw [List.mem_singleton.mp h]; exact v0, fun i hi => absurd hi (by simp), fun i hi => absurd hi (by simp), r0, (fun e => nomatch e), fun e => absurd rfl e, fun _ => ?_, ?_⟩
  · show gI [v] (((1 : Nat) : Int) - 1) ≤ gI [v] 0 + r
    rw [show (((1 : Nat) : Int) - 1) = 0 from rfl]
    omega
  · exact ⟨by omega, by omega, by decide, show 1 ≤ 50000 by decide⟩
theorem Tbs.take {K : PySem.W.Frag} {H : Hp} {vs : List V} {ts : List Tb} (p : Tbs K H vs ts) : ∀ i, Tbs K H (vs.take i) (ts.take i) := by
  induction p with
  | nil => intro i; rw [List.take_nil, List.take_nil]; exact .nil
  | cons h _ ih =>
    intro i
    cases i with
    | zero => exact .nil
    | succ i => exact .cons h (ih i)
section
variable {K : PySem.W.Frag} {H : Hp} {Q : VK} {X : XK} {pt : Addr} {xs : List V}
theorem mo_bad {i : Nat} {b : V} {ts : List Tb} (s : SqE K H pt xs) (z : xs.length ≤ 3) (hb : xs[i]? = some b) (T : Tbs K H (xs.take i) ts) (ty : XTyp K H b) (k : ∀ dd H', Ex H H' → H' dd = some (.xd [("number", .int (i : Nat))]) → X (.ref (He.ga K "BadTables")) (some dd) H') : MoB K (.ref pt) H Q X := by
  unfold MoB
  exact .inr ⟨pt, xs, rfl, s, by omega, .inr (.inl ⟨i, b, ts, z, hb, T, ty, k⟩)⟩
theorem mo_len (s : SqE K H pt xs) (z : xs.length ≤ 100) (c : xs.length = 0 ∨ 3 < xs.length) (k : ∀ dd H', Ex H H' → H' dd = some (.xd [("number", .int (-1))]) → X (.ref (He.ga K "BadTables")) (some dd) H') : MoB K (.ref pt) H Q X := by
  unfold MoB
  exact .inr ⟨pt, xs, rfl, s, z, .inl ⟨c, k⟩⟩
theorem mo_non (k : ∀ dd H', Ex H H' → H' dd = some (.xd [("number", .int (-1))]) → X (.ref (He.ga K "BadTables")) (some dd) H') : MoB K .non H Q X := by
  unfold MoB
  exact .inl ⟨.none, .non, rfl, k⟩
theorem mo_ends {ts : List Tb} (s : SqE K H pt xs) (T : Tbs K H xs ts) (z1 : 1 ≤ ts.length) (z3 : ts.length ≤ 3) (ne : ¬ AllEnd ts) (k : ∀ dd H', Ex H H' → H' dd = some (.xd [("number", .int (-1))]) → X (.ref (He.ga K "BadTables")) (some dd) H') : MoB K (.ref pt) H Q X := by
  have := T.len
  unfold MoB
  exact .inr ⟨pt, xs, rfl, s, by omega, .inr (.inr (.inl ⟨ts, T, z1, z3, ne, k⟩))⟩
/-- one table of one value and a rise -/
theorem one_ok (v r : Int) (v0 : 0 ≤ v) (r0 : 0 ≤ r) (rr : r ≤ 1000) : TsOk [(([] : List Int), [v], r)] false 0 ∧ stL [(([] : List Int), [v], r)] false 1 ∧ (∀ i, 0 < mnL ([(([] : List Int), [v], r)].take i) ∧ mnL ([(([] : List Int), [v], r)].take i) ≤ 50000) ∧ mnL [(([] : List Int), [v], r)] = 1 := by
  have one : ∀ t ∈ [(([] : List Int), [v], r)], t = ([], [v], r) := fun t h => List.mem_singleton.mp h
  have d1 : mnL [(([] : List Int), [v], r)] = 1 := show Nat.lcm 1 1 = 1 by decide
  refine ⟨⟨Nat.le_refl 1, show 1 ≤ 3 by decide, fun t h => by rw [one t h]; exact val_one v0 r0 rr, fun t h => by rw [one t h]; exact plain_one v r, fun _ t h => by rw [one t h]; exact List.cons_ne_nil _ _, (fun h => nomatch h)⟩, ⟨0, ⟨_, List.mem_singleton.mpr rfl, rfl⟩, fun t h => by rw [one t h]; exact Nat.le_refl 0, rfl⟩, fun i => ?_, d1⟩
  cases i with
  | zero => exact ⟨show 0 < 1 by decide, show 1 ≤ 50000 by decide⟩
  | succ i =>
    rw [show [(([] : List Int), [v], r)].take (i + 1) = [(([] : List Int), [v], r)] by simp]
    rw [d1]
    exact ⟨by decide, by decide⟩
theorem one_tv (v r : Int) (j : Nat) : tv ([], [v], r) (j + 1) = v + r * j := by
  rw [tv_fV (List.cons_ne_nil _ _), fV_loop (Nat.zero_le _)]
  show gI [v] (((j : Int) - 0) % 1) + r * (((j : Int) - 0) / 1) = _
  simp [gI]
theorem mo_one {v r : Int} (v0 : 0 ≤ v) (v6 : v ≤ 598) (r0 : 0 ≤ r) (rr : r ≤ 500) (s : SqE K H pt xs) (np : H pt ≠ none) (T : Tbs K H xs [([], [v], r)]) (k : ∀ x H', Ex H H' → Q x H') : MoB K (.ref pt) H Q X := by
  obtain ⟨a, b, c, d⟩ := one_ok v r v0 r0 (by omega)
  have t1 : tdd ([], [v], r) 0 = v := by unfold tdd; rw [show tv ([], [v], r) (0 + 1) = v + r * (0 : Nat) from one_tv v r 0]; show v + r * 0 - 0 = v; omega
  have t2 : tdd ([], [v], r) 1 = r := by
    unfold tdd
    rw [show tv ([], [v], r) (1 + 1) = v + r * (1 : Nat) from one_tv v r 1, show tv ([], [v], r) 1 = v + r * (0 : Nat) from one_tv v r 0]
    show v + r * 1 - (v + r * 0) = r
    omega
  have one : ∀ t ∈ [(([] : List Int), [v], r)], t = ([], [v], r) := fun t h => List.mem_singleton.mp h
  have z := T.len
  have sm : ∀ p, sumD [(([] : List Int), [v], r)] p = tdd ([], [v], r) p := fun p => by unfold sumD; simp
  have d0 : DpOk [(([] : List Int), [v], r)] 0 1 := by
    refine ⟨fun p _ hp => ?_, ?_⟩
    · obtain rfl : p = 0 := by omega
      rw [sm, t1]
      exact ⟨by omega, fun t h => by rw [one t h, t1]; exact ⟨(val_one v0 r0 (by omega)).sm, v0, by show (TV [] [v] r 0).isSome = true; rw [TV_fV (List.cons_ne_nil _ _)]; rfl⟩⟩
    · have := sgL_len [(([] : List Int), [v], r)] 0 1 fun p _ hp t h => by
        obtain rfl : p = 0 := by omega
        rw [one t h, t1]
        exact v0
      have e : ([(([] : List Int), [v], r)].map fun t => tv t (0 + 1) - tv t 0).sum = tdd ([], [v], r) 0 := by simp [tdd]
      rw [e, t1] at this
      omega
  have d1 : DpOk [(([] : List Int), [v], r)] 1 1 := by
    refine ⟨fun p p1 hp => ?_, ?_⟩
    · obtain rfl : p = 1 := by omega
      rw [sm, t2]
      exact ⟨by omega, fun t h => by rw [one t h, t2]; exact ⟨(val_one v0 r0 (by omega)).sm, r0, by show (TV [] [v] r 1).isSome = true; rw [TV_fV (List.cons_ne_nil _ _)]; rfl⟩⟩
    · have := sgL_len [(([] : List Int), [v], r)] 1 1 fun p p1 hp t h => by
        obtain rfl : p = 1 := by omega
        rw [one t h, t2]
        exact r0
      have e : ([(([] : List Int), [v], r)].map fun t => tv t (1 + 1) - tv t 1).sum = tdd ([], [v], r) 1 := by simp [tdd]
      rw [e, t2] at this
      omega
  unfold MoB
  refine .inr ⟨pt, xs, rfl, s, by rw [z]; show 1 ≤ 100; decide, .inr (.inr (.inr ⟨_, false, 0, 1, np, T, a, b, fun _ => c, fun t h => by rw [one t h]; show 1 ≤ 50000; decide, by decide, .inl ⟨d0, fun _ => by rw [d]; exact d1, fun x H' e _ => k _ H' e⟩⟩))⟩
theorem mo_big {v r : Int} (v6 : 600 < v) (r0 : 0 ≤ r) (rr : r ≤ 1000) (s : SqE K H pt xs) (np : H pt ≠ none) (T : Tbs K H xs [([], [v], r)]) (k : ∀ dd H', H' dd = some (.xd [("word", .str "deed")]) → X (.ref (He.ga K "TooMany")) (some dd) H') : MoB K (.ref pt) H Q X := by
  obtain ⟨a, b, c, d⟩ := one_ok v r (by omega) r0 rr
  have one : ∀ t ∈ [(([] : List Int), [v], r)], t = ([], [v], r) := fun t h => List.mem_singleton.mp h
  have t1 : tdd ([], [v], r) 0 = v := by unfold tdd; rw [show tv ([], [v], r) (0 + 1) = v + r * (0 : Nat) from one_tv v r 0]; show v + r * 0 - 0 = v; omega
  have z := T.len
  unfold MoB
  exact .inr ⟨pt, xs, rfl, s, by rw [z]; show 1 ≤ 100; decide, .inr (.inr (.inr ⟨_, false, 0, 1, np, T, a, b, fun _ => c, fun t h => by rw [one t h]; show 1 ≤ 50000; decide, by decide, .inr ⟨Nat.le_refl 1, _, rfl, (val_one (by omega) r0 rr).sm, by show (TV [] [v] r 0).isSome = true; rw [TV_fV (List.cons_ne_nil _ _)]; rfl, by rw [t1]; exact v6, k⟩⟩))⟩
end
abbrev tS : Tb := ([], [1], 1)
abbrev tE : Tb := ([0, 1], [], 0)
abbrev tF : Tb := ([0], [], 0)
theorem val_tE : Val [0, 1] [] 0 := by
  refine ⟨fun n h => ?_, fun n h => absurd h List.not_mem_nil, fun i hi => ?_, fun i hi => absurd hi (by simp), Int.le_refl _, fun _ => rfl, fun _ e => absurd rfl e, fun e => absurd rfl e, by decide, by decide, by decide, by decide⟩
  · have : n = 0 ∨ n = 1 := by simpa using h
    omega
  · have : i = 0 := by simp at hi; omega
    subst this
    decide
theorem val_tF : Val [0] [] 0 := by
  refine ⟨fun n h => ?_, fun n h => absurd h List.not_mem_nil, fun i hi => absurd hi (by simp), fun i hi => absurd hi (by simp), Int.le_refl _, fun _ => rfl, fun _ e => absurd rfl e, fun e => absurd rfl e, by decide, by decide, by decide, by decide⟩
  have : n = 0 := by simpa using h
  omega
theorem made_EE : Made [tE, tE] true 2 2 := made_ended (by decide) (by decide) (by decide) fun t ht => by
  have : t = tE := by
    rcases List.mem_cons.mp ht with h | h
    · exact h
    · exact List.mem_singleton.mp h
  subst this
  exact ⟨rfl, rfl, rfl, val_tE, by decide⟩
theorem r_tupLo {K : PySem.W.Frag} {H : Hp} {Q : VK} {a : Addr} {xs : List V} (h : H a = some (.lst xs)) (q : ∀ p H1, H p = none → Ex H H1 → H1 p = some (.tup xs) → Q (.ref p) H1) : rTupU K [.ref a] H Q := ⟨a, xs, rfl, .inl ⟨sq_of h, fun p hp => q p _ hp (Ex.new hp) upd_same⟩⟩
theorem okN_none (w : List Dd) : okN [w] [] := fun n h => absurd h List.not_mem_nil
theorem okN_one (w : List Dd) : okN [w] [0] := fun n h => by
  rw [List.mem_singleton.mp h]
  exact ⟨by decide, by show (0 : Int) < ((1 : Nat) : Int); decide⟩
theorem okN_two (w : List Dd) : okN [w] [0, 0] := fun n h => by
  have : n = 0 := by simpa using h
  rw [this]
  exact ⟨by decide, by show (0 : Int) < ((1 : Nat) : Int); decide⟩
abbrev N_law : List Str := ["script", "source", "raws", "tables", "made", "maker", "inlet", "plain", "place", "bad", "steady", "ended", "row", "raw"]
theorem sc_law : FnScope N_law ["script"] (defScope s_law) := ⟨rfl, rfl, rfl, by decide +kernel, rfl, by decide +kernel, by decide +kernel⟩
abbrev lawSp (K : PySem.W.Frag) : Sp := sp1 fun s H Q _ => ∃ (a : Addr) (ns : List Int), s = .ref a ∧ SqL K H a (vI ns) ∧ (∀ z ∈ ns, Builtin.Int.intBits z ≤ 1048576) ∧ ns.length ≤ 63 ∧ ∀ H', Q (.bl true) H'
theorem ok_law {P : Program} {w : World} {K : PySem.W.Frag} {mg : Str → Option Value} {base : Heap} (E : Env P K mg) {fd : FuncData} (F : FunD K "law" "law" (defArgs s_law) (defBody s_law) (defScope s_law) (d_law.dvs K) [] (d_law.adr K) fd) : FnOk P w K mg base CX0 15 (d_law.adr K) fd ["script"] (lawSp K) := by
  refine fnok0 F sc_law sp1_len (fun cdv A outer s H vs Q X hr h => ?_)
  have nd := sc_law.nd
  obtain ⟨v0, rfl, h⟩ := h
  refine ⟨_, (pss_cons (ps_set (i := 1) nd rfl (.inl rfl) (pc (ok__law_source E) hr (by decide) pass0 rfl (pa_cons (pv 0) (pa_cons (pe_int) pa_nil))))
  (pss_cons (ps_set (i := 2) nd rfl (.inl rfl) (pc (ok__law_tables E) hr (by decide) pass0 rfl (pa_cons (pv 1) pa_nil)))
  (pss_cut (ps_setLc (i := 3) (own := [("raw", 13)]) (g := gName 13) (tt := tYes) rfl nd rfl rfl (sw_true rfl rfl rfl (by decide +kernel)) (kSeq K (pv 2)) (blkOk_by (N := N_law) (sc := defScope s_law) (by decide +kernel)) (fun _ _ _ _ _ => pg_name (i := 13) nd rfl (Or.inl rfl)) (fun _ _ _ _ _ => pts_nil) (fun _ _ _ _ _ => pc (ok__law_table E) hr (by decide) pass0 rfl (pa_cons (pv 13) pa_nil)))
  (pss_cons (ps_set (i := 4) nd rfl (.inl rfl) (pc (ok_maker_of E) hr (by decide) passN rfl (pa_cons (pv 3) pa_nil)))
  (pss_cons (ps_if (PW.pt (pw_or (pt_not (kTru K (pe_callB (kIsi K) (by rfl) E.f_isinstance (by decide +kernel) (pa_cons (pv 4) (pa_cons (pe_glob (v := .ref (He.ga K "Maker")) (by rfl) E.g_Maker rfl) pa_nil))) (by intro _; rfl))) (pw_or (pt_cmpR (kNe K hr) (kFld K (pv 4) rfl) (pe_callB (kLen K) (by rfl) E.f_len (by decide +kernel) (pa_cons (pv 2) pa_nil)) (nomark _)) (pw_or1 (pt_cmpR (kNe K hr) (pe_callB (kLen K) (by rfl) E.f_len (by decide +kernel) (pa_cons (kFld K (pv 4) rfl) pa_nil)) (pe_int) (nomark _))))))
   (pss_one (ps_ret (pe_bl)))
   pss_nil)
  (pss_cons (ps_set (i := 5) nd rfl (.inl rfl) (pe_tup (pa_cons (kFld K (pv 4) rfl) (pa_cons (kFld K (pv 4) rfl) (pa_cons (kFld K (pv 4) rfl) pa_nil)))))
  (pss_cut (ps_for PassesOwn.never rfl (pi_range1 (by rfl) E.f_range (pa_cons (pe_callB (kLen K) (by rfl) E.f_len (by decide +kernel) (pa_cons (pv 2) pa_nil)) pa_nil)) (pg_name (i := 6) nd rfl (.inl rfl))
   (pss_cons (ps_set (i := 7) nd rfl (.inl rfl) (pc (ok__law_plain E) hr (by decide) pass0 rfl (pa_cons (pe_ix (kIx K) (pe_ix (kIx K) (pv 2) (pv 6) (fun _ _ => rfl)) (pe_int) (fun _ _ => rfl)) (pa_cons (pe_ix (kIx K) (pe_ix (kIx K) (pv 2) (pv 6) (fun _ _ => rfl)) (pe_int) (fun _ _ => rfl)) (pa_cons (pe_ix (kIx K) (pe_ix (kIx K) (pv 2) (pv 6) (fun _ _ => rfl)) (pe_int) (fun _ _ => rfl)) pa_nil)))))
  (pss_cons (ps_if (PW.pt (pw_or (pt_cmpR (kNe K hr) (pc (ok__law_on E) hr (by decide) pass0 rfl (pa_cons (pv 5) (pa_cons (pv 6) (pa_cons (pe_tup (pa_cons (pe_tup pa_nil) (pa_cons (pe_tup (pa_cons (pe_int) pa_nil)) pa_nil))) pa_nil)))) (pv 7) (nomark _)) (pw_or1 (pt_not (kTru K (pc (ok__law_same E) hr (by decide) pass0 rfl (pa_cons (pmt (ok_Maker_need E) hr (by decide) pass0 (pv 4) (pa_cons (pv 6) (pa_cons (pe_tup (pa_cons (pe_tup pa_nil) (pa_cons (pe_tup (pa_cons (pe_int) pa_nil)) pa_nil))) pa_nil))) (pa_cons (pv 7) pa_nil))) (by intro _; rfl))))))
   (pss_one (ps_ret (pe_bl)))
   pss_nil)
  (pss_one (ps_if (PW.pt (pw_or (pt_not (kTru K (pc (ok__law_same E) hr (by decide) pass0 rfl (pa_cons (pc (ok_least E) hr (by decide) pass0 rfl (pa_cons (pv 4) (pa_cons (pv 6) pa_nil))) (pa_cons (pv 7) pa_nil))) (by intro _; rfl))) (pw_or1 (pt_not (kTru K (pc (ok__law_same E) hr (by decide) pass0 rfl (pa_cons (pc (ok_greatest E) hr (by decide) pass0 rfl (pa_cons (pv 4) (pa_cons (pv 6) pa_nil))) (pa_cons (pv 7) pa_nil))) (by intro _; rfl))))))
   (pss_one (ps_ret (pe_bl)))
   pss_nil)))))
  (pss_cons (ps_if (pt_not (pt_cmpR (kEqO K (ok_Table_eq E) hr (by decide)) (pmt (ok_Maker_need E) hr (by decide) pass0 (pc (ok_maker_of E) hr (by decide) passN rfl (pa_cons (pe_callTy (kTup K) (by rfl) E.f_tuple (by decide +kernel) (pa_cons (pv 3) pa_nil)) pa_nil)) (pa_cons (pe_int) (pa_cons (pe_tup (pa_cons (pe_tup pa_nil) (pa_cons (pe_tup (pa_cons (pe_int) (pa_cons (pe_int) pa_nil))) pa_nil))) pa_nil))) (pe_ix (kIx K) (pv 3) (pe_int) (fun _ _ => rfl)) (nomark _)))
   (pss_one (ps_ret (pe_bl)))
   pss_nil)
  (pss_cons (ps_set (i := 8) nd rfl (.inl rfl) (pc (ok__law_pick E) hr (by decide) pass0 rfl (pa_cons (pv 1) (pa_cons (pe_op (kAdd K) (pe_callB (kLen K) (by rfl) E.f_len (by decide +kernel) (pa_cons (pv 3) pa_nil)) (pe_int)) pa_nil))))
  (pss_cut (ps_set (i := 9) nd rfl (.inl rfl) (pe_ix (kIx K) (pe_lst (pa_cons (pe_non) (pa_cons (pe_int) (pa_cons (pe_tup (pa_cons (pe_int) (pa_cons (pe_int) pa_nil))) (pa_cons (pe_str) (pa_cons (pe_bl) pa_nil)))))) (pc (ok__law_pick E) hr (by decide) pass0 rfl (pa_cons (pv 1) (pa_cons (pe_int) pa_nil))) (fun _ _ => rfl)))
  (pss_cut (ps_if (PW.pt (pw_and (pt_cmpR op_lt (pe_callB (kLen K) (by rfl) E.f_len (by decide +kernel) (pa_cons (pv 3) pa_nil)) (pe_int) (nomark _)) (pw_and1 (pt_cmpR (kNe K hr) (pc (ok__law_seen E) hr (by decide) pass0 rfl (pa_cons (pe_op (kAdd K) (pe_op (kAdd K) (pe_slice (kSl K) (pv 3) po_none (po_some (pv 8))) (pe_lst (pa_cons (pv 9) pa_nil))) (pe_slice (kSl K) (pv 3) (po_some (pv 8)) po_none)) pa_nil)) (pv 8) (nomark _)))))
   (pss_one (ps_ret (pe_bl)))
   pss_nil)
  (pss_cons (ps_if (PW.pt (pw_or (pt_cmpR (kNe K hr) (pc (ok__law_seen E) hr (by decide) pass0 rfl (pa_cons (pe_tup pa_nil) pa_nil)) (pe_un un_neg (pe_int)) (nomark _)) (pw_or (pt_cmpR (kNe K hr) (pc (ok__law_seen E) hr (by decide) pass0 rfl (pa_cons (pe_op (kMul K) (pe_slice (kSl K) (pv 3) po_none (po_some (pe_int))) (pe_int)) pa_nil)) (pe_un un_neg (pe_int)) (nomark _)) (pw_or1 (pt_cmpR (kNe K hr) (pc (ok__law_seen E) hr (by decide) pass0 rfl (pa_cons (pe_non) pa_nil)) (pe_un un_neg (pe_int)) (nomark _))))))
   (pss_one (ps_ret (pe_bl)))
   pss_nil)
  (pss_cons (ps_par (i := 10) (j := 11) rfl nd rfl rfl (by decide) rfl rfl (pa_cons (pc (ok__law_table E) hr (by decide) pass0 rfl (pa_cons (pe_tup (pa_cons (pe_tup pa_nil) (pa_cons (pe_tup (pa_cons (pe_int) pa_nil)) (pa_cons (pe_int) pa_nil)))) pa_nil)) (pa_cons (pc (ok__law_table E) hr (by decide) pass0 rfl (pa_cons (pe_tup (pa_cons (pe_tup (pa_cons (pe_int) (pa_cons (pe_int) pa_nil))) (pa_cons (pe_tup pa_nil) (pa_cons (pe_int) pa_nil)))) pa_nil)) pa_nil)) rfl)
  (pss_cut (ps_for PassesOwn.never rfl (kSeq K (pe_lst (pa_cons (pe_lst (pa_cons (pv 10) (pa_cons (pv 11) pa_nil))) (pa_cons (pe_lst (pa_cons (pv 11) (pa_cons (pc (ok__law_table E) hr (by decide) pass0 rfl (pa_cons (pe_tup (pa_cons (pe_tup (pa_cons (pe_int) pa_nil)) (pa_cons (pe_tup pa_nil) (pa_cons (pe_int) pa_nil)))) pa_nil)) pa_nil))) (pa_cons (pe_lst (pa_cons (pv 11) (pa_cons (pv 11) (pa_cons (pv 10) pa_nil)))) pa_nil))))) (pg_name (i := 12) nd rfl (.inl rfl))
   (pss_one (ps_if (pt_cmpR (kNe K hr) (pc (ok__law_seen E) hr (by decide) pass0 rfl (pa_cons (pv 12) pa_nil)) (pe_un un_neg (pe_int)) (nomark _))
   (pss_one (ps_ret (pe_bl)))
   pss_nil)))
  (pss_cons (ps_if (PW.pt (pw_or (pt_cmpR xIsNot (pc (ok__law_seen E) hr (by decide) pass0 rfl (pa_cons (pe_lst (pa_cons (pv 11) (pa_cons (pv 11) pa_nil))) pa_nil)) (pe_non) (nomark _)) (pw_or1 (pt_cmpR (kNe K hr) (pc (ok__law_seen E) hr (by decide) pass0 rfl (pa_cons (pe_lst (pa_cons (pv 10) (pa_cons (pe_non) pa_nil))) pa_nil)) (pe_int) (nomark _)))))
   (pss_one (ps_ret (pe_bl)))
   pss_nil)
  (pss_cons (ps_if (pt_cmpR xIsNot (pc (ok__law_seen E) hr (by decide) pass0 rfl (pa_cons (pe_lst (pa_cons (pmk (ok_Table3 E) hr (by decide) pass0 rfl (pa_cons (pe_tup pa_nil) (pa_cons (pe_tup (pa_cons (pe_int) pa_nil)) (pa_cons (pe_int) pa_nil)))) pa_nil)) pa_nil)) (pe_non) (nomark _))
   (pss_one (ps_ret (pe_bl)))
   pss_nil)
  (pss_one (ps_ret (pe_cmpR (kEq K hr) (pc (ok__law_seen E) hr (by decide) pass0 rfl (pa_cons (pe_lst (pa_cons (pmk (ok_Table3 E) hr (by decide) pass0 rfl (pa_cons (pe_tup pa_nil) (pa_cons (pe_tup (pa_cons (pe_op (kAdd K) (pe_int) (pc (ok__law_pick E) hr (by decide) pass0 rfl (pa_cons (pv 1) (pa_cons (pe_int) pa_nil)))) pa_nil)) (pa_cons (pe_int) pa_nil)))) pa_nil)) pa_nil)) (pe_str) (nomark _)))))))))))))))))))), ?_⟩
  change (_ : TS) _ [some v0, none, none, none, none, none, none, none, none, none, none, none, none, none] H
  try dsimp only [cxOf, Cx.nox, Cx.blk]
  obtain ⟨sa, nsc, rfl, s0, hb, hz, k⟩ := h
  walk_at "w"
  refine ⟨sa, nsc, 0, rfl, rfl, s0, hb, hz, by decide, by decide, fun x H1 n1 e1 q1 => ?_⟩
  walk_at "w"
  refine ⟨x, rfl, q1, fun pr vs raws ends n H2 n2 f2 q2 g2 d2 R => ?_⟩
  walk_at "w"
  obtain ⟨n', st, M⟩ := made_of R
  have zr := dpAll_len d2
  rw [List.length_map] at zr
  have r1 := R.z1
  have r3 := R.z3
  have RV := rws_val R
  obtain ⟨ts, hts⟩ : ∃ ts, ts = raws.map pT := ⟨_, rfl⟩
  rw [← hts] at M
  have zt : ts.length = raws.length := by rw [hts, List.length_map]
  have tget : ∀ (i : Nat) (t : Tb), raws[i]? = some t → ts[i]? = some (pT t) := fun i t h => by rw [hts, List.getElem?_map, h]; rfl
  refine w_cut (M := fun σ' H' => ∃ (pt : Addr) (ys : List V), σ' = [some (.ref sa), some (.ref x), some (.ref pr), some (.ref pt), none, none, none, none, none, none, none, none, none, none] ∧ Ex H2 H' ∧ H2 pt = none ∧ H' pt = some (.lst ys) ∧ Tbs K H' ys ts) ?_ ?_
  · walk_at "w"
    refine i_seqL ?_
    walk_at "w"
    refine lcT (ts := ts) (sq_of g2) (by omega) (by omega) (fun v => [_, _, _, none, none, none, none, none, none, none, none, none, none, some v]) (fun _ => rfl) (fun _ => rfl) (fun i v t G Q' e hv ht hq => ?_) (fun p G ys np e g T => ?_)
    · obtain ⟨d, hd, dd⟩ := dpAll_get (dpAll_ex e d2) hv
      rw [List.getElem?_map] at hd
      obtain ⟨t0, h0, rfl⟩ := Option.map_eq_some_iff.mp hd
      obtain ⟨v0, _, _⟩ := RV t0 (List.mem_of_getElem? h0)
      have := tget i t0 h0
      rw [ht] at this
      cases this
      walk_at "w"
      exact ⟨_, _, _, dd, v0, hq⟩
    · dsimp only [gName, List.set]
      exact ⟨p, ys, rfl, e, np, g, T⟩
  rintro σ' H3 ⟨pt, ys, rfl, e3, np3, g3, T3⟩
  have d3 := dpAll_ex e3 d2
  have gr3 := e3 _ _ g2
  have q3 := q2.ex e3
  have zy := T3.len
  clear g2 d2 q2 f2 n2 n1 e1 q1
  walk_at "w"
  refine mo_good (.inl (sq_of g3)) (by rw [g3]; exact fun h => nomatch h) T3 M fun mk H4 e4 MA => ?_
  obtain ⟨dm, vb, vw, hm, hvb, hvw⟩ := id MA
  have g4 := e4 _ _ g3
  have T4 := T3.ex e4
  have d4 := dpAll_ex e4 d3
  have gr4 := e4 _ _ gr3
  have q4 := q3.ex e4
  have zb := M.zb
  have zw := M.zw
  walk_at "w"
  refine r_isiC (insB_ok E.ins_Maker E.c_Maker hm) E.kit_Maker_self ?_
  walk_at "w"
  refine r_makIn E MA ?_
  walk_at "w"
  refine r_makWa E MA fun aw xw sw dw => ?_
  have xwl : xw.length = 1 := by
    have := dpAll_len dw
    simpa using this
  walk_at "w"
  refine r_makIn E MA ?_
  walk_at "w"
  refine r_makBe E MA fun ab sb => ?_
  walk_at "w"
  refine r_makWa E MA fun aw2 xw2 sw2 dw2 => ?_
  walk_at "w"
  intro pmk H5 n5 e5 g5
  have dmk : Dp K H5 (.ref pmk) (dMk ts.length (sgL ts 0 st) [wayOf ts ends st]) := .tup (st_of g5) (.cons (.int _) (.cons (dp_of_dW (ex_t e5 sb)) (.cons (.tup (ex_t e5 sw2) (dpAll_ex e5 dw2)) .nil)))
  have MA5 := ex_mak e5 MA
  have g5t := e5 _ _ g4
  have T5 := T4.ex e5
  have d5 := dpAll_ex e5 d4
  have gr5 := e5 _ _ gr4
  have q5 := q4.ex e5
  clear sw dw sb sw2 dw2 hm hvb hvw MA g4 T4 d4 gr4 q4 e4 e5 g5 n5 g3 T3 d3 gr3 q3 e3 np3
  walk_at "w"
  refine w_cut (M := fun σ' H' => ∃ u v : Option V, σ' = [some (.ref sa), some (.ref x), some (.ref pr), some (.ref pt), some (.ref mk), some (.ref pmk), u, v, none, none, none, none, none, none] ∧ Ex H5 H') ?_ ?_
  · walk_at "w"
    rw [Int.toNat_natCast]
    refine for_range (lo := 0) (Pv := fun i σ' H' => ∃ u v : Option V, σ' = [some (.ref sa), some (.ref x), some (.ref pr), some (.ref pt), some (.ref mk), some (.ref pmk), u, v, none, none, none, none, none, none] ∧ Ex H5 H') ⟨_, _, rfl, Ex.refl _⟩ ?_ ?_
    · rintro i σ' A hi ⟨u, v, rfl, eA⟩
      have dA := dpAll_ex eA d5
      obtain ⟨d, hd, dd⟩ := dpAll_get dA (List.getElem?_eq_getElem hi)
      rw [List.getElem?_map] at hd
      obtain ⟨t0, h0, rfl⟩ := Option.map_eq_some_iff.mp hd
      obtain ⟨v0, z0, z1⟩ := RV t0 (List.mem_of_getElem? h0)
      obtain ⟨a0, th, tl, ea, s1, s2, s3⟩ := dp_raw dd
      have at0 : atI vs (0 + (i : Int)) = some (.ref a0) := by
        rw [Int.zero_add]
        exact atI_pos (Int.natCast_nonneg i) (by rw [Int.toNat_natCast, List.getElem?_eq_getElem hi, ea])
      have grA := eA _ _ gr5
      walk_at "w"
      refine r_ixL (sq_of grA) at0 ?_
      walk_at "w"
      refine r_ixL (sq_of grA) at0 ?_
      walk_at "w"
      refine r_ixL (sq_of grA) at0 ?_
      walk_at "w"
      refine ⟨true, true, t0.1, t0.2.1, t0.2.2, dp_of_ints s2, dp_of_ints s3, .int _, v0.r0, v0.sm, fun pv A1 e1 dp => ?_⟩
      rw [lawF_eq] at dp
      have nd := M.nd (0 + (i : Int)) (pT t0) (by omega) (by rw [Int.zero_add, Int.toNat_natCast]; exact tget i t0 h0)
      obtain ⟨nd1, nd2⟩ := nd
      obtain ⟨y1, y2, y3, y4, y5, y6⟩ := plainF_ok v0
      have ik : (0 : Int) + (i : Int) < (ts.length : Nat) := by omega
      have i0 : 0 ≤ (0 : Int) + (i : Int) := by omega
      have zd : (sgL ts 0 st ++ fl [wayOf ts ends st] []).length ≤ 40000 := by
        show (sgL ts 0 st ++ []).length ≤ _
        rw [List.append_nil]
        omega
      have za : (fl [wayOf ts ends st] [0]).length ≤ 40000 := by rw [fl_one]; omega
      walk_at "w"
      intro pe G1 m1 f1 h1
      walk_at "w"
      intro pz G2 m2 f2 h2
      walk_at "w"
      intro pc G3 m3 f3 h3
      have F3 := (f1.trans f2).trans f3
      have MA3 := ex_mak ((eA.trans e1).trans F3) MA5
      have dmk3 := dp_ex ((eA.trans e1).trans F3) dmk
      have dp3 := dp_ex F3 dp
      walk_at "w"
      refine ⟨ts.length, sgL ts 0 st, [wayOf ts ends st], 0 + (i : Int), [], [0], dmk3, rfl, ⟨pc, pe, pz, rfl, .inr (st_of h3), .inr (st_of (f3 _ _ (f2 _ _ h1))), .inr (st_of (f3 _ _ h2))⟩, okN_none _, okN_one _, by decide, by decide, by decide, zd, za, fun v1 G4 e4 dv => ?_⟩
      rw [nd1] at dv
      have dp4 := dp_ex e4 dp3
      have MA4 := ex_mak e4 MA3
      have E4 := ((eA.trans e1).trans F3).trans e4
      walk_at "w"
      refine r_neD dv dp4 (shaped_raw _ _ _) (shaped_raw _ _ _) ?_
      rw [eqv_raw, decide_eq_true ⟨rfl, rfl, rfl⟩]
      walk_at "w"
      obtain ⟨dm, vb, vw, hm, _, _⟩ := id MA4
      refine r_meth hm (kF_no (by decide +kernel) (by decide +kernel) (by decide +kernel)) ?_
      walk_at "w"
      intro pe2 B1 m12 b1 k1
      walk_at "w"
      intro pz2 B2 m22 b2 k2
      walk_at "w"
      intro pc2 B3 m32 b3 k3
      have X3 := (b1.trans b2).trans b3
      walk_at "w"
      refine w_callM3 ⟨mk, ts.length, sgL ts 0 st, [wayOf ts ends st], 0 + (i : Int), [], [0], rfl, ex_mak X3 MA4, rfl, i0, ik, ⟨pc2, pe2, pz2, rfl, .inr (st_of k3), .inr (st_of (b3 _ _ (b2 _ _ k1))), .inr (st_of (b3 _ _ k2))⟩, okN_none _, okN_one _, by decide, by decide, by decide, zd, za, fun t1 B4 b4 T1 => ?_⟩
      rw [nd1] at T1
      have X4 := X3.trans b4
      have MB := ex_mak X4 MA4
      have dpB := dp_ex X4 dp4
      walk_at "w"
      refine ⟨t1, _, _, _, rfl, T1, dpB, y1, y2, y3, by show (plainF _ _ _).1.length ≤ _; omega, by show (plainF _ _ _).2.1.length ≤ _; omega, fun bb B5 b5 q => ?_⟩
      obtain rfl := dp_toBl q
      have MB5 := ex_mak b5 MB
      have dp5 := dp_ex b5 dpB
      walk_at "w"
      refine ⟨mk, ts.length, sgL ts 0 st, wayOf ts ends st, 0 + (i : Int), rfl, rfl, MB5, i0, ik, zb, zw, fun t2 B6 b6 T2 => ?_⟩
      rw [nd1] at T2
      have MB6 := ex_mak b6 MB5
      have dp6 := dp_ex b6 dp5
      walk_at "w"
      refine ⟨t2, _, _, _, rfl, T2, dp6, y1, y2, y3, by show (plainF _ _ _).1.length ≤ _; omega, by show (plainF _ _ _).2.1.length ≤ _; omega, fun bb B7 b7 q => ?_⟩
      obtain rfl := dp_toBl q
      have MB7 := ex_mak b7 MB6
      have dp7 := dp_ex b7 dp6
      walk_at "w"
      refine ⟨mk, ts.length, sgL ts 0 st, wayOf ts ends st, 0 + (i : Int), rfl, rfl, MB7, i0, ik, zb, zw, fun t3 B8 b8 T3 => ?_⟩
      rw [nd1] at T3
      have dp8 := dp_ex b8 dp7
      walk_at "w"
      refine ⟨t3, _, _, _, rfl, T3, dp8, y1, y2, y3, by show (plainF _ _ _).1.length ≤ _; omega, by show (plainF _ _ _).2.1.length ≤ _; omega, fun bb B9 b9 q => ?_⟩
      obtain rfl := dp_toBl q
      walk_at "w"
      exact ⟨_, _, rfl, ((((((E4.trans X4).trans b5).trans b6).trans b7).trans b8).trans b9)⟩
    · rintro σ' A ⟨u, v, rfl, eA⟩
      exact ⟨u, v, rfl, eA⟩
  rintro σ' A ⟨u, v, rfl, eA⟩
  have MA6 := ex_mak eA MA5
  have g6 := eA _ _ g5t
  have T6 := T5.ex eA
  have q6 := q5.ex eA
  clear eA MA5 dmk g5t T5 d5 gr5 q5
  repeat (walk_at "w1")
  refine r_tupLo g6 fun pp B1 np1 b1 k1 => ?_
  walk_at "w"
  refine mo_good (.inr (st_of k1)) (by rw [k1]; exact fun h => nomatch h) (T6.ex b1) M fun mk2 B2 b2 MB => ?_
  have MBk := ex_mak (b1.trans b2) MA6
  have gB := b2 _ _ (b1 _ _ g6)
  have TB := T6.ex (b1.trans b2)
  have qB := q6.ex (b1.trans b2)
  obtain ⟨dm, vb, vw, hm, _, _⟩ := id MB
  obtain ⟨t0, h0⟩ : ∃ t0, raws[0]? = some t0 := ⟨_, List.getElem?_eq_getElem (show 0 < raws.length by omega)⟩
  obtain ⟨nd1, nd2⟩ := M.nd 0 (pT t0) (Int.le_refl _) (tget 0 t0 h0)
  have za2 : (fl [wayOf ts ends st] [0, 0]).length ≤ 40000 := by rw [fl_two, List.length_append]; omega
  have zd2 : (sgL ts 0 st ++ fl [wayOf ts ends st] []).length ≤ 40000 := by
    show (sgL ts 0 st ++ []).length ≤ _
    rw [List.append_nil]
    omega
  walk_at "w"
  refine r_meth hm (kF_no (by decide +kernel) (by decide +kernel) (by decide +kernel)) ?_
  walk_at "w"
  intro pe2 B3 m12 b3 k3
  walk_at "w"
  intro pz2 B4 m22 b4 k4
  walk_at "w"
  intro pc2 B5 m32 b5 k5
  have X3 := (b3.trans b4).trans b5
  walk_at "w"
  refine w_callM3 ⟨mk2, ts.length, sgL ts 0 st, [wayOf ts ends st], 0, [], [0, 0], rfl, ex_mak X3 MB, rfl, by decide, by omega, ⟨pc2, pe2, pz2, rfl, .inr (st_of k5), .inr (st_of (b5 _ _ (b4 _ _ k3))), .inr (st_of (b5 _ _ k4))⟩, okN_none _, okN_two _, by decide, by decide, by decide, zd2, za2, fun t1 B6 b6 T1 => ?_⟩
  rw [nd2] at T1
  have X4 := X3.trans b6
  have TC := TB.ex X4
  have gC := X4 _ _ gB
  have qC := qB.ex X4
  obtain ⟨v0, hv0⟩ : ∃ v0, ys[0]? = some v0 := ⟨_, List.getElem?_eq_getElem (show 0 < ys.length by omega)⟩
  obtain ⟨ta, t', rfl, ht', tab⟩ := TC.get hv0
  rw [tget 0 t0 h0] at ht'
  cases ht'
  walk_at "w"
  refine r_ixL (sq_of gC) (v := .ref ta) (atI_pos (Int.le_refl _) hv0) ?_
  obtain ⟨dx3, _, _, hi3, _⟩ := id T1
  obtain ⟨dy3, _, _, hj3, _⟩ := id tab
  refine r_ownEq hi3 (insB_ok E.ins_Table E.c_Table hj3) E.nf_Table_self ?_
  refine ⟨t1, _, _, _, rfl, T1, .inl ⟨ta, _, _, _, rfl, tab, fun b B7 b7 d7 => ?_⟩⟩
  rw [decide_eq_true ⟨rfl, rfl, rfl⟩] at d7
  obtain rfl := dp_toBl d7
  refine ⟨⟨_, rfl⟩, ?_⟩
  have TD := TC.ex b7
  have gD := b7 _ _ gC
  have qD := qC.ex b7
  clear TB gB qB TC gC qC hi3 hj3 tab T1 hm MB MBk k1 k3 k4 k5 T6 g6 q6 MA6
  walk_at "w"
  refine ⟨x, (ys.length : Int) + 1, rfl, rfl, by omega, by omega, qD, fun r2 G1 r20 r21 q1 f1 => ?_⟩
  have lD : Ls B7 G1 := Ls.fr f1 qD
  have TE := TD.ls lD
  have ptx : pt ≠ x := fun e => by
    obtain ⟨d, s, c, h1, _⟩ := qD
    rw [e, h1] at gD
    cases gD
    exact nomatch TD
  have gE := f1 _ _ ptx gD
  walk_at "w"
  refine w_cut (M := fun σ' H' => ∃ bad : V, σ' = [some (.ref sa), some (.ref x), some (.ref pr), some (.ref pt), some (.ref mk), some (.ref pmk), u, v, some (.int r2), some bad, none, none, none, none] ∧ XTyp K H' bad ∧ SrcAt H' x ∧ Tbs K H' ys ts ∧ H' pt = some (.lst ys)) ?_ ?_
  · walk_at "w"
    intro p12 A1 m1 a1 h1
    walk_at "w"
    intro pl A2 m2 a2 h2
    walk_at "w"
    have a12 := a1.trans a2
    refine ⟨x, 5, rfl, rfl, by decide, by decide, q1.ex a12, fun r5 A3 r50 r51 q3 f3 => ?_⟩
    have hl : A3 pl = some (.lst [.non, .int 5, .ref p12, .str "never", .bl true]) := f3 pl _ ((q1.ex a1).ne m2) h2
    have h12 : A3 p12 = some (.tup [.int 1, .int 2]) := f3 p12 _ (q1.ne m1) (a2 _ _ h1)
    have T3 := (TE.ex a12).ls (Ls.fr f3 (q1.ex a12))
    have g3 := f3 _ _ ptx (a12 _ _ gE)
    have c5 : r5 = 0 ∨ r5 = 1 ∨ r5 = 2 ∨ r5 = 3 ∨ r5 = 4 := by omega
    rcases c5 with rfl | rfl | rfl | rfl | rfl
    · refine r_ixL (sq_of hl) (v := .non) rfl ?_
      walk_at "w"
      exact ⟨_, rfl, fun H' _ => ⟨"NoneType", by simp, .base .non⟩, q3, T3, g3⟩
    · refine r_ixL (sq_of hl) (v := .int 5) rfl ?_
      walk_at "w"
      exact ⟨_, rfl, fun H' _ => ⟨"int", by simp, .base (.int _)⟩, q3, T3, g3⟩
    · refine r_ixL (sq_of hl) (v := .ref p12) rfl ?_
      walk_at "w"
      exact ⟨_, rfl, fun H' e => ⟨"tuple", by simp, SqT.ty (st_of (e _ _ h12))⟩, q3, T3, g3⟩
    · refine r_ixL (sq_of hl) (v := .str "never") rfl ?_
      walk_at "w"
      exact ⟨_, rfl, fun H' _ => ⟨"str", by simp, .base (.str _)⟩, q3, T3, g3⟩
    · refine r_ixL (sq_of hl) (v := .bl true) rfl ?_
      walk_at "w"
      exact ⟨_, rfl, fun H' _ => ⟨"bool", by simp, .base (.bl _)⟩, q3, T3, g3⟩
  rintro σ' G2 ⟨bad, rfl, ty, q2, T2, g2⟩
  clear gE TE q1 f1 qD gD TD lD
  obtain ⟨pl, hpl⟩ := Int.eq_ofNat_of_zero_le r20
  subst hpl
  have ply : pl ≤ ys.length := by omega
  walk_at "w"
  have cut1 : ∀ (xs : List V) (m : Nat), cutV xs none (some (m : Int)) = xs.take m := fun xs m => by
    have := cutV_to (xs := xs) (i := (m : Int)) (by omega) id
    simpa using this
  have cut2 : ∀ (xs : List V) (m : Nat), cutV xs (some (m : Int)) none = xs.drop m := fun xs m => by
    have := cutV_from (xs := xs) (i := (m : Int)) (by omega) id
    simpa using this
  have ys3 := M.ok.z3
  refine w_cut (M := fun σ' H' => σ' = [some (.ref sa), some (.ref x), some (.ref pr), some (.ref pt), some (.ref mk), some (.ref pmk), u, v, some (.int (pl : Nat)), some bad, none, none, none, none] ∧ Ex G2 H') ?_ ?_
  · walk_at "w"
    refine w_ite (fun c => ?_) (fun c => ?_)
    · walk_at "w"
      refine r_slL (sq_of g2) fun p1 A1 m1 a1 h1 => ?_
      rw [cut1] at h1
      walk_at "w"
      intro p2 A2 m2 a2 h2
      refine r_addL (a2 _ _ h1) h2 (sz_of (by rw [List.length_take]; show _ + 1 ≤ _; omega)) fun p3 A3 m3 a3 h3 => ?_
      walk_at "w"
      refine r_slL (sq_of ((a1.trans (a2.trans a3)) _ _ g2)) fun p4 A4 m4 a4 h4 => ?_
      rw [cut2] at h4
      refine r_addL (a4 _ _ h3) h4 (sz_of (by simp only [List.length_append, List.length_take, List.length_drop, List.length_cons, List.length_nil]; omega)) fun p5 A5 m5 a5 h5 => ?_
      walk_at "w"
      have EA := (((a1.trans a2).trans a3).trans a4).trans a5
      have el : (ys.take pl ++ [bad]).length = pl + 1 := by rw [List.length_append, List.length_take]; show min _ _ + 1 = _; omega
      refine mo_bad (i := pl) (b := bad) (ts := ts.take pl) (.inl (sq_of h5)) (by simp only [List.length_append, List.length_take, List.length_drop, List.length_cons, List.length_nil]; omega) (by
        rw [List.getElem?_append_left (by omega), List.getElem?_append_right (by rw [List.length_take]; omega), List.length_take, Nat.min_eq_left ply, Nat.sub_self]
        rfl) (by
        rw [List.append_assoc, List.take_append_of_le_length (by rw [List.length_take]; omega), List.take_take, Nat.min_self]
        exact (T2.ex EA).take pl) (fun H' e => ty H' (EA.trans e)) fun dd H' e g => .inl ⟨rfl, dd, _, rfl, g, ?_⟩
      walk_at "w"
      exact ⟨rfl, EA.trans e⟩
    · walk_at "w"
      exact ⟨rfl, Ex.refl _⟩
  rintro σ' G3 ⟨rfl, e3⟩
  have g3 := e3 _ _ g2
  have T3 := T2.ex e3
  have q3 := q2.ex e3
  walk_at "w"
  intro pe A1 m1 a1 h1
  walk_at "w"
  refine mo_len (.inr (st_of h1)) (by decide) (.inl rfl) fun dd A2 a2 gg => .inl ⟨rfl, dd, _, rfl, gg, ?_⟩
  walk_at "w"
  have E2 := a1.trans a2
  have g4 := E2 _ _ g3
  refine r_slL (sq_of g4) fun p1 A3 m3 a3 h3 => ?_
  rw [show cutV ys none (some 1) = ys.take 1 from cut1 ys 1] at h3
  walk_at "w"
  refine .inr (.inl ⟨p1, 4, _, rfl, rfl, h3, by decide, by decide, sz_of (by rw [List.length_take]; show min 1 _ * 4 ≤ _; omega), fun p4 m4 => ?_⟩)
  have a4 : Ex A3 (upd A3 p4 (.lst (List.replicate (4 : Int).toNat (ys.take 1)).flatten)) := Ex.new m4
  have h4 : upd A3 p4 (.lst (List.replicate (4 : Int).toNat (ys.take 1)).flatten) p4 = some (.lst (List.replicate (4 : Int).toNat (ys.take 1)).flatten) := upd_same
  generalize upd A3 p4 (.lst (List.replicate (4 : Int).toNat (ys.take 1)).flatten) = A4 at *
  have z4 : ((List.replicate (4 : Int).toNat (ys.take 1)).flatten).length = 4 := by
    rw [show (4 : Int).toNat = 4 from rfl]
    simp [List.length_flatten, List.length_take]
    omega
  walk_at "w"
  refine mo_len (.inl (sq_of h4)) (by omega) (.inr (by omega)) fun dd A5 a5 gg => .inl ⟨rfl, dd, _, rfl, gg, ?_⟩
  walk_at "w"
  refine mo_non fun dd A6 a6 gg => .inl ⟨rfl, dd, _, rfl, gg, ?_⟩
  have E6 := (((E2.trans a3).trans a4).trans a5).trans a6
  have q6 := q3.ex E6
  clear g4 h3 m3 m4 h4 T3 q3 g3 h1 m1
  walk_at "w"
  intro c1 B1 n1 b1 l1
  walk_at "w"
  intro c2 B2 n2 b2 l2
  walk_at "w"
  intro c3 B3 n3 b3 l3
  walk_at "w"
  refine ⟨[], [1], 1, dp_of_raw (st_of l3) (st_of (b3 _ _ (b2 _ _ l1))) (st_of (b3 _ _ l2)), val_one (by decide) (by decide) (by decide), fun ps B4 b4 TS => ?_⟩
  rw [plain_one] at TS
  walk_at "w"
  intro d1 B5 n5 b5 k1
  walk_at "w"
  intro d2 B6 n6 b6 k2
  walk_at "w"
  intro d3 B7 n7 b7 k3
  walk_at "w"
  refine ⟨[0, 1], [], 0, dp_of_raw (st_of k3) (st_of (b7 _ _ (b6 _ _ k1))) (st_of (b7 _ _ k2)), val_tE, fun pe2 B8 b8 TE => ?_⟩
  rw [plainF_nil] at TE
  have TS8 := ex_tab (((b5.trans b6).trans b7).trans b8) TS
  have q8 := q6.ex (((((((b1.trans b2).trans b3).trans b4).trans b5).trans b6).trans b7).trans b8)
  clear l1 l2 l3 k1 k2 k3 TS q6 n1 n2 n3 n5 n6 n7
  walk_at "w"
  refine ⟨_, _, rfl, ?_⟩
  dsimp only [List.set]
  refine w_cut (M := fun σ' H' => ∃ z : Option V, σ' = [some (.ref sa), some (.ref x), some (.ref pr), some (.ref pt), some (.ref mk), some (.ref pmk), u, v, some (.int (pl : Nat)), some bad, some (.ref ps), some (.ref pe2), z, none] ∧ Ex B8 H') ?_ ?_
  · walk_at "w"
    refine i_seqL ?_
    walk_at "w"
    intro w1 D1 n1 d1 l1
    walk_at "w"
    intro c1 D2 n2 d2 l2
    walk_at "w"
    intro c2 D3 n3 d3 l3
    walk_at "w"
    intro c3 D4 n4 d4 l4
    walk_at "w"
    refine ⟨[0], [], 0, dp_of_raw (st_of l4) (st_of (d4 _ _ (d3 _ _ l2))) (st_of (d4 _ _ l3)), val_tF, fun pf D5 d5 TF => ?_⟩
    rw [plainF_nil] at TF
    walk_at "w"
    intro w2 D6 n6 d6 l6
    walk_at "w"
    intro w3 D7 n7 d7 l7
    walk_at "w"
    intro w0 D8 n8 d8 l8
    walk_at "w"
    have DE := (((((((d1.trans d2).trans d3).trans d4).trans d5).trans d6).trans d7).trans d8)
    have g1 := d8 _ _ (d7 _ _ (d6 _ _ (d5 _ _ (d4 _ _ (d3 _ _ (d2 _ _ l1))))))
    have g2 := d8 _ _ (d7 _ _ l6)
    have g3 := d8 _ _ l7
    have TSD := ex_tab DE TS8
    have TED := ex_tab DE TE
    have TFD := ex_tab ((d6.trans d7).trans d8) TF
    clear l1 l2 l3 l4 l6 l7 n1 n2 n3 n4 n6 n7 TF
    refine for_list (xs := [.ref w1, .ref w2, .ref w3]) (Pv := fun i σ' H' => ∃ z : Option V, σ' = [some (.ref sa), some (.ref x), some (.ref pr), some (.ref pt), some (.ref mk), some (.ref pmk), u, v, some (.int (pl : Nat)), some bad, some (.ref ps), some (.ref pe2), z, none] ∧ Ex D8 H') ⟨_, rfl, Ex.refl _⟩ (fun i σ' H' _ h => by obtain ⟨_, _, e⟩ := h; exact ex_l e (sq_of l8)) ?_ ?_
    · rintro i w σ' A hv ⟨z, rfl, eA⟩
      have tS' := ex_tab eA TSD
      have tE' := ex_tab eA TED
      have tF' := ex_tab eA TFD
      have row : MoB K w A (fun _ H' => False) (fun cls od H' => (cls = .ref (He.ga K "BadTables") ∧ ∃ dd, od = some dd ∧ Ex A H' ∧ H' dd = some (.xd [("number", .int (-1))]))) := by
        have c3 : i = 0 ∨ i = 1 ∨ i = 2 := by
          have := (List.getElem?_eq_some_iff.mp hv).1
          simp at this
          omega
        rcases c3 with rfl | rfl | rfl
        · cases hv
          exact mo_ends (ts := [tS, tE]) (.inl (sq_of (eA _ _ g1))) (.cons tS' (.cons tE' .nil)) (by decide) (by decide) (fun h => absurd (h tE (by simp)) (by decide)) fun dd H' e g => ⟨rfl, dd, rfl, e, g⟩
        · cases hv
          exact mo_ends (ts := [tE, tF]) (.inl (sq_of (eA _ _ g2))) (.cons tE' (.cons tF' .nil)) (by decide) (by decide) (fun h => absurd (h tF (by simp)) (by decide)) fun dd H' e g => ⟨rfl, dd, rfl, e, g⟩
        · cases hv
          exact mo_ends (ts := [tE, tE, tS]) (.inl (sq_of (eA _ _ g3))) (.cons tE' (.cons tE' (.cons tS' .nil))) (by decide) (by decide) (fun h => absurd (h tS (by simp)) (by decide)) fun dd H' e g => ⟨rfl, dd, rfl, e, g⟩
      walk_at "w"
      refine spMo_mono row (fun v H' q => q.elim) (fun c d H' q => ?_)
      obtain ⟨e1, dd, e2, e3, g⟩ := q
      refine .inl ⟨e1, dd, _, e2, g, ?_⟩
      walk_at "w"
      exact ⟨_, rfl, eA.trans e3⟩
    · rintro σ' A ⟨z, rfl, eA⟩
      exact ⟨z, rfl, DE.trans eA⟩
  rintro σ' C0 ⟨z, rfl, e0⟩
  have TS9 := ex_tab e0 TS8
  have TE9 := ex_tab e0 TE
  have q9 := q8.ex e0
  clear TS8 TE q8
  walk_at "w"
  intro p1 C1 _ c1 h1
  walk_at "w"
  refine mo_good (ts := [tE, tE]) (.inl (sq_of h1)) (by rw [h1]; exact fun h => nomatch h) (.cons (ex_tab c1 TE9) (.cons (ex_tab c1 TE9) .nil)) made_EE fun mk C2 c2 _ => ?_
  walk_at "w"
  intro p2 C3 _ c3 h3
  have TS10 := ex_tab ((c1.trans c2).trans c3) TS9
  walk_at "w"
  refine mo_bad (i := 1) (b := .non) (ts := [tS]) (.inl (sq_of h3)) (show 2 ≤ 3 by decide) rfl (.cons TS10 .nil) (fun H' _ => ⟨"NoneType", by simp, .base .non⟩) fun dd C4 c4 gg => .inl ⟨rfl, dd, _, rfl, gg, ?_⟩
  have q10 := q9.ex (((c1.trans c2).trans c3).trans c4)
  walk_at "w"
  intro f1 F1 _ a1 l1
  walk_at "w"
  intro f2 F2 _ a2 l2
  walk_at "w"
  refine mk_tab (h := []) (l := [597]) (r := 1) (b1 := true) (b2 := true) rfl (dp_of_ints (show SqT K F2 f1 (vI []) from st_of (a2 _ _ l1))) (dp_of_ints (show SqT K F2 f2 (vI [597]) from st_of l2)) (.int 1) (val_one (by decide) (by decide) (by decide)) fun pT F3 a3 TT => ?_
  rw [plain_one] at TT
  walk_at "w"
  intro p3 F4 _ a4 l4
  walk_at "w"
  refine mo_one (v := 597) (r := 1) (by decide) (by decide) (by decide) (by decide) (.inl (sq_of l4)) (by rw [l4]; exact fun h => nomatch h) (.cons (ex_tab a4 TT) .nil) fun mk3 F5 a5 => ?_
  have q11 := q10.ex ((((a1.trans a2).trans a3).trans a4).trans a5)
  walk_at "w"
  intro f6 F6 n6 a6 l6
  walk_at "w"
  refine ⟨x, 9, rfl, rfl, by decide, by decide, q11.ex a6, fun r9 F7 r90 r91 q12 b7 => ?_⟩
  have l7 := b7 f6 _ (q11.ne n6) l6
  walk_at "w"
  intro f8 F8 _ a8 l8
  walk_at "w"
  refine mk_tab (h := []) (l := [700 + r9]) (r := 701) (b1 := true) (b2 := true) rfl (dp_of_ints (show SqT K F8 f6 (vI []) from st_of (a8 _ _ l7))) (dp_of_ints (show SqT K F8 f8 (vI [700 + r9]) from st_of l8)) (.int 701) (val_one (by omega) (by decide) (by decide)) fun pU F9 a9 TU => ?_
  rw [plain_one] at TU
  walk_at "w"
  intro p5 F10 _ a10 l10
  walk_at "w"
  refine mo_big (v := 700 + r9) (r := 701) (by omega) (by decide) (by decide) (.inl (sq_of l10)) (by rw [l10]; exact fun h => nomatch h) (.cons (ex_tab a10 TU) .nil) fun dd F11 gg => .inr ⟨rfl, dd, rfl, gg, ?_⟩
  walk_at "w"
  refine r_eqSS ?_
  rw [decide_eq_true rfl]
  walk_at "w"
  exact k _

end
end M
namespace M
open PySem PySem.Spec PyProof.Rows L2 Evl MS
theorem facts {P : Program} {w : World} {K : PySem.W.Frag} {h : Heap} {mg : Str → Option Value} {f : Addr} (X : K.In h) (G : h.Ns mainGlobals mg) (hfa : mg ("law" : Str) = some (.ref f)) (c : SaysM fa fn exB K) (pf : ((P.main.file : Str) == mainFile) = true ∧ (P.main.scope.names.lookup ("super" : Str)).isSome = false) :
    ∃ fd : FuncData, (∀ (s : Shared) (v : Value), BindsTo s fd ⟨[v], []⟩ [("script", v)]) ∧ ∀ base : Heap, K.In base → base.Ns mainGlobals mg → FnOk P w K mg base CX0 15 f fd ["script"] (lawSp K) := by
  have E : Env P K mg := ⟨⟨h, X, G⟩, c, pf⟩
  obtain ⟨fd, F⟩ := E.dd_law
  have e := hfa.symm.trans E.g_law
  cases e
  have b := FunD.bindsA (ps := ["script"]) F fun _ _ _ _ _ _ us hl => match us, hl with | [_], _ => rfl
  exact ⟨fd, fun s v => b s [v] rfl, fun base _ _ => ok_law E F⟩
end M
open PySem PySem.W PySem.Calls PyProof.Rows
theorem PySem.Challenge.cw_rosterneed_k28_whole_makers_of_tables_holds : PySem.Challenge.rw_rosterneed_k28_whole_makers_of_tables.Holds := by
  w_on; o_law
  refine HC.head_run (r := OpenLaw.row PySem.Challenge.rw_rosterneed_k28_whole_makers_of_tables) (q := view (OpenLaw.row PySem.Challenge.rw_rosterneed_k28_whole_makers_of_tables).prog [86]) (H := M.hk) (ob := M.ob) (M := M.HD.stepsC) (loose := M.nmL) (d := HandSHeadRun.topDef (OpenLaw.row PySem.Challenge.rw_rosterneed_k28_whole_makers_of_tables).prog 86) (kwd := []) (S0 := M.HD.Sz) (Sk := M.HD.Sl) M.ob_eq
    (by kernel_rfl) (fun s => by kernel_rfl) M.HD.hSz M.HD.hn0 M.HD.hann M.HD.h_run M.HD.h_look (by kernel_rfl) (by kernel_rfl) (by kernel_rfl) (by rfl) (by first | assumption | decide +kernel) (by decide +kernel) ⟨rfl, rfl, rfl, rfl, rfl, by decide +kernel⟩ ?hw ?hc
  case hw => w_witness2
  case hc =>
    refine Att.attach_callB (l := PySem.Challenge.rw_rosterneed_k28_whole_makers_of_tables) (n := 63) rfl (by kernel_rfl) fun w s₀ s₁ mg mb fa o pm cd doc a vs ns G Y ho hd hcd hmg0 hobj hints hlen hbits hg => ?_
    obtain ⟨K, KX, c⟩ := Y
    have hmg : mg ("law" : PySem.Str) = some (.ref fa) := by
      have e : (HandSHeadRun.topDef (OpenLaw.row PySem.Challenge.rw_rosterneed_k28_whole_makers_of_tables).prog 86).name = ("law" : PySem.Str) := by kernel_rfl
      rw [← e]
      exact hmg0
    obtain ⟨fd, hb, hF⟩ := M.facts (P := (PySem.Challenge.rw_rosterneed_k28_whole_makers_of_tables).prog) (w := w) KX G.T.g hmg c ⟨by kernel_rfl, by kernel_rfl⟩
    exact L2.law_call (CX := L2.CX0) KX G.T.g G.T.b G.T.builtins G.T.nolimit hg hobj hints (Nat.le_trans hlen (by decide)) ⟨rfl, by decide, by decide⟩ hF hb (fun H _ hS => ⟨_, rfl, a, ns, rfl, hS, hbits, hlen, fun _ => rfl⟩) fun _ _ _ z => z

