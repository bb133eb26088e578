import PyProof.Rows.All
import Wide.All
import OpenK.AllK
import Wide.FinOn
import KE.KStateDown
import HandS.ForMost
import HandS.Exc
import HandS.WordsExc
import HandS.Defaults
import HandS.Evl
import HandS.Flow
import HandS.Conv
import HandS.IsInst
import HandS.TupMul
import HandS.TupAny
import HandS.Wide
import HandS.WideBits
import HandS.Property
import HandS.Star
import HandS.OwnEq
import HandS.Flt
import KE.KSuper
import HandS.ClsMeth
import HandS.Nested
import HandS.Style
import HandS.Head0
import HandS.Head1
import HandS.Head2
import HandS.HeadEnd
import HandS.EndBits
import HandS.HeadHook1
import HandS.HeadHook2
import HandS.Text
import HandS.Iter
import HandS.Walk
import HandS.Deep
import KE.DataFind
import HandS.ExcOwn
import HandS.ExcInit
import HandS.ExcField
import HandS.TryMany
import KE.KExcSuper
import HandS.FStr
import KE.KExcIs
import HandS.ExcIs
import HandS.Codes
import PyProof.AutoSeq1
import PySem.Challenge.RW_rosterneed_k89_whole_sides
set_option Elab.async false
set_option linter.all false
set_option maxRecDepth 100000
set_option maxHeartbeats 4000000
/-! ### part A: defs by name, calls, unions of rules (own layer over HandS) -/
namespace M
open PySem PySem.Spec PyProof.Rows L2 Evl

section
variable {P : Program} {w : World} {K : PySem.W.Frag} {mg : Str → Option Value} {base : Heap}
/-- a def of the module under its name, with its promise -/
structure Fn (P : Program) (w : World) (K : PySem.W.Frag) (mg : Str → Option Value) (base : Heap) (CX : CXT) (k : Nat) (x : Str) (sp : Sp) : Prop where
  ex : ∃ (f : Addr) (fd : FuncData) (ps : List Str), FnOk P w K mg base CX k f fd ps sp ∧ mg x = some (.ref f) ∧ PySem.W.keepIn K (.ref f) = true ∧ Binds K fd ps []
/-- a method of the class at C -/
structure Mt (P : Program) (w : World) (K : PySem.W.Frag) (mg : Str → Option Value) (base : Heap) (CX : CXT) (k : Nat) (C : Addr) (m : Str) (sp : Sp) : Prop where
  ex : ∃ (f : Addr) (fd : FuncData) (ps : List Str), Cls K C ∧ Meth K C m f ∧ FnOk P w K mg base CX k f fd ps sp ∧ Binds K fd ps []

def sp1 (F : V → Hp → VK → XK → Prop) : Sp := fun vs H Q E => ∃ a, vs = [a] ∧ F a H Q E
def sp2 (F : V → V → Hp → VK → XK → Prop) : Sp := fun vs H Q E => ∃ a b, vs = [a, b] ∧ F a b H Q E
def sp3 (F : V → V → V → Hp → VK → XK → Prop) : Sp := fun vs H Q E => ∃ a b c, vs = [a, b, c] ∧ F a b c H Q E
def sp4 (F : V → V → V → V → Hp → VK → XK → Prop) : Sp := fun vs H Q E => ∃ a b c d, vs = [a, b, c, d] ∧ F a b c d H Q E
def sp5 (F : V → V → V → V → V → Hp → VK → XK → Prop) : Sp := fun vs H Q E => ∃ a b c d e, vs = [a, b, c, d, e] ∧ F a b c d e H Q E

theorem sp1_len {F} {p : Str} : ∀ vs H Q E, sp1 F vs H Q E → vs.length = [p].length := fun vs H Q E ⟨a, e, _⟩ => by rw [e]; rfl
theorem sp2_len {F} {p q : Str} : ∀ vs H Q E, sp2 F vs H Q E → vs.length = [p, q].length := fun vs H Q E ⟨a, b, e, _⟩ => by rw [e]; rfl
theorem sp3_len {F} {p q r : Str} : ∀ vs H Q E, sp3 F vs H Q E → vs.length = [p, q, r].length := fun vs H Q E ⟨a, b, c, e, _⟩ => by rw [e]; rfl
theorem sp4_len {F} {p q r u : Str} : ∀ vs H Q E, sp4 F vs H Q E → vs.length = [p, q, r, u].length := fun vs H Q E ⟨a, b, c, d, e, _⟩ => by rw [e]; rfl
theorem sp5_len {F} {p q r u v : Str} : ∀ vs H Q E, sp5 F vs H Q E → vs.length = [p, q, r, u, v].length := fun vs H Q E ⟨a, b, c, d, _, e, _⟩ => by rw [e]; rfl

/-- a def of which nothing is promised (the floor of a recursion) -/
theorem Fn.never {x qual : Str} {params : Arguments} {body : List Stmt} {scope : Scope} {f : Addr} {fd : FuncData} {ps : List Str} {k : Nat}
    (F : FunD K x qual params body scope [] [] f fd) (hm : mg x = some (.ref f))
    (hb : ∀ (kV doc pm : Value) (an : Option Addr) (cdv ct : Value) (us : List Value), us.length = ps.length → bindArgs (PySem.W.fnOf x qual params body scope .none kV doc pm an cdv ct) ⟨us, []⟩ = pure (ps.zip us)) :
    Fn P w K mg base CX0 k x (fun _ _ _ _ => False) :=
  ⟨f, fd, ps, ⟨fun _ _ _ _ h => h.elim, fun _ _ _ _ _ _ _ _ _ _ _ _ _ h => h.elim⟩, hm, F.kp, F.bindsN hb⟩
theorem fnok0 {x qual : Str} {params : Arguments} {body : List Stmt} {scope : Scope} {dvs : List V} {f : Addr} {fd : FuncData} {N ps : List Str} {k : Nat} {sp : Sp}
    (F : FunD K x qual params body scope dvs [] f fd) (S : FnScope N ps scope) (len : ∀ vs H Q E, sp vs H Q E → vs.length = ps.length)
    (hbody : ∀ (cdv : Value) (A : Around) (outer : List Env) (s : Shared) (H : Hp) (vs : List V) (Q : VK) (E : XK), Room k (A.deeper (envOfC qual scope s.heap.objs.size f cdv)) → sp vs H Q E →
      ∃ t, PSs (cxOf CX0 P w K mg base N qual scope f cdv A outer s H E).nox body t ∧ t { nx := fun _ H' => Q .non H', rt := Q } (start N vs) H) :
    FnOk P w K mg base CX0 (k + 1) f fd ps sp := F.ok S len fun cdv A outer s H vs Q E hr h => by
  obtain ⟨t, h1, h2⟩ := hbody cdv A outer s H vs Q E hr h
  exact ⟨t, h1.nox, h2⟩
/-- a def that lets nothing out, by its body -/
theorem Fn.mk0 {x qual : Str} {params : Arguments} {body : List Stmt} {scope : Scope} {f : Addr} {fd : FuncData} {N ps : List Str} {k : Nat} {sp : Sp}
    (F : FunD K x qual params body scope [] [] f fd) (hm : mg x = some (.ref f)) (S : FnScope N ps scope) (len : ∀ vs H Q E, sp vs H Q E → vs.length = ps.length)
    (hb : ∀ (kV doc pm : Value) (an : Option Addr) (cdv ct : Value) (us : List Value), us.length = ps.length → bindArgs (PySem.W.fnOf x qual params body scope .none kV doc pm an cdv ct) ⟨us, []⟩ = pure (ps.zip us))
    (hbody : ∀ (cdv : Value) (A : Around) (outer : List Env) (s : Shared) (H : Hp) (vs : List V) (Q : VK) (E : XK), Room k (A.deeper (envOfC qual scope s.heap.objs.size f cdv)) → sp vs H Q E →
      ∃ t, PSs (cxOf CX0 P w K mg base N qual scope f cdv A outer s H E).nox body t ∧ t { nx := fun _ H' => Q .non H', rt := Q } (start N vs) H) :
    Fn P w K mg base CX0 (k + 1) x sp :=
  ⟨f, fd, ps, F.ok S len fun cdv A outer s H vs Q E hr h => by
    obtain ⟨t, h1, h2⟩ := hbody cdv A outer s H vs Q E hr h
    exact ⟨t, h1.nox, h2⟩, hm, F.kp, F.bindsN hb⟩
theorem Mt.mk0 {x qual : Str} {params : Arguments} {body : List Stmt} {scope : Scope} {f C : Addr} {fd : FuncData} {N ps : List Str} {k : Nat} {sp : Sp} {m : Str}
    (F : FunD K x qual params body scope [] [] f fd) (c : Cls K C) (hm : Meth K C m f) (S : FnScope N ps scope) (len : ∀ vs H Q E, sp vs H Q E → vs.length = ps.length)
    (hb : ∀ (kV doc pm : Value) (an : Option Addr) (cdv ct : Value) (us : List Value), us.length = ps.length → bindArgs (PySem.W.fnOf x qual params body scope .none kV doc pm an cdv ct) ⟨us, []⟩ = pure (ps.zip us))
    (hbody : ∀ (cdv : Value) (A : Around) (outer : List Env) (s : Shared) (H : Hp) (vs : List V) (Q : VK) (E : XK), Room k (A.deeper (envOfC qual scope s.heap.objs.size f cdv)) → sp vs H Q E →
      ∃ t, PSs (cxOf CX0 P w K mg base N qual scope f cdv A outer s H E).nox body t ∧ t { nx := fun _ H' => Q .non H', rt := Q } (start N vs) H) :
    Mt P w K mg base CX0 (k + 1) C m sp :=
  ⟨f, fd, ps, c, hm, F.ok S len fun cdv A outer s H vs Q E hr h => by
    obtain ⟨t, h1, h2⟩ := hbody cdv A outer s H vs Q E hr h
    exact ⟨t, h1.nox, h2⟩, F.bindsN hb⟩
end

section
variable {X : Cx} {CX : CXT} {k j : Nat} {C : Addr} {x m : Str} {sp : Sp} {E : XK} {p pos apos : Pos} {e o : Expr} {es : List Expr} {ta : TE} {t : TA}
theorem pc (c : Fn X.prog X.w X.K X.mg X.base CX k x sp) (hr : Room j X.A) (hk : k ≤ j) (hx : Passes CX X E) (hg : Gl X x) (ha : PA X (e :: es) t)
    (hdb : (x == ("__debug__" : Str)) = false := by decide) (he : starEach (e :: es) X.env = (false, eval e X.env) :: starEach es X.env := by rfl) (hpl : (backTo pos (starEach es X.env)).any (·.1) = false := by rfl) :
    PE X (.Call (.Name x p) (e :: es) [] pos) (tCall sp [] E t) := by
  obtain ⟨f, fd, ps, F, hm, hkp, hb⟩ := c.ex
  exact pe_call F (hr.mono hk) hg hm hkp hb .nil hx ha hdb he hpl
theorem pc0 (c : Fn X.prog X.w X.K X.mg X.base CX k x sp) (hr : Room j X.A) (hk : k ≤ j) (hx : Passes CX X E) (hg : Gl X x)
    (hdb : (x == ("__debug__" : Str)) = false := by decide) :
    PE X (.Call (.Name x p) [] [] pos) (tCall sp [] E tNil) := by
  obtain ⟨f, fd, ps, F, hm, hkp, hb⟩ := c.ex
  exact pe_call0 F (hr.mono hk) hg hm hkp hb .nil hx hdb
end

/-! unions -/
section
variable {X : Cx}
def rAdd (K : PySem.W.Frag) : R2 := fun x y H Q => (rI0 fun i j => .int (i + j)) x y H Q ∨ rCat x y H Q ∨ rCatA K x y H Q ∨ ∃ i j, x = .str i ∧ y = .str j ∧ i.length + j.length ≤ sizeLine ∧ Q (.str (i ++ j)) H
theorem xAdd : OpR X (binaryOp .Add) (rAdd X.K) := op_add.or (op_cat.or (op_catA.or op_add_str))
def rMul (K : PySem.W.Frag) : R2 := fun x y H Q => (rI CMul fun i j => .int (i * j)) x y H Q ∨ rRep x y H Q ∨ rRepT K x y H Q
theorem xMul : OpR X (binaryOp .Mult) (rMul X.K) := op_mul.or (op_rep.or op_repT)
abbrev rDiv : R2 := rI CDivW fun i j => .int (i / j)
theorem xDiv : OpR X (binaryOp .FloorDiv) rDiv := op_fdivW
abbrev rMod : R2 := rI (fun _ j => 0 < j) fun i j => .int (i % j)
theorem xMod : OpR X (binaryOp .Mod) rMod := op_mod
abbrev rSubI : R2 := rI0 fun i j => .int (i - j)
theorem xSub : OpR X (binaryOp .Sub) rSubI := op_sub
abbrev rShl : R2 := rI CShl fun i j => .int (i * 2 ^ j.toNat)
theorem xShl : OpR X (binaryOp .LShift) rShl := op_shlW
abbrev rShr : R2 := rI (fun _ j => 0 ≤ j) fun i j => .int (i / 2 ^ j.toNat)
theorem xShr : OpR X (binaryOp .RShift) rShr := op_shr
abbrev rPow : R2 := rI CPow fun i j => .int (i ^ j.toNat)
theorem xPow : OpR X (binaryOp .Pow) rPow := op_pow
def rEqU (K : PySem.W.Frag) : R2 := fun x y H Q => rEq x y H Q ∨ rEqD K x y H Q
theorem xEq {j : Nat} (hr : Room j X.A) : OpR X (compareOp .Eq) (rEqU X.K) := op_eq.or (op_eqD (by have := hr.un; omega))
def rNeU (K : PySem.W.Frag) : R2 := fun x y H Q => rNe x y H Q ∨ rNeD K x y H Q
theorem xNe {j : Nat} (hr : Room j X.A) : OpR X (compareOp .NotEq) (rNeU X.K) := op_ne.or (op_neD (by have := hr.un; omega))
def rSl (K : PySem.W.Frag) : V → Option Int → Option Int → Hp → VK → Prop := fun x lo hi H Q => rSlL K x lo hi H Q ∨ rSlA K x lo hi H Q ∨ rSlS x lo hi H Q
theorem xSl : SlR X (rSl X.K) := sl_list.or (sl_tupA.or sl_str)
theorem PI.or {tg iter : Expr} {w1 w2 : TI} (h1 : PI X tg iter w1) (h2 : PI X tg iter w2) : PI X tg iter (fun σ H R => w1 σ H R ∨ w2 σ H R) :=
  ⟨fun pins s σ H R I h => h.elim (h1.run pins s σ H R I) (h2.run pins s σ H R I)⟩
def iSeq (K : PySem.W.Frag) (tl : TE) : TI := fun σ H R => iList K tl σ H R ∨ iTup K tl σ H R
theorem pi_seq {tg l : Expr} {tl : TE} (hl : PE X l tl) : PI X tg l (iSeq X.K tl) := PI.or (pi_list hl) (pi_tup hl)
end
end M

/-! ### part B: readings step by step -/
namespace M
open PySem PySem.Spec PyProof.Rows L2 Evl
section
variable {K : PySem.W.Frag} {σ : L2.St} {H : Hp} {Q : VK} {D : Ends} {t u : TS} {te ta tb : TE} {tt tu : TT} {g : TG} {v : V} {r : R2}
theorem w_cut {M : L2.St → Hp → Prop} (h : t { nx := M, rt := D.rt, bk := D.bk, ct := D.ct } σ H) (h2 : ∀ σ' H', M σ' H' → u D σ' H') : tCut t u D σ H := ⟨M, h, h2⟩
theorem w_seq (h : t { nx := u D, rt := D.rt, bk := D.bk, ct := D.ct } σ H) : tSeq t u D σ H := h
theorem w_drop (h : te σ H fun _ H1 => D.nx σ H1) : tDrop te D σ H := h
theorem w_asg (h : te σ H fun x H1 => g x σ H1 D.nx) : tAsg te g D σ H := h
theorem w_ret (h : te σ H D.rt) : tRet te D σ H := h
theorem w_retN (h : D.rt .non H) : tRetN D σ H := h
theorem w_next (h : D.nx σ H) : tNext D σ H := h
theorem w_break (h : D.bk σ H) : tBreak D σ H := h
theorem w_ifS (h : tt σ H fun b H1 => if b = true then t D σ H1 else u D σ H1) : tIfS tt t u D σ H := h
theorem w_op (h : ta σ H fun x H1 => tb σ H1 fun y H2 => r x y H2 Q) : tOp r ta tb σ H Q := h
theorem w_un {r : V → Hp → VK → Prop} (h : ta σ H fun x H1 => r x H1 Q) : tUn r ta σ H Q := h
theorem w_c (h : Q v H) : tC v σ H Q := h
theorem w_test {Q : Bool → Hp → Prop} (h : te σ H fun x H' => ∃ k, x = .bl k ∧ Q k H') : tTest te σ H Q := h
theorem w_tB {Q : Bool → Hp → Prop} (h : te σ H fun x H' => ∃ k, x = .bl k ∧ Q k H') : tB te σ H Q := h
theorem w_exbl {Q : Bool → Hp → Prop} {b : Bool} (h : Q b H) : ∃ k, V.bl b = .bl k ∧ Q k H := ⟨b, rfl, h⟩
theorem w_exbl2 {Q : Bool → Prop} {b : Bool} (h : Q b) : ∃ k, V.bl b = .bl k ∧ Q k := ⟨b, rfl, h⟩
theorem w_and {Q : Bool → Hp → Prop} (h : tt σ H fun c H1 => if c = true then tu σ H1 Q else Q false H1) : tAnd tt tu σ H Q := h
theorem w_or {Q : Bool → Hp → Prop} (h : tt σ H fun c H1 => if c = true then Q true H1 else tu σ H1 Q) : tOr tt tu σ H Q := h
theorem w_not {Q : Bool → Hp → Prop} (h : tt σ H fun c H1 => Q (!c) H1) : tNot tt σ H Q := h
theorem w_andV (h : ta σ H fun x H1 => ∃ c, x = .bl c ∧ if c = true then tb σ H1 Q else Q (.bl false) H1) : tAndV ta tb σ H Q := h
theorem w_orV (h : ta σ H fun x H1 => ∃ c, x = .bl c ∧ if c = true then Q (.bl true) H1 else tb σ H1 Q) : tOrV ta tb σ H Q := h
theorem w_notV (h : ta σ H fun x H1 => ∃ c, x = .bl c ∧ Q (.bl (!c)) H1) : tNotV ta σ H Q := h
theorem w_ifE (h : tt σ H fun c H1 => if c = true then ta σ H1 Q else tb σ H1 Q) : tIf tt ta tb σ H Q := h
theorem w_chain {r' : R2} {tc : TE} (h : ta σ H fun x H1 => tb σ H1 fun y H2 => r x y H2 fun z H3 => ∃ k, z = .bl k ∧ (if k = true then tc σ H3 fun w' H4 => r' y w' H4 Q else Q (.bl false) H3)) : tChain r r' ta tb tc σ H Q := h
theorem w_nil {Q : List V → Hp → Prop} (h : Q [] H) : tNil σ H Q := h
theorem w_cons {tr : TA} {Q : List V → Hp → Prop} (h : ta σ H fun x H1 => tr σ H1 fun xs H2 => Q (x :: xs) H2) : tCons ta tr σ H Q := h
theorem w_cb {r : List V → Hp → VK → Prop} {t : TA} (h : t σ H fun vs H1 => r vs H1 Q) : tCB r t σ H Q := h
theorem w_call {sp : Sp} {E : XK} {t : TA} (h : t σ H fun vs H1 => sp (vs ++ []) H1 Q E) : tCall sp [] E t σ H Q := h
theorem w_call1 {F} {E : XK} {a : V} (h : F a H Q E) : sp1 F ([a] ++ []) H Q E := ⟨a, rfl, h⟩
theorem w_call2 {F} {E : XK} {a b : V} (h : F a b H Q E) : sp2 F ([a, b] ++ []) H Q E := ⟨a, b, rfl, h⟩
theorem w_call3 {F} {E : XK} {a b c : V} (h : F a b c H Q E) : sp3 F ([a, b, c] ++ []) H Q E := ⟨a, b, c, rfl, h⟩
theorem w_call4 {F} {E : XK} {a b c d : V} (h : F a b c d H Q E) : sp4 F ([a, b, c, d] ++ []) H Q E := ⟨a, b, c, d, rfl, h⟩
theorem w_call5 {F} {E : XK} {a b c d e : V} (h : F a b c d e H Q E) : sp5 F ([a, b, c, d, e] ++ []) H Q E := ⟨a, b, c, d, e, rfl, h⟩
theorem w_callM1 {F} {E : XK} {x : V} (h : F x H Q E) : sp1 F (x :: ([] ++ [])) H Q E := ⟨x, rfl, h⟩
theorem w_callM2 {F} {E : XK} {x a : V} (h : F x a H Q E) : sp2 F (x :: ([a] ++ [])) H Q E := ⟨x, a, rfl, h⟩
theorem w_callM3 {F} {E : XK} {x a b : V} (h : F x a b H Q E) : sp3 F (x :: ([a, b] ++ [])) H Q E := ⟨x, a, b, rfl, h⟩
theorem w_callM4 {F} {E : XK} {x a b c : V} (h : F x a b c H Q E) : sp4 F (x :: ([a, b, c] ++ [])) H Q E := ⟨x, a, b, c, rfl, h⟩
/-- a new tuple, a new list: what is asked, named -/
def NewT (xs : List V) (H : Hp) (Q : VK) : Prop := xs.length ≤ sizeLine ∧ ∀ p, H p = none → Q (.ref p) (upd H p (.tup xs))
def NewL (xs : List V) (H : Hp) (Q : VK) : Prop := xs.length ≤ sizeLine ∧ ∀ p, H p = none → Q (.ref p) (upd H p (.lst xs))
theorem w_tup {t : TA} (h : t σ H fun xs H1 => NewT xs H1 Q) : tTup t σ H Q := h
theorem w_lst {t : TA} (h : t σ H fun xs H1 => NewL xs H1 Q) : tLst t σ H Q := h
theorem w_newT {xs : List V} (hz : xs.length ≤ sizeLine) (h : ∀ p H1, H p = none → Ex H H1 → H1 p = some (.tup xs) → Q (.ref p) H1) : NewT xs H Q :=
  ⟨hz, fun p hp => h p _ hp (Ex.new hp) upd_same⟩
theorem w_newL {xs : List V} (hz : xs.length ≤ sizeLine) (h : ∀ p H1, H p = none → Ex H H1 → H1 p = some (.lst xs) → Q (.ref p) H1) : NewL xs H Q :=
  ⟨hz, fun p hp => h p _ hp (Ex.new hp) upd_same⟩
theorem w_sl {r : V → Option Int → Option Int → Hp → VK → Prop} {tl th : TO} (h : te σ H fun x H1 => tl σ H1 fun l H2 => th σ H2 fun u H3 => r x l u H3 Q) : tSl r te tl th σ H Q := h
theorem w_part {Q : Option Int → Hp → Prop} (h : te σ H fun x H1 => ∃ i, x = .int i ∧ Q (some i) H1) : tPart te σ H Q := h
theorem w_noPart {Q : Option Int → Hp → Prop} (h : Q none H) : tNoPart σ H Q := h
theorem w_exint {Q : Int → Prop} {i : Int} (h : Q i) : ∃ k, V.int i = .int k ∧ Q k := ⟨i, rfl, h⟩
theorem w_gsub {to ti : TE} {s : TSet} {Q : L2.St → Hp → Prop} (h : to σ H fun o H1 => ti σ H1 fun i H2 => s o i v H2 fun H3 => Q σ H3) : gSub to ti s v σ H Q := h
theorem w_par {i j : Nat} {ta : TA} (h : ta σ H fun vs H1 => ∃ v w, vs = [v, w] ∧ D.nx ((List.set σ i (some v)).set j (some w)) H1) : tPar i j ta D σ H := h
theorem w_yes {Q : Bool → Hp → Prop} (h : Q true H) : tYes σ H Q := h
/-! tuples unpacked -/
theorem w_gtup {n : Nat} {t : TGs} {a : Addr} {xs : List V} {Q : L2.St → Hp → Prop} (hs : SqT K H a xs) (hl : xs.length = n) (h : t xs σ H Q) : gTup K n t (.ref a) σ H Q := ⟨a, xs, rfl, hs, hl, h⟩
theorem w_gcons {g : TG} {us : TGs} {x : V} {xs : List V} {Q : L2.St → Hp → Prop} (h : g x σ H fun σ' H' => us xs σ' H' Q) : gCons g us (x :: xs) σ H Q := ⟨x, xs, rfl, h⟩
theorem w_gnil {Q : L2.St → Hp → Prop} (h : Q σ H) : gNil [] σ H Q := ⟨rfl, h⟩
/-! ifs -/
theorem w_ite {c A B : Prop} [Decidable c] (h1 : c → A) (h2 : ¬ c → B) : if decide c = true then A else B := by
  by_cases h : c
  · rw [if_pos (decide_eq_true h)]; exact h1 h
  · rw [if_neg (by rw [decide_eq_false h]; exact Bool.false_ne_true)]; exact h2 h
theorem w_iteN {c A B : Prop} [Decidable c] (h1 : ¬ c → A) (h2 : c → B) : if (!decide c) = true then A else B := by
  by_cases h : c
  · rw [decide_eq_true h, if_neg (by decide)]; exact h2 h
  · rw [decide_eq_false h, if_pos (by decide)]; exact h1 h
theorem w_dT {c A B : Prop} [Decidable c] (h : c) (h1 : A) : if decide c = true then A else B := w_ite (fun _ => h1) fun n => absurd h n
theorem w_dF {c A B : Prop} [Decidable c] (h : ¬ c) (h1 : B) : if decide c = true then A else B := w_ite (fun n => absurd n h) fun _ => h1
theorem w_nT {c A B : Prop} [Decidable c] (h : ¬ c) (h1 : A) : if (!decide c) = true then A else B := w_iteN (fun _ => h1) fun n => absurd n h
theorem w_nF {c A B : Prop} [Decidable c] (h : c) (h1 : B) : if (!decide c) = true then A else B := w_iteN (fun n => absurd h n) fun _ => h1
theorem w_bT {b : Bool} {A B : Prop} (h : b = true) (h1 : A) : if b = true then A else B := by rw [if_pos h]; exact h1
theorem w_bF {b : Bool} {A B : Prop} (h : b = false) (h1 : B) : if b = true then A else B := by rw [if_neg (by rw [h]; decide)]; exact h1
theorem w_b2 {b : Bool} {A B : Prop} (h1 : b = true → A) (h2 : b = false → B) : if b = true then A else B := by
  cases b
  · exact iteF (h2 rfl)
  · exact iteT (h1 rfl)

/-- a store, named -/
def SetN (i : Nat) (v : V) (l : L2.St) (H : Hp) (Q : L2.St → Hp → Prop) : Prop := Q (l.set i (some v)) H
theorem w_nn {i : Nat} {Q : L2.St → Hp → Prop} (h : SetN i v σ H Q) : gName i v σ H Q := h
def GetN (i : Nat) (l : L2.St) (H : Hp) (Q : VK) : Prop := ∃ v, l[i]? = some (some v) ∧ Q v H
theorem w_vv {i : Nat} (h : GetN i σ H Q) : tVar i σ H Q := h
theorem w_v0 {l : L2.St} (h : Q v H) : GetN 0 (some v :: l) H Q := ⟨v, rfl, h⟩
theorem w_n0 {y : Option V} {l : L2.St} {Q : L2.St → Hp → Prop} (h : Q (some v :: l) H) : SetN 0 v (y :: l) H Q := h
theorem w_v1 {x0 : Option V} {l : L2.St} (h : Q v H) : GetN 1 (x0 :: some v :: l) H Q := ⟨v, rfl, h⟩
theorem w_n1 {x0 : Option V} {y : Option V} {l : L2.St} {Q : L2.St → Hp → Prop} (h : Q (x0 :: some v :: l) H) : SetN 1 v (x0 :: y :: l) H Q := h
theorem w_v2 {x0 x1 : Option V} {l : L2.St} (h : Q v H) : GetN 2 (x0 :: x1 :: some v :: l) H Q := ⟨v, rfl, h⟩
theorem w_n2 {x0 x1 : Option V} {y : Option V} {l : L2.St} {Q : L2.St → Hp → Prop} (h : Q (x0 :: x1 :: some v :: l) H) : SetN 2 v (x0 :: x1 :: y :: l) H Q := h
theorem w_v3 {x0 x1 x2 : Option V} {l : L2.St} (h : Q v H) : GetN 3 (x0 :: x1 :: x2 :: some v :: l) H Q := ⟨v, rfl, h⟩
theorem w_n3 {x0 x1 x2 : Option V} {y : Option V} {l : L2.St} {Q : L2.St → Hp → Prop} (h : Q (x0 :: x1 :: x2 :: some v :: l) H) : SetN 3 v (x0 :: x1 :: x2 :: y :: l) H Q := h
theorem w_v4 {x0 x1 x2 x3 : Option V} {l : L2.St} (h : Q v H) : GetN 4 (x0 :: x1 :: x2 :: x3 :: some v :: l) H Q := ⟨v, rfl, h⟩
theorem w_n4 {x0 x1 x2 x3 : Option V} {y : Option V} {l : L2.St} {Q : L2.St → Hp → Prop} (h : Q (x0 :: x1 :: x2 :: x3 :: some v :: l) H) : SetN 4 v (x0 :: x1 :: x2 :: x3 :: y :: l) H Q := h
theorem w_v5 {x0 x1 x2 x3 x4 : Option V} {l : L2.St} (h : Q v H) : GetN 5 (x0 :: x1 :: x2 :: x3 :: x4 :: some v :: l) H Q := ⟨v, rfl, h⟩
theorem w_n5 {x0 x1 x2 x3 x4 : Option V} {y : Option V} {l : L2.St} {Q : L2.St → Hp → Prop} (h : Q (x0 :: x1 :: x2 :: x3 :: x4 :: some v :: l) H) : SetN 5 v (x0 :: x1 :: x2 :: x3 :: x4 :: y :: l) H Q := h
theorem w_v6 {x0 x1 x2 x3 x4 x5 : Option V} {l : L2.St} (h : Q v H) : GetN 6 (x0 :: x1 :: x2 :: x3 :: x4 :: x5 :: some v :: l) H Q := ⟨v, rfl, h⟩
theorem w_n6 {x0 x1 x2 x3 x4 x5 : Option V} {y : Option V} {l : L2.St} {Q : L2.St → Hp → Prop} (h : Q (x0 :: x1 :: x2 :: x3 :: x4 :: x5 :: some v :: l) H) : SetN 6 v (x0 :: x1 :: x2 :: x3 :: x4 :: x5 :: y :: l) H Q := h
theorem w_v7 {x0 x1 x2 x3 x4 x5 x6 : Option V} {l : L2.St} (h : Q v H) : GetN 7 (x0 :: x1 :: x2 :: x3 :: x4 :: x5 :: x6 :: some v :: l) H Q := ⟨v, rfl, h⟩
theorem w_n7 {x0 x1 x2 x3 x4 x5 x6 : Option V} {y : Option V} {l : L2.St} {Q : L2.St → Hp → Prop} (h : Q (x0 :: x1 :: x2 :: x3 :: x4 :: x5 :: x6 :: some v :: l) H) : SetN 7 v (x0 :: x1 :: x2 :: x3 :: x4 :: x5 :: x6 :: y :: l) H Q := h
theorem w_v8 {x0 x1 x2 x3 x4 x5 x6 x7 : Option V} {l : L2.St} (h : Q v H) : GetN 8 (x0 :: x1 :: x2 :: x3 :: x4 :: x5 :: x6 :: x7 :: some v :: l) H Q := ⟨v, rfl, h⟩
theorem w_n8 {x0 x1 x2 x3 x4 x5 x6 x7 : Option V} {y : Option V} {l : L2.St} {Q : L2.St → Hp → Prop} (h : Q (x0 :: x1 :: x2 :: x3 :: x4 :: x5 :: x6 :: x7 :: some v :: l) H) : SetN 8 v (x0 :: x1 :: x2 :: x3 :: x4 :: x5 :: x6 :: x7 :: y :: l) H Q := h
theorem w_v9 {x0 x1 x2 x3 x4 x5 x6 x7 x8 : Option V} {l : L2.St} (h : Q v H) : GetN 9 (x0 :: x1 :: x2 :: x3 :: x4 :: x5 :: x6 :: x7 :: x8 :: some v :: l) H Q := ⟨v, rfl, h⟩
theorem w_n9 {x0 x1 x2 x3 x4 x5 x6 x7 x8 : Option V} {y : Option V} {l : L2.St} {Q : L2.St → Hp → Prop} (h : Q (x0 :: x1 :: x2 :: x3 :: x4 :: x5 :: x6 :: x7 :: x8 :: some v :: l) H) : SetN 9 v (x0 :: x1 :: x2 :: x3 :: x4 :: x5 :: x6 :: x7 :: x8 :: y :: l) H Q := h
theorem w_v10 {x0 x1 x2 x3 x4 x5 x6 x7 x8 x9 : Option V} {l : L2.St} (h : Q v H) : GetN 10 (x0 :: x1 :: x2 :: x3 :: x4 :: x5 :: x6 :: x7 :: x8 :: x9 :: some v :: l) H Q := ⟨v, rfl, h⟩
theorem w_n10 {x0 x1 x2 x3 x4 x5 x6 x7 x8 x9 : Option V} {y : Option V} {l : L2.St} {Q : L2.St → Hp → Prop} (h : Q (x0 :: x1 :: x2 :: x3 :: x4 :: x5 :: x6 :: x7 :: x8 :: x9 :: some v :: l) H) : SetN 10 v (x0 :: x1 :: x2 :: x3 :: x4 :: x5 :: x6 :: x7 :: x8 :: x9 :: y :: l) H Q := h
theorem w_v11 {x0 x1 x2 x3 x4 x5 x6 x7 x8 x9 x10 : Option V} {l : L2.St} (h : Q v H) : GetN 11 (x0 :: x1 :: x2 :: x3 :: x4 :: x5 :: x6 :: x7 :: x8 :: x9 :: x10 :: some v :: l) H Q := ⟨v, rfl, h⟩
theorem w_n11 {x0 x1 x2 x3 x4 x5 x6 x7 x8 x9 x10 : Option V} {y : Option V} {l : L2.St} {Q : L2.St → Hp → Prop} (h : Q (x0 :: x1 :: x2 :: x3 :: x4 :: x5 :: x6 :: x7 :: x8 :: x9 :: x10 :: some v :: l) H) : SetN 11 v (x0 :: x1 :: x2 :: x3 :: x4 :: x5 :: x6 :: x7 :: x8 :: x9 :: x10 :: y :: l) H Q := h
theorem w_v12 {x0 x1 x2 x3 x4 x5 x6 x7 x8 x9 x10 x11 : Option V} {l : L2.St} (h : Q v H) : GetN 12 (x0 :: x1 :: x2 :: x3 :: x4 :: x5 :: x6 :: x7 :: x8 :: x9 :: x10 :: x11 :: some v :: l) H Q := ⟨v, rfl, h⟩
theorem w_n12 {x0 x1 x2 x3 x4 x5 x6 x7 x8 x9 x10 x11 : Option V} {y : Option V} {l : L2.St} {Q : L2.St → Hp → Prop} (h : Q (x0 :: x1 :: x2 :: x3 :: x4 :: x5 :: x6 :: x7 :: x8 :: x9 :: x10 :: x11 :: some v :: l) H) : SetN 12 v (x0 :: x1 :: x2 :: x3 :: x4 :: x5 :: x6 :: x7 :: x8 :: x9 :: x10 :: x11 :: y :: l) H Q := h
theorem w_v13 {x0 x1 x2 x3 x4 x5 x6 x7 x8 x9 x10 x11 x12 : Option V} {l : L2.St} (h : Q v H) : GetN 13 (x0 :: x1 :: x2 :: x3 :: x4 :: x5 :: x6 :: x7 :: x8 :: x9 :: x10 :: x11 :: x12 :: some v :: l) H Q := ⟨v, rfl, h⟩
theorem w_n13 {x0 x1 x2 x3 x4 x5 x6 x7 x8 x9 x10 x11 x12 : Option V} {y : Option V} {l : L2.St} {Q : L2.St → Hp → Prop} (h : Q (x0 :: x1 :: x2 :: x3 :: x4 :: x5 :: x6 :: x7 :: x8 :: x9 :: x10 :: x11 :: x12 :: some v :: l) H) : SetN 13 v (x0 :: x1 :: x2 :: x3 :: x4 :: x5 :: x6 :: x7 :: x8 :: x9 :: x10 :: x11 :: x12 :: y :: l) H Q := h
theorem w_v14 {x0 x1 x2 x3 x4 x5 x6 x7 x8 x9 x10 x11 x12 x13 : Option V} {l : L2.St} (h : Q v H) : GetN 14 (x0 :: x1 :: x2 :: x3 :: x4 :: x5 :: x6 :: x7 :: x8 :: x9 :: x10 :: x11 :: x12 :: x13 :: some v :: l) H Q := ⟨v, rfl, h⟩
theorem w_n14 {x0 x1 x2 x3 x4 x5 x6 x7 x8 x9 x10 x11 x12 x13 : Option V} {y : Option V} {l : L2.St} {Q : L2.St → Hp → Prop} (h : Q (x0 :: x1 :: x2 :: x3 :: x4 :: x5 :: x6 :: x7 :: x8 :: x9 :: x10 :: x11 :: x12 :: x13 :: some v :: l) H) : SetN 14 v (x0 :: x1 :: x2 :: x3 :: x4 :: x5 :: x6 :: x7 :: x8 :: x9 :: x10 :: x11 :: x12 :: x13 :: y :: l) H Q := h
theorem w_v15 {x0 x1 x2 x3 x4 x5 x6 x7 x8 x9 x10 x11 x12 x13 x14 : Option V} {l : L2.St} (h : Q v H) : GetN 15 (x0 :: x1 :: x2 :: x3 :: x4 :: x5 :: x6 :: x7 :: x8 :: x9 :: x10 :: x11 :: x12 :: x13 :: x14 :: some v :: l) H Q := ⟨v, rfl, h⟩
theorem w_n15 {x0 x1 x2 x3 x4 x5 x6 x7 x8 x9 x10 x11 x12 x13 x14 : Option V} {y : Option V} {l : L2.St} {Q : L2.St → Hp → Prop} (h : Q (x0 :: x1 :: x2 :: x3 :: x4 :: x5 :: x6 :: x7 :: x8 :: x9 :: x10 :: x11 :: x12 :: x13 :: x14 :: some v :: l) H) : SetN 15 v (x0 :: x1 :: x2 :: x3 :: x4 :: x5 :: x6 :: x7 :: x8 :: x9 :: x10 :: x11 :: x12 :: x13 :: x14 :: y :: l) H Q := h

/-! rules by values -/
theorem r_addI {i j : Int} (h : Q (.int (i + j)) H) : rAdd K (.int i) (.int j) H Q := .inl ⟨i, j, rfl, rfl, h⟩
theorem r_subI {i j : Int} (h : Q (.int (i - j)) H) : rSubI (.int i) (.int j) H Q := ⟨i, j, rfl, rfl, h⟩
theorem r_mulI {i j : Int} (hc : CMul i j) (h : Q (.int (i * j)) H) : rMul K (.int i) (.int j) H Q := .inl ⟨i, j, rfl, rfl, hc, h⟩
theorem r_divI {i j : Int} (h0 : 0 < j) (h1 : j < 2 ^ 62) (h : Q (.int (i / j)) H) : rDiv (.int i) (.int j) H Q := ⟨i, j, rfl, rfl, ⟨h0, by
  have h2 : j.natAbs < 2 ^ 62 := by omega
  have h3 : j.natAbs.log2 < 62 := (Nat.log2_lt (by omega)).mpr h2
  omega⟩, h⟩
theorem r_modI {i j : Int} (h0 : 0 < j) (h : Q (.int (i % j)) H) : rMod (.int i) (.int j) H Q := ⟨i, j, rfl, rfl, h0, h⟩
theorem r_addL {a b : Addr} {xs ys : List V} (ha : H a = some (.lst xs)) (hb : H b = some (.lst ys)) (hz : xs.length + ys.length ≤ sizeLine) (h : ∀ p H1, H p = none → Ex H H1 → H1 p = some (.lst (xs ++ ys)) → Q (.ref p) H1) : rAdd K (.ref a) (.ref b) H Q :=
  .inr (.inl ⟨a, b, xs, ys, rfl, rfl, ha, hb, hz, fun p hp => h p _ hp (Ex.new hp) upd_same⟩)
theorem r_addT {a b : Addr} {xs ys : List V} (ha : SqT K H a xs) (hb : SqT K H b ys) (hz : xs.length + ys.length ≤ sizeLine) (h : ∀ p H1, Ex H H1 → SqT K H1 p (xs ++ ys) → Q (.ref p) H1) : rAdd K (.ref a) (.ref b) H Q :=
  .inr (.inr (.inl ⟨a, b, xs, ys, rfl, rfl, ha, hb, hz, fun e => h b H (Ex.refl H) (by rw [e]; exact hb), fun _ e => h a H (Ex.refl H) (by rw [e, List.append_nil]; exact ha), fun _ _ p hp => h p _ (Ex.new hp) (st_of upd_same)⟩))
theorem r_neg {i : Int} (h : Q (.int (-i)) H) : (rU fun i => .int (-i)) (.int i) H Q := ⟨i, rfl, h⟩
theorem r_lt {i j : Int} (h : Q (.bl (decide (i < j))) H) : (rI0 fun i j => .bl (decide (i < j))) (.int i) (.int j) H Q := ⟨i, j, rfl, rfl, h⟩
theorem r_le {i j : Int} (h : Q (.bl (decide (i ≤ j))) H) : (rI0 fun i j => .bl (decide (i ≤ j))) (.int i) (.int j) H Q := ⟨i, j, rfl, rfl, h⟩
theorem r_gt {i j : Int} (h : Q (.bl (decide (j < i))) H) : (rI0 fun i j => .bl (decide (j < i))) (.int i) (.int j) H Q := ⟨i, j, rfl, rfl, h⟩
theorem r_ge {i j : Int} (h : Q (.bl (decide (j ≤ i))) H) : (rI0 fun i j => .bl (decide (j ≤ i))) (.int i) (.int j) H Q := ⟨i, j, rfl, rfl, h⟩
end
end M

/-! ### part C: data, equality, built-ins, comprehensions -/
namespace M
open PySem PySem.Spec PyProof.Rows L2 Evl

abbrev dInts (ns : List Int) : PyData := .tuple (ns.map .int)
abbrev dIntL (ns : List Int) : PyData := .list (ns.map .int)
def dOpt : Option Int → PyData
  | none => .none
  | some i => .int i
def optV : Option Int → V
  | none => .non
  | some i => .int i
abbrev vI (ns : List Int) : List V := ns.map V.int
abbrev dRaw (h l : List Int) (r : Int) : PyData := .tuple [dInts h, dInts l, .int r]

section
variable {K : PySem.W.Frag} {H H' : Hp} {v : V} {Q : VK}
mutual
theorem dp_ex (e : Ex H H') : ∀ {d : PyData} {v : V}, Dp K H v d → Dp K H' v d
  | _, _, .non => .non
  | _, _, .bl b => .bl b
  | _, _, .int i => .int i
  | _, _, .str x => .str x
  | _, _, .lst h a => .lst (ex_l e h) (dpAll_ex e a)
  | _, _, .tup h a => .tup (ex_t e h) (dpAll_ex e a)
theorem dpAll_ex (e : Ex H H') : ∀ {ds : List PyData} {vs : List V}, DpAll K H vs ds → DpAll K H' vs ds
  | _, _, .nil => .nil
  | _, _, .cons a r => .cons (dp_ex e a) (dpAll_ex e r)
end
theorem dpAll_ints : ∀ {ns : List Int} {vs : List V}, DpAll K H vs (ns.map .int) → vs = vI ns
  | [], _, .nil => rfl
  | _ :: _, _, .cons (.int _) r => by rw [dpAll_ints r]; rfl
theorem dpAll_of_ints : ∀ {ns : List Int}, DpAll K H (vI ns) (ns.map .int)
  | [] => .nil
  | n :: _ => .cons (.int n) dpAll_of_ints
theorem dp_ints {ns : List Int} (h : Dp K H v (dInts ns)) : ∃ a, v = .ref a ∧ SqT K H a (vI ns) := by
  cases h with
  | tup h a => rw [dpAll_ints a] at h; exact ⟨_, rfl, h⟩
theorem dp_intL {ns : List Int} (h : Dp K H v (dIntL ns)) : ∃ a, v = .ref a ∧ SqL K H a (vI ns) := by
  cases h with
  | lst h a => rw [dpAll_ints a] at h; exact ⟨_, rfl, h⟩
theorem dp_of_ints {a : Addr} {ns : List Int} (h : SqT K H a (vI ns)) : Dp K H (.ref a) (dInts ns) := .tup h dpAll_of_ints
theorem dp_of_intL {a : Addr} {ns : List Int} (h : SqL K H a (vI ns)) : Dp K H (.ref a) (dIntL ns) := .lst h dpAll_of_ints
theorem dp_opt {p : Option Int} (h : Dp K H v (dOpt p)) : v = optV p := by
  cases p with
  | none => cases h; rfl
  | some i => cases h; rfl
theorem dp_of_opt {p : Option Int} : Dp K H (optV p) (dOpt p) := by
  cases p with
  | none => exact .non
  | some i => exact .int i
theorem dp_toInt {i : Int} (h : Dp K H v (.int i)) : v = .int i := by cases h; rfl
theorem dp_toBl {b : Bool} (h : Dp K H v (.bool b)) : v = .bl b := by cases h; rfl
theorem dp_toNon (h : Dp K H v .none) : v = .non := by cases h; rfl
/-- a raw table: a triple of two tuples of ints and an int -/
structure RawAt (K : PySem.W.Frag) (H : Hp) (a : Addr) (h l : List Int) (r : Int) : Prop where
  ex : ∃ th tl, SqT K H a [.ref th, .ref tl, .int r] ∧ SqT K H th (vI h) ∧ SqT K H tl (vI l)
theorem dp_raw {h l : List Int} {r : Int} (d : Dp K H v (dRaw h l r)) : ∃ a th tl, v = .ref a ∧ SqT K H a [.ref th, .ref tl, .int r] ∧ SqT K H th (vI h) ∧ SqT K H tl (vI l) := by
  cases d with
  | tup s q =>
    cases q with
    | cons q1 q => cases q with
      | cons q2 q => cases q with
        | cons q3 q =>
          cases q
          cases q3
          obtain ⟨th, rfl, s1⟩ := dp_ints q1
          obtain ⟨tl, rfl, s2⟩ := dp_ints q2
          exact ⟨_, th, tl, rfl, s, s1, s2⟩
theorem dp_of_raw {a th tl : Addr} {h l : List Int} {r : Int} (s : SqT K H a [.ref th, .ref tl, .int r]) (s1 : SqT K H th (vI h)) (s2 : SqT K H tl (vI l)) : Dp K H (.ref a) (dRaw h l r) :=
  .tup s (.cons (dp_of_ints s1) (.cons (dp_of_ints s2) (.cons (.int r) .nil)))
theorem dp_t2 {d1 d2 : PyData} (d : Dp K H v (.tuple [d1, d2])) : ∃ a x y, v = .ref a ∧ SqT K H a [x, y] ∧ Dp K H x d1 ∧ Dp K H y d2 := by
  cases d with
  | tup s q => cases q with
    | cons q1 q => cases q with
      | cons q2 q => cases q; exact ⟨_, _, _, rfl, s, q1, q2⟩
theorem dp_t3 {d1 d2 d3 : PyData} (d : Dp K H v (.tuple [d1, d2, d3])) : ∃ a x y z, v = .ref a ∧ SqT K H a [x, y, z] ∧ Dp K H x d1 ∧ Dp K H y d2 ∧ Dp K H z d3 := by
  cases d with
  | tup s q => cases q with
    | cons q1 q => cases q with
      | cons q2 q => cases q with
        | cons q3 q => cases q; exact ⟨_, _, _, _, rfl, s, q1, q2, q3⟩
/-- what is wanted of a def that makes the value of d and leaves what stands -/
def RetD (K : PySem.W.Frag) (d : PyData) (H : Hp) (Q : VK) : Prop := ∀ v H', Ex H H' → Dp K H' v d → Q v H'
theorem RetD.int {i : Int} (k : RetD K (.int i) H Q) (e : Ex H H') : Q (.int i) H' := k _ _ e (.int i)
theorem RetD.bl {b : Bool} (k : RetD K (.bool b) H Q) (e : Ex H H') : Q (.bl b) H' := k _ _ e (.bl b)
theorem RetD.opt {p : Option Int} (k : RetD K (dOpt p) H Q) (e : Ex H H') : Q (optV p) H' := k _ _ e dp_of_opt
theorem RetD.non (k : RetD K .none H Q) (e : Ex H H') : Q .non H' := k _ _ e .non
end

/-! the type of data -/
def tyD : PyData → Value
  | .none => .type "NoneType"
  | .bool _ => .type "bool"
  | .int _ => .type "int"
  | .str _ => .type "str"
  | .list _ => .type "list"
  | .tuple _ => .type "tuple"
  | .dict _ => .type "dict"
section
variable {K : PySem.W.Frag} {H H' : Hp} {v : V} {Q : VK} {d : PyData}
theorem SqL.ty {a : Addr} {xs : List V} (h : SqL K H a xs) : TyX K H (.ref a) (.type "list") := by
  rcases h with (h | ⟨o, h⟩) | ⟨o, its, n, h, c, _⟩
  · exact .base (.lst h)
  · exact .base (.frz h)
  · exact .kList h c
theorem SqT.ty {a : Addr} {xs : List V} (h : SqT K H a xs) : TyX K H (.ref a) (.type "tuple") := by
  rcases h with (h | ⟨o, h⟩) | ⟨o, its, n, h, c, _⟩
  · exact .base (.tup h)
  · exact .fTuple h
  · exact .kTuple h c
theorem dp_ty (h : Dp K H v d) : TyX K H v (tyD d) := by
  cases h with
  | non => exact .base .non
  | bl b => exact .base (.bl b)
  | int i => exact .base (.int i)
  | str x => exact .base (.str x)
  | lst h a => exact SqL.ty h
  | tup h a => exact SqT.ty h
theorem r_isi {n : String} {b : Bool} {t : Value} (ty : TyX K H v t) (hb : PySem.W.kitOne K t (.type n) = some b) (h : Q (.bl b) H) : rIsi K [v, .ty n] H Q := ⟨v, .ty n, t, .type n, b, rfl, .ty n, ty, hb, h⟩
theorem r_isiC {C : Addr} {b : Bool} {t : Value} (ty : TyX K H v t) (hb : PySem.W.kitOne K t (.ref C) = some b) (h : Q (.bl b) H) : rIsi K [v, .ref C] H Q := ⟨v, .ref C, t, .ref C, b, rfl, .own C, ty, hb, h⟩
theorem r_isiT {tp : Addr} {n m : String} {b : Bool} {t : Value} (hT : H tp = some (.tup [.ty n, .ty m])) (ty : TyX K H v t) (hb : PySem.W.kitAny K t [.type n, .type m] = some b) (h : Q (.bl b) H) : rIsiT K [v, .ref tp] H Q :=
  ⟨v, tp, [.ty n, .ty m], t, [.type n, .type m], b, rfl, hT, .cons (.ty n) (.cons (.ty m) .nil), ty, hb, h⟩
end

/-! equality -/
theorem eqv_ints : ∀ xs ys : List Int, PyData.eqvAll (xs.map .int) (ys.map .int) = decide (xs = ys)
  | [], [] => rfl
  | [], _ :: _ => rfl
  | _ :: _, [] => rfl
  | x :: xs, y :: ys => by
    show (x == y && PyData.eqvAll (xs.map .int) (ys.map .int)) = _
    rw [eqv_ints xs ys]
    by_cases h : x = y
    · subst h; simp
    · simp [h]
theorem canLay_ints : ∀ xs : List Int, PyData.canLayAll0 (xs.map .int) = true
  | [] => rfl
  | x :: xs => by show (true && PyData.canLayAll0 (xs.map .int)) = true; rw [canLay_ints xs]; rfl
theorem depth_ints : ∀ xs : List Int, PyData.depthAll (xs.map .int) = 0
  | [] => rfl
  | x :: xs => by show max 0 (PyData.depthAll (xs.map .int)) = 0; rw [depth_ints xs]; rfl
theorem shaped_ints (xs : List Int) : SeqAt.shaped (dInts xs) = true := by
  show (PyData.canLayAll0 (xs.map .int) && decide (PyData.depthAll (xs.map .int) + 1 ≤ 64)) = true
  rw [canLay_ints, depth_ints]; rfl
theorem shaped_intL (xs : List Int) : SeqAt.shaped (dIntL xs) = true := by
  show (PyData.canLayAll0 (xs.map .int) && decide (PyData.depthAll (xs.map .int) + 1 ≤ 64)) = true
  rw [canLay_ints, depth_ints]; rfl
theorem shaped_raw (h l : List Int) (r : Int) : SeqAt.shaped (dRaw h l r) = true := by
  show (((PyData.canLayAll0 (h.map .int)) && ((PyData.canLayAll0 (l.map .int)) && (true && true))) && decide (max (PyData.depthAll (h.map .int) + 1) (max (PyData.depthAll (l.map .int) + 1) (max 0 0)) + 1 ≤ 64)) = true
  rw [canLay_ints, canLay_ints, depth_ints, depth_ints]; rfl
theorem eqv_raw (h l h' l' : List Int) (r r' : Int) : PyData.eqv (dRaw h l r) (dRaw h' l' r') = decide (h = h' ∧ l = l' ∧ r = r') := by
  show (PyData.eqvAll (h.map .int) (h'.map .int) && (PyData.eqvAll (l.map .int) (l'.map .int) && (r == r' && true))) = _
  rw [eqv_ints, eqv_ints]
  by_cases h1 : h = h' <;> by_cases h2 : l = l' <;> by_cases h3 : r = r' <;> simp [h1, h2, h3]
section
variable {K : PySem.W.Frag} {H H' : Hp} {x y : V} {Q : VK} {d e : PyData}
theorem r_eqI {i j : Int} (h : Q (.bl (decide (i = j))) H) : rEqU K (.int i) (.int j) H Q := .inl ⟨rfl, by
  have q : decide (V.int i = V.int j) = decide (i = j) := decide_eq_decide.mpr ⟨V.int.inj, congrArg _⟩
  rw [q]; exact h⟩
theorem r_neI {i j : Int} (h : Q (.bl (!decide (i = j))) H) : rNeU K (.int i) (.int j) H Q := .inl ⟨rfl, by
  have q : decide (V.int i = V.int j) = decide (i = j) := decide_eq_decide.mpr ⟨V.int.inj, congrArg _⟩
  rw [q]; exact h⟩
theorem r_eqB {i j : Bool} (h : Q (.bl (decide (i = j))) H) : rEqU K (.bl i) (.bl j) H Q := .inl ⟨rfl, by
  have q : decide (V.bl i = V.bl j) = decide (i = j) := decide_eq_decide.mpr ⟨V.bl.inj, congrArg _⟩
  rw [q]; exact h⟩
theorem optV_inj {p q : Option Int} : optV p = optV q ↔ p = q := by
  cases p <;> cases q <;> simp [optV]
theorem scal_opt (p q : Option Int) : scal (optV p) (optV q) = true := by cases p <;> cases q <;> rfl
theorem r_eqO {p q : Option Int} (h : Q (.bl (decide (p = q))) H) : rEqU K (optV p) (optV q) H Q := .inl ⟨scal_opt p q, by
  have z : decide (optV p = optV q) = decide (p = q) := decide_eq_decide.mpr optV_inj
  rw [z]; exact h⟩
theorem r_neO {p q : Option Int} (h : Q (.bl (!decide (p = q))) H) : rNeU K (optV p) (optV q) H Q := .inl ⟨scal_opt p q, by
  have z : decide (optV p = optV q) = decide (p = q) := decide_eq_decide.mpr optV_inj
  rw [z]; exact h⟩
theorem r_eqD (hd : Dp K H x d) (he : Dp K H y e) (sd : SeqAt.shaped d = true) (se : SeqAt.shaped e = true) (h : Q (.bl (PyData.eqv d e)) H) : rEqU K x y H Q := .inr ⟨d, e, hd, he, sd, se, h⟩
theorem r_neD (hd : Dp K H x d) (he : Dp K H y e) (sd : SeqAt.shaped d = true) (se : SeqAt.shaped e = true) (h : Q (.bl (!PyData.eqv d e)) H) : rNeU K x y H Q := .inr ⟨d, e, hd, he, sd, se, h⟩
theorem r_eqT {a b : Addr} {xs ys : List Int} (ha : SqT K H a (vI xs)) (hb : SqT K H b (vI ys)) (h : Q (.bl (decide (xs = ys))) H) : rEqU K (.ref a) (.ref b) H Q :=
  r_eqD (dp_of_ints ha) (dp_of_ints hb) (shaped_ints _) (shaped_ints _) (by rw [show PyData.eqv (dInts xs) (dInts ys) = decide (xs = ys) from eqv_ints xs ys]; exact h)
theorem r_neT {a b : Addr} {xs ys : List Int} (ha : SqT K H a (vI xs)) (hb : SqT K H b (vI ys)) (h : Q (.bl (!decide (xs = ys))) H) : rNeU K (.ref a) (.ref b) H Q :=
  r_neD (dp_of_ints ha) (dp_of_ints hb) (shaped_ints _) (shaped_ints _) (by rw [show PyData.eqv (dInts xs) (dInts ys) = decide (xs = ys) from eqv_ints xs ys]; exact h)
theorem r_neL {a b : Addr} {xs ys : List Int} (ha : SqL K H a (vI xs)) (hb : SqL K H b (vI ys)) (h : Q (.bl (!decide (xs = ys))) H) : rNeU K (.ref a) (.ref b) H Q :=
  r_neD (dp_of_intL ha) (dp_of_intL hb) (shaped_intL _) (shaped_intL _) (by rw [show PyData.eqv (dIntL xs) (dIntL ys) = decide (xs = ys) from eqv_ints xs ys]; exact h)
/-! is None -/
def rIs : R2 := fun x y H Q => y = .non ∧ Q (.bl (decide (x = .non))) H
def rIsNot : R2 := fun x y H Q => y = .non ∧ Q (.bl (!decide (x = .non))) H
theorem xIs {X : Cx} : OpR X (compareOp .Is) rIs := op_isN
theorem xIsNot {X : Cx} : OpR X (compareOp .IsNot) rIsNot := op_notN
theorem r_isO {p : Option Int} (h : Q (.bl (decide (p = none))) H) : rIs (optV p) .non H Q := ⟨rfl, by
  have z : decide (optV p = V.non) = decide (p = none) := decide_eq_decide.mpr (by cases p <;> simp [optV])
  rw [z]; exact h⟩
theorem r_isNotO {p : Option Int} (h : Q (.bl (!decide (p = none))) H) : rIsNot (optV p) .non H Q := ⟨rfl, by
  have z : decide (optV p = V.non) = decide (p = none) := decide_eq_decide.mpr (by cases p <;> simp [optV])
  rw [z]; exact h⟩
theorem r_isI {i : Int} (h : Q (.bl false) H) : rIs (.int i) .non H Q := ⟨rfl, h⟩
theorem r_isN (h : Q (.bl true) H) : rIs .non .non H Q := ⟨rfl, h⟩
theorem r_isR {a : Addr} (h : Q (.bl false) H) : rIs (.ref a) .non H Q := ⟨rfl, h⟩
theorem r_isNotI {i : Int} (h : Q (.bl true) H) : rIsNot (.int i) .non H Q := ⟨rfl, h⟩
theorem r_isNotN (h : Q (.bl false) H) : rIsNot .non .non H Q := ⟨rfl, h⟩
theorem r_isNotR {a : Addr} (h : Q (.bl true) H) : rIsNot (.ref a) .non H Q := ⟨rfl, h⟩
end

/-! built-ins by names of our own -/
section
variable {X : Cx} {K : PySem.W.Frag} {H : Hp} {Q : VK}
def rLenU (K : PySem.W.Frag) : List V → Hp → VK → Prop := fun xs H Q => ∃ x n, xs = [x] ∧ LenV K x H n ∧ Q (.int n) H
theorem xLen : CallR X (.builtin "len") (rLenU X.K) := call_len
theorem r_lenT {a : Addr} {xs : List V} (h : SqT K H a xs) (q : Q (.int (xs.length : Int)) H) : rLenU K [.ref a] H Q := ⟨_, xs.length, rfl, .inr ⟨xs, h, rfl⟩, q⟩
theorem r_lenL {a : Addr} {xs : List V} (h : SqL K H a xs) (q : Q (.int (xs.length : Int)) H) : rLenU K [.ref a] H Q := ⟨_, xs.length, rfl, .inl ⟨xs, h, rfl⟩, q⟩
theorem r_lenTI {a : Addr} {xs : List Int} (h : SqT K H a (vI xs)) (q : Q (.int (xs.length : Int)) H) : rLenU K [.ref a] H Q := r_lenT h (by rw [List.length_map]; exact q)
theorem r_lenLI {a : Addr} {xs : List Int} (h : SqL K H a (vI xs)) (q : Q (.int (xs.length : Int)) H) : rLenU K [.ref a] H Q := r_lenL h (by rw [List.length_map]; exact q)
def rAbsU : List V → Hp → VK → Prop := fun xs H Q => ∃ i, xs = [.int i] ∧ Q (.int (if i < 0 then -i else i)) H
theorem xAbs : CallR X (.builtin "abs") rAbsU := call_abs
theorem r_abs {i : Int} (q : Q (.int (i.natAbs : Int)) H) : rAbsU [.int i] H Q := ⟨i, rfl, by
  have e : (if i < 0 then -i else i) = (i.natAbs : Int) := by split <;> omega
  rw [e]; exact q⟩
def rMax2U : List V → Hp → VK → Prop := fun xs H Q => ∃ i j, xs = [.int i, .int j] ∧ Q (.int (if j > i then j else i)) H
theorem xMax2 (hc : X.calm = true) : CallR X (.builtin "max") rMax2U := call_max2 hc
theorem r_max2 {i j : Int} (q : Q (.int (max i j)) H) : rMax2U [.int i, .int j] H Q := ⟨i, j, rfl, by
  have e : (if j > i then j else i) = max i j := by split <;> omega
  rw [e]; exact q⟩
def rMin2U : List V → Hp → VK → Prop := fun xs H Q => ∃ i j, xs = [.int i, .int j] ∧ Q (.int (if j < i then j else i)) H
theorem xMin2 (hc : X.calm = true) : CallR X (.builtin "min") rMin2U := call_min2 hc
theorem r_min2 {i j : Int} (q : Q (.int (min i j)) H) : rMin2U [.int i, .int j] H Q := ⟨i, j, rfl, by
  have e : (if j < i then j else i) = min i j := by split <;> omega
  rw [e]; exact q⟩
def rIntU : List V → Hp → VK → Prop := fun xs H Q => (∃ i, xs = [.int i] ∧ Q (.int i) H) ∨ ∃ k, xs = [.bl k] ∧ Q (.int (if k then 1 else 0)) H
theorem xInt : CallR X (.type "int") rIntU := call_int1
theorem r_int {i : Int} (q : Q (.int i) H) : rIntU [.int i] H Q := .inl ⟨i, rfl, q⟩
def rBoolU : List V → Hp → VK → Prop := fun xs H Q => (∃ i, xs = [.int i] ∧ Q (.bl (i != 0)) H) ∨ ∃ k, xs = [.bl k] ∧ Q (.bl k) H
theorem xBool : CallR X (.type "bool") rBoolU := call_bool1
theorem r_boolB {b : Bool} (q : Q (.bl b) H) : rBoolU [.bl b] H Q := .inr ⟨b, rfl, q⟩
def rLstU (K : PySem.W.Frag) : List V → Hp → VK → Prop := fun xs H Q => ∃ p ys, xs = [.ref p] ∧ (SqL K H p ys ∨ SqT K H p ys) ∧ ∀ l, H l = none → Q (.ref l) (upd H l (.lst ys))
theorem xLst : CallR X (.type "list") (rLstU X.K) := call_list_of
theorem r_lstL {a : Addr} {xs : List V} (h : SqL K H a xs) (q : ∀ p H1, H p = none → Ex H H1 → H1 p = some (.lst xs) → Q (.ref p) H1) : rLstU K [.ref a] H Q := ⟨a, xs, rfl, .inl h, fun p hp => q p _ hp (Ex.new hp) upd_same⟩
theorem r_lstT {a : Addr} {xs : List V} (h : SqT K H a xs) (q : ∀ p H1, H p = none → Ex H H1 → H1 p = some (.lst xs) → Q (.ref p) H1) : rLstU K [.ref a] H Q := ⟨a, xs, rfl, .inr h, fun p hp => q p _ hp (Ex.new hp) upd_same⟩
def rTupU (K : PySem.W.Frag) : List V → Hp → VK → Prop := fun xs H Q => ∃ p ys, xs = [.ref p] ∧ ((SqL K H p ys ∧ ∀ l, H l = none → Q (.ref l) (upd H l (.tup ys))) ∨ (SqT K H p ys ∧ Q (.ref p) H))
theorem xTup : CallR X (.type "tuple") (rTupU X.K) := call_tuple_of
theorem r_tupL {a : Addr} {xs : List V} (h : SqL K H a xs) (q : ∀ p H1, Ex H H1 → SqT K H1 p xs → Q (.ref p) H1) : rTupU K [.ref a] H Q := ⟨a, xs, rfl, .inl ⟨h, fun p hp => q p _ (Ex.new hp) (st_of upd_same)⟩⟩
theorem r_tupT {a : Addr} {xs : List V} (h : SqT K H a xs) (q : ∀ p H1, Ex H H1 → SqT K H1 p xs → Q (.ref p) H1) : rTupU K [.ref a] H Q := ⟨a, xs, rfl, .inr ⟨h, q a H (Ex.refl H) h⟩⟩
theorem r_all {a : Addr} {bs : List Bool} {xs : List V} (h : SqL K H a xs) (e : xs = bs.map V.bl) (q : Q (.bl (bs.all id)) H) : rAll K [.ref a] H Q := ⟨a, bs, rfl, by rw [← e]; exact h, q⟩
theorem r_any {a : Addr} {bs : List Bool} {xs : List V} (h : SqL K H a xs) (e : xs = bs.map V.bl) (q : Q (.bl (bs.any id)) H) : rAny K [.ref a] H Q := ⟨a, bs, rfl, by rw [← e]; exact h, q⟩
/-! indices -/
theorem atI_pos {α : Type} {xs : List α} {i : Int} {v : α} (h0 : 0 ≤ i) (h : xs[i.toNat]? = some v) : atI xs i = some v := by
  have hl : i.toNat < xs.length := (List.getElem?_eq_some_iff.mp h).1
  unfold atI ixN
  rw [if_pos h0, if_pos (by omega)]
  exact h
theorem atI_neg {α : Type} {xs : List α} {i : Int} {v : α} (h0 : i < 0) (h1 : -(xs.length : Int) ≤ i) (h : xs[(i + xs.length).toNat]? = some v) : atI xs i = some v := by
  unfold atI ixN
  rw [if_neg (by omega), if_pos h1]
  exact h
/-- the int at a place of a list of ints -/
def gI (xs : List Int) (i : Int) : Int := xs.getD i.toNat 0
theorem atI_ints {xs : List Int} {i : Int} (h0 : 0 ≤ i) (h1 : i < xs.length) : atI (vI xs) i = some (V.int (gI xs i)) := by
  refine atI_pos h0 ?_
  have hl : i.toNat < xs.length := by omega
  rw [List.getElem?_map, List.getElem?_eq_getElem hl]
  show some (V.int xs[i.toNat]) = some (V.int (xs.getD i.toNat 0))
  rw [List.getD_eq_getElem?_getD, List.getElem?_eq_getElem hl]; rfl
theorem atI_intsN {xs : List Int} {i : Int} (h0 : i < 0) (h1 : -(xs.length : Int) ≤ i) : atI (vI xs) i = some (V.int (gI xs (i + xs.length))) := by
  have hl : (i + xs.length).toNat < xs.length := by omega
  refine atI_neg h0 (by rw [List.length_map]; exact h1) ?_
  rw [List.length_map, List.getElem?_map, List.getElem?_eq_getElem hl]
  show some (V.int xs[(i + xs.length).toNat]) = some (V.int (xs.getD (i + xs.length).toNat 0))
  rw [List.getD_eq_getElem?_getD, List.getElem?_eq_getElem hl]; rfl
theorem r_ixT {a : Addr} {xs : List V} {i : Int} {v : V} (h : SqT K H a xs) (ha : atI xs i = some v) (q : Q v H) : rIx K (.ref a) (.int i) H Q := .inr (.inl ⟨a, xs, i, v, rfl, rfl, h, ha, q⟩)
theorem r_ixL {a : Addr} {xs : List V} {i : Int} {v : V} (h : SqL K H a xs) (ha : atI xs i = some v) (q : Q v H) : rIx K (.ref a) (.int i) H Q := .inl ⟨a, xs, i, v, rfl, rfl, h, ha, q⟩
theorem r_ixTI {a : Addr} {xs : List Int} {i : Int} (h : SqT K H a (vI xs)) (h0 : 0 ≤ i) (h1 : i < xs.length) (q : Q (.int (gI xs i)) H) : rIx K (.ref a) (.int i) H Q := r_ixT h (atI_ints h0 h1) q
theorem r_ixTN {a : Addr} {xs : List Int} {i : Int} (h : SqT K H a (vI xs)) (h0 : i < 0) (h1 : -(xs.length : Int) ≤ i) (q : Q (.int (gI xs (i + xs.length))) H) : rIx K (.ref a) (.int i) H Q := r_ixT h (atI_intsN h0 h1) q
theorem r_ixLI {a : Addr} {xs : List Int} {i : Int} (h : SqL K H a (vI xs)) (h0 : 0 ≤ i) (h1 : i < xs.length) (q : Q (.int (gI xs i)) H) : rIx K (.ref a) (.int i) H Q := r_ixL h (atI_ints h0 h1) q
theorem r_ixLN {a : Addr} {xs : List Int} {i : Int} (h : SqL K H a (vI xs)) (h0 : i < 0) (h1 : -(xs.length : Int) ≤ i) (q : Q (.int (gI xs (i + xs.length))) H) : rIx K (.ref a) (.int i) H Q := r_ixL h (atI_intsN h0 h1) q
/-! slices -/
def rSlI (xs : List Int) (lo hi : Option Int) : List Int := (xs.drop (HT.sIx xs.length 0 lo)).take (HT.sIx xs.length xs.length hi - HT.sIx xs.length 0 lo)
theorem cut_ints (xs : List Int) (lo hi : Option Int) : cutV (vI xs) lo hi = vI (rSlI xs lo hi) := by
  unfold cutV rSlI
  rw [List.length_map, ← List.map_drop, ← List.map_take]
theorem r_slL {a : Addr} {xs : List V} {lo hi : Option Int} (h : SqL K H a xs) (q : ∀ p H1, H p = none → Ex H H1 → H1 p = some (.lst (cutV xs lo hi)) → Q (.ref p) H1) : rSl K (.ref a) lo hi H Q :=
  .inl ⟨a, xs, rfl, h, fun p hp => q p _ hp (Ex.new hp) upd_same⟩
theorem cut_whole {xs : List V} {lo hi : Option Int} (h1 : HT.sIx xs.length 0 lo = 0) (h2 : HT.sIx xs.length xs.length hi = xs.length) : cutV xs lo hi = xs := by
  unfold cutV
  rw [h1, h2, List.drop_zero, Nat.sub_zero, List.take_length]
theorem r_slT {a : Addr} {xs : List V} {lo hi : Option Int} (h : SqT K H a xs) (q : ∀ p H1, Ex H H1 → SqT K H1 p (cutV xs lo hi) → Q (.ref p) H1) : rSl K (.ref a) lo hi H Q :=
  .inr (.inl ⟨a, xs, rfl, h, fun e => q a H (Ex.refl H) (by rw [cut_whole e.1 e.2]; exact h), fun _ p hp => q p _ (Ex.new hp) (st_of upd_same)⟩)
theorem cutV_to {α : Type} {xs : List α} {i : Int} (h : 0 ≤ i) (f : α → V) : cutV (xs.map f) none (some i) = (xs.take i.toNat).map f := by
  have e : cutV (xs.map f) none (some i) = ((xs.map f).drop 0).take (HT.sIx (xs.map f).length (xs.map f).length (some i) - 0) := rfl
  have e2 : HT.sIx (xs.map f).length (xs.map f).length (some i) = min i.toNat (xs.map f).length := if_neg (by omega)
  rw [e, e2, List.drop_zero, Nat.sub_zero, List.map_take]
  rcases Nat.le_total i.toNat (xs.map f).length with h1 | h1
  · rw [Nat.min_eq_left h1]
  · rw [Nat.min_eq_right h1, List.take_length, List.take_of_length_le h1]
theorem cutV_from {α : Type} {xs : List α} {i : Int} (h : 0 ≤ i) (f : α → V) : cutV (xs.map f) (some i) none = (xs.drop i.toNat).map f := by
  have e : cutV (xs.map f) (some i) none = ((xs.map f).drop (HT.sIx (xs.map f).length 0 (some i))).take ((xs.map f).length - HT.sIx (xs.map f).length 0 (some i)) := rfl
  have e2 : HT.sIx (xs.map f).length 0 (some i) = min i.toNat (xs.map f).length := if_neg (by omega)
  rw [e, e2, List.map_drop]
  rcases Nat.le_total i.toNat (xs.map f).length with h1 | h1
  · rw [Nat.min_eq_left h1, List.take_of_length_le (by rw [List.length_drop]; omega)]
  · rw [Nat.min_eq_right h1, List.drop_eq_nil_of_le h1, List.drop_eq_nil_of_le (Nat.le_refl _), List.take_nil]
theorem cutV_mid {α : Type} {xs : List α} {i j : Int} (h : 0 ≤ i) (hij : i ≤ j) (hj : j ≤ xs.length) (f : α → V) : cutV (xs.map f) (some i) (some j) = ((xs.drop i.toNat).take (j - i).toNat).map f := by
  have e : cutV (xs.map f) (some i) (some j) = ((xs.map f).drop (HT.sIx (xs.map f).length 0 (some i))).take (HT.sIx (xs.map f).length (xs.map f).length (some j) - HT.sIx (xs.map f).length 0 (some i)) := rfl
  have e2 : HT.sIx (xs.map f).length 0 (some i) = min i.toNat (xs.map f).length := if_neg (by omega)
  have e3 : HT.sIx (xs.map f).length (xs.map f).length (some j) = min j.toNat (xs.map f).length := if_neg (by omega)
  rw [e, e2, e3, List.length_map, Nat.min_eq_left (by omega), Nat.min_eq_left (by omega), List.map_take, List.map_drop, show (j - i).toNat = j.toNat - i.toNat by omega]

theorem r_slTto {a : Addr} {xs : List Int} {i : Int} (h : SqT K H a (vI xs)) (h0 : 0 ≤ i) (q : ∀ p H1, Ex H H1 → SqT K H1 p (vI (xs.take i.toNat)) → Q (.ref p) H1) : rSl K (.ref a) none (some i) H Q := r_slT h (by rw [cutV_to h0]; exact q)
theorem r_slTfrom {a : Addr} {xs : List Int} {i : Int} (h : SqT K H a (vI xs)) (h0 : 0 ≤ i) (q : ∀ p H1, Ex H H1 → SqT K H1 p (vI (xs.drop i.toNat)) → Q (.ref p) H1) : rSl K (.ref a) (some i) none H Q := r_slT h (by rw [cutV_from h0]; exact q)
theorem r_slLto {a : Addr} {xs : List Int} {i : Int} (h : SqL K H a (vI xs)) (h0 : 0 ≤ i) (q : ∀ p H1, H p = none → Ex H H1 → H1 p = some (.lst (vI (xs.take i.toNat))) → Q (.ref p) H1) : rSl K (.ref a) none (some i) H Q := r_slL h (by rw [cutV_to h0]; exact q)
theorem r_slLfrom {a : Addr} {xs : List Int} {i : Int} (h : SqL K H a (vI xs)) (h0 : 0 ≤ i) (q : ∀ p H1, H p = none → Ex H H1 → H1 p = some (.lst (vI (xs.drop i.toNat))) → Q (.ref p) H1) : rSl K (.ref a) (some i) none H Q := r_slL h (by rw [cutV_from h0]; exact q)
theorem r_slLmid {a : Addr} {xs : List Int} {i j : Int} (h : SqL K H a (vI xs)) (h0 : 0 ≤ i) (hij : i ≤ j) (hj : j ≤ xs.length) (q : ∀ p H1, H p = none → Ex H H1 → H1 p = some (.lst (vI ((xs.drop i.toNat).take (j - i).toNat))) → Q (.ref p) H1) : rSl K (.ref a) (some i) (some j) H Q := r_slL h (by rw [cutV_mid h0 hij hj]; exact q)
/-! comprehensions whose parts leave what stands -/
theorem w_lc {wi : TI} {g : TG} {tt : TT} {te : TE} {vs : List Nat} {σ : L2.St} (h : wi σ H fun J H1 => ∀ D, H1 D = none → ∃ W : Nat → Nat → Hp → Prop, (∃ m, W 0 m (upd H1 D (.lst []))) ∧ ∀ i m H, W i m H →
  (J.stop i H ∧ Q (.ref D) H) ∨ (J.go i H ∧ ∃ Nx : Hp → Prop, (∀ H', Nx H' → ∃ m', m' < m ∧ W (i + 1) m' H') ∧ ∀ x H', J.yld i H x H' → g x (wipe σ vs) H' fun σ2 H2 => wipe σ2 vs = wipe σ vs ∧ tt σ2 H2 fun b H3 =>
    if b = true then te σ2 H3 fun y H4 => ∃ acc, H4 D = some (.lst acc) ∧ acc.length < sizeLine ∧ Nx (upd H4 D (.lst (acc ++ [y]))) else Nx H3)) : tLc wi g tt te vs σ H Q := h
/-- what a comprehension over J asks, J named -/
def LcJ (J : It) (g : TG) (tt : TT) (te : TE) (vs : List Nat) (σ : L2.St) (H1 : Hp) (Q : VK) : Prop := ∀ D, H1 D = none → ∃ W : Nat → Nat → Hp → Prop, (∃ m, W 0 m (upd H1 D (.lst []))) ∧ ∀ i m H, W i m H →
  (J.stop i H ∧ Q (.ref D) H) ∨ (J.go i H ∧ ∃ Nx : Hp → Prop, (∀ H', Nx H' → ∃ m', m' < m ∧ W (i + 1) m' H') ∧ ∀ x H', J.yld i H x H' → g x (wipe σ vs) H' fun σ2 H2 => wipe σ2 vs = wipe σ vs ∧ tt σ2 H2 fun b H3 =>
    if b = true then te σ2 H3 fun y H4 => ∃ acc, H4 D = some (.lst acc) ∧ acc.length < sizeLine ∧ Nx (upd H4 D (.lst (acc ++ [y]))) else Nx H3)
theorem w_lcJ {wi : TI} {g : TG} {tt : TT} {te : TE} {vs : List Nat} {σ : L2.St} (h : wi σ H fun J H1 => LcJ J g tt te vs σ H1 Q) : tLc wi g tt te vs σ H Q := h
/-- over a range, every item kept, item i giving v i -/
theorem lcJ_range {lo : Int} {n j : Nat} {te : TE} {vs : List Nat} {σ : L2.St} (v : Nat → V) (hn : n ≤ 100000) (σ' : V → L2.St) (hσ : ∀ x, (wipe σ vs).set j (some x) = σ' x) (hw : ∀ x, wipe ((wipe σ vs).set j (some x)) vs = wipe σ vs)
    (he : ∀ (i : Nat) (H1 : Hp) (Q' : VK), Ex H H1 → i < n → (∀ H2, Ex H1 H2 → Q' (v i) H2) → te (σ' (.int (lo + (i : Int)))) H1 Q')
    (hq : ∀ p H2, H p = none → Ex H H2 → H2 p = some (.lst ((List.range n).map v)) → Q (.ref p) H2) : LcJ (Itr lo n) (gName j) tYes te vs σ H Q := fun D hD =>
  lc_range (Pv := fun i H' => Ex H H' ∧ H' D = some (.lst ((List.range i).map v))) ⟨Ex.new hD, upd_same⟩ (fun i H' hi p => ⟨hw _, by
    show te ((wipe σ vs).set j _) H' _
    rw [hσ]
    refine he i H' _ p.1 hi fun H2 e2 => ⟨(List.range i).map v, e2 D _ p.2, sz_lt (by simp only [List.length_map, List.length_range]; omega), Ex.mut (p.1.trans e2) hD, ?_⟩
    rw [List.range_succ, List.map_append]
    exact upd_same⟩) fun H' p => hq D H' hD p.1 p.2
theorem lcJ_r0 {n j : Nat} {te : TE} {vs : List Nat} {σ : L2.St} (v : Nat → V) (hn : n ≤ 100000) (σ' : V → L2.St) (hσ : ∀ x, (wipe σ vs).set j (some x) = σ' x) (hw : ∀ x, wipe ((wipe σ vs).set j (some x)) vs = wipe σ vs)
    (he : ∀ (i : Nat) (H1 : Hp) (Q' : VK), Ex H H1 → i < n → (∀ H2, Ex H1 H2 → Q' (v i) H2) → te (σ' (.int (i : Int))) H1 Q')
    (hq : ∀ p H2, H p = none → Ex H H2 → H2 p = some (.lst ((List.range n).map v)) → Q (.ref p) H2) : LcJ (Itr 0 n) (gName j) tYes te vs σ H Q :=
  lcJ_range v hn σ' hσ hw (fun i H1 Q' e hi k => by rw [Int.zero_add]; exact he i H1 Q' e hi k) hq
/-- over a list or a tuple -/
theorem lcJ_list {a : Addr} {xs : List V} {j : Nat} {te : TE} {vs : List Nat} {σ : L2.St} (v : V → V) (hx : SqL K H a xs) (hn : xs.length ≤ 100000) (σ' : V → L2.St) (hσ : ∀ x, (wipe σ vs).set j (some x) = σ' x) (hw : ∀ x, wipe ((wipe σ vs).set j (some x)) vs = wipe σ vs)
    (he : ∀ (x : V) (H1 : Hp) (Q' : VK), Ex H H1 → x ∈ xs → (∀ H2, Ex H1 H2 → Q' (v x) H2) → te (σ' x) H1 Q')
    (hq : ∀ p H2, H p = none → Ex H H2 → H2 p = some (.lst (xs.map v)) → Q (.ref p) H2) : LcJ (Itl K a) (gName j) tYes te vs σ H Q := fun D hD =>
  lc_list (xs := xs) (Pv := fun i H' => Ex H H' ∧ H' D = some (.lst ((xs.take i).map v))) ⟨Ex.new hD, upd_same⟩ (fun i H' _ p => ex_l p.1 hx) (fun i x H' hi p => ⟨hw _, by
    show te ((wipe σ vs).set j _) H' _
    rw [hσ]
    refine he x H' _ p.1 (List.mem_of_getElem? hi) fun H2 e2 => ⟨(xs.take i).map v, e2 D _ p.2, sz_lt (by rw [List.length_map, List.length_take]; have := (List.getElem?_eq_some_iff.mp hi).1; omega), Ex.mut (p.1.trans e2) hD, ?_⟩
    rw [List.take_add_one, hi, List.map_append]
    exact upd_same⟩) fun H' p => hq D H' hD p.1 (by rw [List.take_length] at p; exact p.2)
theorem lcJ_tup {a : Addr} {xs : List V} {j : Nat} {te : TE} {vs : List Nat} {σ : L2.St} (v : V → V) (hx : SqT K H a xs) (hn : xs.length ≤ 100000) (σ' : V → L2.St) (hσ : ∀ x, (wipe σ vs).set j (some x) = σ' x) (hw : ∀ x, wipe ((wipe σ vs).set j (some x)) vs = wipe σ vs)
    (he : ∀ (x : V) (H1 : Hp) (Q' : VK), Ex H H1 → x ∈ xs → (∀ H2, Ex H1 H2 → Q' (v x) H2) → te (σ' x) H1 Q')
    (hq : ∀ p H2, H p = none → Ex H H2 → H2 p = some (.lst (xs.map v)) → Q (.ref p) H2) : LcJ (Itt K a) (gName j) tYes te vs σ H Q := fun D hD =>
  lc_tup (xs := xs) (Pv := fun i H' => Ex H H' ∧ H' D = some (.lst ((xs.take i).map v))) ⟨Ex.new hD, upd_same⟩ (fun i H' _ p => ex_t p.1 hx) (fun i x H' hi p => ⟨hw _, by
    show te ((wipe σ vs).set j _) H' _
    rw [hσ]
    refine he x H' _ p.1 (List.mem_of_getElem? hi) fun H2 e2 => ⟨(xs.take i).map v, e2 D _ p.2, sz_lt (by rw [List.length_map, List.length_take]; have := (List.getElem?_eq_some_iff.mp hi).1; omega), Ex.mut (p.1.trans e2) hD, ?_⟩
    rw [List.take_add_one, hi, List.map_append]
    exact upd_same⟩) fun H' p => hq D H' hD p.1 (by rw [List.take_length] at p; exact p.2)
/-! what is walked -/
def SeqLi (K : PySem.W.Frag) (R : It → Hp → Prop) (x : V) (H1 : Hp) : Prop := ∃ a, x = .ref a ∧ (∃ xs, SqL K H1 a xs) ∧ R (Itl K a) H1
def SeqTi (K : PySem.W.Frag) (R : It → Hp → Prop) (x : V) (H1 : Hp) : Prop := ∃ a, x = .ref a ∧ (∃ xs, SqT K H1 a xs) ∧ R (Itt K a) H1
theorem i_seqL {tl : TE} {σ : L2.St} {R : It → Hp → Prop} (h : tl σ H fun x H1 => SeqLi K R x H1) : iSeq K tl σ H R := .inl h
theorem i_seqT {tl : TE} {σ : L2.St} {R : It → Hp → Prop} (h : tl σ H fun x H1 => SeqTi K R x H1) : iSeq K tl σ H R := .inr h
theorem i_xL {a : Addr} {xs : List V} {R : It → Hp → Prop} (hx : SqL K H a xs) (h : R (Itl K a) H) : SeqLi K R (.ref a) H := ⟨a, rfl, ⟨xs, hx⟩, h⟩
theorem i_xT {a : Addr} {xs : List V} {R : It → Hp → Prop} (hx : SqT K H a xs) (h : R (Itt K a) H) : SeqTi K R (.ref a) H := ⟨a, rfl, ⟨xs, hx⟩, h⟩
def Rng1 (R : It → Hp → Prop) (vs : List V) (H1 : Hp) : Prop := ∃ j : Int, vs = [.int j] ∧ -(2 ^ 62) ≤ j ∧ j < 2 ^ 62 ∧ R (Itr 0 j.toNat) H1
def Rng2 (R : It → Hp → Prop) (vs : List V) (H1 : Hp) : Prop := ∃ i j : Int, vs = [.int i, .int j] ∧ (-(2 ^ 62) ≤ i ∧ i < 2 ^ 62 ∧ -(2 ^ 62) ≤ j ∧ j < 2 ^ 62) ∧ R (Itr i (j - i).toNat) H1
theorem i_r1 {ta : TA} {σ : L2.St} {R : It → Hp → Prop} (h : ta σ H fun vs H1 => Rng1 R vs H1) : iRng1 ta σ H R := h
theorem i_r2 {ta : TA} {σ : L2.St} {R : It → Hp → Prop} (h : ta σ H fun vs H1 => Rng2 R vs H1) : iRng2 ta σ H R := h
theorem i_x1 {j : Int} {R : It → Hp → Prop} (hj : -1000000000 ≤ j ∧ j ≤ 1000000000) (h : R (Itr 0 j.toNat) H) : Rng1 R [V.int j] H := ⟨j, rfl, by omega, by omega, h⟩
theorem i_x2 {i j : Int} {R : It → Hp → Prop} (hij : -1000000000 ≤ i ∧ i ≤ 1000000000 ∧ -1000000000 ≤ j ∧ j ≤ 1000000000) (h : R (Itr i (j - i).toNat) H) : Rng2 R [V.int i, V.int j] H := ⟨i, j, rfl, by omega, h⟩
/-! loops, J named -/
def ForJ (J : It) (g : TG) (tb : TS) (D : Ends) (σ : L2.St) (H1 : Hp) : Prop := ∃ W : Nat → Nat → L2.St → Hp → Prop, (∃ m, W 0 m σ H1) ∧ ∀ i m σ H, W i m σ H →
  (J.stop i H ∧ D.nx σ H) ∨ (J.go i H ∧ ∃ N : L2.St → Hp → Prop, (∀ σ' H', N σ' H' → ∃ m', m' < m ∧ W (i + 1) m' σ' H') ∧ ∀ x H', J.yld i H x H' → g x σ H' fun σ2 H2 => tb { D with nx := N, ct := N, bk := D.nx } σ2 H2)
theorem w_forJ {wi : TI} {g : TG} {tb : TS} {D : Ends} {σ : L2.St} (h : wi σ H fun J H1 => ForJ J g tb D σ H1) : tFor wi g tb D σ H := h
end
end M

/-! ### part D: the rules with the written part said -/
namespace M
open PySem PySem.Spec PyProof.Rows L2 Evl
section
variable {X : Cx} (K : PySem.W.Frag)
theorem kIx (h : X.K = K := by rfl) : IxR X (rIx K) := by subst h; exact ix_seq
theorem kAdd (h : X.K = K := by rfl) : OpR X (binaryOp .Add) (rAdd K) := by subst h; exact xAdd
theorem kMul (h : X.K = K := by rfl) : OpR X (binaryOp .Mult) (rMul K) := by subst h; exact xMul
theorem kEq {j : Nat} (hr : Room j X.A) (h : X.K = K := by rfl) : OpR X (compareOp .Eq) (rEqU K) := by subst h; exact xEq hr
theorem kNe {j : Nat} (hr : Room j X.A) (h : X.K = K := by rfl) : OpR X (compareOp .NotEq) (rNeU K) := by subst h; exact xNe hr
theorem kSl (h : X.K = K := by rfl) : SlR X (rSl K) := by subst h; exact xSl
theorem kLen (h : X.K = K := by rfl) : CallR X (.builtin "len") (rLenU K) := by subst h; exact xLen
theorem kLst (h : X.K = K := by rfl) : CallR X (.type "list") (rLstU K) := by subst h; exact xLst
theorem kTup (h : X.K = K := by rfl) : CallR X (.type "tuple") (rTupU K) := by subst h; exact xTup
theorem kAll (hc : X.calm = true) (h : X.K = K := by rfl) : CallR X (.builtin "all") (rAll K) := by subst h; exact cr_all hc
theorem kAny (hc : X.calm = true) (h : X.K = K := by rfl) : CallR X (.builtin "any") (rAny K) := by subst h; exact cr_any hc
theorem kSum (hc : X.calm = true) (h : X.K = K := by rfl) : CallR X (.builtin "sum") (rSum K) := by subst h; exact cr_sum hc
theorem kIsi (h : X.K = K := by rfl) : CallR X (.builtin "isinstance") (rIsi K) := by subst h; exact call_isi
theorem kIsiT (h : X.K = K := by rfl) : CallR X (.builtin "isinstance") (rIsiT K) := by subst h; exact call_isiT
theorem kSeq {tg l : Expr} {tl : TE} (hl : PE X l tl) (h : X.K = K := by rfl) : PI X tg l (iSeq K tl) := by subst h; exact pi_seq hl
theorem kFld {o : Expr} {f : Str} {pos : Pos} {ta : TE} (ha : PE X o ta) (hb : attributeBase o f X.env (eval o X.env) = eval o X.env) (h : X.K = K := by rfl) : PE X (.Attribute o f pos) (tFld K ta f) := by subst h; exact pe_fld ha hb
theorem kGtup {es : List Expr} {k : Nat} {t : TGs} {n : Nat} {pos : Pos} (hc : X.calm = true) (h : PGs X es t)
    (hn : (assignEach es X.env).length = n := by rfl) (hst : (assignEach es X.env).findIdx? (·.1) = none := by rfl) (hK : X.K = K := by rfl) : PG X (.Tuple es k pos) (gTup K n t) := by subst hK; exact pg_tup hc h hn hst
theorem kBM {e0 : Expr} {to : TE} {t : TA} {T : String} {r : V → List V → Hp → VK → Prop} (h0 : PE X e0 (tBM X.K T r to t)) (h : X.K = K := by rfl) : PE X e0 (tBM K T r to t) := by subst h; exact h0
theorem kFldS {st : Stmt} {ta tv : TE} {f : Str} (h0 : PS X st (sFld X.K ta tv f)) (h : X.K = K := by rfl) : PS X st (sFld K ta tv f) := by subst h; exact h0
/-! truth of any value, named -/
end
def TruX (K : PySem.W.Frag) (x : V) (H : Hp) (Q : Bool → Hp → Prop) : Prop := ∃ k, TruV K x H k ∧ Q k H
def tTru (K : PySem.W.Frag) (te : TE) : TT := fun σ H Q => te σ H fun x H' => TruX K x H' Q
section
variable {X : Cx} (K : PySem.W.Frag)
theorem kTru {a : Expr} {ta : TE} (ha : PE X a ta) (he : ∀ whole, isTrue a X.env whole = (do let v ← whole; standAt a.pos; holding [v] (truthy v))) (h : X.K = K := by rfl) : PT X a (tTru K ta) := by subst h; exact pt_truth ha he
end
section
variable {K : PySem.W.Frag} {σ : L2.St} {H : Hp} {te : TE} {Q : Bool → Hp → Prop}
theorem w_tru (h : te σ H fun x H' => TruX K x H' Q) : tTru K te σ H Q := h
theorem r_truB {b : Bool} (h : Q b H) : TruX K (.bl b) H Q := ⟨b, rfl, h⟩
theorem r_truI {i : Int} (h : Q (!decide (i = 0)) H) : TruX K (.int i) H Q := ⟨(i != 0), rfl, by
  have e : (i != 0) = (!decide (i = 0)) := by
    by_cases c : i = 0
    · subst c; rfl
    · simp [c]
  rw [e]; exact h⟩
theorem r_truN (h : Q false H) : TruX K .non H Q := ⟨false, rfl, h⟩
/-- all of a list of truths -/
theorem all_range {n : Nat} {p : Nat → Prop} [DecidablePred p] : ((List.range n).map fun i => decide (p i)).all id = decide (∀ i, i < n → p i) := by
  rw [Bool.eq_iff_iff]
  simp
theorem map_bl_range {n : Nat} {p : Nat → Prop} [DecidablePred p] : (List.range n).map (fun i => V.bl (decide (p i))) = ((List.range n).map fun i => decide (p i)).map V.bl := by
  rw [List.map_map]; rfl
end
end M

/-! ### part E: data without lists; comprehensions that make data -/
namespace M
open PySem PySem.Spec PyProof.Rows L2 Evl
mutual
def imm : PyData → Bool
  | .list _ => false
  | .dict _ => false
  | .tuple xs => immAll xs
  | _ => true
def immAll : List PyData → Bool
  | [] => true
  | x :: xs => imm x && immAll xs
end
/-- tuples stand -/
def TEx (H H' : Hp) : Prop := ∀ a xs, Rd H a (.tup xs) → Rd H' a (.tup xs)
theorem TEx.of {H H' : Hp} (e : Ex H H') : TEx H H' := fun _ _ h => ex_rd e h
theorem TEx.trans {H H1 H2 : Hp} (a : TEx H H1) (b : TEx H1 H2) : TEx H H2 := fun x o h => b x o (a x o h)
theorem TEx.refl (H : Hp) : TEx H H := fun _ _ h => h
theorem TEx.upd {H : Hp} {p : Addr} {xs : List V} {o : HO} (h : H p = some (.lst xs)) : TEx H (upd H p o) := fun a ys q => by
  have hne : a ≠ p := by
    rintro rfl
    rcases q with q | ⟨o', q⟩ <;> rw [h] at q <;> cases q
  rcases q with q | ⟨o', q⟩
  · exact .inl (by rw [upd_ne hne]; exact q)
  · exact .inr ⟨o', by rw [upd_ne hne]; exact q⟩
section
variable {K : PySem.W.Frag} {H H' : Hp}
theorem tex_t (e : TEx H H') {a : Addr} {xs : List V} (h : SqT K H a xs) : SqT K H' a xs := by
  rcases h with h | h
  · exact .inl (e a xs h)
  · exact .inr h
mutual
theorem dp_tex (e : TEx H H') : ∀ {d : PyData} {v : V}, imm d = true → Dp K H v d → Dp K H' v d
  | _, _, _, .non => .non
  | _, _, _, .bl b => .bl b
  | _, _, _, .int i => .int i
  | _, _, _, .str x => .str x
  | _, _, h, .lst _ _ => nomatch h
  | _, _, h, .tup s a => .tup (tex_t e s) (dpAll_tex e h a)
theorem dpAll_tex (e : TEx H H') : ∀ {ds : List PyData} {vs : List V}, immAll ds = true → DpAll K H vs ds → DpAll K H' vs ds
  | _, _, _, .nil => .nil
  | _, _, h, .cons a r => .cons (dp_tex e (Bool.and_eq_true_iff.mp h).1 a) (dpAll_tex e (Bool.and_eq_true_iff.mp h).2 r)
end
theorem dpAll_len : ∀ {vs : List V} {ds : List PyData}, DpAll K H vs ds → vs.length = ds.length
  | _, _, .nil => rfl
  | _, _, .cons _ r => congrArg Nat.succ (dpAll_len r)
theorem dpAll_app : ∀ {vs ws : List V} {ds es : List PyData}, DpAll K H vs ds → DpAll K H ws es → DpAll K H (vs ++ ws) (ds ++ es)
  | _, _, _, _, .nil, h => h
  | _, _, _, _, .cons a r, h => .cons a (dpAll_app r h)
theorem dpAll_get : ∀ {vs : List V} {ds : List PyData} {i : Nat} {x : V}, DpAll K H vs ds → vs[i]? = some x → ∃ d, ds[i]? = some d ∧ Dp K H x d
  | _, _, 0, _, .cons a _, e => by simp at e; subst e; exact ⟨_, rfl, a⟩
  | _, _, i + 1, x, .cons _ r, e => by
    obtain ⟨d, h1, h2⟩ := dpAll_get (i := i) (x := x) r (by simpa using e)
    exact ⟨d, by simpa using h1, h2⟩
theorem immAll_app : ∀ {ds es : List PyData}, immAll ds = true → immAll es = true → immAll (ds ++ es) = true
  | [], _, _, h => h
  | _ :: _, _, h, h' => Bool.and_eq_true_iff.mpr ⟨(Bool.and_eq_true_iff.mp h).1, immAll_app (Bool.and_eq_true_iff.mp h).2 h'⟩
theorem immAll_map {f : Nat → PyData} (h : ∀ i, imm (f i) = true) : ∀ l : List Nat, immAll (l.map f) = true
  | [] => rfl
  | i :: l => Bool.and_eq_true_iff.mpr ⟨h i, immAll_map h l⟩
variable {Q : VK}
/-- over a list: item i gives data f i (without lists) -/
theorem lcD_list {a : Addr} {xs : List V} {j : Nat} {te : TE} {vs : List Nat} {σ : L2.St} (f : Nat → PyData) (hf : ∀ i, imm (f i) = true) (hx : SqL K H a xs) (hn : xs.length ≤ 100000) (σ' : V → L2.St) (hσ : ∀ x, (wipe σ vs).set j (some x) = σ' x) (hw : ∀ x, wipe ((wipe σ vs).set j (some x)) vs = wipe σ vs)
    (he : ∀ (i : Nat) (x : V) (H1 : Hp) (Q' : VK), Ex H H1 → xs[i]? = some x → (∀ y H2, Ex H1 H2 → Dp K H2 y (f i) → Q' y H2) → te (σ' x) H1 Q')
    (hq : ∀ p H2 ys, H p = none → Ex H H2 → H2 p = some (.lst ys) → DpAll K H2 ys ((List.range xs.length).map f) → Q (.ref p) H2) : LcJ (Itl K a) (gName j) tYes te vs σ H Q := fun D hD =>
  lc_list (xs := xs) (Pv := fun i H' => Ex H H' ∧ ∃ ys, H' D = some (.lst ys) ∧ DpAll K H' ys ((List.range i).map f)) ⟨Ex.new hD, [], upd_same, .nil⟩ (fun i H' _ p => ex_l p.1 hx) (fun i x H' hi ⟨p1, ys, p2, p3⟩ => ⟨hw x, by
    show te ((wipe σ vs).set j _) H' _
    rw [hσ]
    have hi' := (List.getElem?_eq_some_iff.mp hi).1
    refine he i x H' _ p1 hi fun y H2 e2 d2 => ⟨ys, e2 D _ p2, sz_lt (by rw [dpAll_len p3, List.length_map, List.length_range]; omega), Ex.mut (p1.trans e2) hD, ys ++ [y], upd_same, ?_⟩
    have t := TEx.upd (o := .lst (ys ++ [y])) (e2 D _ p2)
    rw [List.range_succ, List.map_append]
    exact dpAll_app (dpAll_tex t (immAll_map hf _) (dpAll_ex e2 p3)) (.cons (dp_tex t (hf i) d2) .nil)⟩) fun H' ⟨p1, ys, p2, p3⟩ => hq D H' ys hD p1 p2 p3
theorem lcD_tup {a : Addr} {xs : List V} {j : Nat} {te : TE} {vs : List Nat} {σ : L2.St} (f : Nat → PyData) (hf : ∀ i, imm (f i) = true) (hx : SqT K H a xs) (hn : xs.length ≤ 100000) (σ' : V → L2.St) (hσ : ∀ x, (wipe σ vs).set j (some x) = σ' x) (hw : ∀ x, wipe ((wipe σ vs).set j (some x)) vs = wipe σ vs)
    (he : ∀ (i : Nat) (x : V) (H1 : Hp) (Q' : VK), Ex H H1 → xs[i]? = some x → (∀ y H2, Ex H1 H2 → Dp K H2 y (f i) → Q' y H2) → te (σ' x) H1 Q')
    (hq : ∀ p H2 ys, H p = none → Ex H H2 → H2 p = some (.lst ys) → DpAll K H2 ys ((List.range xs.length).map f) → Q (.ref p) H2) : LcJ (Itt K a) (gName j) tYes te vs σ H Q := fun D hD =>
  lc_tup (xs := xs) (Pv := fun i H' => Ex H H' ∧ ∃ ys, H' D = some (.lst ys) ∧ DpAll K H' ys ((List.range i).map f)) ⟨Ex.new hD, [], upd_same, .nil⟩ (fun i H' _ p => ex_t p.1 hx) (fun i x H' hi ⟨p1, ys, p2, p3⟩ => ⟨hw x, by
    show te ((wipe σ vs).set j _) H' _
    rw [hσ]
    have hi' := (List.getElem?_eq_some_iff.mp hi).1
    refine he i x H' _ p1 hi fun y H2 e2 d2 => ⟨ys, e2 D _ p2, sz_lt (by rw [dpAll_len p3, List.length_map, List.length_range]; omega), Ex.mut (p1.trans e2) hD, ys ++ [y], upd_same, ?_⟩
    have t := TEx.upd (o := .lst (ys ++ [y])) (e2 D _ p2)
    rw [List.range_succ, List.map_append]
    exact dpAll_app (dpAll_tex t (immAll_map hf _) (dpAll_ex e2 p3)) (.cons (dp_tex t (hf i) d2) .nil)⟩) fun H' ⟨p1, ys, p2, p3⟩ => hq D H' ys hD p1 p2 p3
/-! deep: tuples in the place of lists -/
end
mutual
def dDeep : PyData → PyData
  | .list xs => .tuple (dDeepAll xs)
  | .tuple xs => .tuple (dDeepAll xs)
  | .none => .none
  | .bool b => .bool b
  | .int i => .int i
  | .str s => .str s
  | .dict _ => .none
def dDeepAll : List PyData → List PyData
  | [] => []
  | x :: xs => dDeep x :: dDeepAll xs
end
mutual
theorem imm_deep : ∀ d, imm (dDeep d) = true
  | .list xs => immAll_deep xs
  | .tuple xs => immAll_deep xs
  | .none => rfl
  | .bool _ => rfl
  | .int _ => rfl
  | .str _ => rfl
  | .dict _ => rfl
theorem immAll_deep : ∀ ds, immAll (dDeepAll ds) = true
  | [] => rfl
  | x :: xs => Bool.and_eq_true_iff.mpr ⟨imm_deep x, immAll_deep xs⟩
end
theorem dDeepAll_eq : ∀ ds, dDeepAll ds = ds.map dDeep
  | [] => rfl
  | x :: xs => by show dDeep x :: dDeepAll xs = _; rw [dDeepAll_eq xs]; rfl
theorem dDeep_ints (ns : List Int) : dDeepAll (ns.map .int) = ns.map .int := by
  rw [dDeepAll_eq, List.map_map]; rfl
mutual
/-- depth at most n, each row at most so long -/
def shp : Nat → PyData → Bool
  | 0, .list _ => false
  | 0, .tuple _ => false
  | n + 1, .list xs => decide (xs.length ≤ 50000) && shpAll n xs
  | n + 1, .tuple xs => decide (xs.length ≤ 50000) && shpAll n xs
  | _, .dict _ => false
  | _, _ => true
def shpAll : Nat → List PyData → Bool
  | _, [] => true
  | n, x :: xs => shp n x && shpAll n xs
end
theorem shpAll_get {n : Nat} : ∀ {ds : List PyData} {i : Nat} {d : PyData}, shpAll n ds = true → ds[i]? = some d → shp n d = true
  | _ :: _, 0, _, h, e => by
    simp at e; subst e
    unfold shpAll at h
    exact (Bool.and_eq_true_iff.mp h).1
  | _ :: _, i + 1, d, h, e => by
    unfold shpAll at h
    exact shpAll_get (i := i) (d := d) (Bool.and_eq_true_iff.mp h).2 (by simpa using e)
theorem shpAll_ints : ∀ ns : List Int, shpAll 0 (ns.map .int) = true
  | [] => rfl
  | n :: ns => by show (shp 0 (.int n) && shpAll 0 (ns.map .int)) = true; rw [shpAll_ints ns]; rfl
end M

/-! ### part F: a list or a tuple -/
namespace M
open PySem PySem.Spec PyProof.Rows L2 Evl
def SqE (K : PySem.W.Frag) (H : Hp) (a : Addr) (xs : List V) : Prop := SqL K H a xs ∨ SqT K H a xs
section
variable {K : PySem.W.Frag} {H H' : Hp} {Q : VK}
theorem ex_e {a : Addr} {xs : List V} (e : Ex H H') (h : SqE K H a xs) : SqE K H' a xs := h.elim (fun h => .inl (ex_l e h)) (fun h => .inr (ex_t e h))
theorem r_lenEI {a : Addr} {xs : List Int} (h : SqE K H a (vI xs)) (q : Q (.int (xs.length : Int)) H) : rLenU K [.ref a] H Q := h.elim (fun h => r_lenLI h q) (fun h => r_lenTI h q)
theorem r_ixEI {a : Addr} {xs : List Int} {i : Int} (h : SqE K H a (vI xs)) (h0 : 0 ≤ i) (h1 : i < xs.length) (q : Q (.int (gI xs i)) H) : rIx K (.ref a) (.int i) H Q := h.elim (fun h => r_ixLI h h0 h1 q) (fun h => r_ixTI h h0 h1 q)
theorem r_ixEN {a : Addr} {xs : List Int} {i : Int} (h : SqE K H a (vI xs)) (h0 : i < 0) (h1 : -(xs.length : Int) ≤ i) (q : Q (.int (gI xs (i + xs.length))) H) : rIx K (.ref a) (.int i) H Q := h.elim (fun h => r_ixLN h h0 h1 q) (fun h => r_ixTN h h0 h1 q)
end
end M

/-! ### part G: fields, instances made, methods, properties, instances called, own == -/
namespace M
open PySem PySem.Spec PyProof.Rows L2 Evl
def GetF (K : PySem.W.Frag) (f : Str) (x : V) (H : Hp) (Q : VK) : Prop := ∃ a C dx fs v, x = .ref a ∧ H a = some (.ins C dx fs) ∧ Cls K C ∧ NoAttr K C f ∧ fs.lookup f = some v ∧ Q v H
def PutF (K : PySem.W.Frag) (f : Str) (y x : V) (H : Hp) (R : Hp → Prop) : Prop := ∃ a C dx fs, x = .ref a ∧ H a = some (.ins C dx fs) ∧ Cls K C ∧ NoAttr K C f ∧ fs.length < 1000 ∧ R (upd H a (.ins C dx (putF f y fs)))
section
variable {K : PySem.W.Frag} {σ : L2.St} {H : Hp} {Q : VK} {D : Ends} {ta tv : TE} {f : Str}
theorem w_fld (h : ta σ H fun x H1 => GetF K f x H1 Q) : tFld K ta f σ H Q := h
theorem w_fldS (h : tv σ H fun y H1 => ta σ H1 fun x H2 => PutF K f y x H2 fun H3 => D.nx σ H3) : sFld K ta tv f D σ H := h
theorem r_getF {a C dx : Addr} {fs : List (Str × V)} {v : V} (h : H a = some (.ins C dx fs)) (c : Cls K C) (n : NoAttr K C f) (e : fs.lookup f = some v) (q : Q v H) : GetF K f (.ref a) H Q := ⟨a, C, dx, fs, v, rfl, h, c, n, e, q⟩
theorem r_putF {a C dx : Addr} {fs : List (Str × V)} {y : V} {R : Hp → Prop} (h : H a = some (.ins C dx fs)) (c : Cls K C) (n : NoAttr K C f) (hl : fs.length < 1000) (q : R (upd H a (.ins C dx (putF f y fs)))) : PutF K f y (.ref a) H R := ⟨a, C, dx, fs, rfl, h, c, n, hl, q⟩
end
/-- a class made by its name: dvs the defaults that fill up -/
structure Mkc (P : Program) (w : World) (K : PySem.W.Frag) (mg : Str → Option Value) (base : Heap) (CX : CXT) (k : Nat) (x : Str) (C : Addr) (sp : Sp) (dvs : List V) : Prop where
  ex : ∃ (f : Addr) (fd : FuncData) (ps : List Str) (ds : List Value), Mk K C f ∧ FnOk P w K mg base CX k f fd ps sp ∧ mg x = some (.ref C) ∧ Binds K fd ps ds ∧ Vals dvs ds
section
variable {X : Cx} {CX : CXT} {k j : Nat} {C : Addr} {x m : Str} {sp : Sp} {dvs : List V} {E : XK} {p pos apos : Pos} {e o : Expr} {es : List Expr} {ta : TE} {t : TA}
theorem pmk (c : Mkc X.prog X.w X.K X.mg X.base CX k x C sp dvs) (hr : Room j X.A) (hk : k + 1 ≤ j) (hx : Passes CX X E) (hg : Gl X x) (ha : PA X (e :: es) t)
    (hdb : (x == ("__debug__" : Str)) = false := by decide) (he : starEach (e :: es) X.env = (false, eval e X.env) :: starEach es X.env := by rfl) (hpl : (backTo pos (starEach es X.env)).any (·.1) = false := by rfl) :
    PE X (.Call (.Name x p) (e :: es) [] pos) (tMake C sp dvs E t) := by
  obtain ⟨f, fd, ps, ds, M, F, hm, hb, hd⟩ := c.ex
  exact pe_make M F (hr.mono hk) hg hm hb hd hx ha hdb he hpl
theorem pmt {pl : Sem Bool} (c : Mt X.prog X.w X.K X.mg X.base CX k C m sp) (hr : Room j X.A) (hk : k ≤ j) (hx : Passes CX X E) (ho : PE X o ta) (ha : PA X (e :: es) t)
    (he : starEach (e :: es) X.env = (false, eval e X.env) :: starEach es X.env := by rfl) (hpl : (backTo pos (starEach es X.env)).any (·.1) = false := by rfl)
    (ht : eval (.Call (.Attribute o m apos) (e :: es) [] pos) X.env = (do let ov ← eval o X.env; standAt apos.atName; let (f, first) ← holding [ov] (getMethod ov m pl); callWith pos f first (backTo pos (starEach (e :: es) X.env)) (backToKw pos (keywordEach [] X.env))) := by rfl) :
    PE X (.Call (.Attribute o m apos) (e :: es) [] pos) (tMeth C m sp [] E ta t) := by
  obtain ⟨f, fd, ps, cl, hm, F, hb⟩ := c.ex
  exact pe_meth ho cl hm F (hr.mono hk) hb .nil hx ha he hpl ht
theorem pmt0 {pl : Sem Bool} (c : Mt X.prog X.w X.K X.mg X.base CX k C m sp) (hr : Room j X.A) (hk : k ≤ j) (hx : Passes CX X E) (ho : PE X o ta)
    (ht : eval (.Call (.Attribute o m apos) [] [] pos) X.env = (do let ov ← eval o X.env; standAt apos.atName; let (f, first) ← holding [ov] (getMethod ov m pl); callWith pos f first (backTo pos (starEach [] X.env)) (backToKw pos (keywordEach [] X.env))) := by rfl) :
    PE X (.Call (.Attribute o m apos) [] [] pos) (tMeth C m sp [] E ta tNil) := by
  obtain ⟨f, fd, ps, cl, hm, F, hb⟩ := c.ex
  exact pe_meth0 ho cl hm F (hr.mono hk) hb .nil hx ht
end
/-- a property of the class at C -/
structure Prp (P : Program) (w : World) (K : PySem.W.Frag) (mg : Str → Option Value) (base : Heap) (k : Nat) (C : Addr) (m : Str) (sp : Sp) : Prop where
  ex : ∃ (p g : Addr) (fd : FuncData) (ps : List Str), Cls K C ∧ PropOf K C m p g ∧ FnOk P w K mg base CX0 k g fd ps sp ∧ Binds K fd ps []
def PropI (C : Addr) (sp : Sp) (x : V) (H1 : Hp) (Q : VK) (E : XK) : Prop := ∃ a dx fs, x = .ref a ∧ H1 a = some (.ins C dx fs) ∧ sp (.ref a :: []) H1 Q E
section
variable {X : Cx} {k j : Nat} {C : Addr} {m : Str} {sp : Sp} {E : XK} {pos : Pos} {e : Expr} {ta : TE} {σ : L2.St} {H : Hp} {Q : VK}
theorem ppr (c : Prp X.prog X.w X.K X.mg X.base k C m sp) (hr : Room j X.A) (hk : k + 1 ≤ j) (he : PE X e ta) (hab : attributeBase e m X.env (eval e X.env) = eval e X.env) : PE X (.Attribute e m pos) (tProp C sp [] E0 ta) := by
  obtain ⟨p, g, fd, ps, cl, hp, F, hb⟩ := c.ex
  exact pe_prop he cl hp F (hr.mono hk) hb .nil pass0 hab
theorem w_prop (h : ta σ H fun x H1 => PropI C sp x H1 Q E) : tProp C sp [] E ta σ H Q := h
theorem r_prop {F} {a dx : Addr} {fs : List (Str × V)} (h : H a = some (.ins C dx fs)) (q : F (.ref a) H Q E) : PropI C (sp1 F) (.ref a) H Q E := ⟨a, dx, fs, rfl, h, _, rfl, q⟩
def MethI (C : Addr) (m : Str) (sp : Sp) (E : XK) (t : TA) (σ : L2.St) (x : V) (H1 : Hp) (Q : VK) : Prop := ∃ a dx fs, x = .ref a ∧ H1 a = some (.ins C dx fs) ∧ fs.lookup m = none ∧ t σ H1 fun vs H2 => sp (x :: (vs ++ [])) H2 Q E
theorem w_meth {t : TA} (h : ta σ H fun x H1 => MethI C m sp E t σ x H1 Q) : tMeth C m sp [] E ta t σ H Q := h
theorem r_meth {t : TA} {a dx : Addr} {fs : List (Str × V)} (h : H a = some (.ins C dx fs)) (n : fs.lookup m = none) (q : t σ H fun vs H2 => sp (.ref a :: (vs ++ [])) H2 Q E) : MethI C m sp E t σ (.ref a) H Q := ⟨a, dx, fs, rfl, h, n, q⟩
def MakeI (C : Addr) (sp : Sp) (dvs : List V) (E : XK) (vs : List V) (H1 : Hp) (Q : VK) : Prop := ∀ (x dx : Addr), H1 x = none → H1 dx = none → dx ≠ x → sp (.ref x :: (vs ++ dvs)) (upd (upd H1 dx (.own x)) x (.ins C dx [])) (fun v H2 => v = .non ∧ Q (.ref x) H2) E
theorem w_make {t : TA} {dvs : List V} (h : t σ H fun vs H1 => MakeI C sp dvs E vs H1 Q) : tMake C sp dvs E t σ H Q := h
/-- an instance called -/
structure Cli (P : Program) (w : World) (K : PySem.W.Frag) (mg : Str → Option Value) (base : Heap) (k : Nat) (C : Addr) (sp : Sp) : Prop where
  ex : ∃ (g : Addr) (fd : FuncData) (ps : List Str), StX.CallO K C g ∧ FnOk P w K mg base CX0 k g fd ps sp ∧ Binds K fd ps []
def CallI (C : Addr) (sp : Sp) (E : XK) (t : TA) (σ : L2.St) (y : V) (H1 : Hp) (Q : VK) : Prop := ∃ a, y = V.ref a ∧ t σ H1 fun vs H2 => (∃ dx fs, H2 a = some (.ins C dx fs)) ∧ sp (V.ref a :: vs) H2 Q E
def tCallI (C : Addr) (sp : Sp) (E : XK) (tf : TE) (t : TA) : TE := fun σ H Q => tf σ H fun y H1 => CallI C sp E t σ y H1 Q
end
section
variable {X : Cx} {k j : Nat} {C : Addr} {sp : Sp} {pos : Pos} {fe e : Expr} {es : List Expr} {tf : TE} {t : TA}
theorem pcl (c : Cli X.prog X.w X.K X.mg X.base k C sp) (hr : Room j X.A) (hk : k ≤ j) (hf : PE X fe tf) (ha : PA X (e :: es) t)
    (ht : eval (.Call fe (e :: es) [] pos) X.env = (do callWith pos (← eval fe X.env) [] (backTo pos (starEach (e :: es) X.env)) (backToKw pos (keywordEach [] X.env))) := by rfl)
    (he : starEach (e :: es) X.env = (false, eval e X.env) :: starEach es X.env := by rfl) (hpl : (backTo pos (starEach es X.env)).any (·.1) = false := by rfl) : PE X (.Call fe (e :: es) [] pos) (StX.tCallO X C sp E0 tf t) := by
  obtain ⟨g, fd, ps, co, F, hb⟩ := c.ex
  exact StX.pe_callO hf co ((F.raw hb .nil).imp fun vs H Q E h => by rw [List.append_nil]; exact h) (hr.mono hk) pass0 ha ht he hpl
def CallOI (X : Cx) (C : Addr) (sp : Sp) (t : TA) (σ : L2.St) (y : V) (H1 : Hp) (Q : VK) : Prop := ∃ a, y = V.ref a ∧ t σ H1 fun vs H2 => StX.InsC X H2 a C ∧ sp (V.ref a :: vs) H2 Q E0
variable {σ : L2.St} {H : Hp} {Q : VK}
theorem w_callO (h : tf σ H fun y H1 => CallOI X C sp t σ y H1 Q) : StX.tCallO X C sp E0 tf t σ H Q := h
def CallOJ (X : Cx) (C a : Addr) (sp : Sp) (vs : List V) (H2 : Hp) (Q : VK) : Prop := StX.InsC X H2 a C ∧ sp (V.ref a :: vs) H2 Q E0
theorem w_callOI {a : Addr} (h : t σ H fun vs H2 => CallOJ X C a sp vs H2 Q) : CallOI X C sp t σ (.ref a) H Q := ⟨a, rfl, h⟩
theorem r_callO1 {F} {a dx : Addr} {fs : List (Str × V)} {x : V} (hi : H a = some (.ins C dx fs)) (h : F (.ref a) x H Q E0) : CallOJ X C a (sp2 F) [x] H Q := ⟨.inr ⟨dx, fs, hi⟩, _, _, rfl, h⟩
end
/-! own == : x an instance of the class at C, y any value whose type is known -/
section
variable {X : Cx} {n : Nat} {C : Addr} {sp : Sp}
def rOwnEq (K : PySem.W.Frag) (C : Addr) (sp : Sp) : R2 := fun x y H Q => ∃ a dx fs t, x = .ref a ∧ H a = some (.ins C dx fs) ∧ TyX K H y t ∧ PySem.W.notFirst K C t = true ∧ sp [x, y] H (fun v H' => (∃ b, v = .bl b) ∧ Q v H') E0
end
section
variable {X : Cx} {n : Nat} {C : Addr} {sp : Sp}
/-- what == needs of the class at C -/
structure EqOf (P : Program) (w : World) (K : PySem.W.Frag) (mg : Str → Option Value) (base : Heap) (k : Nat) (C : Addr) (sp : Sp) : Prop where
  ex : ∃ (g : Addr) (fd : FuncData) (ps : List Str), PySem.W.findIn K (.ref C) "__eq__" = some (some (.ref g)) ∧ PySem.W.isFn K (.ref g) = true ∧ FnOk P w K mg base CX0 k g fd ps sp ∧ Binds K fd ps []
theorem op_ownEq {j : Nat} (c : EqOf X.prog X.w X.K X.mg X.base n C sp) (hr : Room j X.A) (hn : n ≤ j) : OpR X (compareOp .Eq) (rOwnEq X.K C sp) := by
  obtain ⟨g, fd, ps, hs, hf, F, hb⟩ := c.ex
  intro pins s σ H x y v u Q I rx ry h
  obtain ⟨a, dx, fs, t, rfl, ha, ty, hnf, q⟩ := h
  cases (show v = Value.ref a from rx)
  obtain ⟨mA, O, _⟩ := ins_get I.hok ha
  obtain ⟨od, J, _⟩ := O.look
  obtain ⟨m, hF⟩ := I.fr
  obtain ⟨Pk, kit, hk, _⟩ := kit_of I ry ty
  show wpAny _ _ (richCompare .Eq (.ref a) u) _ _ _
  refine PySem.W.cmp_K (op := .Eq) (tb := t) (hr.mono hn).units0 hF I.ok.mod.kin J (kit.ty _ _ I.kIn hk) hnf hs hf ?_
  refine wpAny_mono (run_fn (us := [.ref a, u]) (vs := [.ref a, y]) (dvs := []) (ds := []) F (hr.mono hn) hb .nil pass0 I (.cons rfl (.cons ry .nil)) q) (fun z s' hz => ?_) fun _ _ x => x
  obtain ⟨zv, H', I', rz, ⟨b, hb⟩, qz⟩ := hz
  subst hb
  cases (show z = Value.bool b from rz)
  exact ⟨.bl b, H', I', rfl, qz⟩
def rEqO (K : PySem.W.Frag) (C : Addr) (sp : Sp) : R2 := fun x y H Q => rEqU K x y H Q ∨ rOwnEq K C sp x y H Q
theorem kEqO (K : PySem.W.Frag) {j : Nat} (c : EqOf X.prog X.w X.K X.mg X.base n C sp) (hr : Room j X.A) (hn : n ≤ j) (h : X.K = K := by rfl) : OpR X (compareOp .Eq) (rEqO K C sp) := by subst h; exact (xEq hr).or (op_ownEq c hr hn)
end
section
variable {K : PySem.W.Frag} {C : Addr} {sp : Sp} {H : Hp} {Q : VK} {x y : V}
theorem w_eqO (h : rEqU K x y H Q) : rEqO K C sp x y H Q := .inl h
theorem r_ownEq {F} {a dx : Addr} {fs : List (Str × V)} {t : Value} (ha : H a = some (.ins C dx fs)) (ty : TyX K H y t) (hn : PySem.W.notFirst K C t = true) (q : F (.ref a) y H (fun v H' => (∃ b, v = .bl b) ∧ Q v H') E0) : rEqO K C (sp2 F) (.ref a) y H Q :=
  .inr ⟨a, dx, fs, t, rfl, ha, ty, hn, _, _, rfl, q⟩
end
end M

/-! ### part H: the head's facts, functions by any address -/
namespace M
open PySem PySem.Spec PyProof.Rows L2 Evl
/-- a def: where its function stands -/
structure DX where
  adr : PySem.W.Frag → Addr
  name : Str
  qual : Str
  params : Arguments
  body : List Stmt
  scope : Scope
  dfl : List He.Dv := []
  clo : Bool := false
/-- the parts of a function; of a closure the names alone -/
def fnA (K : PySem.W.Frag) (a : Addr) (c : Bool) : He.FnW := match K.lookup a with
  | some ⟨_, _, .func q, _⟩ => some (q.name, q.qualname, q.params, q.body, q.scope, q.globals, (if c = true then q.closure.map fun p => (p.1, 0) else q.closure), q.builtins)
  | _ => none
def DX.val (d : DX) : He.FnW := some (d.name, d.qual, d.params, .stmts d.body, d.scope, mainGlobals, (if d.clo = true then [("__class__", 0)] else []), builtinsNs)
def DX.dvs (K : PySem.W.Frag) (d : DX) : List V := d.dfl.map (He.Dv.v K)
def DX.ok (K : PySem.W.Frag) (d : DX) : Bool := PySem.W.keepIn K (.ref (d.adr K)) && (match K.lookup (d.adr K) with
  | some ⟨_, _, .func q, _⟩ => PySem.W.codeIn K q.code d.qual && He.dflB K q.defaults (d.dvs K)
  | _ => false)
theorem DX.fun_ {K : PySem.W.Frag} {d : DX} (n : d.clo = false) (e : fnA K (d.adr K) d.clo = d.val) (c : d.ok K = true) : ∃ fd, FunD K d.name d.qual d.params d.body d.scope (d.dvs K) [] (d.adr K) fd := by
  have c0 := Bool.and_eq_true_iff.mp c
  have c1 := c0.2
  unfold fnA DX.val at e
  rw [n] at e
  simp only [Bool.false_eq_true, if_false] at e
  cases q : K.lookup (d.adr K) with
  | none => rw [q] at c1; cases c1
  | some o =>
    obtain ⟨oc, od, dt, osl⟩ := o
    rw [q] at c1 e
    cases dt with
    | func fd =>
      obtain ⟨m1, m2, m3, m4, m5, m6, m7, m8, m9, m10, m11, m12, m13, m14, m15⟩ := fd
      have e2 : (some (m1, m2, m3, m4, m5, m6, m7, m15) : He.FnW) = some (d.name, d.qual, d.params, .stmts d.body, d.scope, mainGlobals, [], builtinsNs) := e
      simp only [Option.some.injEq, Prod.mk.injEq] at e2
      obtain ⟨g1, g2, g3, g4, g5, g6, g7, g8⟩ := e2
      subst g1 g2 g3 g4 g5 g6 g7 g8
      have c2 := Bool.and_eq_true_iff.mp (show (PySem.W.codeIn K m13 d.qual && He.dflB K m8 (d.dvs K)) = true from c1)
      exact ⟨_, ⟨oc, od, m8, m9, m10, m11, m12, m13, m14, osl, rfl, q, c2.1, He.dflB_ok c2.2, .inl rfl⟩, c0.1⟩
    | _ => cases c1
/-- a def that names super(), as it stands -/
structure FunS (K : PySem.W.Frag) (x qual : Str) (params : Arguments) (body : List Stmt) (scope : Scope) (f : Addr) (fd : FuncData) (cc cda : Addr) : Prop where
  ex : ∃ (oc : Value) (od : Option Addr) (dV kV doc pm : Value) (an : Option Addr) (ct : Value) (osl : Array (Option Value)),
    fd = PySem.W.ksFn x qual params body scope dV kV doc pm an (.ref cda) ct cc ∧ K.lookup f = some ⟨oc, od, .func fd, osl⟩ ∧ PySem.W.codeIn K (.ref cda) qual = true ∧ DflV K dV []
  kp : PySem.W.keepIn K (.ref f) = true
def cellOf (K : PySem.W.Frag) (a : Addr) : Addr := match K.lookup a with
  | some ⟨_, _, .func q, _⟩ => (match q.closure with
    | (_, c) :: _ => c
    | _ => 0)
  | _ => 0
def codeOf (K : PySem.W.Frag) (a : Addr) : Addr := match K.lookup a with
  | some ⟨_, _, .func q, _⟩ => (match q.code with
    | .ref c => c
    | _ => 0)
  | _ => 0
theorem DX.funS_ {K : PySem.W.Frag} {d : DX} (n : d.clo = true) (nd : d.dvs K = []) (e : fnA K (d.adr K) d.clo = d.val) (c : d.ok K = true) : ∃ fd, FunS K d.name d.qual d.params d.body d.scope (d.adr K) fd (cellOf K (d.adr K)) (codeOf K (d.adr K)) := by
  have c0 := Bool.and_eq_true_iff.mp c
  have c1 := c0.2
  unfold fnA DX.val at e
  rw [n] at e
  simp only [if_true] at e
  unfold cellOf codeOf
  cases q : K.lookup (d.adr K) with
  | none => rw [q] at c1; cases c1
  | some o =>
    obtain ⟨oc, od, dt, osl⟩ := o
    rw [q] at c1 e
    cases dt with
    | func fd =>
      obtain ⟨m1, m2, m3, m4, m5, m6, m7, m8, m9, m10, m11, m12, m13, m14, m15⟩ := fd
      have e2 : (some (m1, m2, m3, m4, m5, m6, (m7.map fun p => ((p.1, 0) : Str × Addr)), m15) : He.FnW) = (some (d.name, d.qual, d.params, FuncBody.stmts d.body, d.scope, mainGlobals, [(("__class__" : Str), (0 : Addr))], builtinsNs) : He.FnW) := e
      simp only [Option.some.injEq, Prod.mk.injEq] at e2
      obtain ⟨g1, g2, g3, g4, g5, g6, g7, g8⟩ := e2
      have c2 := Bool.and_eq_true_iff.mp (show (PySem.W.codeIn K m13 d.qual && He.dflB K m8 (d.dvs K)) = true from c1)
      obtain ⟨cda, rfl⟩ : ∃ c, m13 = .ref c := by
        have := c2.1
        unfold PySem.W.codeIn at this
        split at this
        · exact ⟨_, rfl⟩
        · cases this
      have h7 : ∃ c, m7 = [(("__class__" : Str), c)] := by
        rcases m7 with _ | ⟨⟨z1, z2⟩, _ | ⟨y, m7⟩⟩
        · exact absurd (congrArg List.length g7) (by simp)
        · have g8 : z1 = ("__class__" : Str) := congrArg Prod.fst (List.cons.inj g7).1
          exact ⟨z2, by rw [g8]⟩
        · exact absurd (congrArg List.length g7) (by simp)
      obtain ⟨z2, h7⟩ := h7
      subst g1 g2 g3 g4 g5 g6 g8 h7
      have dd := He.dflB_ok c2.2
      rw [nd] at dd
      exact ⟨_, ⟨oc, od, m8, m9, m10, m11, m12, m14, osl, rfl, q, c2.1, dd⟩, c0.1⟩
    | _ => cases c1
abbrev AlM : Type := Bool × List He.FnW
def obsM (fa : List He.Fa) (fn : List DX) (ex : PySem.W.Frag → Bool) (K : PySem.W.Frag) : AlM := ((fa.all fun f => f.ok K) && ((fn.all fun d => d.ok K) && ex K), fn.map fun d => fnA K (d.adr K) d.clo)
def valM (fn : List DX) : AlM := (true, fn.map DX.val)
def SaysM (fa : List He.Fa) (fn : List DX) (ex : PySem.W.Frag → Bool) (K : PySem.W.Frag) : Prop := obsM fa fn ex K = valM fn
/-- the cells of closures, too, and the table of the statics -/
def asX (g : Addr → Option Obj) (n : Nat) : List Addr := cStatics :: (He.asD g n ++ (He.asD g n).flatMap fun a => match g a with
  | some ⟨_, _, .func q, _⟩ => q.closure.map fun p => p.2
  | _ => [])
def obsMG (n : Nat) (fa : List He.Fa) (fn : List DX) (ex : PySem.W.Frag → Bool) (g : Addr → Option Obj) : AlM := obsM fa fn ex (He.frG g (asX g n))
def hookM (n : Nat) (fa : List He.Fa) (fn : List DX) (ex : PySem.W.Frag → Bool) : PySem.W.Hook where
  α := AlM
  obs := fun s => obsMG n fa fn ex s.heap.get?
  val := fun _ => valM fn
  says := fun _ h => ∃ K : PySem.W.Frag, K.In h ∧ SaysM fa fn ex K
  of := fun _ _ e => ⟨_, He.frG_in, e⟩
  keeps := fun _ _ _ ⟨K, hK, c⟩ k => ⟨K, PySem.W.Frag.In.keeps hK k, c⟩
theorem obsMG_eq {n : Nat} {fa : List He.Fa} {fn : List DX} {ex : PySem.W.Frag → Bool} {g : Addr → Option Obj} {s : Shared} (h : ∀ a, g a = s.heap.get? a) : obsMG n fa fn ex g = (hookM n fa fn ex).obs s := by
  rw [show g = s.heap.get? from funext h] <;> rfl
section
variable {fa : List He.Fa} {fn : List DX} {ex : PySem.W.Frag → Bool} {K : PySem.W.Frag}
theorem SaysM.fact (c : SaysM fa fn ex K) (i : Nat) {f : He.Fa} (h : fa[i]? = some f := by rfl) : f.ok K = true :=
  List.all_eq_true.mp (Bool.and_eq_true_iff.mp (show ((fa.all fun f => f.ok K) && ((fn.all fun d => d.ok K) && ex K)) = true from congrArg Prod.fst c)).1 f (List.mem_of_getElem? h)
theorem SaysM.more (c : SaysM fa fn ex K) : ex K = true :=
  (Bool.and_eq_true_iff.mp (Bool.and_eq_true_iff.mp (show ((fa.all fun f => f.ok K) && ((fn.all fun d => d.ok K) && ex K)) = true from congrArg Prod.fst c)).2).2
theorem SaysM.look (c : SaysM fa fn ex K) (i : Nat) {d : DX} (h : fn[i]? = some d := by rfl) : fnA K (d.adr K) d.clo = d.val ∧ d.ok K = true := by
  have c2 := (Bool.and_eq_true_iff.mp (Bool.and_eq_true_iff.mp (show ((fa.all fun f => f.ok K) && ((fn.all fun d => d.ok K) && ex K)) = true from congrArg Prod.fst c)).2).1
  have e : fn.map (fun d => fnA K (d.adr K) d.clo) = fn.map DX.val := congrArg Prod.snd c
  have e2 : (fn.map fun d => fnA K (d.adr K) d.clo)[i]? = (fn.map DX.val)[i]? := by rw [e]
  rw [List.getElem?_map, List.getElem?_map, h] at e2
  exact ⟨Option.some.inj e2, List.all_eq_true.mp c2 d (List.mem_of_getElem? h)⟩
theorem SaysM.def_ (c : SaysM fa fn ex K) (i : Nat) {d : DX} (h : fn[i]? = some d := by rfl) (n : d.clo = false := by rfl) : ∃ fd, FunD K d.name d.qual d.params d.body d.scope (d.dvs K) [] (d.adr K) fd :=
  let ⟨e, c2⟩ := c.look i h
  DX.fun_ n e c2
theorem SaysM.defS (c : SaysM fa fn ex K) (i : Nat) {d : DX} (h : fn[i]? = some d := by rfl) (n : d.clo = true := by rfl) (nd : d.dvs K = [] := by rfl) : ∃ fd, FunS K d.name d.qual d.params d.body d.scope (d.adr K) fd (cellOf K (d.adr K)) (codeOf K (d.adr K)) :=
  let ⟨e, c2⟩ := c.look i h
  DX.funS_ n nd e c2
end
/-! facts beyond He.Fa, told by a Bool -/
/-- the property m of the class x: its object, its getter -/
def prA (x m : Str) (K : PySem.W.Frag) : Addr := He.ma K (He.ga K x) m
def prG (x m : Str) (K : PySem.W.Frag) : Addr := match PySem.W.recIn K (prA x m K) "property" with
  | some (.ref g :: _) => g
  | _ => 0
def propB (x m : Str) (K : PySem.W.Frag) : Bool := decide (PySem.W.findIn K (.ref (He.ga K x)) m = some (some (.ref (prA x m K)))) && (decide (PySem.W.specialIn K (.ref (prA x m K)) "__get__" = some (some (.builtin "property.__get__"))) &&
  (decide (PySem.W.takesIn K (.ref (prA x m K)) = some true) && (match PySem.W.recIn K (prA x m K) "property" with
    | some (.ref g :: _) => true
    | _ => false)))
theorem propB_ok {x m : Str} {K : PySem.W.Frag} (h : propB x m K = true) : PropOf K (He.ga K x) m (prA x m K) (prG x m K) := by
  obtain ⟨h1, h⟩ := Bool.and_eq_true_iff.mp h
  obtain ⟨h2, h⟩ := Bool.and_eq_true_iff.mp h
  obtain ⟨h3, h⟩ := Bool.and_eq_true_iff.mp h
  refine ⟨of_decide_eq_true h1, of_decide_eq_true h2, of_decide_eq_true h3, ?_⟩
  unfold prG
  split at h
  · rename_i g r e
    rw [e]
    exact ⟨_, rfl⟩
  · cases h
/-- an empty tuple stands at an address of the written part -/
def tup0B (K : PySem.W.Frag) (a : Addr) : Bool := match K.lookup a with
  | some ⟨.type c, _, .seq its _, _⟩ => decide (c = "tuple") && decide (its.size = 0)
  | _ => false
theorem tup0B_ok {K : PySem.W.Frag} {a : Addr} (h : tup0B K a = true) (H : Hp) : SqT K H a [] := by
  unfold tup0B at h
  split at h
  · rename_i c od its n sl e
    obtain ⟨h1, h2⟩ := Bool.and_eq_true_iff.mp h
    have h3 : its = #[] := Array.eq_empty_of_size_eq_zero (of_decide_eq_true h2)
    subst h3
    exact .inr ⟨_, #[], n, e, congrArg Value.type (of_decide_eq_true h1), rfl, by decide, .nil⟩
  · cases h
/-- an instance of the class may be called -/
def callB (x : Str) (K : PySem.W.Frag) : Bool := decide (PySem.W.findIn K (.ref (He.ga K x)) "__call__" = some (some (.ref (He.ma K (He.ga K x) "__call__")))) && (PySem.W.isFn K (.ref (He.ma K (He.ga K x) "__call__")) && PySem.W.fnIn K (He.ma K (He.ga K x) "__call__"))
theorem callB_ok {x : Str} {K : PySem.W.Frag} (h : callB x K = true) : StX.CallO K (He.ga K x) (He.ma K (He.ga K x) "__call__") := by
  obtain ⟨h1, h⟩ := Bool.and_eq_true_iff.mp h
  obtain ⟨h2, h3⟩ := Bool.and_eq_true_iff.mp h
  exact ⟨of_decide_eq_true h1, h2, h3⟩
/-- the class of an instance, for isinstance and ==: what TyOf asks -/
def insB (x : Str) (K : PySem.W.Frag) : Bool := decide (PySem.W.findIn K (.ref (He.ga K x)) "__class__" = some (some (.builtin "object.__class__"))) && (decide (PySem.W.specialIn K (.builtin "object.__class__") "__get__" = some (some (.builtin "getset_descriptor.__get__"))) &&
  (decide (PySem.W.takesIn K (.builtin "object.__class__") = some true) && decide (PySem.W.mroIn K (He.ga K x) (.type "object") = some true)))
theorem insB_ok {x : Str} {K : PySem.W.Frag} (h : insB x K = true) (c : Cls K (He.ga K x)) {H : Hp} {a dx : Addr} {fs : List (Str × V)} (e : H a = some (.ins (He.ga K x) dx fs)) : TyX K H (.ref a) (.ref (He.ga K x)) := by
  obtain ⟨h1, h⟩ := Bool.and_eq_true_iff.mp h
  obtain ⟨h2, h⟩ := Bool.and_eq_true_iff.mp h
  obtain ⟨h3, h4⟩ := Bool.and_eq_true_iff.mp h
  exact .base (.ins e c (of_decide_eq_true h1) (of_decide_eq_true h2) (of_decide_eq_true h3) (of_decide_eq_true h4))
/-- isinstance's answers of the class, == of others -/
def kitB (x : Str) (n : String) (b : Bool) (K : PySem.W.Frag) : Bool := decide (PySem.W.kitOne K (.type n) (.ref (He.ga K x)) = some b)
def kitSB (x : Str) (K : PySem.W.Frag) : Bool := decide (PySem.W.kitOne K (.ref (He.ga K x)) (.ref (He.ga K x)) = some true)
def nfB (x : Str) (n : String) (K : PySem.W.Frag) : Bool := PySem.W.notFirst K (He.ga K x) (.type n)
end M

/-! ### part I: a source of draws; frames -/
namespace M
open PySem PySem.Spec PyProof.Rows L2 Evl
/-- all but what stands at a is as it was -/
def Fr (a : Addr) (H H' : Hp) : Prop := ∀ b o, b ≠ a → H b = some o → H' b = some o
theorem Fr.refl (a : Addr) (H : Hp) : Fr a H H := fun _ _ _ h => h
theorem Fr.trans {a : Addr} {H H1 H2 : Hp} (x : Fr a H H1) (y : Fr a H1 H2) : Fr a H H2 := fun b o n h => y b o n (x b o n h)
theorem Fr.of {a : Addr} {H H' : Hp} (e : Ex H H') : Fr a H H' := fun b o _ h => e b o h
theorem Fr.upd {a : Addr} {H : Hp} {o : HO} : Fr a H (upd H a o) := fun b o n h => by rw [upd_ne n]; exact h
/-- a list of three: the digits that are left, the seed, the count -/
def SrcAt (H : Hp) (a : Addr) : Prop := ∃ d s c : Int, H a = some (.lst [.int d, .int s, .int c]) ∧ 0 ≤ d ∧ 0 ≤ s ∧ s < 2147483629 ∧ 0 ≤ c
theorem SrcAt.ex {H H' : Hp} {a : Addr} (e : Ex H H') (h : SrcAt H a) : SrcAt H' a := by
  obtain ⟨d, s, c, h1, h2⟩ := h
  exact ⟨d, s, c, e _ _ h1, h2⟩
theorem SrcAt.ne {H : Hp} {a b : Addr} (h : SrcAt H a) (n : H b = none) : b ≠ a := by
  obtain ⟨d, s, c, h1, _⟩ := h
  rintro rfl
  rw [n] at h1; cases h1
/-- a change of the source alone leaves the tuples -/
theorem Fr.tex {a : Addr} {H H' : Hp} (f : Fr a H H') (h : SrcAt H a) : TEx H H' := fun b xs q => by
  obtain ⟨d, s, c, h1, _⟩ := h
  have hb : b ≠ a := by
    rintro rfl
    rcases q with q | ⟨o', q⟩ <;> rw [h1] at q <;> cases q
  rcases q with q | ⟨o', q⟩
  · exact .inl (f b _ hb q)
  · exact .inr ⟨o', f b _ hb q⟩
theorem fr_t {K : PySem.W.Frag} {a b : Addr} {H H' : Hp} {xs : List V} (f : Fr a H H') (h : SrcAt H a) (s : SqT K H b xs) : SqT K H' b xs := tex_t (f.tex h) s
theorem fr_dp {K : PySem.W.Frag} {a : Addr} {H H' : Hp} {v : V} {d : PyData} (f : Fr a H H') (h : SrcAt H a) (hi : imm d = true) (s : Dp K H v d) : Dp K H' v d := dp_tex (f.tex h) hi s
section
variable {H : Hp} {v : V}
theorem r_set {p : Addr} {xs : List V} {k : Int} {j : Nat} {R : Hp → Prop} (h : H p = some (.lst xs)) (hj : ixN xs.length k = some j) (q : R (upd H p (.lst (xs.set j v)))) : rSetL (.ref p) (.int k) v H R := ⟨p, xs, k, j, rfl, rfl, h, hj, q⟩
theorem r_app {K : PySem.W.Frag} {p : Addr} {xs : List V} {Q : VK} (h : H p = some (.lst xs)) (hz : xs.length < sizeLine) (q : Q .non (upd H p (.lst (xs ++ [v])))) : rAppend (.ref p) [v] H Q := ⟨p, xs, v, rfl, rfl, h, hz, q⟩
end
/-- a built-in method of a list: its receiver stands -/
def BmI (K : PySem.W.Frag) (T : String) (r : V → List V → Hp → VK → Prop) (t : TA) (σ : L2.St) (x : V) (H1 : Hp) (Q : VK) : Prop := tyV K T x H1 ∧ t σ H1 fun xs H2 => r x xs H2 Q
theorem w_bm {K : PySem.W.Frag} {T : String} {r : V → List V → Hp → VK → Prop} {to : TE} {t : TA} {σ : L2.St} {H : Hp} {Q : VK} (h : to σ H fun x H1 => BmI K T r t σ x H1 Q) : tBM K T r to t σ H Q := h
theorem r_bmL {K : PySem.W.Frag} {r : V → List V → Hp → VK → Prop} {t : TA} {σ : L2.St} {p : Addr} {xs : List V} {H : Hp} {Q : VK} (h : SqL K H p xs) (q : t σ H fun vs H2 => r (.ref p) vs H2 Q) : BmI K "list" r t σ (.ref p) H Q := ⟨.inl ⟨rfl, xs, h⟩, q⟩
section
variable {H : Hp} {Q : VK}
theorem r_shr {i j : Int} (h0 : 0 ≤ j) (h : Q (.int (i / 2 ^ j.toNat)) H) : rShr (.int i) (.int j) H Q := ⟨i, j, rfl, rfl, h0, h⟩
theorem r_shl {i j : Int} (hc : CShl i j) (h : Q (.int (i * 2 ^ j.toNat)) H) : rShl (.int i) (.int j) H Q := ⟨i, j, rfl, rfl, hc, h⟩
theorem r_pow {i j : Int} (hc : CPow i j) (h : Q (.int (i ^ j.toNat)) H) : rPow (.int i) (.int j) H Q := ⟨i, j, rfl, rfl, hc, h⟩
end
end M

/-! ### part J: a def whose last statement is super().__init__(..) -/
namespace M
open PySem PySem.Spec PyProof.Rows L2 Evl
namespace MS
open NdefX ClX
theorem execs_app (a b : List Stmt) (env : Env) : execs (a ++ b) env = (do match ← execs a env with | .next => execs b env | f => pure f) := by
  induction a with
  | nil => rw [List.nil_append, execs_nil, pure_bind]
  | cons st a ih =>
    rw [List.cons_append, execs_cons, execs_cons, bind_assoc]
    congr 1
    funext f
    cases f with
    | next => exact ih
    | _ => rw [pure_bind]
/-- what super().__init__ needs of the text: the class at D, its cell cc, the code object cda, the next __init__ at f2 -/
structure SupOf (P : Program) (K : PySem.W.Frag) (mg : Str → Option Value) (D cc cda f2 : Addr) : Prop where
  cell : ∃ cl cld csl, K.lookup cc = some ⟨cl, cld, .cell (some (.ref D)), csl⟩
  cls : ∃ cd, PySem.W.clsIn K D = some cd
  sub : PySem.W.mroIn K D (.ref D) = some true
  code : ∃ ccl cdd vs ccs file tf, K.lookup cda = some ⟨ccl, cdd, .fields vs, ccs⟩ ∧ vs[2]? = some (.str file tf) ∧ ((P.main.file : Str) == file) = true
  gl : mg "super" = none
  any : PySem.W.nsIn K cStatics "thirdparty.any" = some none
  nx : PySem.W.ks_superIn K D D "__init__" = some (some (.ref f2))
  ty : PySem.W.typeIn K (.ref f2) = some (.type "function")
  fi : PySem.W.fnIn K f2 = true
  top : (P.main.scope.names.lookup ("super" : Str)).isSome = false
section
variable {X : Cx} {pins : List (Addr × Obj)} {σ : L2.St} {H : Hp} {s : Shared} {D cc cda f f2 x dx : Addr} {fs : List (Str × V)} {sp2 : Sp} {k2 : Nat} {R : Hp → Prop}
theorem super_stmt {pl : Sem Bool} {ta : TE} {body : List Stmt} {p0 p1 p2 p3 p4 : Pos} {arg : Expr} {fd : FuncData} {of : Obj} {ar : Arg} (U : SupOf X.prog X.K X.mg D cc cda f2) (F2 : FnR X.prog X.w X.K X.mg X.base CX0 k2 f2 sp2) (hr : Room k2 X.A)
    (hks : X.env.kindOf "super" = some .globalImplicit) (hkc : X.env.kindOf "__class__" = some .free) (hfu : X.env.func = some f) (hf : X.K.lookup f = some of) (hfd : of.data = .func fd)
    (hp : (fd.params.posonlyargs ++ fd.params.args).head? = some ar) (har : X.env.scope.names.lookup ar.arg = some .local) (hN : X.N[0]? = some ar.arg) (hco : X.env.code = .ref cda) (hcl : X.env.cells.lookup ("__class__" : Str) = some cc)
    (ha : PE X arg ta) (I : Inv X pins σ H s) (hσ : σ[0]? = some (some (.ref x))) (hx : H x = some (.ins D dx fs))
    (h : ta σ H fun v H2 => sp2 [.ref x, v] H2 (fun _ H3 => R H3) E0)
    (he : starEach [arg] X.env = (false, eval arg X.env) :: starEach [] X.env := by rfl) (hpl : (backTo p3 (starEach ([] : List Expr) X.env)).any (·.1) = false := by rfl)
    (ht : eval (.Call (.Attribute (.Call (.Name "super" p0) [] [] p1) "__init__" p2) [arg] [] p3) X.env = (do
      let ov ← attributeBase (.Call (.Name "super" p0) [] [] p1) "__init__" X.env (eval (.Call (.Name "super" p0) [] [] p1) X.env)
      standAt p2.atName
      let (f, first) ← holding [ov] (getMethod ov "__init__" pl)
      callWith p3 f first (backTo p3 (starEach [arg] X.env)) []) := by rfl)
    (hi : interactive X.env = false := by rfl) (hs : swapsWith (.Call (.Attribute (.Call (.Name "super" p0) [] [] p1) "__init__" p2) [arg] [] p3) none p4.line X.env = pure false := by rfl) :
    PySem.wpAt (model X.prog X.w) X.A (.func body X.env) (exec (.Expr (.Call (.Attribute (.Call (.Name "super" p0) [] [] p1) "__init__" p2) [arg] [] p3) p4) X.env) (fun fl s' => fl = .next ∧ ∃ H', Inv X pins σ H' s' ∧ R H') X.xe s := by
  obtain ⟨cl, cld, csl, hcell⟩ := U.cell
  obtain ⟨cd, hD⟩ := U.cls
  obtain ⟨ccl, cdd, vs, ccs, file, tf, hcode, hvs, hfile⟩ := U.code
  have KX := I.kIn
  obtain ⟨oD, hD1, hD2⟩ : ∃ oD, s.heap.get? D = some oD ∧ oD.data = .cls cd := by
    have hD' := hD
    unfold PySem.W.clsIn at hD'
    split at hD'
    · rename_i c d cd' sl ho
      cases hD'
      exact ⟨_, KX _ _ ho, rfl⟩
    · cases hD'
  obtain ⟨mA, O, _⟩ := ins_get I.hok hx
  obtain ⟨od, J, _⟩ := O.look
  refine ks_wpAt_Expr_any ?_ hi hs
  refine ks_wpAt_MethodCall (pl := pl) ?_ ht
  refine ks_wpAt_super_base (env := X.env) hks hkc rfl hfu (KX _ _ hf) hfd hp hco (KX _ _ hcode) rfl hvs hfile U.top ?_
  obtain ⟨mb, h1, h2⟩ := I.mod.blt
  refine PySem.W.ks_loadName_global I.ok.kind hks (Calls.loadGlobal_builtin (by rw [I.ok.glob]; exact I.mod.glob.keeps I.bk) U.gl (by rw [I.ok.blt]; exact h1.keeps I.bk) ((h2 "super" (by decide)).trans (by decide +kernel)) ⟨rfl, ?_⟩)
  refine wpAny_loadName_free I.ok.kind hkc hcl ⟨_, KX _ _ hcell, rfl⟩ ?_
  obtain ⟨m, hn, hl⟩ := id I.loc
  obtain ⟨u, ru, lo⟩ := hl 0 ar.arg (.ref x) hN hσ (.inl har)
  cases (show u = Value.ref x from ru)
  have hm : m ar.arg = some (.ref x) := by
    rcases lo with ⟨_, hm⟩ | ⟨hk, _⟩
    · exact hm
    · rcases hk with hk | hk
      · have : X.env.scope.names.lookup ar.arg = some .cell := hk
        rw [har] at this; cases this
      · have : X.env.scope.names.lookup ar.arg = some .free := hk
        rw [har] at this; cases this
  refine wpAny_loadName_local I.ok.kind har hn hm ?_
  refine ks_wpAny_isType_cls hD1 hD2 ⟨rfl, ?_⟩
  obtain ⟨hh, g, d, t, os⟩ := s
  refine ks_wpAny_call_super hD1 hD2 J.at_ J.cls (fun c e => ?_) (PySem.W.looks_mroIn KX U.sub) (fun h' e k => ?_)
  · have := J.no
    unfold PySem.W.notCls at this
    rw [e] at this
    exact Bool.noConfusion this
  have I1 := pin_new (t' := t) I k (Nat.le_refl _) e (fun v z => by cases z)
  have KX1 := I1.kIn
  have hnx := U.nx
  unfold PySem.W.ks_superIn at hnx
  rw [hD] at hnx
  obtain ⟨of2, hof, hofc⟩ : ∃ of, h'.get? f2 = some of ∧ of.cls = .type "function" := by
    have ht' : (X.K.lookup f2).map (·.cls) = some (.type "function") := U.ty
    cases z : X.K.lookup f2 with
    | none => rw [z] at ht'; cases ht'
    | some of => rw [z] at ht'; exact ⟨of, KX1 _ _ z, Option.some.inj ht'⟩
  refine ks_wpAny_getMethod_super (l₀ := cd.mro) e (PySem.W.looks_opaque KX1 U.any) ?_ rfl KX1 hnx hof hofc (PySem.W.ks_ne KX J hD) (by decide) ?_
  · exact fun A Q E s k q => wpAny_bind ((PySem.W.looks_clsIn KX1 hD) A _ E s k (wpAny_pure q))
  have I2 := met_new (g := f2) (C := x) I1
  have h' : tCons ta tNil σ H (fun vs H2 => sp2 (.ref x :: vs) H2 (fun _ H3 => R H3) E0) := h
  refine callwith_cm I2 (base_none I1 (Nat.le_refl _)) U.fi (thn ((pa_cons ha pa_nil he).run p3 _ _ σ H _ I2 h') fun us s3 ⟨vs', H2, I3, rv, q2⟩ => ⟨⟨pin_at I3, I3.kIn⟩, ?_⟩) he hpl
  refine thn (run_cm F2 hr pass0 I3 rv q2) fun u s4 ⟨w, H3, I4, _, q3⟩ => ⟨rfl, H3, unpin I4, q3⟩
end
/-- a def whose last statement is super().__init__(arg) keeps its promise -/
theorem fnsup {P : Program} {w : World} {K : PySem.W.Frag} {mg : Str → Option Value} {base : Heap} {name qual self : Str} {params : Arguments} {body pre : List Stmt} {scope : Scope} {f cc cda D f2 : Addr} {fd : FuncData} {N ps : List Str} {k k2 : Nat} {sp sp2 : Sp} {arg : Expr} {p0 p1 p2 p3 p4 : Pos} {ar : Arg}
    (F : FunS K name qual params body scope f fd cc cda) (U : SupOf P K mg D cc cda f2) (F2 : FnR P w K mg base CX0 k2 f2 sp2) (hk : k2 ≤ k)
    (hbody : body = pre ++ [.Expr (.Call (.Attribute (.Call (.Name "super" p0) [] [] p1) "__init__" p2) [arg] [] p3) p4])
    (S : NScope N (self :: ps) ["__class__"] scope) (hks : scope.names.lookup ("super" : Str) = some .globalImplicit)
    (hp : (params.posonlyargs ++ params.args).head? = some ar) (hs : ar.arg = self) (hN : N[0]? = some self)
    (len : ∀ vs H Q E, sp vs H Q E → vs.length = (self :: ps).length)
    (hgo : ∀ (A : Around) (outer : List Env) (s : Shared) (H : Hp) (vs : List V) (Q : VK) (E : XK), Room k (A.deeper (envF ⟨name, qual, params, body, scope, [("__class__", cc)], cda⟩ f s.heap.objs.size)) → sp vs H Q E →
      ∃ t ta, PSs (ncx CX0 P w K mg base N ⟨name, qual, params, body, scope, [("__class__", cc)], cda⟩ f A outer s H E).nox pre t ∧ PE (ncx CX0 P w K mg base N ⟨name, qual, params, body, scope, [("__class__", cc)], cda⟩ f A outer s H E).nox arg ta ∧
        t { nx := fun σ H' => ∃ x dx fs, σ[0]? = some (some (.ref x)) ∧ H' x = some (.ins D dx fs) ∧ ta σ H' fun v H2 => sp2 [.ref x, v] H2 (fun _ H3 => Q .non H3) E0, rt := fun _ _ => False } (startF N vs [some (.ref D)]) H)
    (hst : ∀ (X : Cx), starEach [arg] X.env = (false, eval arg X.env) :: starEach [] X.env := by intro _; rfl) (hpl : ∀ (X : Cx), (backTo p3 (starEach ([] : List Expr) X.env)).any (·.1) = false := by intro _; rfl)
    {pl : Cx → Sem Bool}
    (ht : ∀ (X : Cx), eval (.Call (.Attribute (.Call (.Name "super" p0) [] [] p1) "__init__" p2) [arg] [] p3) X.env = (do
      let ov ← attributeBase (.Call (.Name "super" p0) [] [] p1) "__init__" X.env (eval (.Call (.Name "super" p0) [] [] p1) X.env)
      standAt p2.atName
      let (f, first) ← holding [ov] (getMethod ov "__init__" (pl X))
      callWith p3 f first (backTo p3 (starEach [arg] X.env)) []) := by intro _; rfl)
    (hsw : ∀ (X : Cx), swapsWith (.Call (.Attribute (.Call (.Name "super" p0) [] [] p1) "__init__" p2) [arg] [] p3) none p4.line X.env = pure false := by intro _; rfl) :
    FnOk P w K mg base CX0 (k + 1) f fd (self :: ps) sp := by
  obtain ⟨oc, od, dV, kV, doc, pm, an, ct, osl, rfl, lk, hcd, _⟩ := F.ex
  refine ⟨len, fun A outer s H args us vs Q E hr e0 hb r hsp => ?_⟩
  have KX : K.In s.heap := e0.mod.kin.keeps fun b o e => (e0.bs b o e).1
  have hl := len _ _ _ _ hsp
  have lim : s.heap.NoLimit := e0.mod.nolimit.keeps fun b o e => (e0.bs b o e).1
  obtain ⟨cl, cld, csl, hcell⟩ := U.cell
  refine codeAny_call_function hr.depth (KX _ _ lk) rfl S.co S.gen rfl (PySem.W.codeRec_of KX hcd) (hb _ _ _ _ ?_)
  refine wpAny_newFunctionEnv S.nocell (fun ⟨n, _⟩ hy => S.par n (List.of_mem_zip hy).1) (fun h₁ hns hsb => ⟨lim.fresh _ hsb, ?_⟩) S.kind
  show codeAny _ _ (.func body (envF ⟨name, qual, params, body, scope, [("__class__", cc)], cda⟩ f s.heap.objs.size)) _ _
  refine ks_codeAny_funcAt ?_
  have kp : ∀ b o, s.heap.get? b = some o → h₁.get? b = some o := fun b o e => hsb.extBut b o (Nat.ne_of_lt (Heap.lt_size e)) (Heap.get?_push_of_some _ e)
  have hcc : H cc = none := (e0.bs _ _ (e0.mod.kin _ _ hcell)).2
  have look1 : ∀ y c, List.lookup y [(("__class__" : Str), cc)] = some c → y = "__class__" ∧ c = cc := fun y c e => by
    unfold List.lookup at e
    split at e
    · rename_i q
      cases e
      exact ⟨beq_iff_eq.mp q, rfl⟩
    · cases e
  have C : CellsAt [(("__class__" : Str), cc)] ["__class__"] [some (.ref D)] s.heap H := by
    refine ⟨rfl, fun y c e => ?_, fun x y c e e' => ?_, fun i y e => ?_⟩
    · obtain ⟨_, rfl⟩ := look1 y c e
      exact ⟨hcc, _, ⟨_, KX _ _ hcell, rfl⟩⟩
    · exact (look1 _ _ e).1.trans (look1 _ _ e').1.symm
    · rcases i with _ | i
      · cases e
        refine ⟨cc, by unfold List.lookup; rw [beq_self_eq_true], fun v e => ?_⟩
        cases e
        exact ⟨.ref D, rfl, ⟨_, KX _ _ hcell, rfl⟩⟩
      · cases e
  have hroom := hr.deeper (envF ⟨name, qual, params, body, scope, [("__class__", cc)], cda⟩ f s.heap.objs.size)
  obtain ⟨t, ta, h1, h2, h3⟩ := hgo A outer s H vs Q E hroom hsp
  have I : Inv (ncx CX0 P w K mg base N ⟨name, qual, params, body, scope, [("__class__", cc)], cda⟩ f A outer s H E) [] (startF N vs [some (.ref D)]) H { s with heap := h₁, toks := s.toks + ((self :: ps).zip us).length } := inv_startN S hr.hd e0 hl r C hns kp
  have ebody : execs body (envF ⟨name, qual, params, body, scope, [("__class__", cc)], cda⟩ f s.heap.objs.size) = execs (pre ++ [.Expr (.Call (.Attribute (.Call (.Name "super" p0) [] [] p1) "__init__" p2) [arg] [] p3) p4]) (envF ⟨name, qual, params, body, scope, [("__class__", cc)], cda⟩ f s.heap.objs.size) := congrArg (fun b => execs b _) hbody
  rw [ebody, execs_app]
  refine _root_.PySem.wpAt_bind (_root_.PySem.wpAt_of_wpAny (wpAny_mono (h1.nox.run [] _ _ H _ I h3) (fun fl s' hs' => ?_) fun e s' he => he))
  have fin : ∀ {σ' : L2.St} {H' : Hp} {v : V} {u : Value} {s' : Shared}, Inv (ncx CX0 P w K mg base N ⟨name, qual, params, body, scope, [("__class__", cc)], cda⟩ f A outer s H E) [] σ' H' s' → L2.RelV v u → Q v H' → CE outer P w H s Q u s' :=
    fun {σ' H' v u s'} J rv q => ⟨v, H', J.os, J.bare, J.base, J.hok, rv, q⟩
  cases fl with
  | ret u =>
    obtain ⟨_, _, _, _, _, q⟩ := hs'
    exact q.elim
  | next =>
    obtain ⟨σ', H', J, x, dx, fs, hσ, hx, hta⟩ := hs'
    refine ks_wpAt_execs_cons (ks_wpAt_mono (super_stmt (X := ncx CX0 P w K mg base N ⟨name, qual, params, body, scope, [("__class__", cc)], cda⟩ f A outer s H E) (f := f) (cda := cda) (cc := cc) (D := D) (R := fun H3 => Q .non H3) U F2 (hroom.mono hk) hks (S.frk _ List.mem_cons_self) rfl lk rfl hp (by rw [hs]; exact S.par _ List.mem_cons_self) (by rw [hs]; exact hN) rfl (by show List.lookup ("__class__" : Str) [(("__class__" : Str), cc)] = some cc; unfold List.lookup; rw [beq_self_eq_true]) h2.nox J hσ hx hta (hst _) (hpl _) (ht _) (by show interactive (envF ⟨name, qual, params, body, scope, [("__class__", cc)], cda⟩ f s.heap.objs.size) = false; unfold interactive; rw [show (envF ⟨name, qual, params, body, scope, [("__class__", cc)], cda⟩ f s.heap.objs.size).scope.kind = .function from S.kind]; first | rfl | decide) (hsw _)) (fun fl2 s2 h4 => ?_) fun e s2 h4 => h4)
    obtain ⟨rfl, H3, J3, q3⟩ := h4
    exact _root_.PySem.wpAt_of_wpAny (wpAny_pure (fin (v := .non) (u := Value.none) J3 rfl q3))
  | brk =>
    obtain ⟨_, _, _, q⟩ := hs'
    exact q.elim
  | cont =>
    obtain ⟨_, _, _, q⟩ := hs'
    exact q.elim
end MS
open MS
/-- what the text must have for super().__init__, told by a Bool -/
def cellB (K : PySem.W.Frag) (c D : Addr) : Bool := match K.lookup c with
  | some ⟨_, _, .cell (some (.ref d)), _⟩ => d == D
  | _ => false
theorem cellB_ok {K : PySem.W.Frag} {c D : Addr} (h : cellB K c D = true) : ∃ cl cld csl, K.lookup c = some ⟨cl, cld, .cell (some (.ref D)), csl⟩ := by
  unfold cellB at h
  split at h
  · rename_i e
    rw [beq_iff_eq.mp h] at e
    exact ⟨_, _, _, e⟩
  · cases h
def codeB (mf : Str) (K : PySem.W.Frag) (c : Addr) : Bool := match K.lookup c with
  | some ⟨_, _, .fields vs, _⟩ => (match (vs[2]? : Option Value) with
    | some (Value.str f _) => mf == f
    | _ => false)
  | _ => false
theorem codeB_ok {mf : Str} {K : PySem.W.Frag} {c : Addr} (h : codeB mf K c = true) : ∃ ccl cdd vs ccs file tf, K.lookup c = some ⟨ccl, cdd, .fields vs, ccs⟩ ∧ vs[2]? = some (.str file tf) ∧ (mf == file) = true := by
  unfold codeB at h
  split at h
  · rename_i e
    split at h
    · rename_i e2
      exact ⟨_, _, _, _, _, _, e, e2, h⟩
    · cases h
  · cases h
def someNone (o : Option (Option Value)) : Bool := match o with
  | some none => true
  | _ => false
theorem someNone_ok {o : Option (Option Value)} (h : someNone o = true) : o = some none := by
  unfold someNone at h
  split at h
  · rfl
  · cases h
def supB0 (mf : Str) (K : PySem.W.Frag) (D f f2 : Addr) : Bool := cellB K (cellOf K f) D && ((PySem.W.clsIn K D).isSome && (decide (PySem.W.mroIn K D (.ref D) = some true) && (codeB mf K (codeOf K f) && (someNone (PySem.W.nsIn K cStatics "thirdparty.any") &&
  (He.eqO (PySem.W.ks_superIn K D D "__init__") (some (some (.ref f2))) && (decide (PySem.W.typeIn K (.ref f2) = some (.type "function")) && PySem.W.fnIn K f2))))))
theorem supB0_ok {P : Program} {K : PySem.W.Frag} {mg : Str → Option Value} {D f f2 : Addr} (mf : Str) (pf : ((P.main.file : Str) == mf) = true) (top : (P.main.scope.names.lookup ("super" : Str)).isSome = false) (gl : mg "super" = none) (h : supB0 mf K D f f2 = true) : SupOf P K mg D (cellOf K f) (codeOf K f) f2 := by
  unfold supB0 at h
  simp only [Bool.and_eq_true] at h
  obtain ⟨h1, h2, h3, h4, h5, h6, h7, h8⟩ := h
  refine ⟨cellB_ok h1, Option.isSome_iff_exists.mp h2, of_decide_eq_true h3, ?_, gl, someNone_ok h5, He.eqO_ok h6, of_decide_eq_true h7, h8, top⟩
  rw [beq_iff_eq.mp pf]
  exact codeB_ok h4
theorem FunS.bindsN {K : PySem.W.Frag} {x qual : Str} {params : Arguments} {body : List Stmt} {scope : Scope} {f cc cda : Addr} {fd : FuncData} {ps : List Str} (F : FunS K x qual params body scope f fd cc cda)
    (h : ∀ (kV doc pm : Value) (an : Option Addr) (cdv ct : Value) (us : List Value), us.length = ps.length → bindArgs (PySem.W.ksFn x qual params body scope .none kV doc pm an cdv ct cc) ⟨us, []⟩ = pure (ps.zip us)) : Binds K fd ps [] := by
  obtain ⟨oc, od, dV, kV, doc, pm, an, ct, osl, rfl, lk, hcd, hD⟩ := F.ex
  rcases hD with ⟨_, rfl⟩ | ⟨e, _⟩
  · exact .all (h kV doc pm an (.ref cda) ct)
  · exact absurd rfl e
end M

/-! ### part K: the greatest of three ints, the least of a list, truth of an instance -/
namespace M
open PySem PySem.Spec PyProof.Rows L2 Evl
section
variable {X : Cx} {H : Hp} {Q : VK}
def rMax3U : List V → Hp → VK → Prop := fun xs H Q => ∃ i j k, xs = [.int i, .int j, .int k] ∧ Q (.int (max (max i j) k)) H
theorem xMax3 (hc : X.calm = true) : CallR X (.builtin "max") rMax3U := by
  intro pins s σ H xs us Q I r h
  obtain ⟨i, j, k, rfl, q⟩ := h
  have m2 : ∀ a b : Int, nuMax2 (.int a) (.int b) = some (.int (max a b)) := fun a b => by
    show Option.map _ (some (decide (a < b))) = _
    by_cases c : a < b
    · rw [decide_eq_true c, Int.max_eq_right (by omega)]; rfl
    · rw [decide_eq_false c, Int.max_eq_left (by omega)]; rfl
  exact call_max3Nu hc pins s σ H _ us Q I r ⟨_, _, _, _, rfl, by unfold nuMax3; rw [m2]; exact m2 _ _, q⟩
theorem r_max3 {i j k : Int} (q : Q (.int (max (max i j) k)) H) : rMax3U [.int i, .int j, .int k] H Q := ⟨i, j, k, rfl, q⟩
theorem kMinL (K : PySem.W.Frag) (hc : X.calm = true) (h : X.K = K := by rfl) : CallR X (.builtin "min") (rMin K) := by subst h; exact cr_min hc
theorem kMaxL (K : PySem.W.Frag) (hc : X.calm = true) (h : X.K = K := by rfl) : CallR X (.builtin "max") (rMax K) := by subst h; exact cr_max hc
theorem r_minL {K : PySem.W.Frag} {a : Addr} {ns : List Int} (h : SqL K H a (vI ns)) (hn : 0 < ns.length) (q : ∀ m, m ∈ ns → (∀ y, y ∈ ns → m ≤ y) → Q (.int m) H) : rMin K [.ref a] H Q := ⟨a, ns, rfl, h, hn, q⟩
theorem r_maxL {K : PySem.W.Frag} {a : Addr} {ns : List Int} (h : SqL K H a (vI ns)) (hn : 0 < ns.length) (q : ∀ m, m ∈ ns → (∀ y, y ∈ ns → y ≤ m) → Q (.int m) H) : rMax K [.ref a] H Q := ⟨a, ns, rfl, h, hn, q⟩
end
end M

/-! ### part L: static methods of a class -/
namespace M
open PySem PySem.Spec PyProof.Rows L2 Evl
def smF (x m : Str) (K : PySem.W.Frag) : Addr := match PySem.W.recIn K (He.ma K (He.ga K x) m) "staticmethod" with
  | some (.ref f :: _) => f
  | _ => 0
structure SMet (K : PySem.W.Frag) (C : Addr) (m : Str) (p g : Addr) : Prop where
  rd : ClX.CRead K C (.type "type")
  at_ : PySem.W.findCls K (.ref C) (.type "type") m = some (.get (.builtin "staticmethod.__get__") (.ref p) .none (.ref C))
  rc : ∃ rest, PySem.W.recIn K p "staticmethod" = some (.ref g :: rest)
  kp : PySem.W.keepIn K (.ref g) = true
def smB (x m : Str) (K : PySem.W.Frag) : Bool := (match PySem.W.findCls K (.ref (He.ga K x)) (.type "type") m with
    | some (.get (.builtin g) (.ref p) .none (.ref D)) => decide (g = "staticmethod.__get__") && (decide (p = He.ma K (He.ga K x) m) && decide (D = He.ga K x))
    | _ => false) && ((match PySem.W.recIn K (He.ma K (He.ga K x) m) "staticmethod" with
    | some (.ref _ :: _) => true
    | _ => false) && (PySem.W.keepIn K (.ref (smF x m K)) && (PySem.W.readsIn K (He.ga K x) (.type "type") && He.eqO (PySem.W.specialIn K (.ref (He.ga K x)) "__getattribute__") (some (some (.builtin "type.__getattribute__"))))))
theorem smB_ok {x m : Str} {K : PySem.W.Frag} (h : smB x m K = true) : SMet K (He.ga K x) m (He.ma K (He.ga K x) m) (smF x m K) := by
  obtain ⟨h1, h⟩ := Bool.and_eq_true_iff.mp h
  obtain ⟨h2, h⟩ := Bool.and_eq_true_iff.mp h
  obtain ⟨h3, h⟩ := Bool.and_eq_true_iff.mp h
  obtain ⟨h4, h5⟩ := Bool.and_eq_true_iff.mp h
  refine ⟨⟨h4, He.eqO_ok h5⟩, ?_, ?_, h3⟩
  · clear h2 h3
    split at h1
    · rename_i g p D e
      obtain ⟨k1, k⟩ := Bool.and_eq_true_iff.mp h1
      obtain ⟨k2, k3⟩ := Bool.and_eq_true_iff.mp k
      rw [e, of_decide_eq_true k1, of_decide_eq_true k2, of_decide_eq_true k3]
    · cases h1
  · unfold smF
    split at h2
    · rename_i f r e
      exact ⟨r, by rw [e]⟩
    · cases h2
/-- C.m(..), m a staticmethod of the class at C -/
def tSMeth (C : Addr) (sp : Sp) (E : XK) (ta : TE) (t : TA) : TE := fun σ H Q => ta σ H fun x H1 => x = .ref C ∧ t σ H1 fun vs H2 => sp vs H2 Q E
theorem w_smeth {C : Addr} {sp : Sp} {E : XK} {t : TA} {σ : L2.St} {H : Hp} {Q : VK} (h : t σ H fun vs H2 => sp vs H2 Q E) : tSMeth C sp E (tC (.ref C)) t σ H Q := ⟨rfl, h⟩
structure Stm (P : Program) (w : World) (K : PySem.W.Frag) (mg : Str → Option Value) (base : Heap) (k : Nat) (C : Addr) (m : Str) (sp : Sp) : Prop where
  ex : ∃ (p g : Addr) (fd : FuncData) (ps : List Str), SMet K C m p g ∧ FnOk P w K mg base CX0 k g fd ps sp ∧ Binds K fd ps []
section
variable {X : Cx} {CX : CXT} {k j : Nat} {C p g : Addr} {sp : Sp} {E : XK} {o e : Expr} {es : List Expr} {m : Str} {pos apos : Pos} {ta : TE} {t : TA} {pl : Sem Bool}
theorem pe_smeth (he : PE X o ta) (c : SMet X.K C m p g) (F : FnR X.prog X.w X.K X.mg X.base CX k g sp) (hr : Room k X.A) (hx : Passes CX X E) (ha : PA X (e :: es) t)
    (hst : starEach (e :: es) X.env = (false, eval e X.env) :: starEach es X.env := by rfl) (hpl : (backTo pos (starEach es X.env)).any (·.1) = false := by rfl)
    (ht : eval (.Call (.Attribute o m apos) (e :: es) [] pos) X.env = (do
      let ov ← eval o X.env
      standAt apos.atName
      let (f, first) ← holding [ov] (getMethod ov m pl)
      callWith pos f first (backTo pos (starEach (e :: es) X.env)) (backToKw pos (keywordEach [] X.env))) := by rfl) :
    PE X (.Call (.Attribute o m apos) (e :: es) [] pos) (tSMeth C sp E ta t) := by
  refine ⟨fun pins s σ H Q I h => ?_⟩
  refine PySem.W.methodCall_KW (pl := pl) (thn (he.run pins s σ H _ I h) fun u s1 ⟨x, H1, I1, rx, ex, q⟩ => ?_) ht
  subst ex
  obtain rfl : u = Value.ref C := rx
  obtain ⟨rest, hp⟩ := c.rc
  refine PySem.W.method_cls I1.kIn c.rd.ga (PySem.W.cls_bind I1.kIn c.rd.rd c.at_ ?_)
  refine wpAny_call (PySem.W.sm_get (s := { s1 with toks := s1.toks + 1 }) I1.kIn hp (PySem.W.handed_on rfl ?_))
  have I2 := I1.tok (s1.toks + 1)
  refine PySem.W.callWith_K (h₀ := X.base) I.ok.mod.kin c.kp (thn (ha.run pos pins _ σ H1 _ I2 q) fun us s3 ⟨vs, H2, I3, rv, q2⟩ => ⟨I3.kIn, ?_⟩) hst hpl
  exact wpAny_call (run_fnR F hr hx I3 rv q2)
theorem psm (c : Stm X.prog X.w X.K X.mg X.base k C m sp) (hr : Room j X.A) (hk : k ≤ j) (he : PE X o ta) (ha : PA X (e :: es) t)
    (hst : starEach (e :: es) X.env = (false, eval e X.env) :: starEach es X.env := by rfl) (hpl : (backTo pos (starEach es X.env)).any (·.1) = false := by rfl)
    (ht : eval (.Call (.Attribute o m apos) (e :: es) [] pos) X.env = (do
      let ov ← eval o X.env
      standAt apos.atName
      let (f, first) ← holding [ov] (getMethod ov m pl)
      callWith pos f first (backTo pos (starEach (e :: es) X.env)) (backToKw pos (keywordEach [] X.env))) := by rfl) :
    PE X (.Call (.Attribute o m apos) (e :: es) [] pos) (tSMeth C sp E0 ta t) := by
  obtain ⟨p, g, fd, ps, sm, F, hb⟩ := c.ex
  exact pe_smeth (pl := pl) he sm ((F.raw hb .nil).imp fun vs H Q E h => by rw [List.append_nil]; exact h) (hr.mono hk) pass0 ha hst hpl ht
end
end M

namespace M
open PySem PySem.Spec PyProof.Rows L2 Evl MS
--@import HandS.Text
--@import HandS.Iter
--@import HandS.Walk
/-! texts: comparing, joining, splitting, reading and writing numbers, walking the signs -/
def rLeU : R2 := fun x y H Q => rI0 (fun i j => .bl (decide (i ≤ j))) x y H Q ∨ ∃ i j, x = .str i ∧ y = .str j ∧ Q (.bl (!decide (j.cps.toList < i.cps.toList))) H
theorem xLeS {X : Cx} : OpR X (compareOp .LtE) rLeU := op_le.or op_le_str
def rJoin (K : PySem.W.Frag) : V → List V → Hp → VK → Prop := fun x xs H Q => ∃ a p, ∃ ys : List Str, x = .str a ∧ xs = [.ref p] ∧ (SqL K H p (ys.map V.str) ∨ SqT K H p (ys.map V.str)) ∧ (ys.map (·.length)).sum + ys.length * a.length ≤ 16777216 ∧ Q (.str (Txt.join a ys)) H
def rSplit : V → List V → Hp → VK → Prop := fun x xs H Q => ∃ a b, x = .str a ∧ xs = [.str b] ∧ (b.length == 0) = false ∧ a.length + 2 ≤ sizeLine ∧ rNewStrs (Txt.split a b) H Q
section
variable {X : Cx} {o e : Expr} {to te : TE} {apos pos : Pos}
theorem kJoin (K : PySem.W.Frag) (ho : PE X o to) (he : PE X e te) (hs : starEach [e] X.env = [(false, eval e X.env)] := by rfl) (hbase : attributeBase o "join" X.env (eval o X.env) = eval o X.env := by rfl) (hline : (apos.endLine == pos.line) = true := by rfl) (h : X.K = K := by rfl) :
    PE X (.Call (.Attribute o "join" apos) [e] [] pos) (tM1 (rJoin K) to te) := by subst h; exact pe_join ho he hs hbase hline
theorem xSplit (ho : PE X o to) (he : PE X e te) (hs : starEach [e] X.env = [(false, eval e X.env)] := by rfl) (hbase : attributeBase o "split" X.env (eval o X.env) = eval o X.env := by rfl) (hline : (apos.endLine == pos.line) = true := by rfl) :
    PE X (.Call (.Attribute o "split" apos) [e] [] pos) (tM1 rSplit to te) := pe_split ho he hs hbase hline
end
def rIntS : List V → Hp → VK → Prop := fun xs H Q => ∃ a n, xs = [.str a] ∧ PySem.intText? a = some n ∧ a.length ≤ 640 ∧ Q (.int n) H
theorem xIntS {X : Cx} : CallR X (.type "int") rIntS := call_int_str
def rStrI : List V → Hp → VK → Prop := fun xs H Q => ∃ i, xs = [.int i] ∧ i.natAbs.log2 < 1920 ∧ Q (.str (toString i)) H
theorem xStrI {X : Cx} : CallR X (.type "str") rStrI := call_str_int
def rLenS : List V → Hp → VK → Prop := fun xs H Q => ∃ z, xs = [.str z] ∧ z.length ≤ sizeLine ∧ Q (.int z.length) H
theorem xLenS {X : Cx} : CallR X (.builtin "len") rLenS := call_len_str
theorem kFldAug (K : PySem.W.Frag) {X : Cx} {o value : Expr} {f : Str} {op : Operator} {pos tpos : Pos} {ta tv : TE} {rd : V → V → Hp → VK → Prop} (ha : PE X o ta) (hv : PE X value tv) (hop : InOp X op rd) (h : X.K = K := by rfl) : PS X (.AugAssign (.Attribute o f tpos) op value pos) (sFldAug K ta tv rd f) := by
  subst h
  exact ps_fldaug ha hv hop
section
variable {K : PySem.W.Frag} {H : Hp} {Q : VK} {σ : L2.St}
theorem r_leUI {i j : Int} (h : Q (.bl (decide (i ≤ j))) H) : rLeU (.int i) (.int j) H Q := .inl ⟨i, j, rfl, rfl, h⟩
theorem r_leUS {i j : Str} (h : Q (.bl (!decide (j.cps.toList < i.cps.toList))) H) : rLeU (.str i) (.str j) H Q := .inr ⟨i, j, rfl, rfl, h⟩
theorem w_m1 {r : V → List V → Hp → VK → Prop} {to te : TE} (h : to σ H fun x H1 => (∃ a, x = .str a) ∧ te σ H1 fun y H2 => r x [y] H2 Q) : tM1 r to te σ H Q := h
theorem r_joinL {a : Str} {p : Addr} {ys : List Str} (h : SqL K H p (ys.map V.str)) (hz : (ys.map (·.length)).sum + ys.length * a.length ≤ 16777216) (q : Q (.str (Txt.join a ys)) H) : rJoin K (.str a) [.ref p] H Q := ⟨a, p, ys, rfl, rfl, .inl h, hz, q⟩
theorem r_split {a b : Str} (hb : (b.length == 0) = false) (hz : a.length + 2 ≤ sizeLine) (q : ∀ p H1, H p = none → Ex H H1 → H1 p = some (.lst ((Txt.split a b).map V.str)) → Q (.ref p) H1) : rSplit (.str a) [.str b] H Q :=
  ⟨a, b, rfl, rfl, hb, hz, fun p hp => q p _ hp (Ex.new hp) upd_same⟩
theorem r_strI {i : Int} (hz : i.natAbs.log2 < 1920) (q : Q (.str (toString i)) H) : rStrI [.int i] H Q := ⟨i, rfl, hz, q⟩
theorem r_intS {a : Str} {n : Int} (hn : PySem.intText? a = some n) (hz : a.length ≤ 640) (q : Q (.int n) H) : rIntS [.str a] H Q := ⟨a, n, rfl, hn, hz, q⟩
theorem r_lenS {a : Str} (hz : a.length ≤ sizeLine) (q : Q (.int a.length) H) : rLenS [.str a] H Q := ⟨a, rfl, hz, q⟩
theorem r_ixS {z : Str} {i : Int} {c : Nat} (hz : z.length ≤ sizeLine) (ha : atI z.cps.toList i = some c) (q : Q (.str ⟨#[c]⟩) H) : rIx K (.str z) (.int i) H Q := .inr (.inr ⟨z, i, c, rfl, rfl, hz, ha, q⟩)
theorem w_fldAug {a C dx dx' : Addr} {fs fs' : List (Str × V)} {ta tv : TE} {rd : V → V → Hp → VK → Prop} {f : Str} {D : Ends}
    (h : ta σ H fun x H1 => ∃ a C dx fs v, x = .ref a ∧ H1 a = some (.ins C dx fs) ∧ Cls K C ∧ NoAttr K C f ∧ fs.lookup f = some v ∧ tv σ H1 fun y H2 => rd v y H2 fun z H3 => ∃ dx' fs', H3 a = some (.ins C dx' fs') ∧ fs'.length < 1000 ∧ D.nx σ (upd H3 a (.ins C dx' (putF f z fs')))) : sFldAug K ta tv rd f D σ H := h
theorem i_str {te : TE} {R : It → Hp → Prop} (h : te σ H fun v H1 => ∃ x, v = .str x ∧ R (Its x) H1) : iStr te σ H R := h
/-- a comprehension over a text's signs -/
theorem lcJ_str {z : Str} {j : Nat} {te : TE} {vs : List Nat} (v : Nat → V) (hn : z.cps.size ≤ 100000) (σ' : V → L2.St) (hσ : ∀ x, (wipe σ vs).set j (some x) = σ' x) (hw : ∀ x, wipe ((wipe σ vs).set j (some x)) vs = wipe σ vs)
    (he : ∀ (c : Nat) (H1 : Hp) (Q' : VK), Ex H H1 → c ∈ z.cps.toList → (∀ H2, Ex H1 H2 → Q' (v c) H2) → te (σ' (.str ⟨#[c]⟩)) H1 Q')
    (hq : ∀ p H2, H p = none → Ex H H2 → H2 p = some (.lst (z.cps.toList.map v)) → Q (.ref p) H2) : LcJ (Its z) (gName j) tYes te vs σ H Q := fun D hD => by
  have hsz : z.cps.toList.length = z.cps.size := Array.length_toList
  have key := lc_it (J := Its z) (n := z.cps.size) (G := fun _ => True) (Y := fun i H x H' => H' = H ∧ ∃ c, z.cps[i]? = some c ∧ x = .str ⟨#[c]⟩) ⟨fun _ _ hi _ => hi, fun _ _ => Nat.le_refl _, fun _ _ _ _ _ _ y => y⟩
    (g := gName j) (tt := tYes) (te := te) (vs := vs) (σ := σ) (H1 := H) (D := D) (Qd := Q (.ref D)) (fun i H' => Ex H H' ∧ H' D = some (.lst ((z.cps.toList.take i).map v))) ⟨Ex.new hD, upd_same⟩ (fun _ _ _ _ => trivial) ?_ (fun H' p => hq D H' hD p.1 (by
      have e := p.2
      rwa [← hsz, List.take_length] at e))
  · exact key
  · rintro i x H' H'' hi p ⟨rfl, c, hc, rfl⟩
    refine ⟨hw _, ?_⟩
    show te ((wipe σ vs).set j _) H'' _
    rw [hσ]
    have hcl : z.cps.toList[i]? = some c := by rw [Array.getElem?_toList]; exact hc
    refine he c H'' _ p.1 (List.mem_of_getElem? hcl) fun H2 e2 => ⟨(z.cps.toList.take i).map v, e2 D _ p.2, sz_lt (by rw [List.length_map, List.length_take]; omega), Ex.mut (p.1.trans e2) hD, ?_⟩
    rw [List.take_add_one, hcl, List.map_append]
    exact upd_same
end

end M
namespace M
open PySem PySem.Spec PyProof.Rows L2 Evl MS
--@import HandS.Deep
--@import KE.DataFind
/-! t.count(x) of a tuple; x in t of a tuple, by data -/
def rCountT (K : PySem.W.Frag) : V → List V → Hp → VK → Prop := fun x xs H Q => ∃ (a : Addr) (y : V) (d : PyData) (ds : List PyData), x = V.ref a ∧ xs = [y] ∧ Dp K H (V.ref a) (.tuple ds) ∧ Dp K H y d ∧ SeqAt.shaped (.tuple ds) = true ∧ SeqAt.shaped d = true ∧ Q (.int ((ds.countP fun z => PyData.eqv z d : Nat) : Int)) H
theorem mt_countT {X : Cx} (hu : X.A.units + 65 < cLine) : MtR X "tuple.count" (rCountT X.K) := by
  intro pins s σ H x xs v us Q I rx rxs h
  obtain ⟨a, y, d, ds, rfl, rfl, hl, hy, sl, sd, q⟩ := h
  cases rx
  cases rxs with
  | cons ry rt =>
    rename_i uy ut
    cases rt
    obtain ⟨bs, r1⟩ := Dp.reads I d y uy hy ry
    have hxs : PyData.canLayAll0 ds = true := SeqAt.canLay_of_shaped sl
    have hroom : X.A.units + 1 + min (PyData.depthAll ds) d.depth < cLine := by
      have := SeqAt.depth_of_shaped sd
      omega
    cases hl with
    | tup hs ha =>
      obtain ⟨its, rv, p, hlen⟩ := I.tuple hs
      obtain ⟨as, h4⟩ := Dp.readsAll I ds _ its ha rv
      exact SeqAt.count_tuple_data p (show ReadsAll s.heap its.toArray.toList ds as from h4) r1 (PyData.plainAll_of_canLay0 ds hxs) (PyData.plain_of_canLay0 d (SeqAt.canLay_of_shaped sd)) hroom ⟨.int _, H, I.tok _, ⟨_, rfl⟩, q⟩
theorem kCountT (K : PySem.W.Frag) {X : Cx} {j : Nat} (hr : Room j X.A) (h : X.K = K := by rfl) : MtR X "tuple.count" (rCountT K) := by subst h; exact mt_countT (by have := hr.un; omega)
def rInT (K : PySem.W.Frag) : R2 := fun x y H Q => ∃ d ds, Dp K H x d ∧ Dp K H y (.tuple ds) ∧ SeqAt.shaped d = true ∧ SeqAt.shaped (.tuple ds) = true ∧ Q (.bl (ds.any fun z => PyData.eqv z d)) H
theorem op_inT {X : Cx} (hu : X.A.units + 65 < cLine) : OpR X (compareOp .In) (rInT X.K) := by
  intro pins s σ H x y v u Q I rx ry h
  obtain ⟨d, ds, hd, he, sd, se, q⟩ := h
  obtain ⟨as, r1⟩ := Dp.reads I d x v hd rx
  obtain ⟨bs, r2⟩ := Dp.reads I (.tuple ds) y u he ry
  exact SeqAt.in_tuple_reads r2 r1 (SeqAt.canLay_of_shaped se) (SeqAt.canLay_of_shaped sd) (room_in_shaped sd hu) ⟨.bl _, H, I, rfl, q⟩
theorem kInT (K : PySem.W.Frag) {X : Cx} {j : Nat} (hr : Room j X.A) (h : X.K = K := by rfl) : OpR X (compareOp .In) (rInT K) := by subst h; exact op_inT (by have := hr.un; omega)

end M
namespace M
open PySem PySem.Spec PyProof.Rows L2 Evl MS
--@import HandS.ExcOwn
/-! an instance made inside try, where what its __init__ raises is wished for at the caller's slots -/
section
variable {X : Cx} {CX : CXT} {k j : Nat} {f C : Addr} {fd : FuncData} {ps : List Str} {sp : Sp} {E : L2.St → XK} {W : WX} {x : Str} {ds : List Value} {dvs : List V} {p pos : Pos} {e : Expr} {es : List Expr} {t : TA}
theorem run_makeS {pins : List (Addr × Obj)} {σ : L2.St} {H : Hp} {s : Shared} {Q : VK} {us : List Value} {vs : List V} (M : Mk X.K C f) (F : FnOk X.prog X.w X.K X.mg X.base CX k f fd ps sp) (hr : Room (k + 1) X.A) (hb : Binds X.K fd ps ds) (hd : Vals dvs ds)
    (hx : PassesAt CX X σ (E σ)) (I : Inv X pins σ H s) (r : Vals vs us)
    (h : ∀ x dx, H x = none → H dx = none → dx ≠ x → sp (.ref x :: (vs ++ dvs)) (upd (upd H dx (.own x)) x (.ins C dx [])) (fun v H2 => v = .non ∧ Q (.ref x) H2) (E σ)) :
    wpAny (model X.prog X.w) X.A (call (.ref C) us) (EP X pins σ Q) X.xe s := by
  have hq := h (s.heap.objs.size + 1) s.heap.objs.size (I.hok.fresh (Nat.le_succ _)) (I.hok.fresh (Nat.le_refl _)) (Nat.ne_of_lt (Nat.lt_succ_self _))
  have I2 := Inv.made (C := C) I
  have r2 : Vals (V.ref (s.heap.objs.size + 1) :: (vs ++ dvs)) (Value.ref (s.heap.objs.size + 1) :: (us ++ ds)) := .cons rfl (r.append hd)
  have hl : (Value.ref (s.heap.objs.size + 1) :: us ++ ds).length = ps.length := by
    have e := r2.length
    rw [F.len _ _ _ _ hq] at e
    exact e.symm
  refine wpAny_call (make_map (f := f) I.kIn M.makes M.init (beq_iff_eq.mp M.fn) (codeAny_mono (F.run _ X.stack _ _ ⟨Value.ref (s.heap.objs.size + 1) :: us, []⟩ (Value.ref (s.heap.objs.size + 1) :: (us ++ ds)) _ _ (E σ) (hr.make C us [])
    (I2.env0.make C us []) (hb _ (Value.ref (s.heap.objs.size + 1) :: us) I2.kIn hl) r2 hq) fun r s' hq' => ?_))
  cases r with
  | error e => exact hx pins _ _ e s' I2 hq'
  | ok fl =>
    cases fl with
    | ret u =>
      obtain ⟨v, H', I3, rv, ev, q3⟩ := I2.after hq'
      subst ev
      exact ⟨rv, ⟨V.ref (s.heap.objs.size + 1), H', I3, rfl, q3⟩⟩
    | next => exact False.elim hq'
    | brk => exact False.elim hq'
    | cont => exact False.elim hq'
def tMakeS (C : Addr) (sp : Sp) (dvs : List V) (W : WX) (t : TA) : TE := fun σ H Q => t σ H fun vs H1 => ∀ x dx, H1 x = none → H1 dx = none → dx ≠ x → sp (.ref x :: (vs ++ dvs)) (upd (upd H1 dx (.own x)) x (.ins C dx [])) (fun v H2 => v = .non ∧ Q (.ref x) H2) (WE W σ)
theorem pmkS (c : Mkc X.prog X.w X.K X.mg X.base (L2.CX X.prog X.w) k x C sp dvs) (hr : Room j X.A) (hk : k + 1 ≤ j) (tk : Takes X W) (hg : Gl X x) (ha : PA X (e :: es) t)
    (hdb : (x == ("__debug__" : Str)) = false := by decide) (he : starEach (e :: es) X.env = (false, eval e X.env) :: starEach es X.env := by rfl) (hpl : (backTo pos (starEach es X.env)).any (·.1) = false := by rfl) :
    PE X (.Call (.Name x p) (e :: es) [] pos) (tMakeS C sp dvs W t) := by
  obtain ⟨f, fd, ps, ds, M, F, hm, hb, hd⟩ := c.ex
  refine ⟨fun pins s σ H Q I h => ?_⟩
  refine wpAny_Call_Name_kw (ld_glob I hg hm ?_ hdb)
  refine PySem.W.callWith_K (h₀ := X.base) I.ok.mod.kin M.kp (thn (ha.run pos pins s σ H _ I h) fun us s1 ⟨vs, H1, I1, r, q⟩ => ⟨I1.kIn, ?_⟩) he hpl
  exact run_makeS (E := WE W) M F (hr.mono hk) hb hd (passAt tk σ) I1 r q
theorem w_makeS {σ : L2.St} {H : Hp} {Q : VK} (h : t σ H fun vs H1 => ∀ x dx, H1 x = none → H1 dx = none → dx ≠ x → sp (.ref x :: (vs ++ dvs)) (upd (upd H1 dx (.own x)) x (.ins C dx [])) (fun v H2 => v = .non ∧ Q (.ref x) H2) (WE W σ)) : tMakeS C sp dvs W t σ H Q := h
end

end M
namespace M
open PySem PySem.Spec PyProof.Rows L2 Evl MS
--@import HandS.ExcInit
--@import HandS.ExcField
--@import HandS.ExcOwn
--@import HandS.TryMany
--@import KE.KExcSuper
/-! own exceptions whose __init__ begins with super().__init__(..) -/
namespace XS
open NdefX ClX
/-- what super() asks of the text: D the class around the def, cc its cell, cda the def's code -/
structure SupX (P : Program) (K : PySem.W.Frag) (mg : Str → Option Value) (D cc cda : Addr) : Prop where
  cell : ∃ cl cld csl, K.lookup cc = some ⟨cl, cld, .cell (some (.ref D)), csl⟩
  cls : ∃ cd, PySem.W.clsIn K D = some cd
  code : ∃ ccl cdd vs ccs file tf, K.lookup cda = some ⟨ccl, cdd, .fields vs, ccs⟩ ∧ vs[2]? = some (.str file tf) ∧ ((P.main.file : Str) == file) = true
  gl : mg "super" = none
  any : PySem.W.nsIn K cStatics "thirdparty.any" = some none
  top : (P.main.scope.names.lookup ("super" : Str)).isSome = false
/-- what the instance's class C has: D above it, and ValueError's __init__ behind D -/
structure SupC (K : PySem.W.Frag) (D C : Addr) : Prop where
  sub : PySem.W.mroIn K C (.ref D) = some true
  nx : PySem.W.ks_superIn K C D "__init__" = some (some (.builtin "ValueError.__init__"))
  ve : PySem.W.subIn K (.ref C) (.type "ValueError") = some true
section
variable {X : Cx} {pins : List (Addr × Obj)} {σ : L2.St} {H : Hp} {s : Shared} {D C cc cda f x u : Addr} {R : Hp → Prop}
/-- the bound __init__ called: nothing that is told changes -/
theorem call_mw {A : Around} {E : Value → Shared → Prop} {us : List Value} {Q : Value → Shared → Prop} (T : OexC X.K C) (I : Inv X pins σ H s) (hx : H x = some (exo x C none)) (hu : s.heap.get? u = some (PySem.W.kxs_mw "ValueError.__init__" x)) (hl : us.length ≤ sizeLine)
    (h : ∀ s', Inv X pins σ H s' → Q .none s') : wpAny (model X.prog X.w) A (call (.ref u) us) Q E s := by
  obtain ⟨nm, q, N, bs, bm, sn, sub, ab, col, dd, k0, k1, k2, k3, k5, hC, _⟩ := T.cls
  obtain ⟨t1, ho⟩ := exo_at I.hok hx
  obtain ⟨hp, g, d, t, os⟩ := s
  refine wpAny_call (codeAny_of_tree ?_)
  show wpAny _ A.in1 (callAny (.ref u) ⟨us, []⟩) _ _ _
  simp only [callAny]
  refine wpAny_bind (wpAny_load hu ?_)
  simp only [PySem.W.kxs_mw]
  rw [if_pos (by decide)]
  refine PySem.W.KFB.if_so (by decide) (wpAny_bind (PySem.W.check_bound_init F.excBase_ValueError.toExcCallFacts (I.kIn _ _ hC) ho rfl ?_))
  refine wpAny_bind (wpAny_pure (wpAny_pure ⟨PySem.plainId_quiet F.excBase_ValueError.init.plain _, codeAny_builtin F.excBase_ValueError.initEntry ?_⟩))
  refine PySem.W.exc_init_tree (cls := .ref C) (t0 := t1) (dv := none) (c2 := .none) (c3 := .none) (b4 := .bool false) ho hl fun h' k hx' _ => ?_
  have J := I.write (t' := t) (x := x) (e := x) (o := exo x C none) (by rw [hx]; exact True.intro) (.inl rfl) k ⟨_, hx'⟩ (exo_ok hx')
  have eu : upd H x (exo x C none) = H := funext fun b => by
    by_cases hb : b = x
    · rw [hb, upd_same, hx]
    · exact upd_ne hb
  rw [eu] at J
  exact h _ J
theorem mw_call1 {M : Model} {A : Around} {E : Value → Shared → Prop} {s : Shared} {pos : Pos} {env : Env} {e : Expr} {rest : List Expr} {Q : Value → Shared → Prop} {i : String}
    (h : wpAny M A (spliced (backTo pos (starEach (e :: rest) env))) (fun vs s₁ => PySem.W.KxsAt i u x s₁.heap ∧ wpAny M A (call (.ref u) vs) Q E s₁) E s)
    (he : starEach (e :: rest) env = (false, eval e env) :: starEach rest env) (hpl : (backTo pos (starEach rest env)).any (·.1) = false) : wpAny M A (callWith pos (.ref u) [] (backTo pos (starEach (e :: rest) env)) []) Q E s := by
  rw [he] at h ⊢
  exact PySem.W.kxs_callWith (i := i) (x := x) (by show (false || (backTo pos (starEach rest env)).any (·.1)) = false; rw [hpl]; rfl) (PySem.Calls.evalArgs_plain h)
theorem super_exc {pl : Sem Bool} {ta : TE} {p0 p1 p2 p3 p4 : Pos} {arg : Expr} {fd : FuncData} {of : Obj} {ar : Arg} (U : SupX X.prog X.K X.mg D cc cda) (UC : SupC X.K D C) (T : OexC X.K C)
    (hks : X.env.kindOf "super" = some .globalImplicit) (hkc : X.env.kindOf "__class__" = some .free) (hfu : X.env.func = some f) (hf : X.K.lookup f = some of) (hfd : of.data = .func fd)
    (hp : (fd.params.posonlyargs ++ fd.params.args).head? = some ar) (har : X.env.scope.names.lookup ar.arg = some .local) (hN : X.N[0]? = some ar.arg) (hco : X.env.code = .ref cda) (hcl : X.env.cells.lookup ("__class__" : Str) = some cc)
    (ha : PE X arg ta) (I : Inv X pins σ H s) (hσ : σ[0]? = some (some (.ref x))) (hx : H x = some (exo x C none))
    (h : ta σ H fun v H2 => [v].length = 1 ∧ H2 x = some (exo x C none) ∧ R H2)
    (he : starEach [arg] X.env = (false, eval arg X.env) :: starEach [] X.env := by rfl) (hpl : (backTo p3 (starEach ([] : List Expr) X.env)).any (·.1) = false := by rfl)
    (ht : eval (.Call (.Attribute (.Call (.Name "super" p0) [] [] p1) "__init__" p2) [arg] [] p3) X.env = (do
      let ov ← attributeBase (.Call (.Name "super" p0) [] [] p1) "__init__" X.env (eval (.Call (.Name "super" p0) [] [] p1) X.env)
      standAt p2.atName
      let (f, first) ← holding [ov] (getMethod ov "__init__" pl)
      callWith p3 f first (backTo p3 (starEach [arg] X.env)) []) := by rfl)
    (hi : interactive X.env = false := by rfl) (hs : swapsWith (.Call (.Attribute (.Call (.Name "super" p0) [] [] p1) "__init__" p2) [arg] [] p3) none p4.line X.env = pure false := by rfl) :
    PySem.wpAt (model X.prog X.w) X.A (.func body X.env) (exec (.Expr (.Call (.Attribute (.Call (.Name "super" p0) [] [] p1) "__init__" p2) [arg] [] p3) p4) X.env) (fun fl s' => fl = .next ∧ ∃ H', Inv X pins σ H' s' ∧ R H') X.xe s := by
  obtain ⟨cl, cld, csl, hcell⟩ := U.cell
  obtain ⟨cd, hD⟩ := U.cls
  obtain ⟨ccl, cdd, vs, ccs, file, tf, hcode, hvs, hfile⟩ := U.code
  have KX := I.kIn
  obtain ⟨oD, hD1, hD2⟩ : ∃ oD, s.heap.get? D = some oD ∧ oD.data = .cls cd := by
    have q := hD
    unfold PySem.W.clsIn at q
    split at q
    · rename_i ho
      cases q
      exact ⟨_, KX _ _ ho, rfl⟩
    · cases q
  obtain ⟨t1, ho⟩ := exo_at I.hok hx
  refine ks_wpAt_Expr_any ?_ hi hs
  refine ks_wpAt_MethodCall (pl := pl) ?_ ht
  refine ks_wpAt_super_base (env := X.env) hks hkc rfl hfu (KX _ _ hf) hfd hp hco (KX _ _ hcode) rfl hvs hfile U.top ?_
  obtain ⟨mb, h1, h2⟩ := I.mod.blt
  refine PySem.W.ks_loadName_global I.ok.kind hks (Calls.loadGlobal_builtin (by rw [I.ok.glob]; exact I.mod.glob.keeps I.bk) U.gl (by rw [I.ok.blt]; exact h1.keeps I.bk) ((h2 "super" (by decide)).trans (by decide +kernel)) ⟨rfl, ?_⟩)
  refine wpAny_loadName_free I.ok.kind hkc hcl ⟨_, KX _ _ hcell, rfl⟩ ?_
  obtain ⟨m, hn, hl⟩ := id I.loc
  obtain ⟨u, ru, lo⟩ := hl 0 ar.arg (.ref x) hN hσ (.inl har)
  cases (show u = Value.ref x from ru)
  have hm : m ar.arg = some (.ref x) := by
    rcases lo with ⟨_, hm⟩ | ⟨hk, _⟩
    · exact hm
    · exfalso
      rcases hk with hk | hk
      · have e : X.env.scope.names.lookup ar.arg = some .cell := hk
        rw [har] at e
        cases e
      · have e : X.env.scope.names.lookup ar.arg = some .free := hk
        rw [har] at e
        cases e
  refine wpAny_loadName_local I.ok.kind har hn hm ?_
  refine ks_wpAny_isType_cls hD1 hD2 ⟨rfl, ?_⟩
  obtain ⟨hh, g, d, t, os⟩ := s
  refine ks_wpAny_call_super (C := C) hD1 hD2 ho rfl (fun c e => by cases e) (PySem.W.looks_mroIn KX UC.sub) (fun h' e k => ?_)
  have I1 := pin_new (t' := t) I k (Nat.le_refl _) e (fun v z => by cases z)
  have KX1 := I1.kIn
  obtain ⟨nm, q, N, bs, bm, sn, sub, ab, col, dd, k0, k1, k2, k3, k5, hC, _⟩ := T.cls
  have hcC : PySem.W.clsIn X.K C = some { name := nm, bases := bs, mro := .ref C :: bm, ns := N, qualname := q, hasDict := true, slotNames := sn, subclasses := sub, abstract := ab, collection := col, hasDel := false } := by
    unfold PySem.W.clsIn
    rw [hC] <;> rfl
  have hnx := UC.nx
  unfold PySem.W.ks_superIn at hnx
  rw [hcC] at hnx
  have J : PySem.W.InstAt h' x { cls := .ref C, dict := none, data := .fields #[.ref t1, .none, .none, .none, .bool false, .none] } C none := ⟨k _ _ ho, rfl, rfl, trivial⟩
  refine PySem.W.kxs_getMethod PySem.W.kxs_ValueError e (PySem.W.looks_opaque KX1 U.any) (l₀ := .ref C :: bm) ?_ rfl KX1 hnx (J.type.andThen (PySem.W.looks_subIn KX1 UC.ve)) (PySem.W.ks_ne KX1 J hcC) (by decide) ?_
  · exact fun A Q E s k q => wpAny_bind ((PySem.W.looks_clsIn KX1 hcC) A _ E s k (wpAny_pure q))
  have I2 := pin_new (a := h'.objs.size) (o := PySem.W.kxs_mw "ValueError.__init__" x) (h' := h'.push (PySem.W.kxs_mw "ValueError.__init__" x)) (t' := t + 1) I1 (fun _ _ z => Heap.get?_push_of_some _ z) (Nat.le_refl _) (Heap.get?_push_size h' rfl) (fun v z => nomatch z)
  have h' : tCons ta tNil σ H (fun vs H2 => vs.length = 1 ∧ H2 x = some (exo x C none) ∧ R H2) := h
  refine mw_call1 (i := "ValueError.__init__") (x := x) ?_ he hpl
  refine thn ((pa_cons ha pa_nil he).run p3 _ _ σ H _ I2 h') fun us s3 ⟨vs', H2, I3, rv, hz, hx2, q2⟩ => ⟨pin_at I3, ?_⟩
  refine call_mw T I3 hx2 (pin_at I3) ?_ fun s4 I4 => ⟨rfl, H2, unpin (unpin I4), q2⟩
  show us.length ≤ sizeLine
  rw [← Paired.length rv, hz, sizeLine_eq]
  decide
end
/-- a def whose first statement is super().__init__(arg), self an exception being made, keeps its promise -/
theorem fnsupx {P : Program} {w : World} {K : PySem.W.Frag} {mg : Str → Option Value} {base : Heap} {name qual self : Str} {params : Arguments} {body rest : List Stmt} {scope : Scope} {f cc cda D : Addr} {fd : FuncData} {N ps : List Str} {k : Nat} {sp : Sp} {arg : Expr} {p0 p1 p2 p3 p4 : Pos} {ar : Arg}
    (F : FunS K name qual params body scope f fd cc cda) (U : SupX P K mg D cc cda)
    (hbody : body = .Expr (.Call (.Attribute (.Call (.Name "super" p0) [] [] p1) "__init__" p2) [arg] [] p3) p4 :: rest)
    (S : NScope N (self :: ps) ["__class__"] scope) (hks : scope.names.lookup ("super" : Str) = some .globalImplicit)
    (hp : (params.posonlyargs ++ params.args).head? = some ar) (hs : ar.arg = self) (hN : N[0]? = some self)
    (len : ∀ vs H Q E, sp vs H Q E → vs.length = (self :: ps).length)
    (hgo : ∀ (A : Around) (outer : List Env) (s : Shared) (H : Hp) (vs : List V) (Q : VK) (E : XK), Room k (A.deeper (envF ⟨name, qual, params, body, scope, [("__class__", cc)], cda⟩ f s.heap.objs.size)) → sp vs H Q E →
      ∃ (t : TS) (ta : TE) (x C : Addr), PE (ncx CX0 P w K mg base N ⟨name, qual, params, body, scope, [("__class__", cc)], cda⟩ f A outer s H E).nox arg ta ∧ PSs (ncx CX0 P w K mg base N ⟨name, qual, params, body, scope, [("__class__", cc)], cda⟩ f A outer s H E).nox rest t ∧
        (startF N vs [some (.ref D)])[0]? = some (some (.ref x)) ∧ H x = some (exo x C none) ∧ OexC K C ∧ SupC K D C ∧
        ta (startF N vs [some (.ref D)]) H fun v H2 => [v].length = 1 ∧ H2 x = some (exo x C none) ∧ t { nx := fun _ H' => Q .non H', rt := Q } (startF N vs [some (.ref D)]) H2)
    (hst : ∀ (X : Cx), starEach [arg] X.env = (false, eval arg X.env) :: starEach [] X.env := by intro _; rfl) (hpl : ∀ (X : Cx), (backTo p3 (starEach ([] : List Expr) X.env)).any (·.1) = false := by intro _; rfl)
    {pl : Cx → Sem Bool}
    (ht : ∀ (X : Cx), eval (.Call (.Attribute (.Call (.Name "super" p0) [] [] p1) "__init__" p2) [arg] [] p3) X.env = (do
      let ov ← attributeBase (.Call (.Name "super" p0) [] [] p1) "__init__" X.env (eval (.Call (.Name "super" p0) [] [] p1) X.env)
      standAt p2.atName
      let (f, first) ← holding [ov] (getMethod ov "__init__" (pl X))
      callWith p3 f first (backTo p3 (starEach [arg] X.env)) []) := by intro _; rfl)
    (hsw : ∀ (X : Cx), swapsWith (.Call (.Attribute (.Call (.Name "super" p0) [] [] p1) "__init__" p2) [arg] [] p3) none p4.line X.env = pure false := by intro _; rfl) :
    FnOk P w K mg base CX0 (k + 1) f fd (self :: ps) sp := by
  obtain ⟨oc, od, dV, kV, doc, pm, an, ct, osl, rfl, lk, hcd, _⟩ := F.ex
  refine ⟨len, fun A outer s H args us vs Q E hr e0 hb r hsp => ?_⟩
  have KX : K.In s.heap := e0.mod.kin.keeps fun b o e => (e0.bs b o e).1
  have hl := len _ _ _ _ hsp
  have lim : s.heap.NoLimit := e0.mod.nolimit.keeps fun b o e => (e0.bs b o e).1
  obtain ⟨cl, cld, csl, hcell⟩ := U.cell
  refine codeAny_call_function hr.depth (KX _ _ lk) rfl S.co S.gen rfl (PySem.W.codeRec_of KX hcd) (hb _ _ _ _ ?_)
  refine wpAny_newFunctionEnv S.nocell (fun ⟨n, _⟩ hy => S.par n (List.of_mem_zip hy).1) (fun h₁ hns hsb => ⟨lim.fresh _ hsb, ?_⟩) S.kind
  show codeAny _ _ (.func body (envF ⟨name, qual, params, body, scope, [("__class__", cc)], cda⟩ f s.heap.objs.size)) _ _
  refine ks_codeAny_funcAt ?_
  have kp : ∀ b o, s.heap.get? b = some o → h₁.get? b = some o := fun b o e => hsb.extBut b o (Nat.ne_of_lt (Heap.lt_size e)) (Heap.get?_push_of_some _ e)
  have hcc : H cc = none := (e0.bs _ _ (e0.mod.kin _ _ hcell)).2
  have look1 : ∀ y c, List.lookup y [(("__class__" : Str), cc)] = some c → y = "__class__" ∧ c = cc := fun y c e => by
    unfold List.lookup at e
    split at e
    · rename_i q
      cases e
      exact ⟨beq_iff_eq.mp q, rfl⟩
    · cases e
  have C0 : CellsAt [(("__class__" : Str), cc)] ["__class__"] [some (.ref D)] s.heap H := by
    refine ⟨rfl, fun y c e => ?_, fun x y c e e' => ?_, fun i y e => ?_⟩
    · obtain ⟨_, rfl⟩ := look1 y c e
      exact ⟨hcc, _, ⟨_, KX _ _ hcell, rfl⟩⟩
    · exact (look1 _ _ e).1.trans (look1 _ _ e').1.symm
    · rcases i with _ | i
      · cases e
        refine ⟨cc, by unfold List.lookup; rw [beq_self_eq_true], fun v e => ?_⟩
        cases e
        exact ⟨.ref D, rfl, ⟨_, KX _ _ hcell, rfl⟩⟩
      · cases e
  have hroom := hr.deeper (envF ⟨name, qual, params, body, scope, [("__class__", cc)], cda⟩ f s.heap.objs.size)
  obtain ⟨t, ta, x, C, h1, h2, hx0, hx, T, UC, h3⟩ := hgo A outer s H vs Q E hroom hsp
  have I : Inv (ncx CX0 P w K mg base N ⟨name, qual, params, body, scope, [("__class__", cc)], cda⟩ f A outer s H E) [] (startF N vs [some (.ref D)]) H { s with heap := h₁, toks := s.toks + ((self :: ps).zip us).length } := inv_startN S hr.hd e0 hl r C0 hns kp
  have ebody : execs body (envF ⟨name, qual, params, body, scope, [("__class__", cc)], cda⟩ f s.heap.objs.size) = execs (.Expr (.Call (.Attribute (.Call (.Name "super" p0) [] [] p1) "__init__" p2) [arg] [] p3) p4 :: rest) (envF ⟨name, qual, params, body, scope, [("__class__", cc)], cda⟩ f s.heap.objs.size) := congrArg (fun b => execs b _) hbody
  rw [ebody]
  have fin : ∀ {σ' : L2.St} {H' : Hp} {v : V} {u : Value} {s' : Shared}, Inv (ncx CX0 P w K mg base N ⟨name, qual, params, body, scope, [("__class__", cc)], cda⟩ f A outer s H E) [] σ' H' s' → L2.RelV v u → Q v H' → CE outer P w H s Q u s' :=
    fun {σ' H' v u s'} J rv q => ⟨v, H', J.os, J.bare, J.base, J.hok, rv, q⟩
  refine ks_wpAt_execs_cons (ks_wpAt_mono (super_exc (X := ncx CX0 P w K mg base N ⟨name, qual, params, body, scope, [("__class__", cc)], cda⟩ f A outer s H E) (f := f) (cda := cda) (cc := cc) (D := D) (C := C) (x := x) (R := fun H2 => t { nx := fun _ H' => Q .non H', rt := Q } (startF N vs [some (.ref D)]) H2) U UC T hks (S.frk _ List.mem_cons_self) rfl lk rfl hp (by rw [hs]; exact S.par _ List.mem_cons_self) (by rw [hs]; exact hN) rfl
    (by show List.lookup ("__class__" : Str) [(("__class__" : Str), cc)] = some cc; unfold List.lookup; rw [beq_self_eq_true]) h1.nox I hx0 hx h3 (hst _) (hpl _) (ht _) (by show interactive (envF ⟨name, qual, params, body, scope, [("__class__", cc)], cda⟩ f s.heap.objs.size) = false; unfold interactive; rw [show (envF ⟨name, qual, params, body, scope, [("__class__", cc)], cda⟩ f s.heap.objs.size).scope.kind = .function from S.kind]; first | rfl | decide) (hsw _)) (fun fl2 s2 h4 => ?_) fun e s2 h4 => h4)
  obtain ⟨rfl, H3, J3, q3⟩ := h4
  refine _root_.PySem.wpAt_of_wpAny (wpAny_mono (h2.nox.run [] _ _ H3 _ J3 q3) (fun fl s' hs' => ?_) fun e s' he => he)
  cases fl with
  | ret u =>
    obtain ⟨v, σ', H', J, rv, q⟩ := hs'
    exact fin J rv q
  | next =>
    obtain ⟨σ', H', J, q⟩ := hs'
    exact fin (v := .non) (u := Value.none) J rfl q
  | brk =>
    obtain ⟨_, _, _, q⟩ := hs'
    exact q.elim
  | cont =>
    obtain ⟨_, _, _, q⟩ := hs'
    exact q.elim
end XS
/-! what the written part must say, as a Bool -/
def oexB (K : PySem.W.Frag) (C : Addr) : Bool := (match K.lookup C with
  | some ⟨.type "type", _, .cls cd, sl⟩ => (match cd.mro, sl.toList with
    | .ref D :: bm, [_, _, _, _, some (.builtin n), _] => D == C && (n == "ValueError.__new__" && (!cd.hasDel && (cd.hasDict && PySem.HandSPX.refsVE bm)))
    | _, _ => false)
  | _ => false) && (He.eqO (PySem.W.findIn K (.ref C) "__setattr__") (some (some (.builtin "object.__setattr__"))) && (decide (PySem.W.subIn K (.ref C) (.type "BaseException") = some true) && (decide (PySem.W.typeIn K (.ref C) = some (.type "type")) && PySem.W.keepIn K (.ref C))))
theorem oexB_ok {K : PySem.W.Frag} {C : Addr} (h : oexB K C = true) : OexC K C := by
  unfold oexB at h
  simp only [Bool.and_eq_true] at h
  obtain ⟨h1, h2, h3, h4, h5⟩ := h
  refine ⟨?_, He.eqO_ok h2, of_decide_eq_true h3, of_decide_eq_true h4, h5⟩
  split at h1
  · rename_i dd cd sl ho
    split at h1
    · rename_i D bm k0 k1 k2 k3 n k5 hm hs
      simp only [Bool.and_eq_true, beq_iff_eq, Bool.not_eq_true'] at h1
      obtain ⟨rfl, rfl, e1, e2, e3⟩ := h1
      obtain ⟨nm, bs, mro, ns, qn, hd, sn, sub, ab, col, del⟩ := cd
      dsimp only at hm e1 e2
      subst hm e1 e2
      obtain ⟨l⟩ := sl
      dsimp only at hs
      subst hs
      exact ⟨nm, qn, ns, bs, bm, sn, sub, ab, col, dd, k0, k1, k2, k3, k5, ho, e3⟩
    · cases h1
  · cases h1
namespace XS
def supXB (mf : Str) (K : PySem.W.Frag) (D f : Addr) : Bool := cellB K (cellOf K f) D && ((PySem.W.clsIn K D).isSome && (codeB mf K (codeOf K f) && someNone (PySem.W.nsIn K cStatics "thirdparty.any")))
theorem supXB_ok {P : Program} {K : PySem.W.Frag} {mg : Str → Option Value} {D f : Addr} (mf : Str) (pf : ((P.main.file : Str) == mf) = true) (top : (P.main.scope.names.lookup ("super" : Str)).isSome = false) (gl : mg "super" = none) (h : supXB mf K D f = true) : SupX P K mg D (cellOf K f) (codeOf K f) := by
  unfold supXB at h
  simp only [Bool.and_eq_true] at h
  obtain ⟨h1, h2, h3, h4⟩ := h
  refine ⟨cellB_ok h1, Option.isSome_iff_exists.mp h2, ?_, gl, someNone_ok h4, top⟩
  rw [beq_iff_eq.mp pf]
  exact codeB_ok h3
def supCB (K : PySem.W.Frag) (D C : Addr) : Bool := decide (PySem.W.mroIn K C (.ref D) = some true) && (He.eqO (PySem.W.ks_superIn K C D "__init__") (some (some (.builtin "ValueError.__init__"))) && decide (PySem.W.subIn K (.ref C) (.type "ValueError") = some true))
theorem supCB_ok {K : PySem.W.Frag} {D C : Addr} (h : supCB K D C = true) : SupC K D C := by
  unfold supCB at h
  simp only [Bool.and_eq_true] at h
  exact ⟨of_decide_eq_true h.1, He.eqO_ok h.2.1, of_decide_eq_true h.2.2⟩
end XS
/-- an own exception class under its name, its __init__ with its promise -/
structure Xcl (P : Program) (w : World) (K : PySem.W.Frag) (mg : Str → Option Value) (base : Heap) (k : Nat) (x : Str) (C : Addr) (sp : Sp) : Prop where
  ex : ∃ (fI : Addr) (fd : FuncData) (ps : List Str), OexC K C ∧ PySem.W.findIn K (.ref C) "__init__" = some (some (.ref fI)) ∧ PySem.W.typeIn K (.ref fI) = some (.type "function") ∧ FnOk P w K mg base CX0 k fI fd ps sp ∧ mg x = some (.ref C) ∧ Binds K fd ps []
section
variable {X : Cx} {W : WX} {k j : Nat} {C : Addr} {x m : Str} {sp : Sp} {p pos pos' apos : Pos} {e o : Expr} {es : List Expr} {ta : TE} {t : TA}
def tRaise (C : Addr) (sp : Sp) (t : TA) (W : WX) : TS := fun _ σ H => tMkO C sp [] t σ H fun cls d H' => W cls d σ H'
/-- raise C(e, ..) -/
theorem praise (c : Xcl X.prog X.w X.K X.mg X.base k x C sp) (hr : Room j X.A) (hk : k + 1 ≤ j) (hc : X.calm = true) (tk : Takes X W) (hg : Gl X x) (ha : PA X (e :: es) t)
    (hdb : (x == ("__debug__" : Str)) = false := by decide) (he : starEach (e :: es) X.env = (false, eval e X.env) :: starEach es X.env := by rfl) (hpl : (backTo pos (starEach es X.env)).any (·.1) = false := by rfl) :
    PS X (.Raise (some (.Call (.Name x p) (e :: es) [] pos)) none pos') (tRaise C sp t W) := by
  obtain ⟨fI, fd, ps, T, iC, tI, F, hm, hb⟩ := c.ex
  exact ps_raise hc tk (pmk_oex T iC tI F (hr.mono hk) hb .nil (fun _ _ _ _ _ _ _ h => h.elim) hg hm ha hdb he hpl)
/-- o.m(e, ..), where what is raised is wished for at the caller's slots -/
def tMethS (C : Addr) (m : Str) (sp : Sp) (W : WX) (ta : TE) (t : TA) : TE := fun σ H Q => ta σ H fun y H1 => ∃ a dx fs, y = .ref a ∧ H1 a = some (.ins C dx fs) ∧ fs.lookup m = none ∧ t σ H1 fun vs H2 => sp (y :: vs) H2 Q (WE W σ)
theorem pmtS {pl : Sem Bool} (c : Mt X.prog X.w X.K X.mg X.base (L2.CX X.prog X.w) k C m sp) (hr : Room j X.A) (hk : k ≤ j) (tk : Takes X W) (ho : PE X o ta) (ha : PA X (e :: es) t)
    (he : starEach (e :: es) X.env = (false, eval e X.env) :: starEach es X.env := by rfl) (hpl : (backTo pos (starEach es X.env)).any (·.1) = false := by rfl)
    (ht : eval (.Call (.Attribute o m apos) (e :: es) [] pos) X.env = (do let ov ← eval o X.env; standAt apos.atName; let (f, first) ← holding [ov] (getMethod ov m pl); callWith pos f first (backTo pos (starEach (e :: es) X.env)) (backToKw pos (keywordEach [] X.env))) := by rfl) :
    PE X (.Call (.Attribute o m apos) (e :: es) [] pos) (tMethS C m sp W ta t) := by
  obtain ⟨f, fd, ps, cl, hm, F, hb⟩ := c.ex
  refine ⟨fun pins s σ H Q I h => ?_⟩
  refine PySem.W.methodCall_KW (pl := pl) (thn (ho.run pins s σ H _ I h) fun u s1 ⟨y, H1, I1, ry, a, dx, fs, ey, ea, l, q⟩ => ?_) ht
  subst ey
  obtain rfl : u = Value.ref a := ry
  refine getmeth_ok I1 ea cl hm l (PySem.W.callWith_K (first := [.ref a]) (h₀ := X.base) I.ok.mod.kin hm.kp (thn (ha.run pos pins s1 σ H1 _ I1 q) fun us s2 ⟨vs, H2, I2, r, q2⟩ => ⟨I2.kIn, ?_⟩) he hpl)
  exact run_fnS (E := WE W) (us := .ref a :: us) (vs := .ref a :: vs) F (hr.mono hk) hb (passAt tk σ) I2 (.cons rfl r) q2
/-- a call in a place where nothing is let out -/
theorem passN : Passes (L2.CX X.prog X.w) X E0 := fun _ _ _ _ _ _ _ ⟨_, _, _, _, _, _, _, _, _, _, _, _, h⟩ => h.elim
end
section
variable {P : Program} {w : World} {K : PySem.W.Frag} {mg : Str → Option Value} {base : Heap}
/-- a def that may let exceptions out -/
theorem fnokX {x qual : Str} {params : Arguments} {body : List Stmt} {scope : Scope} {dvs : List V} {f : Addr} {fd : FuncData} {N ps : List Str} {k : Nat} {sp : Sp}
    (F : FunD K x qual params body scope dvs [] f fd) (S : FnScope N ps scope) (len : ∀ vs H Q E, sp vs H Q E → vs.length = ps.length)
    (hbody : ∀ (cdv : Value) (A : Around) (outer : List Env) (s : Shared) (H : Hp) (vs : List V) (Q : VK) (E : XK), Room k (A.deeper (envOfC qual scope s.heap.objs.size f cdv)) → sp vs H Q E →
      Takes (cxOf (L2.CX P w) P w K mg base N qual scope f cdv A outer s H E) (fun cls d _ H => E cls d H) →
      ∃ t, PSs (cxOf (L2.CX P w) P w K mg base N qual scope f cdv A outer s H E) body t ∧ t { nx := fun _ H' => Q .non H', rt := Q } (start N vs) H) :
    FnOk P w K mg base (L2.CX P w) (k + 1) f fd ps sp := F.ok S len fun cdv A outer s H vs Q E hr h =>
  hbody cdv A outer s H vs Q E hr h (takes_of (X := cxOf (L2.CX P w) P w K mg base N qual scope f cdv A outer s H E) rfl rfl rfl rfl)
end
section
variable {K : PySem.W.Frag} {C : Addr} {H : Hp} {σ : L2.St}
/-- WrongThing(thing), WrongWord(word): one field -/
def spXI (K : PySem.W.Frag) (D : Addr) (f : Str) : Sp := sp2 fun self v H Q _ => ∃ x C, self = .ref x ∧ H x = some (exo x C none) ∧ OexC K C ∧ XS.SupC K D C ∧ PySem.W.findIn K (.ref C) f = some none ∧
  ∀ dx, H dx = none → dx ≠ x → Q .non (upd (upd H dx (exd dx [(f, v)])) x (exo x C (some dx)))
def MkOI (C : Addr) (sp : Sp) (vs : List V) (H1 : Hp) (Q : XK) : Prop := vs.length ≤ 1000 ∧ ∀ a, H1 a = none → sp (.ref a :: (vs ++ [])) (upd H1 a (exo a C none))
  (fun v H2 => v = .non ∧ ∃ (d : Addr) (fs : List (Str × V)), H2 a = some (exo a C (some d)) ∧ H2 d = some (exd d fs) ∧ H1 d = none ∧ Q (.ref C) (some d) (upd (del H2 a) d (.xd fs))) (fun _ _ _ => False)
theorem w_raise {sp : Sp} {W : WX} {D : Ends} {t : TA} (h : t σ H fun vs H1 => MkOI C sp vs H1 fun cls d H' => W cls d σ H') : tRaise C sp t W D σ H := h
theorem r_mkO {D : Addr} {f : Str} {v : V} {Q : XK} (T : OexC K C) (U : XS.SupC K D C) (hf : PySem.W.findIn K (.ref C) f = some none) (h : ∀ d H', H d = none → Ex H H' → H' d = some (.xd [(f, v)]) → Q (.ref C) (some d) H') : MkOI C (spXI K D f) [v] H Q := by
  refine ⟨(by decide : 1 ≤ 1000), fun a na => ⟨.ref a, v, rfl, a, C, rfl, upd_same, T, U, hf, fun dx ndx dne => ⟨rfl, dx, [(f, v)], upd_same, by rw [upd_ne dne]; exact upd_same, ?_, ?_⟩⟩⟩
  · rwa [upd_ne dne] at ndx
  · have nd : H dx = none := by rwa [upd_ne dne] at ndx
    have e : upd (del (upd (upd (upd H a (exo a C none)) dx (exd dx [(f, v)])) a (exo a C (some dx))) a) dx (.xd [(f, v)]) = upd H dx (.xd [(f, v)]) := funext fun b => by
      by_cases hb : b = dx
      · rw [hb, upd_same, upd_same]
      · rw [upd_ne hb, upd_ne hb]
        by_cases ha : b = a
        · rw [ha, del_same, na]
        · rw [del_ne ha, upd_ne ha, upd_ne hb, upd_ne ha]
    rw [e]
    exact h dx _ nd (Ex.new nd) upd_same
/-- try: .. except c as x: .. -/
def tTryAs (K : PySem.W.Frag) (c : Value) (i : Nat) (ts : Addr → Value → Option Addr → TS) (tb : WX → TS) : TS := fun D σ H => tb (wAs K c i ts (fun _ _ _ _ => False) D) D σ H
theorem w_tryAs {c : Value} {i : Nat} {ts : Addr → Value → Option Addr → TS} {tb : WX → TS} {D : Ends} (h : tb (wAs K c i ts (fun _ _ _ _ => False) D) D σ H) : tTryAs K c i ts tb D σ H := h
theorem w_was {c : Value} {i : Nat} {ts : Addr → Value → Option Addr → TS} {D : Ends} {cls : Value} {d : Option Addr} (e : PySem.W.exmOne K cls c = some true)
    (h : ∀ a, H a = none → ts a cls d { nx := fun σ' H' => D.nx (σ'.set i none) H', rt := D.rt, bk := fun σ' H' => D.bk (σ'.set i none) H', ct := fun σ' H' => D.ct (σ'.set i none) H' } (σ.set i (some (.ref a))) H) : wAs K c i ts (fun _ _ _ _ => False) D cls d σ H :=
  ⟨true, e, fun _ => h, fun z => by cases z⟩
theorem w_methS {m : Str} {F : V → V → Hp → VK → XK → Prop} {W : WX} {ta : TE} {t : TA} {Q : VK} (h : ta σ H fun y H1 => ∃ a dx fs, y = .ref a ∧ H1 a = some (.ins C dx fs) ∧ fs.lookup m = none ∧ t σ H1 fun vs H2 => sp2 F (y :: vs) H2 Q (WE W σ)) : tMethS C m (sp2 F) W ta t σ H Q := h
theorem w_xf {a dd : Addr} {cls : Value} {f : Str} {te : TE} {fs : List (Str × V)} {v : V} {Q : VK} (h : te σ H fun x H1 => x = .ref a ∧ cls = .ref C ∧ ∃ (dd' : Addr) (fs : List (Str × V)) (v : V), some dd = some dd' ∧ H1 dd' = some (.xd fs) ∧ fs.lookup f = some v ∧ Q v H1) : tXf a cls (some dd) C f te σ H Q := h
end
section
variable {X : Cx} {x n : Str} {c : Value} {i : Nat} {body suite : List Stmt} {b₀ : Stmt} {np pos pos' : Pos} {tb : WX → TS} {ts : Addr → Value → Option Addr → TS}
theorem ptryas (K : PySem.W.Frag) (hs : X.stack = X.env :: X.outer) (hf : X.env.frame = some X.env.locals) (hN : X.N.Nodup) (hi : X.N[i]? = some n) (hln : X.env.kindOf n = some .local) (hc : Names X x c)
    (hb : ∀ (W : WX) (pn : List (Addr × Obj)) (xe : Value → Shared → Prop), Takes (X.tr pn xe) W → PSs (X.tr pn xe) body (tb W))
    (hsu : ∀ (a : Addr) (oe : Obj) (cls : Value) (d : Option Addr) (pn : List (Addr × Obj)), Zc cls d oe → (∃ vs, oe.data = .fields vs) → PSs (X.suite a ((a, oe) :: pn)) (b₀ :: suite) (ts a cls d)) (hK : X.K = K := by rfl) :
    PS X (.Try body [.ExceptHandler (some (.Name x np)) (some n) (b₀ :: suite) pos'] [] [] pos) (tTryAs K c i ts tb) := by
  subst hK
  exact ps_try_as hs hf hN hi hln hc takes_none5 (fun W pn xe tk _ => hb W pn xe tk) hsu
end
theorem kNeS (K : PySem.W.Frag) {X : Cx} {a : Addr} {pn : List (Addr × Obj)} {j : Nat} (hr : Room j X.A) (h : X.K = K := by rfl) : OpR (X.suite a pn) (compareOp .NotEq) (rNeU K) := by
  subst h
  exact op_ne.or (op_neD (by have := hr.un; show X.A.units + 64 < cLine; omega))

end M
namespace M
open PySem PySem.Spec PyProof.Rows L2 Evl MS
--@import HandS.FStr
--@import HandS.Text
/-! own exceptions whose text is an f-string of a word -/
theorem sapp_len (a b : Str) : (a ++ b).length = a.length + b.length := by rw [TL.len_tl, TL.tl_append, List.length_append, ← TL.len_tl, ← TL.len_tl]
/-- WrongWord(word), TooMany(word): one field, a text -/
def spXS (K : PySem.W.Frag) (D : Addr) (f : Str) : Sp := sp2 fun self v H Q _ => ∃ x C, ∃ w : Str, self = .ref x ∧ v = .str w ∧ w.length ≤ 1000 ∧ H x = some (exo x C none) ∧ OexC K C ∧ XS.SupC K D C ∧ PySem.W.findIn K (.ref C) f = some none ∧
  ∀ dx, H dx = none → dx ≠ x → Q .non (upd (upd H dx (exd dx [(f, v)])) x (exo x C (some dx)))
theorem r_mkOS {K : PySem.W.Frag} {C : Addr} {H : Hp} {D : Addr} {f : Str} {w : Str} {Q : XK} (T : OexC K C) (U : XS.SupC K D C) (hf : PySem.W.findIn K (.ref C) f = some none) (hz : w.length ≤ 1000) (h : ∀ d H', H d = none → Ex H H' → H' d = some (.xd [(f, .str w)]) → Q (.ref C) (some d) H') : MkOI C (spXS K D f) [.str w] H Q := by
  obtain ⟨z, k⟩ := r_mkO (v := .str w) T U hf h
  refine ⟨z, fun a na => ?_⟩
  obtain ⟨s, v, e, x, C', h1, h2, h3, h4, h5, h6⟩ := k a na
  cases e
  exact ⟨_, _, rfl, x, C', w, h1, rfl, hz, h2, h3, h4, h5, h6⟩
section
variable {σ : L2.St} {H : Hp} {t : TE} {ts : List TE} {acc : Str} {Q : Str → Hp → Prop} {R : VK}
theorem w_js (h : t σ H fun x H1 => ∃ y : Str, x = .str y ∧ (acc ++ y).length ≤ sizeLine ∧ tJs ts (acc ++ y) σ H1 Q) : tJs (t :: ts) acc σ H Q := h
theorem w_js0 (h : Q acc H) : tJs [] acc σ H Q := h
theorem w_fmtV {i : Nat} {y : Str} (hv : σ[i]? = some (some (.str y))) (hz : y.length ≤ sizeLine) (q : R (.str y) H) : tFmt (tVar i) σ H R := ⟨.str y, hv, .inl ⟨y, rfl, hz, q⟩⟩
end

end M
namespace M
open PySem PySem.Spec PyProof.Rows L2 Evl MS
--@import KE.KExcIs
--@import HandS.ExcIs
--@import HandS.ExcField
/-! isinstance of a caught own exception that has fields -/
def rIsEd (K : PySem.W.Frag) (cls : Value) (d : Option Addr) (D a : Addr) : List V → Hp → VK → Prop := fun xs H Q => cls = .ref D ∧ ∃ dd, d = some dd ∧ (∃ fs, H dd = some (.xd fs)) ∧ rIsE K D a xs H Q
theorem isEd {X : Cx} {a D : Addr} {oe : Obj} {cls : Value} {d : Option Addr} {pn : List (Addr × Obj)} (C : ExcC X.K D) (hz : Zc cls d oe) (hf : ∃ vs, oe.data = .fields vs) :
    CallR (X.suite a ((a, oe) :: pn)) (.builtin "isinstance") (rIsEd X.K cls d D a) := by
  intro pins s σ H xs us Q I r h
  obtain ⟨rfl, dd, rfl, ⟨fs, ea⟩, c, cv, b, rfl, hcv, e, q⟩ := h
  cases r with
  | cons rx rr =>
    cases rr with
    | cons rt rr =>
      cases rr
      cases rx
      have ec := hcv _ rt
      subst ec
      obtain ⟨ha, _⟩ := I.pin (a, oe) (List.mem_append_left _ List.mem_cons_self)
      obtain ⟨vs, hd⟩ := hf
      have hx : ObjOk X.prog X.w H s.heap dd (.xd fs) := I.hok dd _ ea
      obtain ⟨mA, hns, hr⟩ := hx
      obtain ⟨od, ho, hl⟩ := lookIn_ns hns
      have J : PySem.W.InstAt s.heap a oe D (some od) := ⟨ha, hz.1, by unfold PySem.W.notCls; rw [hd] <;> rfl, by rw [hz.2]; exact ho⟩
      obtain ⟨cd, hc, _⟩ := PySem.W.any_some C.hd
      exact PySem.W.kia_one (PySem.W.kitx_exc (by rw [hc]; rfl) C.hg C.hk C.hs C.ha C.hn C.ht C.hm) I.kIn J e (fun z => nomatch z) fun tk => ⟨.bl b, H, I.kept (t' := tk) fun _ _ z => z, rfl, q⟩
theorem kIsEd (K : PySem.W.Frag) {X : Cx} {a D : Addr} {oe : Obj} {cls : Value} {d : Option Addr} {pn : List (Addr × Obj)} (C : ExcC K D) (hz : Zc cls d oe) (hf : ∃ vs, oe.data = .fields vs) (h : X.K = K := by rfl) :
    CallR (X.suite a ((a, oe) :: pn)) (.builtin "isinstance") (rIsEd K cls d D a) := by subst h; exact isEd C hz hf
def excB (K : PySem.W.Frag) (D : Addr) : Bool := He.eqO (PySem.W.findIn K (.ref D) "__getattribute__") (some (some (.builtin "BaseException.__getattribute__"))) && (someNone (PySem.W.findIn K (.ref D) "__getattr__") && (decide (PySem.W.subIn K (.ref D) (.type "BaseException") = some true) && (PySem.W.hasDictIn K D && (He.eqO (PySem.W.findIn K (.ref D) "__class__") (some (some (.builtin "object.__class__"))) && (He.eqO (PySem.W.specialIn K (.builtin "object.__class__") "__get__") (some (some (.builtin "getset_descriptor.__get__"))) && (decide (PySem.W.takesIn K (.builtin "object.__class__") = some true) && decide (PySem.W.mroIn K D (.type "object") = some true)))))))
theorem excB_ok {K : PySem.W.Frag} {D : Addr} (h : excB K D = true) : ExcC K D := by
  unfold excB at h
  simp only [Bool.and_eq_true] at h
  obtain ⟨h1, h2, h3, h4, h5, h6, h7, h8⟩ := h
  exact ⟨He.eqO_ok h1, someNone_ok h2, of_decide_eq_true h3, h4, He.eqO_ok h5, He.eqO_ok h6, of_decide_eq_true h7, of_decide_eq_true h8⟩
theorem r_isEd {K : PySem.W.Frag} {D C a dd : Addr} {b : Bool} {fs : List (Str × V)} {H : Hp} {Q : VK} (g : H dd = some (.xd fs)) (e : PySem.W.kitOne K (.ref D) (.ref C) = some b) (q : Q (.bl b) H) : rIsEd K (.ref D) (some dd) D a [.ref a, .ref C] H Q :=
  ⟨rfl, dd, rfl, ⟨fs, g⟩, .ref C, .ref C, b, rfl, fun u hu => hu, e, q⟩

end M
namespace M
open PySem PySem.Spec PyProof.Rows L2 Evl MS
--@import HandS.FStr
--@import HandS.Text
--@import HandS.Codes
/-! more of texts: +, slices, a sign in a text; own exceptions whose text is an f-string of a number -/
def rAddS : V → V → Hp → VK → Prop := fun x y H Q => ∃ i j, x = .str i ∧ y = .str j ∧ i.length + j.length ≤ sizeLine ∧ Q (.str (i ++ j)) H
theorem xAddS {X : Cx} : OpR X (binaryOp .Add) rAddS := op_add_str
def rSlS1 : V → Option Int → Option Int → Hp → VK → Prop := rSlS
theorem xSlS {X : Cx} : SlR X rSlS1 := sl_str
def rInSg : V → V → Hp → VK → Prop := fun x y H Q => ∃ (c : Nat) (z : Str), x = .str ⟨#[c]⟩ ∧ y = .str z ∧ Q (.bl (decide (c ∈ z.cps.toList))) H
theorem xInSg {X : Cx} : OpR X (compareOp .In) rInSg := op_in_sign
section
variable {H : Hp} {Q : VK}
theorem r_addS {i j : Str} (hz : i.length + j.length ≤ sizeLine) (q : Q (.str (i ++ j)) H) : rAddS (.str i) (.str j) H Q := ⟨i, j, rfl, rfl, hz, q⟩
theorem r_inSg {c : Nat} {z : Str} (q : Q (.bl (decide (c ∈ z.cps.toList))) H) : rInSg (.str ⟨#[c]⟩) (.str z) H Q := ⟨c, z, rfl, rfl, q⟩
theorem cutS_to {z : Str} {k : Nat} : cutS z none (some (k : Int)) = ⟨(z.cps.toList.take k).toArray⟩ := by
  have hl : z.length = z.cps.toList.length := by rw [Array.length_toList]; rfl
  unfold cutS
  rw [HT.sIx_none, HT.sIx_nat, Nat.sub_zero, List.drop_zero, hl]
  by_cases h : k ≤ z.cps.toList.length
  · rw [Nat.min_eq_left h]
  · rw [Nat.min_eq_right (by omega), List.take_length, List.take_of_length_le (by omega)]
theorem cutS_from {z : Str} {k : Nat} : cutS z (some (k : Int)) none = ⟨(z.cps.toList.drop k).toArray⟩ := by
  have hl : z.length = z.cps.toList.length := by rw [Array.length_toList]; rfl
  unfold cutS
  rw [HT.sIx_none, HT.sIx_nat, hl]
  by_cases h : k ≤ z.cps.toList.length
  · rw [Nat.min_eq_left h, List.take_of_length_le (by rw [List.length_drop]; omega)]
  · rw [Nat.min_eq_right (by omega), List.drop_length, List.drop_eq_nil_of_le (by omega)]
    simp
theorem r_slSto {z : Str} {k : Nat} (hz : z.length ≤ sizeLine) (q : Q (.str ⟨(z.cps.toList.take k).toArray⟩) H) : rSlS1 (.str z) none (some (k : Int)) H Q := ⟨z, rfl, hz, by rw [cutS_to]; exact q⟩
theorem r_slSfrom {z : Str} {k : Nat} (hz : z.length ≤ sizeLine) (q : Q (.str ⟨(z.cps.toList.drop k).toArray⟩) H) : rSlS1 (.str z) (some (k : Int)) none H Q := ⟨z, rfl, hz, by rw [cutS_from]; exact q⟩
end
/-- BadText(place): one field, a number -/
def spXN (K : PySem.W.Frag) (D : Addr) (f : Str) : Sp := sp2 fun self v H Q _ => ∃ x C, ∃ n : Int, self = .ref x ∧ v = .int n ∧ -1 ≤ n ∧ n ≤ 10 ^ 9 ∧ H x = some (exo x C none) ∧ OexC K C ∧ XS.SupC K D C ∧ PySem.W.findIn K (.ref C) f = some none ∧
  ∀ dx, H dx = none → dx ≠ x → Q .non (upd (upd H dx (exd dx [(f, v)])) x (exo x C (some dx)))
theorem r_mkON {K : PySem.W.Frag} {C : Addr} {H : Hp} {D : Addr} {f : Str} {n : Int} {Q : XK} (T : OexC K C) (U : XS.SupC K D C) (hf : PySem.W.findIn K (.ref C) f = some none) (h1 : -1 ≤ n) (h2 : n ≤ 10 ^ 9) (h : ∀ d H', H d = none → Ex H H' → H' d = some (.xd [(f, .int n)]) → Q (.ref C) (some d) H') : MkOI C (spXN K D f) [.int n] H Q := by
  obtain ⟨z, k⟩ := r_mkO (v := .int n) T U hf h
  refine ⟨z, fun a na => ?_⟩
  obtain ⟨s, v, e, x, C', h1', h2', h3, h4, h5, h6⟩ := k a na
  cases e
  exact ⟨_, _, rfl, x, C', n, h1', rfl, h1, h2, h2', h3, h4, h5, h6⟩
theorem w_fmtN {σ : L2.St} {H : Hp} {R : VK} {i : Nat} {n : Int} (hv : σ[i]? = some (some (.int n))) (hz : n.natAbs.log2 < 1920) (q : R (.str (toString n)) H) : tFmt (tVar i) σ H R := ⟨.int n, hv, .inr ⟨n, rfl, hz, q⟩⟩
theorem sml_log {n : Int} (h1 : -1 ≤ n) (h2 : n ≤ 10 ^ 9) : n.natAbs.log2 < 1920 := by
  by_cases c : n.natAbs = 0
  · rw [c]; decide
  · rw [Nat.log2_lt c]
    have h31 : n.natAbs < 2147483648 := by omega
    exact Nat.lt_of_lt_of_le h31 (by decide +kernel)
theorem sml_len {n : Int} (h1 : -1 ≤ n) (h2 : n ≤ 10 ^ 9) : (Str.ofString (toString n)).length ≤ 20 := by
  by_cases c : 0 ≤ n
  · obtain ⟨k, rfl⟩ := Int.eq_ofNat_of_zero_le c
    rw [TL.len_tl, TL.tl_num]
    exact Nat.le_trans (TL.numL_len (k := 10) (by decide) (by omega)) (by decide)
  · have : n = -1 := by omega
    subst this
    decide +kernel

end M
namespace M
open PySem PySem.Spec PyProof.Rows L2 Evl MS
--@import HandS.TryMany
/-! try with several clauses 'except C as n' -/
/-- what the clauses wish of an exception of the body, one after the other; slot i is the name's -/
def wMAs (K : PySem.W.Frag) (i : Nat) (Wout : WX) (D : Ends) : List (Value × (Addr → Value → Option Addr → TS)) → WX
  | [] => Wout
  | (c, ts) :: r => wAs K c i ts (wMAs K i Wout D r) D
inductive HdsAs (X : Cx) (n : Str) : List ExceptHandler → List (Value × (Addr → Value → Option Addr → TS)) → Prop
  | nil : HdsAs X n [] []
  | cons {x : Str} {c : Value} {ts : Addr → Value → Option Addr → TS} {b₀ : Stmt} {suite : List Stmt} {np pos' : Pos} {hds : List ExceptHandler} {l : List (Value × (Addr → Value → Option Addr → TS))} (hc : Names X x c)
      (hsu : ∀ (a : Addr) (oe : Obj) (cls : Value) (d : Option Addr) (pn : List (Addr × Obj)), Zc cls d oe → (∃ vs, oe.data = .fields vs) → PSs (X.suite a ((a, oe) :: pn)) (b₀ :: suite) (ts a cls d)) (r : HdsAs X n hds l) :
      HdsAs X n (.ExceptHandler (some (.Name x np)) (some n) (b₀ :: suite) pos' :: hds) ((c, ts) :: l)
section
variable {X : Cx} {n : Str} {i : Nat} {body : List Stmt} {h₀ : ExceptHandler} {hds : List ExceptHandler} {l : List (Value × (Addr → Value → Option Addr → TS))} {pos : Pos} {tb : WX → TS} {Wout : WX}
theorem ps_try_mas (hs : X.stack = X.env :: X.outer) (hf : X.env.frame = some X.env.locals) (hN : X.N.Nodup) (hi : X.N[i]? = some n) (hln : X.env.kindOf n = some .local) (tk : Takes X Wout)
    (hb : ∀ (W : WX) (pn : List (Addr × Obj)) (xe : Value → Shared → Prop), Takes (X.tr pn xe) W → PassesOwn (model X.prog X.w) X.A X.env xe → PSs (X.tr pn xe) body (tb W))
    (hh : HdsAs X n (h₀ :: hds) l) : PS X (.Try body (h₀ :: hds) [] [] pos) (fun D σ H => tb (wMAs X.K i Wout D l) D σ H) := by
  refine ⟨fun pins s σ H D I h => ?_⟩
  have ok := I.ok
  have hfr : X.A.frames = some (X.env :: X.outer) := by rw [ok.frames, hs]
  have hloc : Loc X.env.scope n := .inl hln
  refine wpAny_Try_except (wpAny_mono ((hb (wMAs X.K i Wout D l) (X.pn ++ pins) (fun e s₁ => wpAny (model X.prog X.w) X.A (noteFrame e X.env) (fun _ s₂ => wpAny (model X.prog X.w) X.A (setFlight e none) (fun _ s₃ =>
    wpAny (model X.prog X.w) X.A (handleBy e X.env (h₀ :: hds)) (SP X pins D) X.xe s₃) X.xe s₂) X.xe s₁) (fun u s' xx => ?_) PassesOwn.looking).run [] s σ H D (I.toTry _) h) (fun f s1 hsp => ?_) (fun e s1 he => he))
  · obtain ⟨a, B, sI, pins', σ', H', cls, d, rfl, J', nb, up, sky, na, os, ag, w⟩ := xx
    have J : Inv X pins σ' H' sI := J'.ofTry ok
    refine Sky.land Zc.steady hfr hf (show Sky B (X.env :: X.outer) a (Zc cls d) X.env.locals s'.heap by rw [← hs]; exact sky) fun h3 fl3 up3 => ?_
    have J3 : Inv X pins σ' H' { s' with heap := h3 } := J.landed nb fl3.1 (up.trans up3) os ag
    obtain ⟨oe3, vs3, he3, hz3, hd3⟩ := fl3.there
    have nfr : a ∉ frs (X.env :: X.outer) := fun hm => by
      obtain ⟨_, o', e', hnf⟩ := fl3.2.2.1.mem hm
      rw [he3] at e'
      cases e'
      exact hnf _ hd3
    have nL : a ≠ X.env.locals := fun z => nfr (List.mem_filterMap.mpr ⟨X.env, List.mem_cons_self, by rw [hf, z]⟩)
    have nF : a ∉ X.fs := fun hm => by
      obtain ⟨e, he, q⟩ := List.mem_filterMap.mp hm
      exact nfr (List.mem_filterMap.mpr ⟨e, List.mem_cons_of_mem _ he, q⟩)
    have S3 := J3.suite he3 hd3 na nL nF
    have go : ∀ {hds' : List ExceptHandler} {l' : List (Value × (Addr → Value → Option Addr → TS))}, HdsAs X n hds' l' → wMAs X.K i Wout D l' cls d σ' H' →
        wpAny (model X.prog X.w) X.A (handleBy (.ref a) X.env hds') (SP X pins D) X.xe { s' with heap := h3 } := by
      intro hds' l' hk
      induction hk with
      | nil =>
        intro w
        refine wpAny_handleBy_nil ?_
        obtain ⟨k1, k2, k3, oe, vs, T, oT, ts', he, hz, hd, h1, hr⟩ := id fl3
        unfold PySem.passOn
        refine wpAny_bind (wpAny_field he hd h1 ?_)
        rw [if_neg (show ¬ ((Value.ref T == Value.none) = true) from by simp)]
        have fin : wpAny (model X.prog X.w) X.A (setFlight (.ref a) X.env.frame) (fun _ s4 => wpAny (model X.prog X.w) X.A (throw (.ref a) : Sem Flow) (SP X pins D) X.xe s4) X.xe { s' with heap := h3 } := by
          rw [hf]
          refine HandSPX.setFlight_upZ fl3 fun h4 hh4 up4 => wpAny_throw (tk _ _ ?_)
          exact ⟨a, B, sI, pins, σ', H', cls, d, rfl, J, nb, (up.trans up3).trans up4, .inr (.inr (by rw [hs]; exact hh4)), na, os, ag, w⟩
        first
          | exact wpAny_bind (wpAny_pure (wpAny_bind fin))
          | exact wpAny_bind fin
      | @cons x c ts b₀ suite np pos' hds2 l2 hc hsu r ih =>
        rintro ⟨b, hb1, hyes, hno⟩
        refine wpAny_handleBy_cons (codeAny_handlers_test ?_) (by intro q; cases q)
        have LM := PySem.W.exm_one (M := model X.prog X.w) (h := h3) (J3.kIn) (fun A Q E s k q => wpAny_typeOf_ref (k _ _ he3) (by rw [hz3.1]; exact q)) hb1
        have test : ∀ {Q : Value → Shared → Prop} {E : Value → Shared → Prop}, Q c { s' with heap := h3 } → wpAny (model X.prog X.w) (X.A.mark (some (.ref a))) (eval (.Name x np) X.env) Q E { s' with heap := h3 } := fun {Q E} q => by
          obtain ⟨hg, hdbg, hm | ⟨hm, hv, hnn⟩⟩ := hc
          · exact ld_glob (X := X.suite a ((a, oe3) :: (X.pn ++ pins))) S3 hg hm q hdbg
          · exact ld_blt (X := X.suite a ((a, oe3) :: (X.pn ++ pins))) S3 hg hm hv q hnn hdbg
        refine test (LM.here ?_)
        cases b with
        | false =>
          show wpAny _ X.A (handleBy (.ref a) X.env hds2) _ _ _
          exact ih (hno rfl)
        | true =>
          refine codeAny_handlers_suite_as (HandSPX.lands_againZ fl3 fun h4 fl4 up4 => ?_)
          have J4 : Inv X pins σ' H' { s' with heap := h4 } := J.landed nb fl4.1 ((up.trans up3).trans up4) os ag
          obtain ⟨oe4, vs4, he4, hz4, hd4⟩ := fl4.there
          have S4 := J4.suite he4 hd4 na nL nF
          refine store_ok (X := X.suite a ((a, oe4) :: (X.pn ++ pins))) (v := .ref a) S4 hN hi hloc rfl (fun s5 S5 => ?_) (.inr hln)
          refine wpAny_mono ((hsu a oe4 cls d (X.pn ++ pins) hz4 ⟨_, hd4⟩).run [] s5 _ H' _ S5 (hyes rfl a na)) (fun f s6 hsp => ?_) (fun _ _ z => False.elim z)
          have out : ∀ {σ6 : L2.St} {H6 : Hp} {Q : Shared → Prop}, Inv (X.suite a ((a, oe4) :: (X.pn ++ pins))) [] σ6 H6 s6 → (∀ s7, Inv X pins (σ6.set i none) H6 s7 → Q s7) →
              wpAny (model X.prog X.w) X.A (do bindName X.env n .none; unbindBehindTheSuite X.env n pos') (fun _ s7 => Q s7) X.xe s6 := fun {σ6 H6 Q} S6 hq => gone_ok (S6.unsuite ok) hN hi hln hq
          cases f with
          | ret u =>
            obtain ⟨v6, σ6, H6, S6, r6, q6⟩ := hsp
            exact out S6 fun s7 J7 => ⟨_, _, _, J7, r6, q6⟩
          | next => obtain ⟨σ6, H6, S6, q6⟩ := hsp; exact out S6 fun s7 J7 => ⟨_, _, J7, q6⟩
          | brk => obtain ⟨σ6, H6, S6, q6⟩ := hsp; exact out S6 fun s7 J7 => ⟨_, _, J7, q6⟩
          | cont => obtain ⟨σ6, H6, S6, q6⟩ := hsp; exact out S6 fun s7 J7 => ⟨_, _, J7, q6⟩
    exact go hh w
  · cases f with
    | ret u => obtain ⟨v, σ', H', J', r, q⟩ := hsp; exact ⟨v, σ', H', J'.ofTry ok, r, q⟩
    | next => obtain ⟨σ', H', J', q⟩ := hsp; exact wpAny_execs_nil ⟨σ', H', J'.ofTry ok, q⟩
    | brk => obtain ⟨σ', H', J', q⟩ := hsp; exact ⟨σ', H', J'.ofTry ok, q⟩
    | cont => obtain ⟨σ', H', J', q⟩ := hsp; exact ⟨σ', H', J'.ofTry ok, q⟩
end
/-- try: .. except c as n: .. except c2 as n: .. -/
def tTryAs2 (K : PySem.W.Frag) (c c2 : Value) (i : Nat) (ts ts2 : Addr → Value → Option Addr → TS) (tb : WX → TS) : TS := fun D σ H => tb (wMAs K i (fun _ _ _ _ => False) D [(c, ts), (c2, ts2)]) D σ H
section
variable {K : PySem.W.Frag} {σ : L2.St} {H : Hp}
theorem w_tryAs2 {c c2 : Value} {i : Nat} {ts ts2 : Addr → Value → Option Addr → TS} {tb : WX → TS} {D : Ends} (h : tb (wMAs K i (fun _ _ _ _ => False) D [(c, ts), (c2, ts2)]) D σ H) : tTryAs2 K c c2 i ts ts2 tb D σ H := h
theorem w_mas1 {c : Value} {i : Nat} {ts : Addr → Value → Option Addr → TS} {l : List (Value × (Addr → Value → Option Addr → TS))} {D : Ends} {cls : Value} {d : Option Addr} (e : PySem.W.exmOne K cls c = some true)
    (h : ∀ a, H a = none → ts a cls d { nx := fun σ' H' => D.nx (σ'.set i none) H', rt := D.rt, bk := fun σ' H' => D.bk (σ'.set i none) H', ct := fun σ' H' => D.ct (σ'.set i none) H' } (σ.set i (some (.ref a))) H) : wMAs K i (fun _ _ _ _ => False) D ((c, ts) :: l) cls d σ H :=
  ⟨true, e, fun _ => h, fun z => by cases z⟩
theorem w_mas0 {c : Value} {i : Nat} {ts : Addr → Value → Option Addr → TS} {l : List (Value × (Addr → Value → Option Addr → TS))} {D : Ends} {cls : Value} {d : Option Addr} (e : PySem.W.exmOne K cls c = some false)
    (h : wMAs K i (fun _ _ _ _ => False) D l cls d σ H) : wMAs K i (fun _ _ _ _ => False) D ((c, ts) :: l) cls d σ H :=
  ⟨false, e, (fun z => nomatch z), fun _ => h⟩
end
section
variable {X : Cx} {x x2 n : Str} {c c2 : Value} {i : Nat} {body suite suite2 : List Stmt} {b₀ b₂ : Stmt} {np np2 pos pos' pos2 : Pos} {tb : WX → TS} {ts ts2 : Addr → Value → Option Addr → TS}
theorem ptryas2 (K : PySem.W.Frag) (hs : X.stack = X.env :: X.outer) (hf : X.env.frame = some X.env.locals) (hN : X.N.Nodup) (hi : X.N[i]? = some n) (hln : X.env.kindOf n = some .local) (hc : Names X x c) (hc2 : Names X x2 c2)
    (hb : ∀ (W : WX) (pn : List (Addr × Obj)) (xe : Value → Shared → Prop), Takes (X.tr pn xe) W → PSs (X.tr pn xe) body (tb W))
    (hsu : ∀ (a : Addr) (oe : Obj) (cls : Value) (d : Option Addr) (pn : List (Addr × Obj)), Zc cls d oe → (∃ vs, oe.data = .fields vs) → PSs (X.suite a ((a, oe) :: pn)) (b₀ :: suite) (ts a cls d))
    (hsu2 : ∀ (a : Addr) (oe : Obj) (cls : Value) (d : Option Addr) (pn : List (Addr × Obj)), Zc cls d oe → (∃ vs, oe.data = .fields vs) → PSs (X.suite a ((a, oe) :: pn)) (b₂ :: suite2) (ts2 a cls d)) (hK : X.K = K := by rfl) :
    PS X (.Try body [.ExceptHandler (some (.Name x np)) (some n) (b₀ :: suite) pos', .ExceptHandler (some (.Name x2 np2)) (some n) (b₂ :: suite2) pos2] [] [] pos) (tTryAs2 K c c2 i ts ts2 tb) := by
  subst hK
  exact ps_try_mas hs hf hN hi hln takes_none5 (fun W pn xe tk _ => hb W pn xe tk) (.cons hc hsu (.cons hc2 hsu2 .nil))
end
/-! defs that let exceptions out, called by name -/
theorem Fn.mkX {P : Program} {w : World} {K : PySem.W.Frag} {mg : Str → Option Value} {base : Heap} {x qual : Str} {params : Arguments} {body : List Stmt} {scope : Scope} {f : Addr} {fd : FuncData} {N ps : List Str} {k : Nat} {sp : Sp}
    (F : FunD K x qual params body scope [] [] f fd) (hm : mg x = some (.ref f)) (S : FnScope N ps scope) (len : ∀ vs H Q E, sp vs H Q E → vs.length = ps.length)
    (hb : ∀ (kV doc pm : Value) (an : Option Addr) (cdv ct : Value) (us : List Value), us.length = ps.length → bindArgs (PySem.W.fnOf x qual params body scope .none kV doc pm an cdv ct) ⟨us, []⟩ = pure (ps.zip us))
    (hbody : ∀ (cdv : Value) (A : Around) (outer : List Env) (s : Shared) (H : Hp) (vs : List V) (Q : VK) (E : XK), Room k (A.deeper (envOfC qual scope s.heap.objs.size f cdv)) → sp vs H Q E →
      Takes (cxOf (L2.CX P w) P w K mg base N qual scope f cdv A outer s H E) (fun cls d _ H => E cls d H) →
      ∃ t, PSs (cxOf (L2.CX P w) P w K mg base N qual scope f cdv A outer s H E) body t ∧ t { nx := fun _ H' => Q .non H', rt := Q } (start N vs) H) :
    Fn P w K mg base (L2.CX P w) (k + 1) x sp := ⟨f, fd, ps, fnokX F S len hbody, hm, F.kp, F.bindsN hb⟩
def tCallS (sp : Sp) (W : WX) (t : TA) : TE := fun σ H Q => t σ H fun vs H1 => sp vs H1 Q (WE W σ)
theorem pcS {X : Cx} {k j : Nat} {x : Str} {sp : Sp} {W : WX} {p pos : Pos} {e : Expr} {es : List Expr} {t : TA} (c : Fn X.prog X.w X.K X.mg X.base (L2.CX X.prog X.w) k x sp) (hr : Room j X.A) (hk : k ≤ j) (tk : Takes X W) (hg : Gl X x) (ha : PA X (e :: es) t)
    (hdb : (x == ("__debug__" : Str)) = false := by decide) (he : starEach (e :: es) X.env = (false, eval e X.env) :: starEach es X.env := by rfl) (hpl : (backTo pos (starEach es X.env)).any (·.1) = false := by rfl) :
    PE X (.Call (.Name x p) (e :: es) [] pos) (tCallS sp W t) := by
  obtain ⟨f, fd, ps, F, hm, hkp, hb⟩ := c.ex
  refine ⟨fun pins s σ H Q I h => ?_⟩
  refine wpAny_Call_Name_kw (ld_glob I hg hm ?_ hdb)
  refine PySem.W.callWith_K (h₀ := X.base) I.ok.mod.kin hkp (thn (ha.run pos pins s σ H _ I h) fun us s1 ⟨vs, H1, I1, r, q⟩ => ⟨I1.kIn, ?_⟩) he hpl
  exact run_fnS (E := WE W) F (hr.mono hk) hb (passAt tk σ) I1 r q
theorem w_callS {sp : Sp} {W : WX} {t : TA} {σ : L2.St} {H : Hp} {Q : VK} (h : t σ H fun vs H1 => sp vs H1 Q (WE W σ)) : tCallS sp W t σ H Q := h
/-- a list unpacked -/
theorem kGunl {X : Cx} {K : PySem.W.Frag} {es : List Expr} {k : Nat} {t : TGs} {n : Nat} {pos : Pos} (hc : X.calm = true) (h : PGs X es t)
    (hn : (assignEach es X.env).length = n := by rfl) (hst : (assignEach es X.env).findIdx? (·.1) = none := by rfl) (hK : X.K = K := by rfl) : PG X (.Tuple es k pos) (gLst K n t) := by subst hK; exact pg_lst hc h hn hst
theorem w_glst {K : PySem.W.Frag} {σ : L2.St} {H : Hp} {n : Nat} {t : TGs} {a : Addr} {xs : List V} {Q : L2.St → Hp → Prop} (hs : SqL K H a xs) (hl : xs.length = n) (h : t xs σ H Q) : gLst K n t (.ref a) σ H Q := ⟨a, xs, rfl, hs, hl, h⟩
/-- a for over enumerate(list) -/
theorem for_enumL {K : PySem.W.Frag} {a : Addr} {xs : List V} {g : TG} {tb : TS} {D : Ends} {σ : L2.St} {H : Hp} (Pv : Nat → L2.St → Hp → Prop) (h0 : Pv 0 σ H) (hl : ∀ i σ H, i ≤ xs.length → Pv i σ H → SqL K H a xs)
    (hs : ∀ i x σ H T, xs[i]? = some x → Pv i σ H → H T = none → g (.ref T) σ (upd H T (.tup [.int (i : Nat), x])) fun σ2 H2 => tb { D with nx := Pv (i + 1), ct := Pv (i + 1), bk := D.nx } σ2 H2) (hd : ∀ σ H, Pv xs.length σ H → D.nx σ H) : ForJ (Ite K a) g tb D σ H := by
  refine for_it (walk_enum (K := K) (a := a) (xs := xs)) Pv h0 hl ?_ hd
  rintro i v σ H H' hi p ⟨T, x, y, rfl, hT, rfl, hx, hy⟩
  cases hx
  exact hs i y σ H T hy p hT
theorem i_enumL {K : PySem.W.Frag} {ta : TA} {σ : L2.St} {H : Hp} {R : It → Hp → Prop} (h : ta σ H fun vs H1 => ∃ a xs, vs = [.ref a] ∧ SqL K H1 a xs ∧ R (Ite K a) H1) : iEnum K ta σ H R := h
/-! lists of pairs (text, number) -/
inductive Prs (K : PySem.W.Frag) (H : Hp) : List V → List (Str × Int) → Prop
  | nil : Prs K H [] []
  | cons {a : Addr} {n : Str} {m : Int} {vs : List V} {rs : List (Str × Int)} (h : SqT K H a [.str n, .int m]) (r : Prs K H vs rs) : Prs K H (.ref a :: vs) ((n, m) :: rs)
section
variable {K : PySem.W.Frag} {H H' : Hp} {vs : List V} {rs : List (Str × Int)}
theorem Prs.len (p : Prs K H vs rs) : vs.length = rs.length := by
  induction p with
  | nil => rfl
  | cons _ _ ih => rw [List.length_cons, List.length_cons, ih]
theorem Prs.map (f : ∀ a xs, SqT K H a xs → SqT K H' a xs) (p : Prs K H vs rs) : Prs K H' vs rs := by
  induction p with
  | nil => exact .nil
  | cons h _ ih => exact .cons (f _ _ h) ih
theorem Prs.ex (e : Ex H H') (p : Prs K H vs rs) : Prs K H' vs rs := p.map fun _ _ => ex_t e
theorem st_updL {p : Addr} {xs ys : List V} (hp : H p = some (.lst xs)) : ∀ a zs, SqT K H a zs → SqT K (upd H p (.lst ys)) a zs := by
  intro a zs s
  rcases s with (s | ⟨o', s⟩) | s
  · refine .inl (.inl ?_)
    rw [upd_ne (fun e => by subst e; rw [hp] at s; cases s)]
    exact s
  · refine .inl (.inr ⟨o', ?_⟩)
    rw [upd_ne (fun e => by subst e; rw [hp] at s; cases s)]
    exact s
  · exact .inr s
theorem Prs.updL {p : Addr} {xs ys : List V} (hp : H p = some (.lst xs)) (q : Prs K H vs rs) : Prs K (upd H p (.lst ys)) vs rs := q.map (st_updL hp)
theorem Prs.app {vs2 : List V} {rs2 : List (Str × Int)} (p : Prs K H vs rs) (q : Prs K H vs2 rs2) : Prs K H (vs ++ vs2) (rs ++ rs2) := by
  induction p with
  | nil => exact q
  | cons h _ ih => exact .cons h ih
theorem Prs.one {a : Addr} {n : Str} {m : Int} (h : SqT K H a [.str n, .int m]) : Prs K H [.ref a] [(n, m)] := .cons h .nil
theorem Prs.get (p : Prs K H vs rs) : ∀ {i : Nat} {v : V}, vs[i]? = some v → ∃ a n m, v = .ref a ∧ rs[i]? = some (n, m) ∧ SqT K H a [.str n, .int m] := by
  induction p with
  | nil => intro i v h; cases h
  | @cons a n m vs rs hh _ ih =>
    intro i v h
    cases i with
    | zero => cases h; exact ⟨a, n, m, rfl, rfl, hh⟩
    | succ i => exact ih h
theorem Prs.at_ (p : Prs K H vs rs) : ∀ {i : Nat} {n : Str} {m : Int}, rs[i]? = some (n, m) → ∃ a, vs[i]? = some (.ref a) ∧ SqT K H a [.str n, .int m] := by
  induction p with
  | nil => intro i n m h; cases h
  | @cons a n m vs rs hh _ ih =>
    intro i n' m' h
    cases i with
    | zero => cases h; exact ⟨a, rfl, hh⟩
    | succ i => exact ih h
/-- a comprehension over a list of pairs -/
theorem lcJ_prs {Q : VK} {a : Addr} {g : TG} {te : TE} {ws : List Nat} {σ : L2.St} (f : Str → Int → V) (hx : SqL K H a vs) (hp : Prs K H vs rs) (hn : rs.length ≤ 100000) (σ' : Str → Int → L2.St) (hw : ∀ n m, wipe (σ' n m) ws = wipe σ ws)
    (hg : ∀ (n : Str) (m : Int) (b : Addr) (H1 : Hp) (R : L2.St → Hp → Prop), SqT K H1 b [.str n, .int m] → R (σ' n m) H1 → g (.ref b) (wipe σ ws) H1 R)
    (he : ∀ (n : Str) (m : Int) (H1 : Hp) (Q' : VK), Ex H H1 → (n, m) ∈ rs → (∀ H2, Ex H1 H2 → Q' (f n m) H2) → te (σ' n m) H1 Q')
    (hq : ∀ p H2, H p = none → Ex H H2 → H2 p = some (.lst (rs.map fun r => f r.1 r.2)) → Q (.ref p) H2) : LcJ (Itl K a) g tYes te ws σ H Q := fun D hD => by
  have hl := hp.len
  refine lc_it (walk_list (K := K) (a := a) (xs := vs)) (Pv := fun i H' => Ex H H' ∧ H' D = some (.lst ((rs.take i).map fun r => f r.1 r.2))) ⟨Ex.new hD, upd_same⟩ (fun i H' _ p => ex_l p.1 hx) ?_ (fun H' p => hq D H' hD p.1 (by rw [hl, List.take_length] at p; exact p.2))
  rintro i x H1 H' hi ⟨e1, p1⟩ ⟨rfl, hv⟩
  obtain ⟨b, n, m, rfl, hr, hb⟩ := hp.get hv
  refine hg n m b H' _ (ex_t e1 hb) ⟨hw n m, ?_⟩
  show te (σ' n m) H' _
  refine he n m H' _ e1 (List.mem_of_getElem? hr) fun H2 e2 => ⟨_, e2 D _ p1, sz_lt (by rw [List.length_map, List.length_take]; omega), Ex.mut (e1.trans e2) hD, ?_⟩
  rw [List.take_add_one, hr, List.map_append]
  exact upd_same
end

end M
namespace M
open PySem PySem.Spec PyProof.Rows L2 Evl MS
def top (i : Nat) : Stmt := PySem.Challenge.pw_rosterneed_k89_whole_sides.main.body.getD i (.Pass ⟨0, 0, 0, 0⟩)
def mainFile : Str := PySem.Challenge.pw_rosterneed_k89_whole_sides.main.file
abbrev s_is_integer : Stmt := top 9
def d_is_integer : DX := ⟨fun K => He.ga K "is_integer", "is_integer", "is_integer", defArgs s_is_integer, defBody s_is_integer, defScope s_is_integer, [], false⟩
abbrev s_is_count : Stmt := top 10
def d_is_count : DX := ⟨fun K => He.ga K "is_count", "is_count", "is_count", defArgs s_is_count, defBody s_is_count, defScope s_is_count, [], false⟩
abbrev s_is_listed : Stmt := top 11
def d_is_listed : DX := ⟨fun K => He.ga K "is_listed", "is_listed", "is_listed", defArgs s_is_listed, defBody s_is_listed, defScope s_is_listed, [], false⟩
abbrev s_is_counts : Stmt := top 12
def d_is_counts : DX := ⟨fun K => He.ga K "is_counts", "is_counts", "is_counts", defArgs s_is_counts, defBody s_is_counts, defScope s_is_counts, [], false⟩
abbrev s_deep : Stmt := top 13
def d_deep : DX := ⟨fun K => He.ga K "deep", "deep", "deep", defArgs s_deep, defBody s_deep, defScope s_deep, [], false⟩
abbrev s_at_most : Stmt := top 14
def d_at_most : DX := ⟨fun K => He.ga K "at_most", "at_most", "at_most", defArgs s_at_most, defBody s_at_most, defScope s_at_most, [], false⟩
abbrev s_common_divisor : Stmt := top 17
def d_common_divisor : DX := ⟨fun K => He.ga K "common_divisor", "common_divisor", "common_divisor", defArgs s_common_divisor, defBody s_common_divisor, defScope s_common_divisor, [], false⟩
abbrev s_common_multiple : Stmt := top 18
def d_common_multiple : DX := ⟨fun K => He.ga K "common_multiple", "common_multiple", "common_multiple", defArgs s_common_multiple, defBody s_common_multiple, defScope s_common_multiple, [], false⟩
abbrev s_end_of : Stmt := top 20
def d_end_of : DX := ⟨fun K => He.ga K "end_of", "end_of", "end_of", defArgs s_end_of, defBody s_end_of, defScope s_end_of, [], false⟩
abbrev s_value_at : Stmt := top 21
def d_value_at : DX := ⟨fun K => He.ga K "value_at", "value_at", "value_at", defArgs s_value_at, defBody s_value_at, defScope s_value_at, [], false⟩
abbrev s_short_loop : Stmt := top 22
def d_short_loop : DX := ⟨fun K => He.ga K "short_loop", "short_loop", "short_loop", defArgs s_short_loop, defBody s_short_loop, defScope s_short_loop, [], false⟩
abbrev s_plain_form : Stmt := top 23
def d_plain_form : DX := ⟨fun K => He.ga K "plain_form", "plain_form", "plain_form", defArgs s_plain_form, defBody s_plain_form, defScope s_plain_form, [], false⟩
abbrev s_least_above : Stmt := top 33
def d_least_above : DX := ⟨fun K => He.ga K "least_above", "least_above", "least_above", defArgs s_least_above, defBody s_least_above, defScope s_least_above, [], false⟩
abbrev s_below : Stmt := top 38
def d_below : DX := ⟨fun K => He.ga K "below", "below", "below", defArgs s_below, defBody s_below, defScope s_below, [], false⟩
abbrev s_window : Stmt := top 39
def d_window : DX := ⟨fun K => He.ga K "window", "window", "window", defArgs s_window, defBody s_window, defScope s_window, [], false⟩
abbrev s_climb_of : Stmt := top 40
def d_climb_of : DX := ⟨fun K => He.ga K "climb_of", "climb_of", "climb_of", defArgs s_climb_of, defBody s_climb_of, defScope s_climb_of, [], false⟩
abbrev s_sign_of : Stmt := top 43
def d_sign_of : DX := ⟨fun K => He.ga K "sign_of", "sign_of", "sign_of", defArgs s_sign_of, defBody s_sign_of, defScope s_sign_of, [], false⟩
abbrev s_sign_at : Stmt := top 44
def d_sign_at : DX := ⟨fun K => He.ga K "sign_at", "sign_at", "sign_at", defArgs s_sign_at, defBody s_sign_at, defScope s_sign_at, [], false⟩
abbrev s_last_other : Stmt := top 45
def d_last_other : DX := ⟨fun K => He.ga K "last_other", "last_other", "last_other", defArgs s_last_other, defBody s_last_other, defScope s_last_other, [], false⟩
abbrev s_settling : Stmt := top 46
def d_settling : DX := ⟨fun K => He.ga K "settling", "settling", "settling", defArgs s_settling, defBody s_settling, defScope s_settling, [], false⟩
abbrev s_shortest_round : Stmt := top 47
def d_shortest_round : DX := ⟨fun K => He.ga K "shortest_round", "shortest_round", "shortest_round", defArgs s_shortest_round, defBody s_shortest_round, defScope s_shortest_round, [], false⟩
abbrev s_sides : Stmt := top 49
def d_sides : DX := ⟨fun K => He.ga K "sides", "sides", "sides", defArgs s_sides, defBody s_sides, defScope s_sides, [], false⟩
abbrev s_is_rising : Stmt := top 52
def d_is_rising : DX := ⟨fun K => He.ga K "is_rising", "is_rising", "is_rising", defArgs s_is_rising, defBody s_is_rising, defScope s_is_rising, [], false⟩
abbrev s_checked_table : Stmt := top 53
def d_checked_table : DX := ⟨fun K => He.ga K "checked_table", "checked_table", "checked_table", defArgs s_checked_table, defBody s_checked_table, defScope s_checked_table, [], false⟩
abbrev s__law_source : Stmt := top 57
def d__law_source : DX := ⟨fun K => He.ga K "_law_source", "_law_source", "_law_source", defArgs s__law_source, defBody s__law_source, defScope s__law_source, [], false⟩
abbrev s__law_pick : Stmt := top 58
def d__law_pick : DX := ⟨fun K => He.ga K "_law_pick", "_law_pick", "_law_pick", defArgs s__law_pick, defBody s__law_pick, defScope s__law_pick, [], false⟩
abbrev s__law_is_integer : Stmt := top 59
def d__law_is_integer : DX := ⟨fun K => He.ga K "_law_is_integer", "_law_is_integer", "_law_is_integer", defArgs s__law_is_integer, defBody s__law_is_integer, defScope s__law_is_integer, [], false⟩
abbrev s__law_le : Stmt := top 60
def d__law_le : DX := ⟨fun K => He.ga K "_law_le", "_law_le", "_law_le", defArgs s__law_le, defBody s__law_le, defScope s__law_le, [], false⟩
abbrev s__law_rising : Stmt := top 61
def d__law_rising : DX := ⟨fun K => He.ga K "_law_rising", "_law_rising", "_law_rising", defArgs s__law_rising, defBody s__law_rising, defScope s__law_rising, [], false⟩
abbrev s__law_raw : Stmt := top 62
def d__law_raw : DX := ⟨fun K => He.ga K "_law_raw", "_law_raw", "_law_raw", defArgs s__law_raw, defBody s__law_raw, defScope s__law_raw, [], false⟩
abbrev s__law_end : Stmt := top 63
def d__law_end : DX := ⟨fun K => He.ga K "_law_end", "_law_end", "_law_end", defArgs s__law_end, defBody s__law_end, defScope s__law_end, [], false⟩
abbrev s__law_at : Stmt := top 64
def d__law_at : DX := ⟨fun K => He.ga K "_law_at", "_law_at", "_law_at", defArgs s__law_at, defBody s__law_at, defScope s__law_at, [], false⟩
abbrev s__law_plain : Stmt := top 65
def d__law_plain : DX := ⟨fun K => He.ga K "_law_plain", "_law_plain", "_law_plain", defArgs s__law_plain, defBody s__law_plain, defScope s__law_plain, [], false⟩
abbrev s__law_table : Stmt := top 66
def d__law_table : DX := ⟨fun K => He.ga K "_law_table", "_law_table", "_law_table", defArgs s__law_table, defBody s__law_table, defScope s__law_table, [], false⟩
abbrev s__law_sign : Stmt := top 67
def d__law_sign : DX := ⟨fun K => He.ga K "_law_sign", "_law_sign", "_law_sign", defArgs s__law_sign, defBody s__law_sign, defScope s__law_sign, [], false⟩
abbrev s__law_cut_signs : Stmt := top 68
def d__law_cut_signs : DX := ⟨fun K => He.ga K "_law_cut_signs", "_law_cut_signs", "_law_cut_signs", defArgs s__law_cut_signs, defBody s__law_cut_signs, defScope s__law_cut_signs, [], false⟩
abbrev s__law_far_apart : Stmt := top 69
def d__law_far_apart : DX := ⟨fun K => He.ga K "_law_far_apart", "_law_far_apart", "_law_far_apart", defArgs s__law_far_apart, defBody s__law_far_apart, defScope s__law_far_apart, [], false⟩
abbrev s__law_refused : Stmt := top 70
def d__law_refused : DX := ⟨fun K => He.ga K "_law_refused", "_law_refused", "_law_refused", defArgs s__law_refused, defBody s__law_refused, defScope s__law_refused, [], false⟩
abbrev s__law_edge : Stmt := top 71
def d__law_edge : DX := ⟨fun K => He.ga K "_law_edge", "_law_edge", "_law_edge", defArgs s__law_edge, defBody s__law_edge, defScope s__law_edge, [], false⟩
abbrev s_law : Stmt := top 72
def d_law : DX := ⟨fun K => He.ga K "law", "law", "law", defArgs s_law, defBody s_law, defScope s_law, [], false⟩
abbrev s_Table_init : Stmt := inClass (top 54) 0
def d_Table_init : DX := ⟨fun K => He.ma K (He.ga K "Table") "__init__", "__init__", "Table.__init__", defArgs s_Table_init, defBody s_Table_init, defScope s_Table_init, [.adr (He.dflAt ("Table", some "__init__") 0), .int 0], false⟩
abbrev s_Table_call : Stmt := inClass (top 54) 3
def d_Table_call : DX := ⟨fun K => He.ma K (He.ga K "Table") "__call__", "__call__", "Table.__call__", defArgs s_Table_call, defBody s_Table_call, defScope s_Table_call, [], false⟩
abbrev s_Table_raw : Stmt := inClass (top 54) 2
def d_Table_raw : DX := ⟨fun K => He.ma K (He.ga K "Table") "raw", "raw", "Table.raw", defArgs s_Table_raw, defBody s_Table_raw, defScope s_Table_raw, [], false⟩
abbrev s_Table_eq : Stmt := inClass (top 54) 7
def d_Table_eq : DX := ⟨fun K => He.ma K (He.ga K "Table") "__eq__", "__eq__", "Table.__eq__", defArgs s_Table_eq, defBody s_Table_eq, defScope s_Table_eq, [], false⟩
abbrev s_Table_shift : Stmt := inClass (top 54) 1
def d_Table_shift : DX := ⟨fun K => smF "Table" "shift" K, "shift", "Table.shift", defArgs s_Table_shift, defBody s_Table_shift, defScope s_Table_shift, [], false⟩
abbrev s_Verdict_init : Stmt := inClass (top 35) 0
def d_Verdict_init : DX := ⟨fun K => He.ma K (He.ga K "Verdict") "__init__", "__init__", "Verdict.__init__", defArgs s_Verdict_init, defBody s_Verdict_init, defScope s_Verdict_init, [], false⟩
abbrev s_Below_init : Stmt := inClass (top 37) 0
def d_Below_init : DX := ⟨fun K => He.ma K (He.ga K "Below") "__init__", "__init__", "Below.__init__", defArgs s_Below_init, defBody s_Below_init, defScope s_Below_init, [], true⟩
abbrev s_Sides_init : Stmt := inClass (top 48) 0
def d_Sides_init : DX := ⟨fun K => He.ma K (He.ga K "Sides") "__init__", "__init__", "Sides.__init__", defArgs s_Sides_init, defBody s_Sides_init, defScope s_Sides_init, [], false⟩
abbrev s_Sides_eq : Stmt := inClass (top 48) 1
def d_Sides_eq : DX := ⟨fun K => He.ma K (He.ga K "Sides") "__eq__", "__eq__", "Sides.__eq__", defArgs s_Sides_eq, defBody s_Sides_eq, defScope s_Sides_eq, [], false⟩
abbrev s_Sides_call : Stmt := inClass (top 48) 2
def d_Sides_call : DX := ⟨fun K => He.ma K (He.ga K "Sides") "__call__", "__call__", "Sides.__call__", defArgs s_Sides_call, defBody s_Sides_call, defScope s_Sides_call, [], false⟩
abbrev s_Sides_settled : Stmt := inClass (top 48) 3
def d_Sides_settled : DX := ⟨fun K => prG "Sides" "settled" K, "settled", "Sides.settled", defArgs s_Sides_settled, defBody s_Sides_settled, defScope s_Sides_settled, [], false⟩
abbrev s_WrongThing_init : Stmt := inClass (top 3) 0
def d_WrongThing_init : DX := ⟨fun K => He.ma K (He.ga K "WrongThing") "__init__", "__init__", "WrongThing.__init__", defArgs s_WrongThing_init, defBody s_WrongThing_init, defScope s_WrongThing_init, [], true⟩
abbrev s_TooMany_init : Stmt := inClass (top 5) 0
def d_TooMany_init : DX := ⟨fun K => He.ma K (He.ga K "TooMany") "__init__", "__init__", "TooMany.__init__", defArgs s_TooMany_init, defBody s_TooMany_init, defScope s_TooMany_init, [], true⟩
def fn0 : List DX := [d_is_integer, d_is_count, d_is_listed, d_is_counts, d_deep, d_at_most, d_common_divisor, d_common_multiple, d_end_of, d_value_at, d_short_loop, d_plain_form]
def fn1 : List DX := [d_least_above, d_below, d_window, d_climb_of, d_sign_of, d_sign_at, d_last_other, d_settling, d_shortest_round, d_sides, d_is_rising, d_checked_table]
def fn2 : List DX := [d__law_source, d__law_pick, d__law_is_integer, d__law_le, d__law_rising, d__law_raw, d__law_end, d__law_at, d__law_plain, d__law_table, d__law_sign, d__law_cut_signs]
def fn3 : List DX := [d__law_far_apart, d__law_refused, d__law_edge, d_law, d_Table_init, d_Table_call, d_Table_raw, d_Table_eq, d_Table_shift, d_Verdict_init, d_Below_init, d_Sides_init]
def fn4 : List DX := [d_Sides_eq, d_Sides_call, d_Sides_settled, d_WrongThing_init, d_TooMany_init]
def fn : List DX := fn0 ++ fn1 ++ fn2 ++ fn3 ++ fn4
def fa0 : List He.Fa := [.free "abs", .free "all", .free "any", .free "bool", .free "int", .free "isinstance", .free "len", .free "list", .free "max", .free "min", .free "range", .free "tuple"]
def fa1 : List He.Fa := [.glo "is_integer", .glo "is_count", .glo "is_listed", .glo "is_counts", .glo "deep", .glo "at_most", .glo "common_divisor", .glo "common_multiple", .glo "end_of", .glo "value_at", .glo "short_loop", .glo "plain_form"]
def fa2 : List He.Fa := [.glo "least_above", .glo "below", .glo "window", .glo "climb_of", .glo "sign_of", .glo "sign_at", .glo "last_other", .glo "settling", .glo "shortest_round", .glo "sides", .glo "is_rising", .glo "checked_table"]
def fa3 : List He.Fa := [.glo "_law_source", .glo "_law_pick", .glo "_law_is_integer", .glo "_law_le", .glo "_law_rising", .glo "_law_raw", .glo "_law_end", .glo "_law_at", .glo "_law_plain", .glo "_law_table", .glo "_law_sign", .glo "_law_cut_signs"]
def fa4 : List He.Fa := [.glo "_law_far_apart", .glo "_law_refused", .glo "_law_edge", .glo "law", .meth "Table" "__init__", .meth "Table" "__call__", .meth "Table" "raw", .meth "Table" "__eq__", .meth "Verdict" "__init__", .meth "Below" "__init__", .meth "Sides" "__init__", .meth "Sides" "__eq__"]
def fa5 : List He.Fa := [.meth "Sides" "__call__", .glo "Table", .cls "Table", .mkr "Table", .noat "Table" "head", .noat "Table" "loop", .noat "Table" "rise", .glo "Below", .cls "Below", .mkr "Below", .noat "Below" "first", .noat "Below" "second"]
def fa6 : List He.Fa := [.noat "Below" "place", .noat "Below" "sides", .noat "Below" "holds", .glo "Sides", .cls "Sides", .mkr "Sides", .noat "Sides" "head", .noat "Sides" "loop", .glo "Verdict", .int "MOST_PLACES" 5000, .int "MOST_SHIFT" 5000, .free "super"]
def fa7 : List He.Fa := [.glo "BadCount", .glo "TooMany"]
def fa : List He.Fa := fa0 ++ fa1 ++ fa2 ++ fa3 ++ fa4 ++ fa5 ++ fa6 ++ fa7
def exL0 : List (PySem.W.Frag → Bool) := [(smB "Table" "shift"), (propB "Sides" "settled"), (insB "Table"), (kitSB "Table"), (fun K => PySem.W.notFirst K (He.ga K "Table") (.ref (He.ga K "Table"))), (fun K => He.eqO (PySem.W.findIn K (.ref (He.ga K "Table")) "__ne__") (some (some (.builtin "object.__ne__")))), (fun K => decide (PySem.W.mroIn K (He.ga K "Table") (.type "object") = some true)), (kitB "Table" "tuple" false), (nfB "Table" "tuple"), (kitB "Table" "list" false), (nfB "Table" "list"), (kitB "Table" "int" false)]
def exL1 : List (PySem.W.Frag → Bool) := [(nfB "Table" "int"), (kitB "Table" "NoneType" false), (nfB "Table" "NoneType"), (kitB "Table" "str" false), (nfB "Table" "str"), (kitB "Table" "bool" false), (nfB "Table" "bool"), (insB "Below"), (kitSB "Below"), (fun K => PySem.W.notFirst K (He.ga K "Below") (.ref (He.ga K "Below"))), (fun K => He.eqO (PySem.W.findIn K (.ref (He.ga K "Below")) "__ne__") (some (some (.builtin "object.__ne__")))), (fun K => decide (PySem.W.mroIn K (He.ga K "Below") (.type "object") = some true))]
def exL2 : List (PySem.W.Frag → Bool) := [(kitB "Below" "tuple" false), (nfB "Below" "tuple"), (kitB "Below" "list" false), (nfB "Below" "list"), (kitB "Below" "int" false), (nfB "Below" "int"), (kitB "Below" "NoneType" false), (nfB "Below" "NoneType"), (kitB "Below" "str" false), (nfB "Below" "str"), (kitB "Below" "bool" false), (nfB "Below" "bool")]
def exL3 : List (PySem.W.Frag → Bool) := [(insB "Sides"), (kitSB "Sides"), (fun K => PySem.W.notFirst K (He.ga K "Sides") (.ref (He.ga K "Sides"))), (fun K => He.eqO (PySem.W.findIn K (.ref (He.ga K "Sides")) "__ne__") (some (some (.builtin "object.__ne__")))), (fun K => decide (PySem.W.mroIn K (He.ga K "Sides") (.type "object") = some true)), (kitB "Sides" "tuple" false), (nfB "Sides" "tuple"), (kitB "Sides" "list" false), (nfB "Sides" "list"), (kitB "Sides" "int" false), (nfB "Sides" "int"), (kitB "Sides" "NoneType" false)]
def exL4 : List (PySem.W.Frag → Bool) := [(nfB "Sides" "NoneType"), (kitB "Sides" "str" false), (nfB "Sides" "str"), (kitB "Sides" "bool" false), (nfB "Sides" "bool"), (callB "Table"), (callB "Sides"), (fun K => tup0B K (He.dflAt ("Table", some "__init__") 0 K)), (fun K => PySem.W.selfFirst K (He.ga K "Table")), (fun K => supB0 mainFile K (He.ga K "Below") (d_Below_init.adr K) (He.ma K (He.ga K "Verdict") "__init__")), (fun K => XS.supXB mainFile K (He.ga K "TooMany") (d_TooMany_init.adr K)), (fun K => XS.supXB mainFile K (He.ga K "WrongThing") (d_WrongThing_init.adr K))]
def exL5 : List (PySem.W.Frag → Bool) := [(fun K => oexB K (He.ga K "BadCount")), (fun K => He.eqO (PySem.W.findIn K (.ref (He.ga K "BadCount")) "__init__") (some (some (.ref (He.ma K (He.ga K "WrongThing") "__init__"))))), (fun K => decide (PySem.W.typeIn K (.ref (He.ma K (He.ga K "WrongThing") "__init__")) = some (.type "function"))), (fun K => XS.supCB K (He.ga K "WrongThing") (He.ga K "BadCount")), (fun K => xfB K (He.ga K "BadCount")), (fun K => someNone (PySem.W.findIn K (.ref (He.ga K "BadCount")) "thing")), (fun K => decide (PySem.W.exmOne K (.ref (He.ga K "BadCount")) (.ref (He.ga K "BadCount")) = some true)), (fun K => oexB K (He.ga K "TooMany")), (fun K => He.eqO (PySem.W.findIn K (.ref (He.ga K "TooMany")) "__init__") (some (some (.ref (He.ma K (He.ga K "TooMany") "__init__"))))), (fun K => decide (PySem.W.typeIn K (.ref (He.ma K (He.ga K "TooMany") "__init__")) = some (.type "function"))), (fun K => XS.supCB K (He.ga K "TooMany") (He.ga K "TooMany")), (fun K => xfB K (He.ga K "TooMany"))]
def exL6 : List (PySem.W.Frag → Bool) := [(fun K => someNone (PySem.W.findIn K (.ref (He.ga K "TooMany")) "word")), (fun K => decide (PySem.W.exmOne K (.ref (He.ga K "TooMany")) (.ref (He.ga K "TooMany")) = some true)), (fun K => decide (PySem.W.exmOne K (.ref (He.ga K "BadCount")) (.ref (He.ga K "TooMany")) = some false)), (fun K => decide (PySem.W.kitOne K (.ref (He.ga K "Below")) (.ref (He.ga K "Verdict")) = some true))]
def exL : List (PySem.W.Frag → Bool) := exL0 ++ exL1 ++ exL2 ++ exL3 ++ exL4 ++ exL5 ++ exL6
def exB (K : PySem.W.Frag) : Bool := exL.all fun f => f K
/-- what the top has left -/
structure Env (P : Program) (K : PySem.W.Frag) (mg : Str → Option Value) : Prop where
  ex : ∃ h : Heap, K.In h ∧ h.Ns mainGlobals mg
  c : SaysM fa fn exB K
  pf : ((P.main.file : Str) == mainFile) = true ∧ (P.main.scope.names.lookup ("super" : Str)).isSome = false
theorem Env.x {P : Program} {K : PySem.W.Frag} {mg : Str → Option Value} (E : Env P K mg) (i : Nat) {f : PySem.W.Frag → Bool} (h : exL[i]? = some f) : f K = true := List.all_eq_true.mp (show (exL.all fun f => f K) = true from E.c.more) f (List.mem_of_getElem? h)
theorem Env.f_abs {P : Program} {K : PySem.W.Frag} {mg : Str → Option Value} (E : Env P K mg) : mg "abs" = none := by obtain ⟨h, X, G⟩ := E.ex; exact He.free_ok X G (E.c.fact 0 (f := .free "abs") rfl)
theorem Env.f_all {P : Program} {K : PySem.W.Frag} {mg : Str → Option Value} (E : Env P K mg) : mg "all" = none := by obtain ⟨h, X, G⟩ := E.ex; exact He.free_ok X G (E.c.fact 1 (f := .free "all") rfl)
theorem Env.f_any {P : Program} {K : PySem.W.Frag} {mg : Str → Option Value} (E : Env P K mg) : mg "any" = none := by obtain ⟨h, X, G⟩ := E.ex; exact He.free_ok X G (E.c.fact 2 (f := .free "any") rfl)
theorem Env.f_bool {P : Program} {K : PySem.W.Frag} {mg : Str → Option Value} (E : Env P K mg) : mg "bool" = none := by obtain ⟨h, X, G⟩ := E.ex; exact He.free_ok X G (E.c.fact 3 (f := .free "bool") rfl)
theorem Env.f_int {P : Program} {K : PySem.W.Frag} {mg : Str → Option Value} (E : Env P K mg) : mg "int" = none := by obtain ⟨h, X, G⟩ := E.ex; exact He.free_ok X G (E.c.fact 4 (f := .free "int") rfl)
theorem Env.f_isinstance {P : Program} {K : PySem.W.Frag} {mg : Str → Option Value} (E : Env P K mg) : mg "isinstance" = none := by obtain ⟨h, X, G⟩ := E.ex; exact He.free_ok X G (E.c.fact 5 (f := .free "isinstance") rfl)
theorem Env.f_len {P : Program} {K : PySem.W.Frag} {mg : Str → Option Value} (E : Env P K mg) : mg "len" = none := by obtain ⟨h, X, G⟩ := E.ex; exact He.free_ok X G (E.c.fact 6 (f := .free "len") rfl)
theorem Env.f_list {P : Program} {K : PySem.W.Frag} {mg : Str → Option Value} (E : Env P K mg) : mg "list" = none := by obtain ⟨h, X, G⟩ := E.ex; exact He.free_ok X G (E.c.fact 7 (f := .free "list") rfl)
theorem Env.f_max {P : Program} {K : PySem.W.Frag} {mg : Str → Option Value} (E : Env P K mg) : mg "max" = none := by obtain ⟨h, X, G⟩ := E.ex; exact He.free_ok X G (E.c.fact 8 (f := .free "max") rfl)
theorem Env.f_min {P : Program} {K : PySem.W.Frag} {mg : Str → Option Value} (E : Env P K mg) : mg "min" = none := by obtain ⟨h, X, G⟩ := E.ex; exact He.free_ok X G (E.c.fact 9 (f := .free "min") rfl)
theorem Env.f_range {P : Program} {K : PySem.W.Frag} {mg : Str → Option Value} (E : Env P K mg) : mg "range" = none := by obtain ⟨h, X, G⟩ := E.ex; exact He.free_ok X G (E.c.fact 10 (f := .free "range") rfl)
theorem Env.f_tuple {P : Program} {K : PySem.W.Frag} {mg : Str → Option Value} (E : Env P K mg) : mg "tuple" = none := by obtain ⟨h, X, G⟩ := E.ex; exact He.free_ok X G (E.c.fact 11 (f := .free "tuple") rfl)
theorem Env.g_is_integer {P : Program} {K : PySem.W.Frag} {mg : Str → Option Value} (E : Env P K mg) : mg "is_integer" = some (.ref (He.ga K "is_integer")) := by obtain ⟨h, X, G⟩ := E.ex; exact He.glo_ok X G (E.c.fact 12 (f := .glo "is_integer") rfl)
theorem Env.g_is_count {P : Program} {K : PySem.W.Frag} {mg : Str → Option Value} (E : Env P K mg) : mg "is_count" = some (.ref (He.ga K "is_count")) := by obtain ⟨h, X, G⟩ := E.ex; exact He.glo_ok X G (E.c.fact 13 (f := .glo "is_count") rfl)
theorem Env.g_is_listed {P : Program} {K : PySem.W.Frag} {mg : Str → Option Value} (E : Env P K mg) : mg "is_listed" = some (.ref (He.ga K "is_listed")) := by obtain ⟨h, X, G⟩ := E.ex; exact He.glo_ok X G (E.c.fact 14 (f := .glo "is_listed") rfl)
theorem Env.g_is_counts {P : Program} {K : PySem.W.Frag} {mg : Str → Option Value} (E : Env P K mg) : mg "is_counts" = some (.ref (He.ga K "is_counts")) := by obtain ⟨h, X, G⟩ := E.ex; exact He.glo_ok X G (E.c.fact 15 (f := .glo "is_counts") rfl)
theorem Env.g_deep {P : Program} {K : PySem.W.Frag} {mg : Str → Option Value} (E : Env P K mg) : mg "deep" = some (.ref (He.ga K "deep")) := by obtain ⟨h, X, G⟩ := E.ex; exact He.glo_ok X G (E.c.fact 16 (f := .glo "deep") rfl)
theorem Env.g_at_most {P : Program} {K : PySem.W.Frag} {mg : Str → Option Value} (E : Env P K mg) : mg "at_most" = some (.ref (He.ga K "at_most")) := by obtain ⟨h, X, G⟩ := E.ex; exact He.glo_ok X G (E.c.fact 17 (f := .glo "at_most") rfl)
theorem Env.g_common_divisor {P : Program} {K : PySem.W.Frag} {mg : Str → Option Value} (E : Env P K mg) : mg "common_divisor" = some (.ref (He.ga K "common_divisor")) := by obtain ⟨h, X, G⟩ := E.ex; exact He.glo_ok X G (E.c.fact 18 (f := .glo "common_divisor") rfl)
theorem Env.g_common_multiple {P : Program} {K : PySem.W.Frag} {mg : Str → Option Value} (E : Env P K mg) : mg "common_multiple" = some (.ref (He.ga K "common_multiple")) := by obtain ⟨h, X, G⟩ := E.ex; exact He.glo_ok X G (E.c.fact 19 (f := .glo "common_multiple") rfl)
theorem Env.g_end_of {P : Program} {K : PySem.W.Frag} {mg : Str → Option Value} (E : Env P K mg) : mg "end_of" = some (.ref (He.ga K "end_of")) := by obtain ⟨h, X, G⟩ := E.ex; exact He.glo_ok X G (E.c.fact 20 (f := .glo "end_of") rfl)
theorem Env.g_value_at {P : Program} {K : PySem.W.Frag} {mg : Str → Option Value} (E : Env P K mg) : mg "value_at" = some (.ref (He.ga K "value_at")) := by obtain ⟨h, X, G⟩ := E.ex; exact He.glo_ok X G (E.c.fact 21 (f := .glo "value_at") rfl)
theorem Env.g_short_loop {P : Program} {K : PySem.W.Frag} {mg : Str → Option Value} (E : Env P K mg) : mg "short_loop" = some (.ref (He.ga K "short_loop")) := by obtain ⟨h, X, G⟩ := E.ex; exact He.glo_ok X G (E.c.fact 22 (f := .glo "short_loop") rfl)
theorem Env.g_plain_form {P : Program} {K : PySem.W.Frag} {mg : Str → Option Value} (E : Env P K mg) : mg "plain_form" = some (.ref (He.ga K "plain_form")) := by obtain ⟨h, X, G⟩ := E.ex; exact He.glo_ok X G (E.c.fact 23 (f := .glo "plain_form") rfl)
theorem Env.g_least_above {P : Program} {K : PySem.W.Frag} {mg : Str → Option Value} (E : Env P K mg) : mg "least_above" = some (.ref (He.ga K "least_above")) := by obtain ⟨h, X, G⟩ := E.ex; exact He.glo_ok X G (E.c.fact 24 (f := .glo "least_above") rfl)
theorem Env.g_below {P : Program} {K : PySem.W.Frag} {mg : Str → Option Value} (E : Env P K mg) : mg "below" = some (.ref (He.ga K "below")) := by obtain ⟨h, X, G⟩ := E.ex; exact He.glo_ok X G (E.c.fact 25 (f := .glo "below") rfl)
theorem Env.g_window {P : Program} {K : PySem.W.Frag} {mg : Str → Option Value} (E : Env P K mg) : mg "window" = some (.ref (He.ga K "window")) := by obtain ⟨h, X, G⟩ := E.ex; exact He.glo_ok X G (E.c.fact 26 (f := .glo "window") rfl)
theorem Env.g_climb_of {P : Program} {K : PySem.W.Frag} {mg : Str → Option Value} (E : Env P K mg) : mg "climb_of" = some (.ref (He.ga K "climb_of")) := by obtain ⟨h, X, G⟩ := E.ex; exact He.glo_ok X G (E.c.fact 27 (f := .glo "climb_of") rfl)
theorem Env.g_sign_of {P : Program} {K : PySem.W.Frag} {mg : Str → Option Value} (E : Env P K mg) : mg "sign_of" = some (.ref (He.ga K "sign_of")) := by obtain ⟨h, X, G⟩ := E.ex; exact He.glo_ok X G (E.c.fact 28 (f := .glo "sign_of") rfl)
theorem Env.g_sign_at {P : Program} {K : PySem.W.Frag} {mg : Str → Option Value} (E : Env P K mg) : mg "sign_at" = some (.ref (He.ga K "sign_at")) := by obtain ⟨h, X, G⟩ := E.ex; exact He.glo_ok X G (E.c.fact 29 (f := .glo "sign_at") rfl)
theorem Env.g_last_other {P : Program} {K : PySem.W.Frag} {mg : Str → Option Value} (E : Env P K mg) : mg "last_other" = some (.ref (He.ga K "last_other")) := by obtain ⟨h, X, G⟩ := E.ex; exact He.glo_ok X G (E.c.fact 30 (f := .glo "last_other") rfl)
theorem Env.g_settling {P : Program} {K : PySem.W.Frag} {mg : Str → Option Value} (E : Env P K mg) : mg "settling" = some (.ref (He.ga K "settling")) := by obtain ⟨h, X, G⟩ := E.ex; exact He.glo_ok X G (E.c.fact 31 (f := .glo "settling") rfl)
theorem Env.g_shortest_round {P : Program} {K : PySem.W.Frag} {mg : Str → Option Value} (E : Env P K mg) : mg "shortest_round" = some (.ref (He.ga K "shortest_round")) := by obtain ⟨h, X, G⟩ := E.ex; exact He.glo_ok X G (E.c.fact 32 (f := .glo "shortest_round") rfl)
theorem Env.g_sides {P : Program} {K : PySem.W.Frag} {mg : Str → Option Value} (E : Env P K mg) : mg "sides" = some (.ref (He.ga K "sides")) := by obtain ⟨h, X, G⟩ := E.ex; exact He.glo_ok X G (E.c.fact 33 (f := .glo "sides") rfl)
theorem Env.g_is_rising {P : Program} {K : PySem.W.Frag} {mg : Str → Option Value} (E : Env P K mg) : mg "is_rising" = some (.ref (He.ga K "is_rising")) := by obtain ⟨h, X, G⟩ := E.ex; exact He.glo_ok X G (E.c.fact 34 (f := .glo "is_rising") rfl)
theorem Env.g_checked_table {P : Program} {K : PySem.W.Frag} {mg : Str → Option Value} (E : Env P K mg) : mg "checked_table" = some (.ref (He.ga K "checked_table")) := by obtain ⟨h, X, G⟩ := E.ex; exact He.glo_ok X G (E.c.fact 35 (f := .glo "checked_table") rfl)
theorem Env.g__law_source {P : Program} {K : PySem.W.Frag} {mg : Str → Option Value} (E : Env P K mg) : mg "_law_source" = some (.ref (He.ga K "_law_source")) := by obtain ⟨h, X, G⟩ := E.ex; exact He.glo_ok X G (E.c.fact 36 (f := .glo "_law_source") rfl)
theorem Env.g__law_pick {P : Program} {K : PySem.W.Frag} {mg : Str → Option Value} (E : Env P K mg) : mg "_law_pick" = some (.ref (He.ga K "_law_pick")) := by obtain ⟨h, X, G⟩ := E.ex; exact He.glo_ok X G (E.c.fact 37 (f := .glo "_law_pick") rfl)
theorem Env.g__law_is_integer {P : Program} {K : PySem.W.Frag} {mg : Str → Option Value} (E : Env P K mg) : mg "_law_is_integer" = some (.ref (He.ga K "_law_is_integer")) := by obtain ⟨h, X, G⟩ := E.ex; exact He.glo_ok X G (E.c.fact 38 (f := .glo "_law_is_integer") rfl)
theorem Env.g__law_le {P : Program} {K : PySem.W.Frag} {mg : Str → Option Value} (E : Env P K mg) : mg "_law_le" = some (.ref (He.ga K "_law_le")) := by obtain ⟨h, X, G⟩ := E.ex; exact He.glo_ok X G (E.c.fact 39 (f := .glo "_law_le") rfl)
theorem Env.g__law_rising {P : Program} {K : PySem.W.Frag} {mg : Str → Option Value} (E : Env P K mg) : mg "_law_rising" = some (.ref (He.ga K "_law_rising")) := by obtain ⟨h, X, G⟩ := E.ex; exact He.glo_ok X G (E.c.fact 40 (f := .glo "_law_rising") rfl)
theorem Env.g__law_raw {P : Program} {K : PySem.W.Frag} {mg : Str → Option Value} (E : Env P K mg) : mg "_law_raw" = some (.ref (He.ga K "_law_raw")) := by obtain ⟨h, X, G⟩ := E.ex; exact He.glo_ok X G (E.c.fact 41 (f := .glo "_law_raw") rfl)
theorem Env.g__law_end {P : Program} {K : PySem.W.Frag} {mg : Str → Option Value} (E : Env P K mg) : mg "_law_end" = some (.ref (He.ga K "_law_end")) := by obtain ⟨h, X, G⟩ := E.ex; exact He.glo_ok X G (E.c.fact 42 (f := .glo "_law_end") rfl)
theorem Env.g__law_at {P : Program} {K : PySem.W.Frag} {mg : Str → Option Value} (E : Env P K mg) : mg "_law_at" = some (.ref (He.ga K "_law_at")) := by obtain ⟨h, X, G⟩ := E.ex; exact He.glo_ok X G (E.c.fact 43 (f := .glo "_law_at") rfl)
theorem Env.g__law_plain {P : Program} {K : PySem.W.Frag} {mg : Str → Option Value} (E : Env P K mg) : mg "_law_plain" = some (.ref (He.ga K "_law_plain")) := by obtain ⟨h, X, G⟩ := E.ex; exact He.glo_ok X G (E.c.fact 44 (f := .glo "_law_plain") rfl)
theorem Env.g__law_table {P : Program} {K : PySem.W.Frag} {mg : Str → Option Value} (E : Env P K mg) : mg "_law_table" = some (.ref (He.ga K "_law_table")) := by obtain ⟨h, X, G⟩ := E.ex; exact He.glo_ok X G (E.c.fact 45 (f := .glo "_law_table") rfl)
theorem Env.g__law_sign {P : Program} {K : PySem.W.Frag} {mg : Str → Option Value} (E : Env P K mg) : mg "_law_sign" = some (.ref (He.ga K "_law_sign")) := by obtain ⟨h, X, G⟩ := E.ex; exact He.glo_ok X G (E.c.fact 46 (f := .glo "_law_sign") rfl)
theorem Env.g__law_cut_signs {P : Program} {K : PySem.W.Frag} {mg : Str → Option Value} (E : Env P K mg) : mg "_law_cut_signs" = some (.ref (He.ga K "_law_cut_signs")) := by obtain ⟨h, X, G⟩ := E.ex; exact He.glo_ok X G (E.c.fact 47 (f := .glo "_law_cut_signs") rfl)
theorem Env.g__law_far_apart {P : Program} {K : PySem.W.Frag} {mg : Str → Option Value} (E : Env P K mg) : mg "_law_far_apart" = some (.ref (He.ga K "_law_far_apart")) := by obtain ⟨h, X, G⟩ := E.ex; exact He.glo_ok X G (E.c.fact 48 (f := .glo "_law_far_apart") rfl)
theorem Env.g__law_refused {P : Program} {K : PySem.W.Frag} {mg : Str → Option Value} (E : Env P K mg) : mg "_law_refused" = some (.ref (He.ga K "_law_refused")) := by obtain ⟨h, X, G⟩ := E.ex; exact He.glo_ok X G (E.c.fact 49 (f := .glo "_law_refused") rfl)
theorem Env.g__law_edge {P : Program} {K : PySem.W.Frag} {mg : Str → Option Value} (E : Env P K mg) : mg "_law_edge" = some (.ref (He.ga K "_law_edge")) := by obtain ⟨h, X, G⟩ := E.ex; exact He.glo_ok X G (E.c.fact 50 (f := .glo "_law_edge") rfl)
theorem Env.g_law {P : Program} {K : PySem.W.Frag} {mg : Str → Option Value} (E : Env P K mg) : mg "law" = some (.ref (He.ga K "law")) := by obtain ⟨h, X, G⟩ := E.ex; exact He.glo_ok X G (E.c.fact 51 (f := .glo "law") rfl)
theorem Env.m_Table_init {P : Program} {K : PySem.W.Frag} {mg : Str → Option Value} (E : Env P K mg) : Meth K (He.ga K "Table") "__init__" (He.ma K (He.ga K "Table") "__init__") := He.meth_ok (E.c.fact 52 (f := .meth "Table" "__init__") rfl)
theorem Env.m_Table_call {P : Program} {K : PySem.W.Frag} {mg : Str → Option Value} (E : Env P K mg) : Meth K (He.ga K "Table") "__call__" (He.ma K (He.ga K "Table") "__call__") := He.meth_ok (E.c.fact 53 (f := .meth "Table" "__call__") rfl)
theorem Env.m_Table_raw {P : Program} {K : PySem.W.Frag} {mg : Str → Option Value} (E : Env P K mg) : Meth K (He.ga K "Table") "raw" (He.ma K (He.ga K "Table") "raw") := He.meth_ok (E.c.fact 54 (f := .meth "Table" "raw") rfl)
theorem Env.m_Table_eq {P : Program} {K : PySem.W.Frag} {mg : Str → Option Value} (E : Env P K mg) : Meth K (He.ga K "Table") "__eq__" (He.ma K (He.ga K "Table") "__eq__") := He.meth_ok (E.c.fact 55 (f := .meth "Table" "__eq__") rfl)
theorem Env.st_Table_shift {P : Program} {K : PySem.W.Frag} {mg : Str → Option Value} (E : Env P K mg) : SMet K (He.ga K "Table") "shift" (He.ma K (He.ga K "Table") "shift") (smF "Table" "shift" K) := smB_ok (E.x 0 (f := smB "Table" "shift") rfl)
theorem Env.m_Verdict_init {P : Program} {K : PySem.W.Frag} {mg : Str → Option Value} (E : Env P K mg) : Meth K (He.ga K "Verdict") "__init__" (He.ma K (He.ga K "Verdict") "__init__") := He.meth_ok (E.c.fact 56 (f := .meth "Verdict" "__init__") rfl)
theorem Env.m_Below_init {P : Program} {K : PySem.W.Frag} {mg : Str → Option Value} (E : Env P K mg) : Meth K (He.ga K "Below") "__init__" (He.ma K (He.ga K "Below") "__init__") := He.meth_ok (E.c.fact 57 (f := .meth "Below" "__init__") rfl)
theorem Env.m_Sides_init {P : Program} {K : PySem.W.Frag} {mg : Str → Option Value} (E : Env P K mg) : Meth K (He.ga K "Sides") "__init__" (He.ma K (He.ga K "Sides") "__init__") := He.meth_ok (E.c.fact 58 (f := .meth "Sides" "__init__") rfl)
theorem Env.m_Sides_eq {P : Program} {K : PySem.W.Frag} {mg : Str → Option Value} (E : Env P K mg) : Meth K (He.ga K "Sides") "__eq__" (He.ma K (He.ga K "Sides") "__eq__") := He.meth_ok (E.c.fact 59 (f := .meth "Sides" "__eq__") rfl)
theorem Env.m_Sides_call {P : Program} {K : PySem.W.Frag} {mg : Str → Option Value} (E : Env P K mg) : Meth K (He.ga K "Sides") "__call__" (He.ma K (He.ga K "Sides") "__call__") := He.meth_ok (E.c.fact 60 (f := .meth "Sides" "__call__") rfl)
theorem Env.p_Sides_settled {P : Program} {K : PySem.W.Frag} {mg : Str → Option Value} (E : Env P K mg) : PropOf K (He.ga K "Sides") "settled" (prA "Sides" "settled" K) (prG "Sides" "settled" K) := propB_ok (E.x 1 (f := propB "Sides" "settled") rfl)
theorem Env.g_Table {P : Program} {K : PySem.W.Frag} {mg : Str → Option Value} (E : Env P K mg) : mg "Table" = some (.ref (He.ga K "Table")) := by obtain ⟨h, X, G⟩ := E.ex; exact He.glo_ok X G (E.c.fact 61 (f := .glo "Table") rfl)
theorem Env.c_Table {P : Program} {K : PySem.W.Frag} {mg : Str → Option Value} (E : Env P K mg) : Cls K (He.ga K "Table") := He.cls_ok (E.c.fact 62 (f := .cls "Table") rfl)
theorem Env.mk_Table {P : Program} {K : PySem.W.Frag} {mg : Str → Option Value} (E : Env P K mg) : Mk K (He.ga K "Table") (He.ma K (He.ga K "Table") "__init__") := He.mkr_ok (E.c.fact 63 (f := .mkr "Table") rfl)
theorem Env.na_Table_head {P : Program} {K : PySem.W.Frag} {mg : Str → Option Value} (E : Env P K mg) : NoAttr K (He.ga K "Table") "head" := He.noat_ok (E.c.fact 64 (f := .noat "Table" "head") rfl)
theorem Env.na_Table_loop {P : Program} {K : PySem.W.Frag} {mg : Str → Option Value} (E : Env P K mg) : NoAttr K (He.ga K "Table") "loop" := He.noat_ok (E.c.fact 65 (f := .noat "Table" "loop") rfl)
theorem Env.na_Table_rise {P : Program} {K : PySem.W.Frag} {mg : Str → Option Value} (E : Env P K mg) : NoAttr K (He.ga K "Table") "rise" := He.noat_ok (E.c.fact 66 (f := .noat "Table" "rise") rfl)
theorem Env.ins_Table {P : Program} {K : PySem.W.Frag} {mg : Str → Option Value} (E : Env P K mg) : insB "Table" K = true := (E.x 2 (f := insB "Table") rfl)
theorem Env.kit_Table_self {P : Program} {K : PySem.W.Frag} {mg : Str → Option Value} (E : Env P K mg) : PySem.W.kitOne K (.ref (He.ga K "Table")) (.ref (He.ga K "Table")) = some true := of_decide_eq_true (E.x 3 (f := kitSB "Table") rfl)
theorem Env.nf_Table_self {P : Program} {K : PySem.W.Frag} {mg : Str → Option Value} (E : Env P K mg) : PySem.W.notFirst K (He.ga K "Table") (.ref (He.ga K "Table")) = true := (E.x 4 (f := fun K => PySem.W.notFirst K (He.ga K "Table") (.ref (He.ga K "Table"))) rfl)
theorem Env.ne_Table {P : Program} {K : PySem.W.Frag} {mg : Str → Option Value} (E : Env P K mg) : PySem.W.findIn K (.ref (He.ga K "Table")) "__ne__" = some (some (.builtin "object.__ne__")) := He.eqO_ok (E.x 5 (f := fun K => He.eqO (PySem.W.findIn K (.ref (He.ga K "Table")) "__ne__") (some (some (.builtin "object.__ne__")))) rfl)
theorem Env.mo_Table {P : Program} {K : PySem.W.Frag} {mg : Str → Option Value} (E : Env P K mg) : PySem.W.mroIn K (He.ga K "Table") (.type "object") = some true := of_decide_eq_true (E.x 6 (f := fun K => decide (PySem.W.mroIn K (He.ga K "Table") (.type "object") = some true)) rfl)
theorem Env.kit_Table_tuple {P : Program} {K : PySem.W.Frag} {mg : Str → Option Value} (E : Env P K mg) : PySem.W.kitOne K (.type "tuple") (.ref (He.ga K "Table")) = some false := of_decide_eq_true (E.x 7 (f := kitB "Table" "tuple" false) rfl)
theorem Env.nf_Table_tuple {P : Program} {K : PySem.W.Frag} {mg : Str → Option Value} (E : Env P K mg) : PySem.W.notFirst K (He.ga K "Table") (.type "tuple") = true := (E.x 8 (f := nfB "Table" "tuple") rfl)
theorem Env.kit_Table_list {P : Program} {K : PySem.W.Frag} {mg : Str → Option Value} (E : Env P K mg) : PySem.W.kitOne K (.type "list") (.ref (He.ga K "Table")) = some false := of_decide_eq_true (E.x 9 (f := kitB "Table" "list" false) rfl)
theorem Env.nf_Table_list {P : Program} {K : PySem.W.Frag} {mg : Str → Option Value} (E : Env P K mg) : PySem.W.notFirst K (He.ga K "Table") (.type "list") = true := (E.x 10 (f := nfB "Table" "list") rfl)
theorem Env.kit_Table_int {P : Program} {K : PySem.W.Frag} {mg : Str → Option Value} (E : Env P K mg) : PySem.W.kitOne K (.type "int") (.ref (He.ga K "Table")) = some false := of_decide_eq_true (E.x 11 (f := kitB "Table" "int" false) rfl)
theorem Env.nf_Table_int {P : Program} {K : PySem.W.Frag} {mg : Str → Option Value} (E : Env P K mg) : PySem.W.notFirst K (He.ga K "Table") (.type "int") = true := (E.x 12 (f := nfB "Table" "int") rfl)
theorem Env.kit_Table_NoneType {P : Program} {K : PySem.W.Frag} {mg : Str → Option Value} (E : Env P K mg) : PySem.W.kitOne K (.type "NoneType") (.ref (He.ga K "Table")) = some false := of_decide_eq_true (E.x 13 (f := kitB "Table" "NoneType" false) rfl)
theorem Env.nf_Table_NoneType {P : Program} {K : PySem.W.Frag} {mg : Str → Option Value} (E : Env P K mg) : PySem.W.notFirst K (He.ga K "Table") (.type "NoneType") = true := (E.x 14 (f := nfB "Table" "NoneType") rfl)
theorem Env.kit_Table_str {P : Program} {K : PySem.W.Frag} {mg : Str → Option Value} (E : Env P K mg) : PySem.W.kitOne K (.type "str") (.ref (He.ga K "Table")) = some false := of_decide_eq_true (E.x 15 (f := kitB "Table" "str" false) rfl)
theorem Env.nf_Table_str {P : Program} {K : PySem.W.Frag} {mg : Str → Option Value} (E : Env P K mg) : PySem.W.notFirst K (He.ga K "Table") (.type "str") = true := (E.x 16 (f := nfB "Table" "str") rfl)
theorem Env.kit_Table_bool {P : Program} {K : PySem.W.Frag} {mg : Str → Option Value} (E : Env P K mg) : PySem.W.kitOne K (.type "bool") (.ref (He.ga K "Table")) = some false := of_decide_eq_true (E.x 17 (f := kitB "Table" "bool" false) rfl)
theorem Env.nf_Table_bool {P : Program} {K : PySem.W.Frag} {mg : Str → Option Value} (E : Env P K mg) : PySem.W.notFirst K (He.ga K "Table") (.type "bool") = true := (E.x 18 (f := nfB "Table" "bool") rfl)
theorem Env.g_Below {P : Program} {K : PySem.W.Frag} {mg : Str → Option Value} (E : Env P K mg) : mg "Below" = some (.ref (He.ga K "Below")) := by obtain ⟨h, X, G⟩ := E.ex; exact He.glo_ok X G (E.c.fact 67 (f := .glo "Below") rfl)
theorem Env.c_Below {P : Program} {K : PySem.W.Frag} {mg : Str → Option Value} (E : Env P K mg) : Cls K (He.ga K "Below") := He.cls_ok (E.c.fact 68 (f := .cls "Below") rfl)
theorem Env.mk_Below {P : Program} {K : PySem.W.Frag} {mg : Str → Option Value} (E : Env P K mg) : Mk K (He.ga K "Below") (He.ma K (He.ga K "Below") "__init__") := He.mkr_ok (E.c.fact 69 (f := .mkr "Below") rfl)
theorem Env.na_Below_first {P : Program} {K : PySem.W.Frag} {mg : Str → Option Value} (E : Env P K mg) : NoAttr K (He.ga K "Below") "first" := He.noat_ok (E.c.fact 70 (f := .noat "Below" "first") rfl)
theorem Env.na_Below_second {P : Program} {K : PySem.W.Frag} {mg : Str → Option Value} (E : Env P K mg) : NoAttr K (He.ga K "Below") "second" := He.noat_ok (E.c.fact 71 (f := .noat "Below" "second") rfl)
theorem Env.na_Below_place {P : Program} {K : PySem.W.Frag} {mg : Str → Option Value} (E : Env P K mg) : NoAttr K (He.ga K "Below") "place" := He.noat_ok (E.c.fact 72 (f := .noat "Below" "place") rfl)
theorem Env.na_Below_sides {P : Program} {K : PySem.W.Frag} {mg : Str → Option Value} (E : Env P K mg) : NoAttr K (He.ga K "Below") "sides" := He.noat_ok (E.c.fact 73 (f := .noat "Below" "sides") rfl)
theorem Env.na_Below_holds {P : Program} {K : PySem.W.Frag} {mg : Str → Option Value} (E : Env P K mg) : NoAttr K (He.ga K "Below") "holds" := He.noat_ok (E.c.fact 74 (f := .noat "Below" "holds") rfl)
theorem Env.ins_Below {P : Program} {K : PySem.W.Frag} {mg : Str → Option Value} (E : Env P K mg) : insB "Below" K = true := (E.x 19 (f := insB "Below") rfl)
theorem Env.kit_Below_self {P : Program} {K : PySem.W.Frag} {mg : Str → Option Value} (E : Env P K mg) : PySem.W.kitOne K (.ref (He.ga K "Below")) (.ref (He.ga K "Below")) = some true := of_decide_eq_true (E.x 20 (f := kitSB "Below") rfl)
theorem Env.nf_Below_self {P : Program} {K : PySem.W.Frag} {mg : Str → Option Value} (E : Env P K mg) : PySem.W.notFirst K (He.ga K "Below") (.ref (He.ga K "Below")) = true := (E.x 21 (f := fun K => PySem.W.notFirst K (He.ga K "Below") (.ref (He.ga K "Below"))) rfl)
theorem Env.ne_Below {P : Program} {K : PySem.W.Frag} {mg : Str → Option Value} (E : Env P K mg) : PySem.W.findIn K (.ref (He.ga K "Below")) "__ne__" = some (some (.builtin "object.__ne__")) := He.eqO_ok (E.x 22 (f := fun K => He.eqO (PySem.W.findIn K (.ref (He.ga K "Below")) "__ne__") (some (some (.builtin "object.__ne__")))) rfl)
theorem Env.mo_Below {P : Program} {K : PySem.W.Frag} {mg : Str → Option Value} (E : Env P K mg) : PySem.W.mroIn K (He.ga K "Below") (.type "object") = some true := of_decide_eq_true (E.x 23 (f := fun K => decide (PySem.W.mroIn K (He.ga K "Below") (.type "object") = some true)) rfl)
theorem Env.kit_Below_tuple {P : Program} {K : PySem.W.Frag} {mg : Str → Option Value} (E : Env P K mg) : PySem.W.kitOne K (.type "tuple") (.ref (He.ga K "Below")) = some false := of_decide_eq_true (E.x 24 (f := kitB "Below" "tuple" false) rfl)
theorem Env.nf_Below_tuple {P : Program} {K : PySem.W.Frag} {mg : Str → Option Value} (E : Env P K mg) : PySem.W.notFirst K (He.ga K "Below") (.type "tuple") = true := (E.x 25 (f := nfB "Below" "tuple") rfl)
theorem Env.kit_Below_list {P : Program} {K : PySem.W.Frag} {mg : Str → Option Value} (E : Env P K mg) : PySem.W.kitOne K (.type "list") (.ref (He.ga K "Below")) = some false := of_decide_eq_true (E.x 26 (f := kitB "Below" "list" false) rfl)
theorem Env.nf_Below_list {P : Program} {K : PySem.W.Frag} {mg : Str → Option Value} (E : Env P K mg) : PySem.W.notFirst K (He.ga K "Below") (.type "list") = true := (E.x 27 (f := nfB "Below" "list") rfl)
theorem Env.kit_Below_int {P : Program} {K : PySem.W.Frag} {mg : Str → Option Value} (E : Env P K mg) : PySem.W.kitOne K (.type "int") (.ref (He.ga K "Below")) = some false := of_decide_eq_true (E.x 28 (f := kitB "Below" "int" false) rfl)
theorem Env.nf_Below_int {P : Program} {K : PySem.W.Frag} {mg : Str → Option Value} (E : Env P K mg) : PySem.W.notFirst K (He.ga K "Below") (.type "int") = true := (E.x 29 (f := nfB "Below" "int") rfl)
theorem Env.kit_Below_NoneType {P : Program} {K : PySem.W.Frag} {mg : Str → Option Value} (E : Env P K mg) : PySem.W.kitOne K (.type "NoneType") (.ref (He.ga K "Below")) = some false := of_decide_eq_true (E.x 30 (f := kitB "Below" "NoneType" false) rfl)
theorem Env.nf_Below_NoneType {P : Program} {K : PySem.W.Frag} {mg : Str → Option Value} (E : Env P K mg) : PySem.W.notFirst K (He.ga K "Below") (.type "NoneType") = true := (E.x 31 (f := nfB "Below" "NoneType") rfl)
theorem Env.kit_Below_str {P : Program} {K : PySem.W.Frag} {mg : Str → Option Value} (E : Env P K mg) : PySem.W.kitOne K (.type "str") (.ref (He.ga K "Below")) = some false := of_decide_eq_true (E.x 32 (f := kitB "Below" "str" false) rfl)
theorem Env.nf_Below_str {P : Program} {K : PySem.W.Frag} {mg : Str → Option Value} (E : Env P K mg) : PySem.W.notFirst K (He.ga K "Below") (.type "str") = true := (E.x 33 (f := nfB "Below" "str") rfl)
theorem Env.kit_Below_bool {P : Program} {K : PySem.W.Frag} {mg : Str → Option Value} (E : Env P K mg) : PySem.W.kitOne K (.type "bool") (.ref (He.ga K "Below")) = some false := of_decide_eq_true (E.x 34 (f := kitB "Below" "bool" false) rfl)
theorem Env.nf_Below_bool {P : Program} {K : PySem.W.Frag} {mg : Str → Option Value} (E : Env P K mg) : PySem.W.notFirst K (He.ga K "Below") (.type "bool") = true := (E.x 35 (f := nfB "Below" "bool") rfl)
theorem Env.g_Sides {P : Program} {K : PySem.W.Frag} {mg : Str → Option Value} (E : Env P K mg) : mg "Sides" = some (.ref (He.ga K "Sides")) := by obtain ⟨h, X, G⟩ := E.ex; exact He.glo_ok X G (E.c.fact 75 (f := .glo "Sides") rfl)
theorem Env.c_Sides {P : Program} {K : PySem.W.Frag} {mg : Str → Option Value} (E : Env P K mg) : Cls K (He.ga K "Sides") := He.cls_ok (E.c.fact 76 (f := .cls "Sides") rfl)
theorem Env.mk_Sides {P : Program} {K : PySem.W.Frag} {mg : Str → Option Value} (E : Env P K mg) : Mk K (He.ga K "Sides") (He.ma K (He.ga K "Sides") "__init__") := He.mkr_ok (E.c.fact 77 (f := .mkr "Sides") rfl)
theorem Env.na_Sides_head {P : Program} {K : PySem.W.Frag} {mg : Str → Option Value} (E : Env P K mg) : NoAttr K (He.ga K "Sides") "head" := He.noat_ok (E.c.fact 78 (f := .noat "Sides" "head") rfl)
theorem Env.na_Sides_loop {P : Program} {K : PySem.W.Frag} {mg : Str → Option Value} (E : Env P K mg) : NoAttr K (He.ga K "Sides") "loop" := He.noat_ok (E.c.fact 79 (f := .noat "Sides" "loop") rfl)
theorem Env.ins_Sides {P : Program} {K : PySem.W.Frag} {mg : Str → Option Value} (E : Env P K mg) : insB "Sides" K = true := (E.x 36 (f := insB "Sides") rfl)
theorem Env.kit_Sides_self {P : Program} {K : PySem.W.Frag} {mg : Str → Option Value} (E : Env P K mg) : PySem.W.kitOne K (.ref (He.ga K "Sides")) (.ref (He.ga K "Sides")) = some true := of_decide_eq_true (E.x 37 (f := kitSB "Sides") rfl)
theorem Env.nf_Sides_self {P : Program} {K : PySem.W.Frag} {mg : Str → Option Value} (E : Env P K mg) : PySem.W.notFirst K (He.ga K "Sides") (.ref (He.ga K "Sides")) = true := (E.x 38 (f := fun K => PySem.W.notFirst K (He.ga K "Sides") (.ref (He.ga K "Sides"))) rfl)
theorem Env.ne_Sides {P : Program} {K : PySem.W.Frag} {mg : Str → Option Value} (E : Env P K mg) : PySem.W.findIn K (.ref (He.ga K "Sides")) "__ne__" = some (some (.builtin "object.__ne__")) := He.eqO_ok (E.x 39 (f := fun K => He.eqO (PySem.W.findIn K (.ref (He.ga K "Sides")) "__ne__") (some (some (.builtin "object.__ne__")))) rfl)
theorem Env.mo_Sides {P : Program} {K : PySem.W.Frag} {mg : Str → Option Value} (E : Env P K mg) : PySem.W.mroIn K (He.ga K "Sides") (.type "object") = some true := of_decide_eq_true (E.x 40 (f := fun K => decide (PySem.W.mroIn K (He.ga K "Sides") (.type "object") = some true)) rfl)
theorem Env.kit_Sides_tuple {P : Program} {K : PySem.W.Frag} {mg : Str → Option Value} (E : Env P K mg) : PySem.W.kitOne K (.type "tuple") (.ref (He.ga K "Sides")) = some false := of_decide_eq_true (E.x 41 (f := kitB "Sides" "tuple" false) rfl)
theorem Env.nf_Sides_tuple {P : Program} {K : PySem.W.Frag} {mg : Str → Option Value} (E : Env P K mg) : PySem.W.notFirst K (He.ga K "Sides") (.type "tuple") = true := (E.x 42 (f := nfB "Sides" "tuple") rfl)
theorem Env.kit_Sides_list {P : Program} {K : PySem.W.Frag} {mg : Str → Option Value} (E : Env P K mg) : PySem.W.kitOne K (.type "list") (.ref (He.ga K "Sides")) = some false := of_decide_eq_true (E.x 43 (f := kitB "Sides" "list" false) rfl)
theorem Env.nf_Sides_list {P : Program} {K : PySem.W.Frag} {mg : Str → Option Value} (E : Env P K mg) : PySem.W.notFirst K (He.ga K "Sides") (.type "list") = true := (E.x 44 (f := nfB "Sides" "list") rfl)
theorem Env.kit_Sides_int {P : Program} {K : PySem.W.Frag} {mg : Str → Option Value} (E : Env P K mg) : PySem.W.kitOne K (.type "int") (.ref (He.ga K "Sides")) = some false := of_decide_eq_true (E.x 45 (f := kitB "Sides" "int" false) rfl)
theorem Env.nf_Sides_int {P : Program} {K : PySem.W.Frag} {mg : Str → Option Value} (E : Env P K mg) : PySem.W.notFirst K (He.ga K "Sides") (.type "int") = true := (E.x 46 (f := nfB "Sides" "int") rfl)
theorem Env.kit_Sides_NoneType {P : Program} {K : PySem.W.Frag} {mg : Str → Option Value} (E : Env P K mg) : PySem.W.kitOne K (.type "NoneType") (.ref (He.ga K "Sides")) = some false := of_decide_eq_true (E.x 47 (f := kitB "Sides" "NoneType" false) rfl)
theorem Env.nf_Sides_NoneType {P : Program} {K : PySem.W.Frag} {mg : Str → Option Value} (E : Env P K mg) : PySem.W.notFirst K (He.ga K "Sides") (.type "NoneType") = true := (E.x 48 (f := nfB "Sides" "NoneType") rfl)
theorem Env.kit_Sides_str {P : Program} {K : PySem.W.Frag} {mg : Str → Option Value} (E : Env P K mg) : PySem.W.kitOne K (.type "str") (.ref (He.ga K "Sides")) = some false := of_decide_eq_true (E.x 49 (f := kitB "Sides" "str" false) rfl)
theorem Env.nf_Sides_str {P : Program} {K : PySem.W.Frag} {mg : Str → Option Value} (E : Env P K mg) : PySem.W.notFirst K (He.ga K "Sides") (.type "str") = true := (E.x 50 (f := nfB "Sides" "str") rfl)
theorem Env.kit_Sides_bool {P : Program} {K : PySem.W.Frag} {mg : Str → Option Value} (E : Env P K mg) : PySem.W.kitOne K (.type "bool") (.ref (He.ga K "Sides")) = some false := of_decide_eq_true (E.x 51 (f := kitB "Sides" "bool" false) rfl)
theorem Env.nf_Sides_bool {P : Program} {K : PySem.W.Frag} {mg : Str → Option Value} (E : Env P K mg) : PySem.W.notFirst K (He.ga K "Sides") (.type "bool") = true := (E.x 52 (f := nfB "Sides" "bool") rfl)
theorem Env.g_Verdict {P : Program} {K : PySem.W.Frag} {mg : Str → Option Value} (E : Env P K mg) : mg "Verdict" = some (.ref (He.ga K "Verdict")) := by obtain ⟨h, X, G⟩ := E.ex; exact He.glo_ok X G (E.c.fact 80 (f := .glo "Verdict") rfl)
theorem Env.call_Table {P : Program} {K : PySem.W.Frag} {mg : Str → Option Value} (E : Env P K mg) : StX.CallO K (He.ga K "Table") (He.ma K (He.ga K "Table") "__call__") := callB_ok (E.x 53 (f := callB "Table") rfl)
theorem Env.call_Sides {P : Program} {K : PySem.W.Frag} {mg : Str → Option Value} (E : Env P K mg) : StX.CallO K (He.ga K "Sides") (He.ma K (He.ga K "Sides") "__call__") := callB_ok (E.x 54 (f := callB "Sides") rfl)
theorem Env.k_MOST_PLACES {P : Program} {K : PySem.W.Frag} {mg : Str → Option Value} (E : Env P K mg) : ∃ t, mg "MOST_PLACES" = some (.int 5000 t) := by obtain ⟨h, X, G⟩ := E.ex; exact He.int_ok X G (E.c.fact 81 (f := .int "MOST_PLACES" 5000) rfl)
theorem Env.k_MOST_SHIFT {P : Program} {K : PySem.W.Frag} {mg : Str → Option Value} (E : Env P K mg) : ∃ t, mg "MOST_SHIFT" = some (.int 5000 t) := by obtain ⟨h, X, G⟩ := E.ex; exact He.int_ok X G (E.c.fact 82 (f := .int "MOST_SHIFT" 5000) rfl)
theorem Env.t0_Table {P : Program} {K : PySem.W.Frag} {mg : Str → Option Value} (E : Env P K mg) : ∀ H, SqT K H (He.dflAt ("Table", some "__init__") 0 K) [] := tup0B_ok (E.x 55 (f := fun K => tup0B K (He.dflAt ("Table", some "__init__") 0 K)) rfl)
theorem Env.sf_Table {P : Program} {K : PySem.W.Frag} {mg : Str → Option Value} (E : Env P K mg) : PySem.W.selfFirst K (He.ga K "Table") = true := (E.x 56 (f := fun K => PySem.W.selfFirst K (He.ga K "Table")) rfl)
theorem Env.f_super {P : Program} {K : PySem.W.Frag} {mg : Str → Option Value} (E : Env P K mg) : mg "super" = none := by obtain ⟨h, X, G⟩ := E.ex; exact He.free_ok X G (E.c.fact 83 (f := .free "super") rfl)
theorem Env.sup_Below {P : Program} {K : PySem.W.Frag} {mg : Str → Option Value} (E : Env P K mg) : SupOf P K mg (He.ga K "Below") (cellOf K (d_Below_init.adr K)) (codeOf K (d_Below_init.adr K)) (He.ma K (He.ga K "Verdict") "__init__") := supB0_ok mainFile E.pf.1 E.pf.2 E.f_super (E.x 57 (f := fun K => supB0 mainFile K (He.ga K "Below") (d_Below_init.adr K) (He.ma K (He.ga K "Verdict") "__init__")) rfl)
theorem Env.supx_TooMany {P : Program} {K : PySem.W.Frag} {mg : Str → Option Value} (E : Env P K mg) : XS.SupX P K mg (He.ga K "TooMany") (cellOf K (d_TooMany_init.adr K)) (codeOf K (d_TooMany_init.adr K)) := XS.supXB_ok mainFile E.pf.1 E.pf.2 E.f_super (E.x 58 (f := fun K => XS.supXB mainFile K (He.ga K "TooMany") (d_TooMany_init.adr K)) rfl)
theorem Env.supx_WrongThing {P : Program} {K : PySem.W.Frag} {mg : Str → Option Value} (E : Env P K mg) : XS.SupX P K mg (He.ga K "WrongThing") (cellOf K (d_WrongThing_init.adr K)) (codeOf K (d_WrongThing_init.adr K)) := XS.supXB_ok mainFile E.pf.1 E.pf.2 E.f_super (E.x 59 (f := fun K => XS.supXB mainFile K (He.ga K "WrongThing") (d_WrongThing_init.adr K)) rfl)
theorem Env.g_BadCount {P : Program} {K : PySem.W.Frag} {mg : Str → Option Value} (E : Env P K mg) : mg "BadCount" = some (.ref (He.ga K "BadCount")) := by obtain ⟨h, X, G⟩ := E.ex; exact He.glo_ok X G (E.c.fact 84 (f := .glo "BadCount") rfl)
theorem Env.ox_BadCount {P : Program} {K : PySem.W.Frag} {mg : Str → Option Value} (E : Env P K mg) : OexC K (He.ga K "BadCount") := oexB_ok (E.x 60 (f := fun K => oexB K (He.ga K "BadCount")) rfl)
theorem Env.xi_BadCount {P : Program} {K : PySem.W.Frag} {mg : Str → Option Value} (E : Env P K mg) : PySem.W.findIn K (.ref (He.ga K "BadCount")) "__init__" = some (some (.ref (He.ma K (He.ga K "WrongThing") "__init__"))) := He.eqO_ok (E.x 61 (f := fun K => He.eqO (PySem.W.findIn K (.ref (He.ga K "BadCount")) "__init__") (some (some (.ref (He.ma K (He.ga K "WrongThing") "__init__"))))) rfl)
theorem Env.xt_BadCount {P : Program} {K : PySem.W.Frag} {mg : Str → Option Value} (E : Env P K mg) : PySem.W.typeIn K (.ref (He.ma K (He.ga K "WrongThing") "__init__")) = some (.type "function") := of_decide_eq_true (E.x 62 (f := fun K => decide (PySem.W.typeIn K (.ref (He.ma K (He.ga K "WrongThing") "__init__")) = some (.type "function"))) rfl)
theorem Env.xs_BadCount {P : Program} {K : PySem.W.Frag} {mg : Str → Option Value} (E : Env P K mg) : XS.SupC K (He.ga K "WrongThing") (He.ga K "BadCount") := XS.supCB_ok (E.x 63 (f := fun K => XS.supCB K (He.ga K "WrongThing") (He.ga K "BadCount")) rfl)
theorem Env.xf_BadCount {P : Program} {K : PySem.W.Frag} {mg : Str → Option Value} (E : Env P K mg) : XfC K (He.ga K "BadCount") := xfB_ok (E.x 64 (f := fun K => xfB K (He.ga K "BadCount")) rfl)
theorem Env.nf_BadCount_thing {P : Program} {K : PySem.W.Frag} {mg : Str → Option Value} (E : Env P K mg) : PySem.W.findIn K (.ref (He.ga K "BadCount")) "thing" = some none := someNone_ok (E.x 65 (f := fun K => someNone (PySem.W.findIn K (.ref (He.ga K "BadCount")) "thing")) rfl)
theorem Env.xe_BadCount {P : Program} {K : PySem.W.Frag} {mg : Str → Option Value} (E : Env P K mg) : PySem.W.exmOne K (.ref (He.ga K "BadCount")) (.ref (He.ga K "BadCount")) = some true := of_decide_eq_true (E.x 66 (f := fun K => decide (PySem.W.exmOne K (.ref (He.ga K "BadCount")) (.ref (He.ga K "BadCount")) = some true)) rfl)
theorem Env.g_TooMany {P : Program} {K : PySem.W.Frag} {mg : Str → Option Value} (E : Env P K mg) : mg "TooMany" = some (.ref (He.ga K "TooMany")) := by obtain ⟨h, X, G⟩ := E.ex; exact He.glo_ok X G (E.c.fact 85 (f := .glo "TooMany") rfl)
theorem Env.ox_TooMany {P : Program} {K : PySem.W.Frag} {mg : Str → Option Value} (E : Env P K mg) : OexC K (He.ga K "TooMany") := oexB_ok (E.x 67 (f := fun K => oexB K (He.ga K "TooMany")) rfl)
theorem Env.xi_TooMany {P : Program} {K : PySem.W.Frag} {mg : Str → Option Value} (E : Env P K mg) : PySem.W.findIn K (.ref (He.ga K "TooMany")) "__init__" = some (some (.ref (He.ma K (He.ga K "TooMany") "__init__"))) := He.eqO_ok (E.x 68 (f := fun K => He.eqO (PySem.W.findIn K (.ref (He.ga K "TooMany")) "__init__") (some (some (.ref (He.ma K (He.ga K "TooMany") "__init__"))))) rfl)
theorem Env.xt_TooMany {P : Program} {K : PySem.W.Frag} {mg : Str → Option Value} (E : Env P K mg) : PySem.W.typeIn K (.ref (He.ma K (He.ga K "TooMany") "__init__")) = some (.type "function") := of_decide_eq_true (E.x 69 (f := fun K => decide (PySem.W.typeIn K (.ref (He.ma K (He.ga K "TooMany") "__init__")) = some (.type "function"))) rfl)
theorem Env.xs_TooMany {P : Program} {K : PySem.W.Frag} {mg : Str → Option Value} (E : Env P K mg) : XS.SupC K (He.ga K "TooMany") (He.ga K "TooMany") := XS.supCB_ok (E.x 70 (f := fun K => XS.supCB K (He.ga K "TooMany") (He.ga K "TooMany")) rfl)
theorem Env.xf_TooMany {P : Program} {K : PySem.W.Frag} {mg : Str → Option Value} (E : Env P K mg) : XfC K (He.ga K "TooMany") := xfB_ok (E.x 71 (f := fun K => xfB K (He.ga K "TooMany")) rfl)
theorem Env.nf_TooMany_word {P : Program} {K : PySem.W.Frag} {mg : Str → Option Value} (E : Env P K mg) : PySem.W.findIn K (.ref (He.ga K "TooMany")) "word" = some none := someNone_ok (E.x 72 (f := fun K => someNone (PySem.W.findIn K (.ref (He.ga K "TooMany")) "word")) rfl)
theorem Env.xe_TooMany {P : Program} {K : PySem.W.Frag} {mg : Str → Option Value} (E : Env P K mg) : PySem.W.exmOne K (.ref (He.ga K "TooMany")) (.ref (He.ga K "TooMany")) = some true := of_decide_eq_true (E.x 73 (f := fun K => decide (PySem.W.exmOne K (.ref (He.ga K "TooMany")) (.ref (He.ga K "TooMany")) = some true)) rfl)
theorem Env.xn_BadCount_TooMany {P : Program} {K : PySem.W.Frag} {mg : Str → Option Value} (E : Env P K mg) : PySem.W.exmOne K (.ref (He.ga K "BadCount")) (.ref (He.ga K "TooMany")) = some false := of_decide_eq_true (E.x 74 (f := fun K => decide (PySem.W.exmOne K (.ref (He.ga K "BadCount")) (.ref (He.ga K "TooMany")) = some false)) rfl)
theorem Env.kit_Verdict_Below {P : Program} {K : PySem.W.Frag} {mg : Str → Option Value} (E : Env P K mg) : PySem.W.kitOne K (.ref (He.ga K "Below")) (.ref (He.ga K "Verdict")) = some true := of_decide_eq_true (E.x 75 (f := fun K => decide (PySem.W.kitOne K (.ref (He.ga K "Below")) (.ref (He.ga K "Verdict")) = some true)) rfl)
theorem Env.dd_is_integer {P : Program} {K : PySem.W.Frag} {mg : Str → Option Value} (E : Env P K mg) : ∃ fd, FunD K "is_integer" "is_integer" (defArgs s_is_integer) (defBody s_is_integer) (defScope s_is_integer) (d_is_integer.dvs K) [] (d_is_integer.adr K) fd := E.c.def_ 0 (d := d_is_integer) rfl
theorem Env.dd_is_count {P : Program} {K : PySem.W.Frag} {mg : Str → Option Value} (E : Env P K mg) : ∃ fd, FunD K "is_count" "is_count" (defArgs s_is_count) (defBody s_is_count) (defScope s_is_count) (d_is_count.dvs K) [] (d_is_count.adr K) fd := E.c.def_ 1 (d := d_is_count) rfl
theorem Env.dd_is_listed {P : Program} {K : PySem.W.Frag} {mg : Str → Option Value} (E : Env P K mg) : ∃ fd, FunD K "is_listed" "is_listed" (defArgs s_is_listed) (defBody s_is_listed) (defScope s_is_listed) (d_is_listed.dvs K) [] (d_is_listed.adr K) fd := E.c.def_ 2 (d := d_is_listed) rfl
theorem Env.dd_is_counts {P : Program} {K : PySem.W.Frag} {mg : Str → Option Value} (E : Env P K mg) : ∃ fd, FunD K "is_counts" "is_counts" (defArgs s_is_counts) (defBody s_is_counts) (defScope s_is_counts) (d_is_counts.dvs K) [] (d_is_counts.adr K) fd := E.c.def_ 3 (d := d_is_counts) rfl
theorem Env.dd_deep {P : Program} {K : PySem.W.Frag} {mg : Str → Option Value} (E : Env P K mg) : ∃ fd, FunD K "deep" "deep" (defArgs s_deep) (defBody s_deep) (defScope s_deep) (d_deep.dvs K) [] (d_deep.adr K) fd := E.c.def_ 4 (d := d_deep) rfl
theorem Env.dd_at_most {P : Program} {K : PySem.W.Frag} {mg : Str → Option Value} (E : Env P K mg) : ∃ fd, FunD K "at_most" "at_most" (defArgs s_at_most) (defBody s_at_most) (defScope s_at_most) (d_at_most.dvs K) [] (d_at_most.adr K) fd := E.c.def_ 5 (d := d_at_most) rfl
theorem Env.dd_common_divisor {P : Program} {K : PySem.W.Frag} {mg : Str → Option Value} (E : Env P K mg) : ∃ fd, FunD K "common_divisor" "common_divisor" (defArgs s_common_divisor) (defBody s_common_divisor) (defScope s_common_divisor) (d_common_divisor.dvs K) [] (d_common_divisor.adr K) fd := E.c.def_ 6 (d := d_common_divisor) rfl
theorem Env.dd_common_multiple {P : Program} {K : PySem.W.Frag} {mg : Str → Option Value} (E : Env P K mg) : ∃ fd, FunD K "common_multiple" "common_multiple" (defArgs s_common_multiple) (defBody s_common_multiple) (defScope s_common_multiple) (d_common_multiple.dvs K) [] (d_common_multiple.adr K) fd := E.c.def_ 7 (d := d_common_multiple) rfl
theorem Env.dd_end_of {P : Program} {K : PySem.W.Frag} {mg : Str → Option Value} (E : Env P K mg) : ∃ fd, FunD K "end_of" "end_of" (defArgs s_end_of) (defBody s_end_of) (defScope s_end_of) (d_end_of.dvs K) [] (d_end_of.adr K) fd := E.c.def_ 8 (d := d_end_of) rfl
theorem Env.dd_value_at {P : Program} {K : PySem.W.Frag} {mg : Str → Option Value} (E : Env P K mg) : ∃ fd, FunD K "value_at" "value_at" (defArgs s_value_at) (defBody s_value_at) (defScope s_value_at) (d_value_at.dvs K) [] (d_value_at.adr K) fd := E.c.def_ 9 (d := d_value_at) rfl
theorem Env.dd_short_loop {P : Program} {K : PySem.W.Frag} {mg : Str → Option Value} (E : Env P K mg) : ∃ fd, FunD K "short_loop" "short_loop" (defArgs s_short_loop) (defBody s_short_loop) (defScope s_short_loop) (d_short_loop.dvs K) [] (d_short_loop.adr K) fd := E.c.def_ 10 (d := d_short_loop) rfl
theorem Env.dd_plain_form {P : Program} {K : PySem.W.Frag} {mg : Str → Option Value} (E : Env P K mg) : ∃ fd, FunD K "plain_form" "plain_form" (defArgs s_plain_form) (defBody s_plain_form) (defScope s_plain_form) (d_plain_form.dvs K) [] (d_plain_form.adr K) fd := E.c.def_ 11 (d := d_plain_form) rfl
theorem Env.dd_least_above {P : Program} {K : PySem.W.Frag} {mg : Str → Option Value} (E : Env P K mg) : ∃ fd, FunD K "least_above" "least_above" (defArgs s_least_above) (defBody s_least_above) (defScope s_least_above) (d_least_above.dvs K) [] (d_least_above.adr K) fd := E.c.def_ 12 (d := d_least_above) rfl
theorem Env.dd_below {P : Program} {K : PySem.W.Frag} {mg : Str → Option Value} (E : Env P K mg) : ∃ fd, FunD K "below" "below" (defArgs s_below) (defBody s_below) (defScope s_below) (d_below.dvs K) [] (d_below.adr K) fd := E.c.def_ 13 (d := d_below) rfl
theorem Env.dd_window {P : Program} {K : PySem.W.Frag} {mg : Str → Option Value} (E : Env P K mg) : ∃ fd, FunD K "window" "window" (defArgs s_window) (defBody s_window) (defScope s_window) (d_window.dvs K) [] (d_window.adr K) fd := E.c.def_ 14 (d := d_window) rfl
theorem Env.dd_climb_of {P : Program} {K : PySem.W.Frag} {mg : Str → Option Value} (E : Env P K mg) : ∃ fd, FunD K "climb_of" "climb_of" (defArgs s_climb_of) (defBody s_climb_of) (defScope s_climb_of) (d_climb_of.dvs K) [] (d_climb_of.adr K) fd := E.c.def_ 15 (d := d_climb_of) rfl
theorem Env.dd_sign_of {P : Program} {K : PySem.W.Frag} {mg : Str → Option Value} (E : Env P K mg) : ∃ fd, FunD K "sign_of" "sign_of" (defArgs s_sign_of) (defBody s_sign_of) (defScope s_sign_of) (d_sign_of.dvs K) [] (d_sign_of.adr K) fd := E.c.def_ 16 (d := d_sign_of) rfl
theorem Env.dd_sign_at {P : Program} {K : PySem.W.Frag} {mg : Str → Option Value} (E : Env P K mg) : ∃ fd, FunD K "sign_at" "sign_at" (defArgs s_sign_at) (defBody s_sign_at) (defScope s_sign_at) (d_sign_at.dvs K) [] (d_sign_at.adr K) fd := E.c.def_ 17 (d := d_sign_at) rfl
theorem Env.dd_last_other {P : Program} {K : PySem.W.Frag} {mg : Str → Option Value} (E : Env P K mg) : ∃ fd, FunD K "last_other" "last_other" (defArgs s_last_other) (defBody s_last_other) (defScope s_last_other) (d_last_other.dvs K) [] (d_last_other.adr K) fd := E.c.def_ 18 (d := d_last_other) rfl
theorem Env.dd_settling {P : Program} {K : PySem.W.Frag} {mg : Str → Option Value} (E : Env P K mg) : ∃ fd, FunD K "settling" "settling" (defArgs s_settling) (defBody s_settling) (defScope s_settling) (d_settling.dvs K) [] (d_settling.adr K) fd := E.c.def_ 19 (d := d_settling) rfl
theorem Env.dd_shortest_round {P : Program} {K : PySem.W.Frag} {mg : Str → Option Value} (E : Env P K mg) : ∃ fd, FunD K "shortest_round" "shortest_round" (defArgs s_shortest_round) (defBody s_shortest_round) (defScope s_shortest_round) (d_shortest_round.dvs K) [] (d_shortest_round.adr K) fd := E.c.def_ 20 (d := d_shortest_round) rfl
theorem Env.dd_sides {P : Program} {K : PySem.W.Frag} {mg : Str → Option Value} (E : Env P K mg) : ∃ fd, FunD K "sides" "sides" (defArgs s_sides) (defBody s_sides) (defScope s_sides) (d_sides.dvs K) [] (d_sides.adr K) fd := E.c.def_ 21 (d := d_sides) rfl
theorem Env.dd_is_rising {P : Program} {K : PySem.W.Frag} {mg : Str → Option Value} (E : Env P K mg) : ∃ fd, FunD K "is_rising" "is_rising" (defArgs s_is_rising) (defBody s_is_rising) (defScope s_is_rising) (d_is_rising.dvs K) [] (d_is_rising.adr K) fd := E.c.def_ 22 (d := d_is_rising) rfl
theorem Env.dd_checked_table {P : Program} {K : PySem.W.Frag} {mg : Str → Option Value} (E : Env P K mg) : ∃ fd, FunD K "checked_table" "checked_table" (defArgs s_checked_table) (defBody s_checked_table) (defScope s_checked_table) (d_checked_table.dvs K) [] (d_checked_table.adr K) fd := E.c.def_ 23 (d := d_checked_table) rfl
theorem Env.dd__law_source {P : Program} {K : PySem.W.Frag} {mg : Str → Option Value} (E : Env P K mg) : ∃ fd, FunD K "_law_source" "_law_source" (defArgs s__law_source) (defBody s__law_source) (defScope s__law_source) (d__law_source.dvs K) [] (d__law_source.adr K) fd := E.c.def_ 24 (d := d__law_source) rfl
theorem Env.dd__law_pick {P : Program} {K : PySem.W.Frag} {mg : Str → Option Value} (E : Env P K mg) : ∃ fd, FunD K "_law_pick" "_law_pick" (defArgs s__law_pick) (defBody s__law_pick) (defScope s__law_pick) (d__law_pick.dvs K) [] (d__law_pick.adr K) fd := E.c.def_ 25 (d := d__law_pick) rfl
theorem Env.dd__law_is_integer {P : Program} {K : PySem.W.Frag} {mg : Str → Option Value} (E : Env P K mg) : ∃ fd, FunD K "_law_is_integer" "_law_is_integer" (defArgs s__law_is_integer) (defBody s__law_is_integer) (defScope s__law_is_integer) (d__law_is_integer.dvs K) [] (d__law_is_integer.adr K) fd := E.c.def_ 26 (d := d__law_is_integer) rfl
theorem Env.dd__law_le {P : Program} {K : PySem.W.Frag} {mg : Str → Option Value} (E : Env P K mg) : ∃ fd, FunD K "_law_le" "_law_le" (defArgs s__law_le) (defBody s__law_le) (defScope s__law_le) (d__law_le.dvs K) [] (d__law_le.adr K) fd := E.c.def_ 27 (d := d__law_le) rfl
theorem Env.dd__law_rising {P : Program} {K : PySem.W.Frag} {mg : Str → Option Value} (E : Env P K mg) : ∃ fd, FunD K "_law_rising" "_law_rising" (defArgs s__law_rising) (defBody s__law_rising) (defScope s__law_rising) (d__law_rising.dvs K) [] (d__law_rising.adr K) fd := E.c.def_ 28 (d := d__law_rising) rfl
theorem Env.dd__law_raw {P : Program} {K : PySem.W.Frag} {mg : Str → Option Value} (E : Env P K mg) : ∃ fd, FunD K "_law_raw" "_law_raw" (defArgs s__law_raw) (defBody s__law_raw) (defScope s__law_raw) (d__law_raw.dvs K) [] (d__law_raw.adr K) fd := E.c.def_ 29 (d := d__law_raw) rfl
theorem Env.dd__law_end {P : Program} {K : PySem.W.Frag} {mg : Str → Option Value} (E : Env P K mg) : ∃ fd, FunD K "_law_end" "_law_end" (defArgs s__law_end) (defBody s__law_end) (defScope s__law_end) (d__law_end.dvs K) [] (d__law_end.adr K) fd := E.c.def_ 30 (d := d__law_end) rfl
theorem Env.dd__law_at {P : Program} {K : PySem.W.Frag} {mg : Str → Option Value} (E : Env P K mg) : ∃ fd, FunD K "_law_at" "_law_at" (defArgs s__law_at) (defBody s__law_at) (defScope s__law_at) (d__law_at.dvs K) [] (d__law_at.adr K) fd := E.c.def_ 31 (d := d__law_at) rfl
theorem Env.dd__law_plain {P : Program} {K : PySem.W.Frag} {mg : Str → Option Value} (E : Env P K mg) : ∃ fd, FunD K "_law_plain" "_law_plain" (defArgs s__law_plain) (defBody s__law_plain) (defScope s__law_plain) (d__law_plain.dvs K) [] (d__law_plain.adr K) fd := E.c.def_ 32 (d := d__law_plain) rfl
theorem Env.dd__law_table {P : Program} {K : PySem.W.Frag} {mg : Str → Option Value} (E : Env P K mg) : ∃ fd, FunD K "_law_table" "_law_table" (defArgs s__law_table) (defBody s__law_table) (defScope s__law_table) (d__law_table.dvs K) [] (d__law_table.adr K) fd := E.c.def_ 33 (d := d__law_table) rfl
theorem Env.dd__law_sign {P : Program} {K : PySem.W.Frag} {mg : Str → Option Value} (E : Env P K mg) : ∃ fd, FunD K "_law_sign" "_law_sign" (defArgs s__law_sign) (defBody s__law_sign) (defScope s__law_sign) (d__law_sign.dvs K) [] (d__law_sign.adr K) fd := E.c.def_ 34 (d := d__law_sign) rfl
theorem Env.dd__law_cut_signs {P : Program} {K : PySem.W.Frag} {mg : Str → Option Value} (E : Env P K mg) : ∃ fd, FunD K "_law_cut_signs" "_law_cut_signs" (defArgs s__law_cut_signs) (defBody s__law_cut_signs) (defScope s__law_cut_signs) (d__law_cut_signs.dvs K) [] (d__law_cut_signs.adr K) fd := E.c.def_ 35 (d := d__law_cut_signs) rfl
theorem Env.dd__law_far_apart {P : Program} {K : PySem.W.Frag} {mg : Str → Option Value} (E : Env P K mg) : ∃ fd, FunD K "_law_far_apart" "_law_far_apart" (defArgs s__law_far_apart) (defBody s__law_far_apart) (defScope s__law_far_apart) (d__law_far_apart.dvs K) [] (d__law_far_apart.adr K) fd := E.c.def_ 36 (d := d__law_far_apart) rfl
theorem Env.dd__law_refused {P : Program} {K : PySem.W.Frag} {mg : Str → Option Value} (E : Env P K mg) : ∃ fd, FunD K "_law_refused" "_law_refused" (defArgs s__law_refused) (defBody s__law_refused) (defScope s__law_refused) (d__law_refused.dvs K) [] (d__law_refused.adr K) fd := E.c.def_ 37 (d := d__law_refused) rfl
theorem Env.dd__law_edge {P : Program} {K : PySem.W.Frag} {mg : Str → Option Value} (E : Env P K mg) : ∃ fd, FunD K "_law_edge" "_law_edge" (defArgs s__law_edge) (defBody s__law_edge) (defScope s__law_edge) (d__law_edge.dvs K) [] (d__law_edge.adr K) fd := E.c.def_ 38 (d := d__law_edge) rfl
theorem Env.dd_law {P : Program} {K : PySem.W.Frag} {mg : Str → Option Value} (E : Env P K mg) : ∃ fd, FunD K "law" "law" (defArgs s_law) (defBody s_law) (defScope s_law) (d_law.dvs K) [] (d_law.adr K) fd := E.c.def_ 39 (d := d_law) rfl
theorem Env.dd_Table_init {P : Program} {K : PySem.W.Frag} {mg : Str → Option Value} (E : Env P K mg) : ∃ fd, FunD K "__init__" "Table.__init__" (defArgs s_Table_init) (defBody s_Table_init) (defScope s_Table_init) (d_Table_init.dvs K) [] (d_Table_init.adr K) fd := E.c.def_ 40 (d := d_Table_init) rfl
theorem Env.dd_Table_call {P : Program} {K : PySem.W.Frag} {mg : Str → Option Value} (E : Env P K mg) : ∃ fd, FunD K "__call__" "Table.__call__" (defArgs s_Table_call) (defBody s_Table_call) (defScope s_Table_call) (d_Table_call.dvs K) [] (d_Table_call.adr K) fd := E.c.def_ 41 (d := d_Table_call) rfl
theorem Env.dd_Table_raw {P : Program} {K : PySem.W.Frag} {mg : Str → Option Value} (E : Env P K mg) : ∃ fd, FunD K "raw" "Table.raw" (defArgs s_Table_raw) (defBody s_Table_raw) (defScope s_Table_raw) (d_Table_raw.dvs K) [] (d_Table_raw.adr K) fd := E.c.def_ 42 (d := d_Table_raw) rfl
theorem Env.dd_Table_eq {P : Program} {K : PySem.W.Frag} {mg : Str → Option Value} (E : Env P K mg) : ∃ fd, FunD K "__eq__" "Table.__eq__" (defArgs s_Table_eq) (defBody s_Table_eq) (defScope s_Table_eq) (d_Table_eq.dvs K) [] (d_Table_eq.adr K) fd := E.c.def_ 43 (d := d_Table_eq) rfl
theorem Env.dd_Table_shift {P : Program} {K : PySem.W.Frag} {mg : Str → Option Value} (E : Env P K mg) : ∃ fd, FunD K "shift" "Table.shift" (defArgs s_Table_shift) (defBody s_Table_shift) (defScope s_Table_shift) (d_Table_shift.dvs K) [] (d_Table_shift.adr K) fd := E.c.def_ 44 (d := d_Table_shift) rfl
theorem Env.dd_Verdict_init {P : Program} {K : PySem.W.Frag} {mg : Str → Option Value} (E : Env P K mg) : ∃ fd, FunD K "__init__" "Verdict.__init__" (defArgs s_Verdict_init) (defBody s_Verdict_init) (defScope s_Verdict_init) (d_Verdict_init.dvs K) [] (d_Verdict_init.adr K) fd := E.c.def_ 45 (d := d_Verdict_init) rfl
theorem Env.dd_Below_init {P : Program} {K : PySem.W.Frag} {mg : Str → Option Value} (E : Env P K mg) : ∃ fd, FunS K "__init__" "Below.__init__" (defArgs s_Below_init) (defBody s_Below_init) (defScope s_Below_init) (d_Below_init.adr K) fd (cellOf K (d_Below_init.adr K)) (codeOf K (d_Below_init.adr K)) := E.c.defS 46 (d := d_Below_init) rfl
theorem Env.dd_Sides_init {P : Program} {K : PySem.W.Frag} {mg : Str → Option Value} (E : Env P K mg) : ∃ fd, FunD K "__init__" "Sides.__init__" (defArgs s_Sides_init) (defBody s_Sides_init) (defScope s_Sides_init) (d_Sides_init.dvs K) [] (d_Sides_init.adr K) fd := E.c.def_ 47 (d := d_Sides_init) rfl
theorem Env.dd_Sides_eq {P : Program} {K : PySem.W.Frag} {mg : Str → Option Value} (E : Env P K mg) : ∃ fd, FunD K "__eq__" "Sides.__eq__" (defArgs s_Sides_eq) (defBody s_Sides_eq) (defScope s_Sides_eq) (d_Sides_eq.dvs K) [] (d_Sides_eq.adr K) fd := E.c.def_ 48 (d := d_Sides_eq) rfl
theorem Env.dd_Sides_call {P : Program} {K : PySem.W.Frag} {mg : Str → Option Value} (E : Env P K mg) : ∃ fd, FunD K "__call__" "Sides.__call__" (defArgs s_Sides_call) (defBody s_Sides_call) (defScope s_Sides_call) (d_Sides_call.dvs K) [] (d_Sides_call.adr K) fd := E.c.def_ 49 (d := d_Sides_call) rfl
theorem Env.dd_Sides_settled {P : Program} {K : PySem.W.Frag} {mg : Str → Option Value} (E : Env P K mg) : ∃ fd, FunD K "settled" "Sides.settled" (defArgs s_Sides_settled) (defBody s_Sides_settled) (defScope s_Sides_settled) (d_Sides_settled.dvs K) [] (d_Sides_settled.adr K) fd := E.c.def_ 50 (d := d_Sides_settled) rfl
theorem Env.dd_WrongThing_init {P : Program} {K : PySem.W.Frag} {mg : Str → Option Value} (E : Env P K mg) : ∃ fd, FunS K "__init__" "WrongThing.__init__" (defArgs s_WrongThing_init) (defBody s_WrongThing_init) (defScope s_WrongThing_init) (d_WrongThing_init.adr K) fd (cellOf K (d_WrongThing_init.adr K)) (codeOf K (d_WrongThing_init.adr K)) := E.c.defS 51 (d := d_WrongThing_init) rfl
theorem Env.dd_TooMany_init {P : Program} {K : PySem.W.Frag} {mg : Str → Option Value} (E : Env P K mg) : ∃ fd, FunS K "__init__" "TooMany.__init__" (defArgs s_TooMany_init) (defBody s_TooMany_init) (defScope s_TooMany_init) (d_TooMany_init.adr K) fd (cellOf K (d_TooMany_init.adr K)) (codeOf K (d_TooMany_init.adr K)) := E.c.defS 52 (d := d_TooMany_init) rfl

end M
namespace M
open PySem PySem.Spec PyProof.Rows L2 Evl MS
def nmL0 : List Str := ["_wall", "RosterneedError", "WrongThing", "WrongWord", "TooMany", "BadCount", "BadTable", "is_integer", "is_count", "is_listed", "is_counts", "deep", "at_most", "greater_of", "lesser_of", "common_divisor", "common_multiple", "end_of", "value_at", "short_loop", "plain_form", "formed", "until_never", "first_beyond", "behind_raw"]
def nmL1 : List Str := ["later_start", "joined_values", "joined_raw", "counts_below", "turned_raw", "least_above", "Verdict", "Below", "below", "window", "climb_of", "sign_of", "sign_at", "last_other", "settling", "shortest_round", "Sides", "sides", "is_rising", "checked_table", "Table", "table_from", "_law_source", "_law_pick", "_law_is_integer"]
def nmL2 : List Str := ["_law_le", "_law_rising", "_law_raw", "_law_end", "_law_at", "_law_plain", "_law_table", "_law_sign", "_law_cut_signs", "_law_far_apart", "_law_refused", "_law_edge", "MOST_PLACES", "MOST_SHIFT"]
def nmL : List Str := nmL0 ++ nmL1 ++ nmL2
abbrev R : PySem.W.OpenRow := PySem.W.OpenLaw.row PySem.Challenge.rw_rosterneed_k89_whole_sides
abbrev hk : PySem.W.Hook := hookM 6 fa fn exB
def ob (s : PySem.W.SharedT) : AlM := obsMG 6 fa fn exB (HandSHeadRun.getT s)
theorem ob_eq (s : PySem.W.SharedT) : ob s = hk.obs s.abs := obsMG_eq (HandSHeadRun.getT_eq s)
end M
/-! the head run in chunks: states at ends of statements, each chunk by one look of the kernel (own text) -/
noncomputable section
namespace HC
open PySem PySem.W PySem.Calls PyProof.Rows HandSHeadRun
def gsF (st : SharedT → Thread → Option (SharedT × Thread)) (n0 : Nat) (ann : Option Value) : Nat → SharedT → Thread → Option (Flow × SharedT × Code × Pos)
  | 0, _, _ => none
  | m + 1, s, t => match endAt 1 t with
    | some f => some (f, s, t.code, t.pos)
    | none => match stepOk n0 ann t with
      | false => none
      | true => match st s t with
        | some (s', t') => frS s' fun s' => gsF st n0 ann m s' t'
        | none => none
def gpF (st : SharedT → Thread → Option (SharedT × Thread)) (n0 : Nat) (ann : Option Value) : Nat → SharedT → Thread → Option (SharedT × Thread)
  | 0, s, t => some (s, t)
  | m + 1, s, t => match through t with
    | true => none
    | false => match stepOk n0 ann t with
      | false => none
      | true => match st s t with
        | some (s', t') => frS s' fun s' => gpF st n0 ann m s' t'
        | none => none
section
variable {tb : String → Option Builtin} {p : Program} {w : World} {n0 : Nat} {ann : Option Value}
theorem gsF_eq : ∀ (m : Nat) (s : SharedT) (t : Thread), gsF (stepT (denote tb) p w) n0 ann m s t = segRunT tb p w n0 ann 1 m s t
  | 0, _, _ => rfl
  | m + 1, s, t => by
    unfold gsF segRunT
    cases endAt 1 t with
    | some f => rfl
    | none =>
      cases stepOk n0 ann t with
      | false => rfl
      | true =>
        cases stepT (denote tb) p w s t with
        | none => rfl
        | some r =>
          obtain ⟨s', t'⟩ := r
          show frS s' (fun s' => gsF (stepT (denote tb) p w) n0 ann m s' t') = _
          rw [frS_eq, gsF_eq m s' t']
theorem gpF_ok : ∀ {m : Nat} {s s' : SharedT} {t t' : Thread}, gpF (stepT (denote tb) p w) n0 ann m s t = some (s', t') → topGo tb p w n0 ann m s.abs t = some (s'.abs, t')
  | 0, _, _, _, _, h => by cases h; rfl
  | m + 1, s, s', t, t', h => by
    unfold gpF at h
    unfold topGo
    cases ht : through t with
    | true => rw [ht] at h; cases h
    | false =>
      rw [ht] at h
      cases hk : stepOk n0 ann t with
      | false => rw [hk] at h; cases h
      | true =>
        rw [hk] at h
        cases hs : stepT (denote tb) p w s t with
        | none => rw [hs] at h; cases h
        | some r =>
          obtain ⟨s2, t2⟩ := r
          rw [hs] at h
          have h3 : (frS s2 fun s' => gpF (stepT (denote tb) p w) n0 ann m s' t2) = some (s', t') := h
          rw [frS_eq] at h3
          rw [stepT_spec hs]
          exact gpF_ok h3
end
def execsQ : List Stmt → Env → Sem Flow := PySem.W.Fast.tw12563942051412417395
theorem execsQ_eq : @PySem.execs = execsQ := PySem.W.Fast.te12563942051412417395
def startQ : List Stmt → Env → Sem Unit := PySem.W.Fast.tw1066825118222455980
theorem startQ_eq : @PySem.blockStart = startQ := PySem.W.Fast.te1066825118222455980
abbrev piecesQ (l : List Stmt) (env : Env) (c : Code) (p : Pos) (B : List Frame) : Thread := ⟨(execsQ l env).wrap doneF deadEnd id id, c, p, B⟩
abbrev blockQ (l : List Stmt) (env : Env) (c : Code) (p : Pos) (B : List Frame) : Thread := ⟨(startQ l env).wrap (fun _ => doneF .next) deadEnd id id, c, p, B⟩
section
variable {p : Program} {w : World} {n0 : Nat} {ann : Option Value} {env : Env} {q : Pos}
theorem chunk_of {n N : Nat} {s s' : SharedT} {r : Shared} {l rest : List Stmt} {c : Code} {pos p' : Pos} (h : gsF (stepQ (denQ tabQ) p w) n0 ann n s (piecesQ l env c pos [topFrame q]) = some (.next, s', c, p'))
    (k : topRun treeTable p w n0 ann N s'.abs (restOf rest env c p' [topFrame q]) = some r) : topRun treeTable p w n0 ann (n + N) s.abs (restOf (l ++ rest) env c pos [topFrame q]) = some r := by
  have h2 : gsF (stepT (denote treeTable) p w) n0 ann n s (piecesOf l env c pos [topFrame q]) = some (.next, s', c, p') := by
    rw [stepQ_eq, denQ_eq, tabQ_eq]
    show gsF _ _ _ _ _ ⟨(execs l env).wrap doneF deadEnd id id, c, pos, [topFrame q]⟩ = _
    rw [execsQ_eq]
    exact h
  rw [gsF_eq] at h2
  exact piece_app (segRun_of h2) k
theorem start_of {n N : Nat} {s s' : SharedT} {r : Shared} {b : List Stmt} {c : Code} {pos p' : Pos} (h : gsF (stepQ (denQ tabQ) p w) n0 ann n s (blockQ b env c pos [topFrame q]) = some (.next, s', c, p'))
    (k : topRun treeTable p w n0 ann N s'.abs (restOf b env c p' [topFrame q]) = some r) : topRun treeTable p w n0 ann (n + N) s.abs ⟨denote treeTable (.body b env), c, pos, [topFrame q]⟩ = some r := by
  have h2 : gsF (stepT (denote treeTable) p w) n0 ann n s (blockOf b env c pos [topFrame q]) = some (.next, s', c, p') := by
    rw [stepQ_eq, denQ_eq, tabQ_eq]
    show gsF _ _ _ _ _ ⟨(blockStart b env).wrap (fun _ => doneF .next) deadEnd id id, c, pos, [topFrame q]⟩ = _
    rw [startQ_eq]
    exact h
  rw [gsF_eq] at h2
  exact piece_block (segRun_of h2) k
theorem pre_of {n N : Nat} {s s' : SharedT} {r : Shared} {c : Code} {pos : Pos} (h : gpF (stepQ (denQ tabQ) p w) n0 ann n s (topStub p) = some (s', ⟨denQ tabQ c, c, pos, [topFrame q]⟩))
    (k : topRun treeTable p w n0 ann N s'.abs ⟨denote treeTable c, c, pos, [topFrame q]⟩ = some r) : topRun treeTable p w n0 ann (n + N) s.abs (topStub p) = some r := by
  have h2 : gpF (stepT (denote treeTable) p w) n0 ann n s (topStub p) = some (s', ⟨denote treeTable c, c, pos, [topFrame q]⟩) := by
    rw [stepQ_eq, denQ_eq, tabQ_eq]
    exact h
  exact go_top (gpF_ok h2) k
theorem fin_of {n : Nat} {s s' : SharedT} {c : Code} {pos : Pos} (h : goF (stepQ (denQ tabQ) p w) n0 ann n s ⟨doneF .next, c, pos, [topFrame q]⟩ = some s') :
    topRun treeTable p w n0 ann n s.abs (restOf [] env c pos [topFrame q]) = some s'.abs := by
  have h2 : goF (stepT (denote treeTable) p w) n0 ann n s ⟨doneF .next, c, pos, [topFrame q]⟩ = some s' := by
    rw [stepQ_eq, denQ_eq, tabQ_eq]
    exact h
  exact piece_nil (goF_ok h2)
end
theorem left_run {p q : Program} {loose : List Str} {Xt : Shared → Bool} {α : Type} {Yf : Shared → α} {Ya : World → α} {N M : Nat} {n0 : Nat} {ann : Option Value} {S0 Sk : World → OsState → SharedT}
    (e : opening p = plainProg p.main.scope.names) (hN : Nat.ble 600 N = true) (f : ∀ s, fenceModules? p s = some s) (le : Nat.ble M N = true)
    (hS0 : ∀ w os, (S0 w os).abs = ⟨boot_heap w.params, #[], boot_drawn, boot_toks, os⟩) (hn : ∀ w : World, (boot_heap w.params).objs.size = n0) (ha : ∀ w, bootAnn w = ann)
    (run : ∀ (w : World) (os : OsState), topRun treeTable p w n0 ann M (S0 w os).abs (topStub p) = some (Sk w os).abs)
    (look : ∀ (w : World) (os : OsState), (looksF p (boot_heap w.params) (Sk w os).abs, openSeen q loose (importedModules p.main.body) Xt true (Sk w os).abs, Yf (Sk w os).abs) = (true, openGood q loose, Ya w)) :
    LeftO p q loose Xt Yf Ya N true := fun w => by
  obtain ⟨⟨h, gs, d, k, os⟩, a, a'⟩ := Option.map_eq_some_iff.mp (boot_open e hN f w)
  obtain ⟨rfl, rfl, rfl, rfl⟩ : h = boot_heap w.params ∧ gs = Array.mk [] ∧ d = boot_drawn ∧ k = boot_toks := by simpa using a'
  have hr := run w os
  obtain ⟨l1, l2, l3⟩ : _ ∧ _ ∧ _ := by simpa only [Prod.mk.injEq] using look w os
  generalize (Sk w os).abs = s at *
  rw [hS0] at hr
  have r := topRun_mono (N - M) _ _ _ _ hr
  rw [show M + (N - M) = N by have := Nat.le_of_ble_eq_true le; omega] at r
  rw [← hn w, ← ha w] at r
  have l1' : (staticsOk (importedModules p.main.body) (boot_heap w.params) s.heap && namesBound p s.heap && gensDone s && laidKept (boot_heap w.params) s.heap) = true := l1
  have t : topFrom treeTable p w N ⟨boot_heap w.params, Array.mk [], boot_drawn, boot_toks, os⟩ = some s := by
    unfold topFrom
    dsimp only
    rw [boot_ns]
    show (topRun treeTable p w (boot_heap w.params).objs.size (bootAnn w) N ⟨boot_heap w.params, #[], boot_drawn, boot_toks, os⟩ (topStub p)).bind _ = _
    rw [r]
    show (match staticsOk (importedModules p.main.body) (boot_heap w.params) s.heap && namesBound p s.heap && gensDone s && laidKept (boot_heap w.params) s.heap with | true => some s | false => none) = _
    rw [l1']
  unfold openEnds
  rw [a]
  show (topFrom treeTable p w N _).map _ = _
  rw [t]
  exact congrArg some (Prod.ext l2 l3)
theorem head_run {r : OpenRow} {q : Program} {H : Hook} {ob : SharedT → H.α} {M : Nat} {loose : List PySem.Str} {d : DefRec} {kwd : List (PySem.Str × PySem.Expr)} {n0 : Nat} {ann : Option Value} {S0 Sk : World → OsState → SharedT} (ho : ∀ s : SharedT, ob s = H.obs s.abs)
    (e : opening r.prog = plainProg r.prog.main.scope.names) (f : ∀ s, fenceModules? r.prog s = some s)
    (hS0 : ∀ w os, (S0 w os).abs = ⟨boot_heap w.params, #[], boot_drawn, boot_toks, os⟩) (hn : ∀ w : World, (boot_heap w.params).objs.size = n0) (ha : ∀ w, bootAnn w = ann)
    (run : ∀ (w : World) (os : OsState), topRun treeTable r.prog w n0 ann M (S0 w os).abs (topStub r.prog) = some (Sk w os).abs)
    (look : ∀ (w : World) (os : OsState), (looksF r.prog (boot_heap w.params) (Sk w os).abs, seenQ q loose (importedModules r.prog.main.body) (fun s => xlAt q [] s && recOk r.toRowW.records s) (Sk w os).abs, ob (Sk w os)) = (true, openGood q loose, H.val w))
    (hdef : defOf q r.name = some (d, kwd)) (hp : r.prog.theDef r.name = some (d.params, d.body, d.scope)) (hk : kwWritten? d.params.kwonlyargs d.params.kw_defaults = some kwd)
    (hwr : (!r.writes || r.records.isEmpty) = true) (k1 : r.wellSaid = true) (ok : (chainsOk q && opensWell r.prog && (frees r.toRowW && r.within.isEmpty)) = true) (hb : r.prog.bare) (hw : r.toRowW.promised)
    (call : WalkO q loose (XL q []) H.says r.toRowW d kwd fun f vs => PySem.call f vs) : r.Holds := by
  have left : LeftO r.prog q loose (fun s => xlAt q [] s && recOk r.toRowW.records s) H.obs H.val (M + 600) true :=
    left_run (M := M) e (Nat.ble_eq_true_of_le (by omega)) f (Nat.ble_eq_true_of_le (by omega)) hS0 hn ha run fun w os => by
      have z := look w os
      rw [ho, ← seenQ_eq] at z
      exact z
  exact holds_open (r := r) (q := q) (loose := loose) (XP := XL q []) (YP := H.says) (d := d) (kwd := kwd) left H.of H.keeps (fun s z => xl_of s (Bool.and_eq_true_iff.mp z).1) XL.keeps hdef hp hk (fun s z => recFacts_of (Bool.and_eq_true_iff.mp z).2) hwr k1 ok hb hw call
end HC
end

namespace M
section
open PySem PySem.W PySem.Calls PyProof.Rows HandSHeadRun L2 Evl MS
noncomputable section
set_option maxHeartbeats 0
namespace HD
def prg : Program := PySem.Challenge.pw_rosterneed_k89_whole_sides
def tpN (i : Nat) : Stmt := prg.main.body.getD i (.Pass ⟨0, 0, 0, 0⟩)
def tp0 : Stmt := tpN 0
def tp3_0 : Stmt := inClass (tpN 3) 0
def tp4_0 : Stmt := inClass (tpN 4) 0
def tp5_0 : Stmt := inClass (tpN 5) 0
def tp9 : Stmt := tpN 9
def tp10 : Stmt := tpN 10
def tp11 : Stmt := tpN 11
def tp12 : Stmt := tpN 12
def tp13 : Stmt := tpN 13
def tp14 : Stmt := tpN 14
def tp15 : Stmt := tpN 15
def tp16 : Stmt := tpN 16
def tp17 : Stmt := tpN 17
def tp18 : Stmt := tpN 18
def tp20 : Stmt := tpN 20
def tp21 : Stmt := tpN 21
def tp22 : Stmt := tpN 22
def tp23 : Stmt := tpN 23
def tp24 : Stmt := tpN 24
def tp25 : Stmt := tpN 25
def tp26 : Stmt := tpN 26
def tp27 : Stmt := tpN 27
def tp28 : Stmt := tpN 28
def tp29 : Stmt := tpN 29
def tp30 : Stmt := tpN 30
def tp31 : Stmt := tpN 31
def tp32 : Stmt := tpN 32
def tp33 : Stmt := tpN 33
def tp35_0 : Stmt := inClass (tpN 35) 0
def tp35_1 : Stmt := inClass (tpN 35) 1
def tp37_0 : Stmt := inClass (tpN 37) 0
def tp38 : Stmt := tpN 38
def tp39 : Stmt := tpN 39
def tp40 : Stmt := tpN 40
def tp43 : Stmt := tpN 43
def tp44 : Stmt := tpN 44
def tp45 : Stmt := tpN 45
def tp46 : Stmt := tpN 46
def tp47 : Stmt := tpN 47
def tp48_0 : Stmt := inClass (tpN 48) 0
def tp48_1 : Stmt := inClass (tpN 48) 1
def tp48_2 : Stmt := inClass (tpN 48) 2
def tp48_3 : Stmt := inClass (tpN 48) 3
def tp49 : Stmt := tpN 49
def tp52 : Stmt := tpN 52
def tp53 : Stmt := tpN 53
def tp54_0 : Stmt := inClass (tpN 54) 0
def tp54_1 : Stmt := inClass (tpN 54) 1
def tp54_2 : Stmt := inClass (tpN 54) 2
def tp54_3 : Stmt := inClass (tpN 54) 3
def tp54_4 : Stmt := inClass (tpN 54) 4
def tp54_5 : Stmt := inClass (tpN 54) 5
def tp54_6 : Stmt := inClass (tpN 54) 6
def tp54_7 : Stmt := inClass (tpN 54) 7
def tp54_8 : Stmt := inClass (tpN 54) 8
def tp54_9 : Stmt := inClass (tpN 54) 9
def tp54_10 : Stmt := inClass (tpN 54) 10
def tp54_11 : Stmt := inClass (tpN 54) 11
def tp55 : Stmt := tpN 55
def tp57 : Stmt := tpN 57
def tp58 : Stmt := tpN 58
def tp59 : Stmt := tpN 59
def tp60 : Stmt := tpN 60
def tp61 : Stmt := tpN 61
def tp62 : Stmt := tpN 62
def tp63 : Stmt := tpN 63
def tp64 : Stmt := tpN 64
def tp65 : Stmt := tpN 65
def tp66 : Stmt := tpN 66
def tp67 : Stmt := tpN 67
def tp68 : Stmt := tpN 68
def tp69 : Stmt := tpN 69
def tp70 : Stmt := tpN 70
def tp71 : Stmt := tpN 71
def tp72 : Stmt := tpN 72
def oa_11 (P : Params) : Obj := ⟨(.type "tuple"), none, (.seq #[] 0), #[]⟩
def oa_12 (P : Params) : Obj := ⟨.none, none, (.fields #[]), #[]⟩
def oa_13 (P : Params) : Obj := ⟨(.type "code"), none, (.fields #[(.str ("<module>" : Str) 182), (.str ("<module>" : Str) 183), (.str ("/claim/cut.py" : Str) 184), (.int 1 0), (.int 0 0), (.int 0 0), (.int 0 0), (.int 0 0), (.ref 11), (.bool false), (.int 181 0), (.ref 12), .none, .none, .none, .none, (.int 185 0), (.int 1 0), (.str ("/claim/cut.py" : Str) 186)]), #[]⟩
def oa_14 (P : Params) : Obj := ⟨(.type "frame"), none, .plain, #[(some (.ref 13)), (some (.ref 3)), (some (.ref 3)), none, (some (.str ("__main__" : Str) 164)), none, (some (.ref 0))]⟩
def ta (P : Params) : BT := (.node (boot_o_0 P) (.node (boot_o_1 P) (.node (boot_o_3 P) (.node (boot_o_7 P) .nil .nil) (.node (oa_11 P) .nil .nil)) (.node (boot_o_5 P) (.node (boot_o_9 P) .nil .nil) (.node (oa_13 P) .nil .nil))) (.node (boot_o_2 P) (.node (boot_o_4 P) (.node (boot_o_8 P) .nil .nil) (.node (oa_12 P) .nil .nil)) (.node (boot_o_6 P) (.node (boot_o_10 P) .nil .nil) (.node (oa_14 P) .nil .nil))))
def Sa (w : World) (os : OsState) : SharedT := ⟨ta w.params, 15, {}, #[], {}, 187, os⟩
def pa : Pos := ⟨0, 0, 0, 0⟩
def tb (P : Params) : BT := (.node (boot_o_0 P) (.node (boot_o_1 P) (.node (boot_o_3 P) (.node (boot_o_7 P) .nil .nil) (.node (oa_11 P) .nil .nil)) (.node (boot_o_5 P) (.node (boot_o_9 P) .nil .nil) (.node (oa_13 P) .nil .nil))) (.node (boot_o_2 P) (.node (boot_o_4 P) (.node (boot_o_8 P) .nil .nil) (.node (oa_12 P) .nil .nil)) (.node (boot_o_6 P) (.node (boot_o_10 P) .nil .nil) (.node (oa_14 P) .nil .nil))))
def Sb (w : World) (os : OsState) : SharedT := ⟨tb w.params, 15, {}, #[], {}, 187, os⟩
def pb : Pos := ⟨0, 0, 0, 0⟩
def o0_3 (P : Params) : Obj := ⟨(.type "dict"), none, (.dict #[⟨PyData.keyHash P ("__name__" : Str), (.str ("__name__" : Str) 165), (.str ("rosterneed.comparing" : Str) 588)⟩, ⟨PyData.keyHash P ("__doc__" : Str), (.str ("__doc__" : Str) 166), .none⟩, ⟨PyData.keyHash P ("__package__" : Str), (.str ("__package__" : Str) 167), .none⟩, ⟨PyData.keyHash P ("__loader__" : Str), (.str ("__loader__" : Str) 168), (.builtin "__main__.__loader__#opaque")⟩, ⟨PyData.keyHash P ("__spec__" : Str), (.str ("__spec__" : Str) 169), .none⟩, ⟨PyData.keyHash P ("__annotations__" : Str), (.str ("__annotations__" : Str) 170), (.ref 6)⟩, ⟨PyData.keyHash P ("__builtins__" : Str), (.str ("__builtins__" : Str) 171), (.ref 4)⟩, ⟨PyData.keyHash P ("__file__" : Str), (.str ("__file__" : Str) 173), (.str ("/claim/cut.py" : Str) 172)⟩, ⟨PyData.keyHash P ("__cached__" : Str), (.str ("__cached__" : Str) 174), .none⟩, ⟨PyData.keyHash P ("_wall" : Str), (.str ("_wall" : Str) 193), (.ref 21)⟩, ⟨PyData.keyHash P ("RosterneedError" : Str), (.str ("RosterneedError" : Str) 213), (.ref 31)⟩, ⟨PyData.keyHash P ("WrongThing" : Str), (.str ("WrongThing" : Str) 240), (.ref 53)⟩, ⟨PyData.keyHash P ("WrongWord" : Str), (.str ("WrongWord" : Str) 267), (.ref 74)⟩, ⟨PyData.keyHash P ("TooMany" : Str), (.str ("TooMany" : Str) 294), (.ref 95)⟩, ⟨PyData.keyHash P ("BadCount" : Str), (.str ("BadCount" : Str) 310), (.ref 107)⟩, ⟨PyData.keyHash P ("BadTable" : Str), (.str ("BadTable" : Str) 326), (.ref 119)⟩, ⟨PyData.keyHash P ("is_integer" : Str), (.str ("is_integer" : Str) 335), (.ref 128)⟩, ⟨PyData.keyHash P ("is_count" : Str), (.str ("is_count" : Str) 342), (.ref 135)⟩, ⟨PyData.keyHash P ("is_listed" : Str), (.str ("is_listed" : Str) 349), (.ref 142)⟩, ⟨PyData.keyHash P ("is_counts" : Str), (.str ("is_counts" : Str) 355), (.ref 147)⟩, ⟨PyData.keyHash P ("deep" : Str), (.str ("deep" : Str) 361), (.ref 152)⟩, ⟨PyData.keyHash P ("at_most" : Str), (.str ("at_most" : Str) 369), (.ref 159)⟩, ⟨PyData.keyHash P ("greater_of" : Str), (.str ("greater_of" : Str) 377), (.ref 166)⟩, ⟨PyData.keyHash P ("lesser_of" : Str), (.str ("lesser_of" : Str) 385), (.ref 173)⟩, ⟨PyData.keyHash P ("common_divisor" : Str), (.str ("common_divisor" : Str) 393), (.ref 180)⟩, ⟨PyData.keyHash P ("common_multiple" : Str), (.str ("common_multiple" : Str) 401), (.ref 187)⟩, ⟨PyData.keyHash P ("end_of" : Str), (.str ("end_of" : Str) 413), (.ref 194)⟩, ⟨PyData.keyHash P ("value_at" : Str), (.str ("value_at" : Str) 425), (.ref 201)⟩, ⟨PyData.keyHash P ("short_loop" : Str), (.str ("short_loop" : Str) 431), (.ref 206)⟩, ⟨PyData.keyHash P ("plain_form" : Str), (.str ("plain_form" : Str) 437), (.ref 211)⟩, ⟨PyData.keyHash P ("formed" : Str), (.str ("formed" : Str) 447), (.ref 218)⟩, ⟨PyData.keyHash P ("until_never" : Str), (.str ("until_never" : Str) 456), (.ref 225)⟩, ⟨PyData.keyHash P ("first_beyond" : Str), (.str ("first_beyond" : Str) 467), (.ref 232)⟩, ⟨PyData.keyHash P ("behind_raw" : Str), (.str ("behind_raw" : Str) 473), (.ref 237)⟩, ⟨PyData.keyHash P ("later_start" : Str), (.str ("later_start" : Str) 491), (.ref 244)⟩, ⟨PyData.keyHash P ("joined_values" : Str), (.str ("joined_values" : Str) 505), (.ref 251)⟩, ⟨PyData.keyHash P ("joined_raw" : Str), (.str ("joined_raw" : Str) 511), (.ref 256)⟩, ⟨PyData.keyHash P ("counts_below" : Str), (.str ("counts_below" : Str) 523), (.ref 263)⟩, ⟨PyData.keyHash P ("turned_raw" : Str), (.str ("turned_raw" : Str) 534), (.ref 270)⟩, ⟨PyData.keyHash P ("least_above" : Str), (.str ("least_above" : Str) 549), (.ref 277)⟩, ⟨PyData.keyHash P ("Verdict" : Str), (.str ("Verdict" : Str) 587), (.ref 301)⟩] 41), #[]⟩
def o0_12 (P : Params) : Obj := ⟨.none, none, (.fields #[(.int 1 0), (.int 0 0), (.ref 20), (.int 5 0), (.int 0 0), (.ref 27), (.int 7 0), (.int 0 0), (.ref 41), (.int 12 0), (.int 0 0), (.ref 62), (.int 17 0), (.int 0 0), (.ref 83), (.int 22 0), (.int 0 0), (.ref 103), (.int 24 0), (.int 0 0), (.ref 115), (.int 27 0), (.int 0 0), (.ref 127), (.int 29 0), (.int 0 0), (.ref 134), (.int 31 0), (.int 0 0), (.ref 141), (.int 33 0), (.int 0 0), (.ref 146), (.int 35 0), (.int 0 0), (.ref 151), (.int 39 0), (.int 0 0), (.ref 158), (.int 41 0), (.int 0 0), (.ref 165), (.int 43 0), (.int 0 0), (.ref 172), (.int 45 0), (.int 0 0), (.ref 179), (.int 49 0), (.int 0 0), (.ref 186), (.int 52 0), (.int 0 0), (.ref 193), (.int 57 0), (.int 0 0), (.ref 200), (.int 69 0), (.int 0 0), (.ref 205), (.int 76 0), (.int 0 0), (.ref 210), (.int 88 0), (.int 0 0), (.ref 217), (.int 91 0), (.int 0 0), (.ref 224), (.int 98 0), (.int 0 0), (.ref 231), (.int 105 0), (.int 0 0), (.ref 236), (.int 123 0), (.int 0 0), (.ref 243), (.int 137 0), (.int 0 0), (.ref 250), (.int 143 0), (.int 0 0), (.ref 255), (.int 158 0), (.int 0 0), (.ref 262), (.int 168 0), (.int 0 0), (.ref 269), (.int 176 0), (.int 0 0), (.ref 276), (.int 197 0), (.int 0 0), (.ref 283)]), #[]⟩
def o0_15 (P : Params) : Obj := ⟨(.type "tuple"), none, (.seq #[] 0), #[]⟩
def o0_16 (P : Params) : Obj := ⟨.none, none, (.fields #[]), #[]⟩
def o0_17 (P : Params) : Obj := ⟨(.type "tuple"), none, (.seq #[(.str ("k" : Str) 190)] 0), #[]⟩
def o0_18 (P : Params) : Obj := ⟨(.type "tuple"), none, (.seq #[] 0), #[]⟩
def o0_19 (P : Params) : Obj := ⟨.none, none, (.func { name := ("_wall" : Str), qualname := ("_wall" : Str), params := defArgs tp0, body := .stmts (defBody tp0), scope := defScope tp0, globals := 0, closure := [], defaults := .none, kwdefaults := .none, doc := .none, pyModule := .none, annotations := none, code := .none, closureTuple := .none, builtins := 0 }), #[]⟩
def o0_20 (P : Params) : Obj := ⟨(.type "code"), none, (.fields #[(.str ("_wall" : Str) 187), (.str ("_wall" : Str) 188), (.str ("/claim/cut.py" : Str) 189), (.int 1 0), (.int 1 0), (.int 0 0), (.int 0 0), (.int 3 0), (.ref 15), (.bool true), (.int 181 0), (.ref 16), .none, (.ref 17), (.ref 18), (.ref 19), (.int 191 0), (.int 1 0), (.str ("/claim/cut.py" : Str) 192)]), #[]⟩
def o0_21 (P : Params) : Obj := ⟨(.type "function"), none, (.func { name := ("_wall" : Str), qualname := ("_wall" : Str), params := defArgs tp0, body := .stmts (defBody tp0), scope := defScope tp0, globals := 3, closure := [], defaults := .none, kwdefaults := .none, doc := .none, pyModule := (.str ("__main__" : Str) 164), annotations := none, code := (.ref 20), closureTuple := .none, builtins := 0 }), #[]⟩
def o0_22 (P : Params) : Obj := ⟨(.type "tuple"), none, (.seq #[(.type "ValueError")] 0), #[]⟩
def o0_23 (P : Params) : Obj := ⟨(.type "builtin_function_or_method"), none, (.fields #[(.builtin "type.__prepare__"), (.type "type")]), #[]⟩
def o0_24 (P : Params) : Obj := ⟨(.type "dict"), none, (.dict #[⟨PyData.keyHash P ("__module__" : Str), (.str ("__module__" : Str) 203), (.str ("rosterneed.errors" : Str) 194)⟩, ⟨PyData.keyHash P ("__qualname__" : Str), (.str ("__qualname__" : Str) 205), (.str ("RosterneedError" : Str) 204)⟩, ⟨PyData.keyHash P ("__firstlineno__" : Str), (.str ("__firstlineno__" : Str) 207), (.int 5 206)⟩, ⟨PyData.keyHash P ("__static_attributes__" : Str), (.str ("__static_attributes__" : Str) 208), (.ref 29)⟩] 4), #[]⟩
def o0_25 (P : Params) : Obj := ⟨(.type "tuple"), none, (.seq #[] 0), #[]⟩
def o0_26 (P : Params) : Obj := ⟨.none, none, (.fields #[]), #[]⟩
def o0_27 (P : Params) : Obj := ⟨(.type "code"), none, (.fields #[(.str ("RosterneedError" : Str) 198), (.str ("RosterneedError" : Str) 199), (.str ("/claim/cut.py" : Str) 200), (.int 5 0), (.int 0 0), (.int 0 0), (.int 0 0), (.int 0 0), (.ref 25), (.bool false), (.int 181 0), (.ref 26), .none, .none, .none, .none, (.int 201 0), (.int 5 0), (.str ("/claim/cut.py" : Str) 202)]), #[]⟩
def o0_28 (P : Params) : Obj := ⟨(.type "frame"), none, .plain, #[(some (.ref 27)), (some (.ref 3)), (some (.ref 24)), none, (some (.str ("rosterneed.errors" : Str) 194)), none, (some (.ref 0))]⟩
def o0_29 (P : Params) : Obj := ⟨(.type "tuple"), none, (.seq #[] 0), #[]⟩
def o0_30 (P : Params) : Obj := ⟨(.type "dict"), none, (.dict #[⟨PyData.keyHash P ("__module__" : Str), (.str ("__module__" : Str) 203), (.str ("rosterneed.errors" : Str) 194)⟩, ⟨PyData.keyHash P ("__firstlineno__" : Str), (.str ("__firstlineno__" : Str) 207), (.int 5 206)⟩, ⟨PyData.keyHash P ("__static_attributes__" : Str), (.str ("__static_attributes__" : Str) 208), (.ref 29)⟩, ⟨PyData.keyHash P ("__weakref__" : Str), (.str ("__weakref__" : Str) 210), (.ref 32)⟩, ⟨PyData.keyHash P ("__doc__" : Str), (.str ("__doc__" : Str) 211), .none⟩] 3), #[]⟩
def o0_31 (P : Params) : Obj := ⟨(.type "type"), none, (.cls { name := ("RosterneedError" : Str), bases := [(.type "ValueError")], mro := [(.ref 31), (.type "ValueError"), (.type "Exception"), (.type "BaseException"), (.type "object")], ns := 30, qualname := ("RosterneedError" : Str), hasDict := true, slotNames := [], subclasses := [(.ref 53), (.ref 74), (.ref 95)], abstract := false, collection := none, hasDel := false }), #[(some (.ref 22)), none, (some (.str ("RosterneedError" : Str) 196)), (some (.str ("RosterneedError" : Str) 204)), (some (.builtin "ValueError.__new__")), (some (.bool true))]⟩
def o0_32 (P : Params) : Obj := ⟨(.type "getset_descriptor"), none, (.fields #[(.str ("__weakref__" : Str) 209), (.ref 31), (.builtin "ExceptionGroup.__weakref__"), .none]), #[]⟩
def o0_33 (P : Params) : Obj := ⟨(.type "super"), none, (.fields #[(.ref 31), (.ref 31), (.ref 31)]), #[]⟩
def o0_34 (P : Params) : Obj := ⟨(.type "builtin_function_or_method"), none, (.fields #[(.builtin "object.__init_subclass__"), (.ref 31)]), #[]⟩
def o0_35 (P : Params) : Obj := ⟨(.type "tuple"), none, (.seq #[(.ref 31)] 0), #[]⟩
def o0_36 (P : Params) : Obj := ⟨(.type "builtin_function_or_method"), none, (.fields #[(.builtin "type.__prepare__"), (.type "type")]), #[]⟩
def o0_37 (P : Params) : Obj := ⟨(.type "dict"), none, (.dict #[⟨PyData.keyHash P ("__module__" : Str), (.str ("__module__" : Str) 221), (.str ("rosterneed.errors" : Str) 194)⟩, ⟨PyData.keyHash P ("__qualname__" : Str), (.str ("__qualname__" : Str) 223), (.str ("WrongThing" : Str) 222)⟩, ⟨PyData.keyHash P ("__firstlineno__" : Str), (.str ("__firstlineno__" : Str) 225), (.int 7 224)⟩, ⟨PyData.keyHash P ("__init__" : Str), (.str ("__init__" : Str) 234), (.ref 50)⟩, ⟨PyData.keyHash P ("__static_attributes__" : Str), (.str ("__static_attributes__" : Str) 236), (.ref 51)⟩, ⟨PyData.keyHash P ("__classcell__" : Str), (.str ("__classcell__" : Str) 237), (.ref 38)⟩] 6), #[]⟩
def o0_38 (P : Params) : Obj := ⟨(.type "cell"), none, (.cell (some (.ref 53))), #[]⟩
def o0_39 (P : Params) : Obj := ⟨(.type "tuple"), none, (.seq #[] 0), #[]⟩
def o0_40 (P : Params) : Obj := ⟨.none, none, (.fields #[(.int 9 0), (.int 4 0), (.ref 49)]), #[]⟩
def o0_41 (P : Params) : Obj := ⟨(.type "code"), none, (.fields #[(.str ("WrongThing" : Str) 216), (.str ("WrongThing" : Str) 217), (.str ("/claim/cut.py" : Str) 218), (.int 7 0), (.int 0 0), (.int 0 0), (.int 0 0), (.int 0 0), (.ref 39), (.bool false), (.int 181 0), (.ref 40), .none, .none, .none, .none, (.int 219 0), (.int 7 0), (.str ("/claim/cut.py" : Str) 220)]), #[]⟩
def o0_42 (P : Params) : Obj := ⟨(.type "frame"), none, .plain, #[(some (.ref 41)), (some (.ref 3)), (some (.ref 37)), none, (some (.str ("rosterneed.errors" : Str) 194)), none, (some (.ref 0))]⟩
def o0_43 (P : Params) : Obj := ⟨(.type "tuple"), none, (.seq #[(.ref 38)] 0), #[]⟩
def o0_44 (P : Params) : Obj := ⟨(.type "tuple"), none, (.seq #[(.str ("__class__" : Str) 229)] 0), #[]⟩
def o0_45 (P : Params) : Obj := ⟨.none, none, (.fields #[]), #[]⟩
def o0_46 (P : Params) : Obj := ⟨(.type "tuple"), none, (.seq #[(.str ("self" : Str) 230), (.str ("thing" : Str) 231)] 0), #[]⟩
def o0_47 (P : Params) : Obj := ⟨(.type "tuple"), none, (.seq #[] 0), #[]⟩
def o0_48 (P : Params) : Obj := ⟨.none, none, (.func { name := ("__init__" : Str), qualname := ("WrongThing.__init__" : Str), params := defArgs tp3_0, body := .stmts (defBody tp3_0), scope := defScope tp3_0, globals := 0, closure := [], defaults := .none, kwdefaults := .none, doc := .none, pyModule := .none, annotations := none, code := .none, closureTuple := .none, builtins := 0 }), #[]⟩
def o0_49 (P : Params) : Obj := ⟨(.type "code"), none, (.fields #[(.str ("__init__" : Str) 226), (.str ("WrongThing.__init__" : Str) 227), (.str ("/claim/cut.py" : Str) 228), (.int 9 0), (.int 2 0), (.int 0 0), (.int 0 0), (.int 3 0), (.ref 44), (.bool true), (.int 181 0), (.ref 45), .none, (.ref 46), (.ref 47), (.ref 48), (.int 232 0), (.int 9 0), (.str ("/claim/cut.py" : Str) 233)]), #[]⟩
def o0_50 (P : Params) : Obj := ⟨(.type "function"), none, (.func { name := ("__init__" : Str), qualname := ("WrongThing.__init__" : Str), params := defArgs tp3_0, body := .stmts (defBody tp3_0), scope := defScope tp3_0, globals := 3, closure := [(("__class__" : Str), 38)], defaults := .none, kwdefaults := .none, doc := .none, pyModule := (.str ("rosterneed.errors" : Str) 194), annotations := none, code := (.ref 49), closureTuple := (.ref 43), builtins := 0 }), #[]⟩
def o0_51 (P : Params) : Obj := ⟨(.type "tuple"), none, (.seq #[(.str ("thing" : Str) 235)] 0), #[]⟩
def o0_52 (P : Params) : Obj := ⟨(.type "dict"), none, (.dict #[⟨PyData.keyHash P ("__module__" : Str), (.str ("__module__" : Str) 221), (.str ("rosterneed.errors" : Str) 194)⟩, ⟨PyData.keyHash P ("__firstlineno__" : Str), (.str ("__firstlineno__" : Str) 225), (.int 7 224)⟩, ⟨PyData.keyHash P ("__init__" : Str), (.str ("__init__" : Str) 234), (.ref 50)⟩, ⟨PyData.keyHash P ("__static_attributes__" : Str), (.str ("__static_attributes__" : Str) 236), (.ref 51)⟩, ⟨PyData.keyHash P ("__doc__" : Str), (.str ("__doc__" : Str) 238), .none⟩] 3), #[]⟩
def o0_53 (P : Params) : Obj := ⟨(.type "type"), none, (.cls { name := ("WrongThing" : Str), bases := [(.ref 31)], mro := [(.ref 53), (.ref 31), (.type "ValueError"), (.type "Exception"), (.type "BaseException"), (.type "object")], ns := 52, qualname := ("WrongThing" : Str), hasDict := true, slotNames := [], subclasses := [(.ref 107)], abstract := false, collection := none, hasDel := false }), #[(some (.ref 35)), none, (some (.str ("WrongThing" : Str) 214)), (some (.str ("WrongThing" : Str) 222)), (some (.builtin "ValueError.__new__")), (some (.bool true))]⟩
def o0_54 (P : Params) : Obj := ⟨(.type "super"), none, (.fields #[(.ref 53), (.ref 53), (.ref 53)]), #[]⟩
def o0_55 (P : Params) : Obj := ⟨(.type "builtin_function_or_method"), none, (.fields #[(.builtin "object.__init_subclass__"), (.ref 53)]), #[]⟩
def o0_56 (P : Params) : Obj := ⟨(.type "tuple"), none, (.seq #[(.ref 31)] 0), #[]⟩
def o0_57 (P : Params) : Obj := ⟨(.type "builtin_function_or_method"), none, (.fields #[(.builtin "type.__prepare__"), (.type "type")]), #[]⟩
def o0_58 (P : Params) : Obj := ⟨(.type "dict"), none, (.dict #[⟨PyData.keyHash P ("__module__" : Str), (.str ("__module__" : Str) 248), (.str ("rosterneed.errors" : Str) 194)⟩, ⟨PyData.keyHash P ("__qualname__" : Str), (.str ("__qualname__" : Str) 250), (.str ("WrongWord" : Str) 249)⟩, ⟨PyData.keyHash P ("__firstlineno__" : Str), (.str ("__firstlineno__" : Str) 252), (.int 12 251)⟩, ⟨PyData.keyHash P ("__init__" : Str), (.str ("__init__" : Str) 261), (.ref 71)⟩, ⟨PyData.keyHash P ("__static_attributes__" : Str), (.str ("__static_attributes__" : Str) 263), (.ref 72)⟩, ⟨PyData.keyHash P ("__classcell__" : Str), (.str ("__classcell__" : Str) 264), (.ref 59)⟩] 6), #[]⟩
def o0_59 (P : Params) : Obj := ⟨(.type "cell"), none, (.cell (some (.ref 74))), #[]⟩
def o0_60 (P : Params) : Obj := ⟨(.type "tuple"), none, (.seq #[] 0), #[]⟩
def o0_61 (P : Params) : Obj := ⟨.none, none, (.fields #[(.int 14 0), (.int 4 0), (.ref 70)]), #[]⟩
def o0_62 (P : Params) : Obj := ⟨(.type "code"), none, (.fields #[(.str ("WrongWord" : Str) 243), (.str ("WrongWord" : Str) 244), (.str ("/claim/cut.py" : Str) 245), (.int 12 0), (.int 0 0), (.int 0 0), (.int 0 0), (.int 0 0), (.ref 60), (.bool false), (.int 181 0), (.ref 61), .none, .none, .none, .none, (.int 246 0), (.int 12 0), (.str ("/claim/cut.py" : Str) 247)]), #[]⟩
def o0_63 (P : Params) : Obj := ⟨(.type "frame"), none, .plain, #[(some (.ref 62)), (some (.ref 3)), (some (.ref 58)), none, (some (.str ("rosterneed.errors" : Str) 194)), none, (some (.ref 0))]⟩
def o0_64 (P : Params) : Obj := ⟨(.type "tuple"), none, (.seq #[(.ref 59)] 0), #[]⟩
def o0_65 (P : Params) : Obj := ⟨(.type "tuple"), none, (.seq #[(.str ("__class__" : Str) 256)] 0), #[]⟩
def o0_66 (P : Params) : Obj := ⟨.none, none, (.fields #[]), #[]⟩
def o0_67 (P : Params) : Obj := ⟨(.type "tuple"), none, (.seq #[(.str ("self" : Str) 257), (.str ("word" : Str) 258)] 0), #[]⟩
def o0_68 (P : Params) : Obj := ⟨(.type "tuple"), none, (.seq #[] 0), #[]⟩
def o0_69 (P : Params) : Obj := ⟨.none, none, (.func { name := ("__init__" : Str), qualname := ("WrongWord.__init__" : Str), params := defArgs tp4_0, body := .stmts (defBody tp4_0), scope := defScope tp4_0, globals := 0, closure := [], defaults := .none, kwdefaults := .none, doc := .none, pyModule := .none, annotations := none, code := .none, closureTuple := .none, builtins := 0 }), #[]⟩
def o0_70 (P : Params) : Obj := ⟨(.type "code"), none, (.fields #[(.str ("__init__" : Str) 253), (.str ("WrongWord.__init__" : Str) 254), (.str ("/claim/cut.py" : Str) 255), (.int 14 0), (.int 2 0), (.int 0 0), (.int 0 0), (.int 3 0), (.ref 65), (.bool true), (.int 181 0), (.ref 66), .none, (.ref 67), (.ref 68), (.ref 69), (.int 259 0), (.int 14 0), (.str ("/claim/cut.py" : Str) 260)]), #[]⟩
def o0_71 (P : Params) : Obj := ⟨(.type "function"), none, (.func { name := ("__init__" : Str), qualname := ("WrongWord.__init__" : Str), params := defArgs tp4_0, body := .stmts (defBody tp4_0), scope := defScope tp4_0, globals := 3, closure := [(("__class__" : Str), 59)], defaults := .none, kwdefaults := .none, doc := .none, pyModule := (.str ("rosterneed.errors" : Str) 194), annotations := none, code := (.ref 70), closureTuple := (.ref 64), builtins := 0 }), #[]⟩
def o0_72 (P : Params) : Obj := ⟨(.type "tuple"), none, (.seq #[(.str ("word" : Str) 262)] 0), #[]⟩
def o0_73 (P : Params) : Obj := ⟨(.type "dict"), none, (.dict #[⟨PyData.keyHash P ("__module__" : Str), (.str ("__module__" : Str) 248), (.str ("rosterneed.errors" : Str) 194)⟩, ⟨PyData.keyHash P ("__firstlineno__" : Str), (.str ("__firstlineno__" : Str) 252), (.int 12 251)⟩, ⟨PyData.keyHash P ("__init__" : Str), (.str ("__init__" : Str) 261), (.ref 71)⟩, ⟨PyData.keyHash P ("__static_attributes__" : Str), (.str ("__static_attributes__" : Str) 263), (.ref 72)⟩, ⟨PyData.keyHash P ("__doc__" : Str), (.str ("__doc__" : Str) 265), .none⟩] 3), #[]⟩
def o0_74 (P : Params) : Obj := ⟨(.type "type"), none, (.cls { name := ("WrongWord" : Str), bases := [(.ref 31)], mro := [(.ref 74), (.ref 31), (.type "ValueError"), (.type "Exception"), (.type "BaseException"), (.type "object")], ns := 73, qualname := ("WrongWord" : Str), hasDict := true, slotNames := [], subclasses := [(.ref 119)], abstract := false, collection := none, hasDel := false }), #[(some (.ref 56)), none, (some (.str ("WrongWord" : Str) 241)), (some (.str ("WrongWord" : Str) 249)), (some (.builtin "ValueError.__new__")), (some (.bool true))]⟩
def o0_75 (P : Params) : Obj := ⟨(.type "super"), none, (.fields #[(.ref 74), (.ref 74), (.ref 74)]), #[]⟩
def o0_76 (P : Params) : Obj := ⟨(.type "builtin_function_or_method"), none, (.fields #[(.builtin "object.__init_subclass__"), (.ref 74)]), #[]⟩
def o0_77 (P : Params) : Obj := ⟨(.type "tuple"), none, (.seq #[(.ref 31)] 0), #[]⟩
def o0_78 (P : Params) : Obj := ⟨(.type "builtin_function_or_method"), none, (.fields #[(.builtin "type.__prepare__"), (.type "type")]), #[]⟩
def o0_79 (P : Params) : Obj := ⟨(.type "dict"), none, (.dict #[⟨PyData.keyHash P ("__module__" : Str), (.str ("__module__" : Str) 275), (.str ("rosterneed.errors" : Str) 194)⟩, ⟨PyData.keyHash P ("__qualname__" : Str), (.str ("__qualname__" : Str) 277), (.str ("TooMany" : Str) 276)⟩, ⟨PyData.keyHash P ("__firstlineno__" : Str), (.str ("__firstlineno__" : Str) 279), (.int 17 278)⟩, ⟨PyData.keyHash P ("__init__" : Str), (.str ("__init__" : Str) 288), (.ref 92)⟩, ⟨PyData.keyHash P ("__static_attributes__" : Str), (.str ("__static_attributes__" : Str) 290), (.ref 93)⟩, ⟨PyData.keyHash P ("__classcell__" : Str), (.str ("__classcell__" : Str) 291), (.ref 80)⟩] 6), #[]⟩
def o0_80 (P : Params) : Obj := ⟨(.type "cell"), none, (.cell (some (.ref 95))), #[]⟩
def o0_81 (P : Params) : Obj := ⟨(.type "tuple"), none, (.seq #[] 0), #[]⟩
def o0_82 (P : Params) : Obj := ⟨.none, none, (.fields #[(.int 19 0), (.int 4 0), (.ref 91)]), #[]⟩
def o0_83 (P : Params) : Obj := ⟨(.type "code"), none, (.fields #[(.str ("TooMany" : Str) 270), (.str ("TooMany" : Str) 271), (.str ("/claim/cut.py" : Str) 272), (.int 17 0), (.int 0 0), (.int 0 0), (.int 0 0), (.int 0 0), (.ref 81), (.bool false), (.int 181 0), (.ref 82), .none, .none, .none, .none, (.int 273 0), (.int 17 0), (.str ("/claim/cut.py" : Str) 274)]), #[]⟩
def o0_84 (P : Params) : Obj := ⟨(.type "frame"), none, .plain, #[(some (.ref 83)), (some (.ref 3)), (some (.ref 79)), none, (some (.str ("rosterneed.errors" : Str) 194)), none, (some (.ref 0))]⟩
def o0_85 (P : Params) : Obj := ⟨(.type "tuple"), none, (.seq #[(.ref 80)] 0), #[]⟩
def o0_86 (P : Params) : Obj := ⟨(.type "tuple"), none, (.seq #[(.str ("__class__" : Str) 283)] 0), #[]⟩
def o0_87 (P : Params) : Obj := ⟨.none, none, (.fields #[]), #[]⟩
def o0_88 (P : Params) : Obj := ⟨(.type "tuple"), none, (.seq #[(.str ("self" : Str) 284), (.str ("word" : Str) 285)] 0), #[]⟩
def o0_89 (P : Params) : Obj := ⟨(.type "tuple"), none, (.seq #[] 0), #[]⟩
def o0_90 (P : Params) : Obj := ⟨.none, none, (.func { name := ("__init__" : Str), qualname := ("TooMany.__init__" : Str), params := defArgs tp5_0, body := .stmts (defBody tp5_0), scope := defScope tp5_0, globals := 0, closure := [], defaults := .none, kwdefaults := .none, doc := .none, pyModule := .none, annotations := none, code := .none, closureTuple := .none, builtins := 0 }), #[]⟩
def o0_91 (P : Params) : Obj := ⟨(.type "code"), none, (.fields #[(.str ("__init__" : Str) 280), (.str ("TooMany.__init__" : Str) 281), (.str ("/claim/cut.py" : Str) 282), (.int 19 0), (.int 2 0), (.int 0 0), (.int 0 0), (.int 3 0), (.ref 86), (.bool true), (.int 181 0), (.ref 87), .none, (.ref 88), (.ref 89), (.ref 90), (.int 286 0), (.int 19 0), (.str ("/claim/cut.py" : Str) 287)]), #[]⟩
def o0_92 (P : Params) : Obj := ⟨(.type "function"), none, (.func { name := ("__init__" : Str), qualname := ("TooMany.__init__" : Str), params := defArgs tp5_0, body := .stmts (defBody tp5_0), scope := defScope tp5_0, globals := 3, closure := [(("__class__" : Str), 80)], defaults := .none, kwdefaults := .none, doc := .none, pyModule := (.str ("rosterneed.errors" : Str) 194), annotations := none, code := (.ref 91), closureTuple := (.ref 85), builtins := 0 }), #[]⟩
def o0_93 (P : Params) : Obj := ⟨(.type "tuple"), none, (.seq #[(.str ("word" : Str) 289)] 0), #[]⟩
def o0_94 (P : Params) : Obj := ⟨(.type "dict"), none, (.dict #[⟨PyData.keyHash P ("__module__" : Str), (.str ("__module__" : Str) 275), (.str ("rosterneed.errors" : Str) 194)⟩, ⟨PyData.keyHash P ("__firstlineno__" : Str), (.str ("__firstlineno__" : Str) 279), (.int 17 278)⟩, ⟨PyData.keyHash P ("__init__" : Str), (.str ("__init__" : Str) 288), (.ref 92)⟩, ⟨PyData.keyHash P ("__static_attributes__" : Str), (.str ("__static_attributes__" : Str) 290), (.ref 93)⟩, ⟨PyData.keyHash P ("__doc__" : Str), (.str ("__doc__" : Str) 292), .none⟩] 3), #[]⟩
def o0_95 (P : Params) : Obj := ⟨(.type "type"), none, (.cls { name := ("TooMany" : Str), bases := [(.ref 31)], mro := [(.ref 95), (.ref 31), (.type "ValueError"), (.type "Exception"), (.type "BaseException"), (.type "object")], ns := 94, qualname := ("TooMany" : Str), hasDict := true, slotNames := [], subclasses := [], abstract := false, collection := none, hasDel := false }), #[(some (.ref 77)), none, (some (.str ("TooMany" : Str) 268)), (some (.str ("TooMany" : Str) 276)), (some (.builtin "ValueError.__new__")), (some (.bool true))]⟩
def o0_96 (P : Params) : Obj := ⟨(.type "super"), none, (.fields #[(.ref 95), (.ref 95), (.ref 95)]), #[]⟩
def o0_97 (P : Params) : Obj := ⟨(.type "builtin_function_or_method"), none, (.fields #[(.builtin "object.__init_subclass__"), (.ref 95)]), #[]⟩
def o0_98 (P : Params) : Obj := ⟨(.type "tuple"), none, (.seq #[(.ref 53)] 0), #[]⟩
def o0_99 (P : Params) : Obj := ⟨(.type "builtin_function_or_method"), none, (.fields #[(.builtin "type.__prepare__"), (.type "type")]), #[]⟩
def o0_100 (P : Params) : Obj := ⟨(.type "dict"), none, (.dict #[⟨PyData.keyHash P ("__module__" : Str), (.str ("__module__" : Str) 302), (.str ("rosterneed.errors" : Str) 194)⟩, ⟨PyData.keyHash P ("__qualname__" : Str), (.str ("__qualname__" : Str) 304), (.str ("BadCount" : Str) 303)⟩, ⟨PyData.keyHash P ("__firstlineno__" : Str), (.str ("__firstlineno__" : Str) 306), (.int 22 305)⟩, ⟨PyData.keyHash P ("__static_attributes__" : Str), (.str ("__static_attributes__" : Str) 307), (.ref 105)⟩] 4), #[]⟩
def o0_101 (P : Params) : Obj := ⟨(.type "tuple"), none, (.seq #[] 0), #[]⟩
def o0_102 (P : Params) : Obj := ⟨.none, none, (.fields #[]), #[]⟩
def o0_103 (P : Params) : Obj := ⟨(.type "code"), none, (.fields #[(.str ("BadCount" : Str) 297), (.str ("BadCount" : Str) 298), (.str ("/claim/cut.py" : Str) 299), (.int 22 0), (.int 0 0), (.int 0 0), (.int 0 0), (.int 0 0), (.ref 101), (.bool false), (.int 181 0), (.ref 102), .none, .none, .none, .none, (.int 300 0), (.int 22 0), (.str ("/claim/cut.py" : Str) 301)]), #[]⟩
def o0_104 (P : Params) : Obj := ⟨(.type "frame"), none, .plain, #[(some (.ref 103)), (some (.ref 3)), (some (.ref 100)), none, (some (.str ("rosterneed.errors" : Str) 194)), none, (some (.ref 0))]⟩
def o0_105 (P : Params) : Obj := ⟨(.type "tuple"), none, (.seq #[] 0), #[]⟩
def o0_106 (P : Params) : Obj := ⟨(.type "dict"), none, (.dict #[⟨PyData.keyHash P ("__module__" : Str), (.str ("__module__" : Str) 302), (.str ("rosterneed.errors" : Str) 194)⟩, ⟨PyData.keyHash P ("__firstlineno__" : Str), (.str ("__firstlineno__" : Str) 306), (.int 22 305)⟩, ⟨PyData.keyHash P ("__static_attributes__" : Str), (.str ("__static_attributes__" : Str) 307), (.ref 105)⟩, ⟨PyData.keyHash P ("__doc__" : Str), (.str ("__doc__" : Str) 308), .none⟩] 2), #[]⟩
def o0_107 (P : Params) : Obj := ⟨(.type "type"), none, (.cls { name := ("BadCount" : Str), bases := [(.ref 53)], mro := [(.ref 107), (.ref 53), (.ref 31), (.type "ValueError"), (.type "Exception"), (.type "BaseException"), (.type "object")], ns := 106, qualname := ("BadCount" : Str), hasDict := true, slotNames := [], subclasses := [], abstract := false, collection := none, hasDel := false }), #[(some (.ref 98)), none, (some (.str ("BadCount" : Str) 295)), (some (.str ("BadCount" : Str) 303)), (some (.builtin "ValueError.__new__")), (some (.bool true))]⟩
def o0_108 (P : Params) : Obj := ⟨(.type "super"), none, (.fields #[(.ref 107), (.ref 107), (.ref 107)]), #[]⟩
def o0_109 (P : Params) : Obj := ⟨(.type "builtin_function_or_method"), none, (.fields #[(.builtin "object.__init_subclass__"), (.ref 107)]), #[]⟩
def o0_110 (P : Params) : Obj := ⟨(.type "tuple"), none, (.seq #[(.ref 74)] 0), #[]⟩
def o0_111 (P : Params) : Obj := ⟨(.type "builtin_function_or_method"), none, (.fields #[(.builtin "type.__prepare__"), (.type "type")]), #[]⟩
def o0_112 (P : Params) : Obj := ⟨(.type "dict"), none, (.dict #[⟨PyData.keyHash P ("__module__" : Str), (.str ("__module__" : Str) 318), (.str ("rosterneed.errors" : Str) 194)⟩, ⟨PyData.keyHash P ("__qualname__" : Str), (.str ("__qualname__" : Str) 320), (.str ("BadTable" : Str) 319)⟩, ⟨PyData.keyHash P ("__firstlineno__" : Str), (.str ("__firstlineno__" : Str) 322), (.int 24 321)⟩, ⟨PyData.keyHash P ("__static_attributes__" : Str), (.str ("__static_attributes__" : Str) 323), (.ref 117)⟩] 4), #[]⟩
def o0_113 (P : Params) : Obj := ⟨(.type "tuple"), none, (.seq #[] 0), #[]⟩
def o0_114 (P : Params) : Obj := ⟨.none, none, (.fields #[]), #[]⟩
def o0_115 (P : Params) : Obj := ⟨(.type "code"), none, (.fields #[(.str ("BadTable" : Str) 313), (.str ("BadTable" : Str) 314), (.str ("/claim/cut.py" : Str) 315), (.int 24 0), (.int 0 0), (.int 0 0), (.int 0 0), (.int 0 0), (.ref 113), (.bool false), (.int 181 0), (.ref 114), .none, .none, .none, .none, (.int 316 0), (.int 24 0), (.str ("/claim/cut.py" : Str) 317)]), #[]⟩
def o0_116 (P : Params) : Obj := ⟨(.type "frame"), none, .plain, #[(some (.ref 115)), (some (.ref 3)), (some (.ref 112)), none, (some (.str ("rosterneed.errors" : Str) 194)), none, (some (.ref 0))]⟩
def o0_117 (P : Params) : Obj := ⟨(.type "tuple"), none, (.seq #[] 0), #[]⟩
def o0_118 (P : Params) : Obj := ⟨(.type "dict"), none, (.dict #[⟨PyData.keyHash P ("__module__" : Str), (.str ("__module__" : Str) 318), (.str ("rosterneed.errors" : Str) 194)⟩, ⟨PyData.keyHash P ("__firstlineno__" : Str), (.str ("__firstlineno__" : Str) 322), (.int 24 321)⟩, ⟨PyData.keyHash P ("__static_attributes__" : Str), (.str ("__static_attributes__" : Str) 323), (.ref 117)⟩, ⟨PyData.keyHash P ("__doc__" : Str), (.str ("__doc__" : Str) 324), .none⟩] 2), #[]⟩
def o0_119 (P : Params) : Obj := ⟨(.type "type"), none, (.cls { name := ("BadTable" : Str), bases := [(.ref 74)], mro := [(.ref 119), (.ref 74), (.ref 31), (.type "ValueError"), (.type "Exception"), (.type "BaseException"), (.type "object")], ns := 118, qualname := ("BadTable" : Str), hasDict := true, slotNames := [], subclasses := [], abstract := false, collection := none, hasDel := false }), #[(some (.ref 110)), none, (some (.str ("BadTable" : Str) 311)), (some (.str ("BadTable" : Str) 319)), (some (.builtin "ValueError.__new__")), (some (.bool true))]⟩
def o0_120 (P : Params) : Obj := ⟨(.type "super"), none, (.fields #[(.ref 119), (.ref 119), (.ref 119)]), #[]⟩
def o0_121 (P : Params) : Obj := ⟨(.type "builtin_function_or_method"), none, (.fields #[(.builtin "object.__init_subclass__"), (.ref 119)]), #[]⟩
def o0_122 (P : Params) : Obj := ⟨(.type "tuple"), none, (.seq #[] 0), #[]⟩
def o0_123 (P : Params) : Obj := ⟨.none, none, (.fields #[]), #[]⟩
def o0_124 (P : Params) : Obj := ⟨(.type "tuple"), none, (.seq #[(.str ("thing" : Str) 332)] 0), #[]⟩
def o0_125 (P : Params) : Obj := ⟨(.type "tuple"), none, (.seq #[] 0), #[]⟩
def o0_126 (P : Params) : Obj := ⟨.none, none, (.func { name := ("is_integer" : Str), qualname := ("is_integer" : Str), params := defArgs tp9, body := .stmts (defBody tp9), scope := defScope tp9, globals := 0, closure := [], defaults := .none, kwdefaults := .none, doc := .none, pyModule := .none, annotations := none, code := .none, closureTuple := .none, builtins := 0 }), #[]⟩
def o0_127 (P : Params) : Obj := ⟨(.type "code"), none, (.fields #[(.str ("is_integer" : Str) 329), (.str ("is_integer" : Str) 330), (.str ("/claim/cut.py" : Str) 331), (.int 27 0), (.int 1 0), (.int 0 0), (.int 0 0), (.int 3 0), (.ref 122), (.bool true), (.int 181 0), (.ref 123), .none, (.ref 124), (.ref 125), (.ref 126), (.int 333 0), (.int 27 0), (.str ("/claim/cut.py" : Str) 334)]), #[]⟩
def o0_128 (P : Params) : Obj := ⟨(.type "function"), none, (.func { name := ("is_integer" : Str), qualname := ("is_integer" : Str), params := defArgs tp9, body := .stmts (defBody tp9), scope := defScope tp9, globals := 3, closure := [], defaults := .none, kwdefaults := .none, doc := .none, pyModule := (.str ("rosterneed.plain" : Str) 327), annotations := none, code := (.ref 127), closureTuple := .none, builtins := 0 }), #[]⟩
def o0_129 (P : Params) : Obj := ⟨(.type "tuple"), none, (.seq #[] 0), #[]⟩
def o0_130 (P : Params) : Obj := ⟨.none, none, (.fields #[]), #[]⟩
def o0_131 (P : Params) : Obj := ⟨(.type "tuple"), none, (.seq #[(.str ("thing" : Str) 339)] 0), #[]⟩
def o0_132 (P : Params) : Obj := ⟨(.type "tuple"), none, (.seq #[] 0), #[]⟩
def o0_133 (P : Params) : Obj := ⟨.none, none, (.func { name := ("is_count" : Str), qualname := ("is_count" : Str), params := defArgs tp10, body := .stmts (defBody tp10), scope := defScope tp10, globals := 0, closure := [], defaults := .none, kwdefaults := .none, doc := .none, pyModule := .none, annotations := none, code := .none, closureTuple := .none, builtins := 0 }), #[]⟩
def o0_134 (P : Params) : Obj := ⟨(.type "code"), none, (.fields #[(.str ("is_count" : Str) 336), (.str ("is_count" : Str) 337), (.str ("/claim/cut.py" : Str) 338), (.int 29 0), (.int 1 0), (.int 0 0), (.int 0 0), (.int 3 0), (.ref 129), (.bool true), (.int 181 0), (.ref 130), .none, (.ref 131), (.ref 132), (.ref 133), (.int 340 0), (.int 29 0), (.str ("/claim/cut.py" : Str) 341)]), #[]⟩
def o0_135 (P : Params) : Obj := ⟨(.type "function"), none, (.func { name := ("is_count" : Str), qualname := ("is_count" : Str), params := defArgs tp10, body := .stmts (defBody tp10), scope := defScope tp10, globals := 3, closure := [], defaults := .none, kwdefaults := .none, doc := .none, pyModule := (.str ("rosterneed.plain" : Str) 327), annotations := none, code := (.ref 134), closureTuple := .none, builtins := 0 }), #[]⟩
def o0_136 (P : Params) : Obj := ⟨(.type "tuple"), none, (.seq #[] 0), #[]⟩
def o0_137 (P : Params) : Obj := ⟨.none, none, (.fields #[]), #[]⟩
def o0_138 (P : Params) : Obj := ⟨(.type "tuple"), none, (.seq #[(.str ("thing" : Str) 346)] 0), #[]⟩
def o0_139 (P : Params) : Obj := ⟨(.type "tuple"), none, (.seq #[] 0), #[]⟩
def o0_140 (P : Params) : Obj := ⟨.none, none, (.func { name := ("is_listed" : Str), qualname := ("is_listed" : Str), params := defArgs tp11, body := .stmts (defBody tp11), scope := defScope tp11, globals := 0, closure := [], defaults := .none, kwdefaults := .none, doc := .none, pyModule := .none, annotations := none, code := .none, closureTuple := .none, builtins := 0 }), #[]⟩
def o0_141 (P : Params) : Obj := ⟨(.type "code"), none, (.fields #[(.str ("is_listed" : Str) 343), (.str ("is_listed" : Str) 344), (.str ("/claim/cut.py" : Str) 345), (.int 31 0), (.int 1 0), (.int 0 0), (.int 0 0), (.int 3 0), (.ref 136), (.bool true), (.int 181 0), (.ref 137), .none, (.ref 138), (.ref 139), (.ref 140), (.int 347 0), (.int 31 0), (.str ("/claim/cut.py" : Str) 348)]), #[]⟩
def o0_142 (P : Params) : Obj := ⟨(.type "function"), none, (.func { name := ("is_listed" : Str), qualname := ("is_listed" : Str), params := defArgs tp11, body := .stmts (defBody tp11), scope := defScope tp11, globals := 3, closure := [], defaults := .none, kwdefaults := .none, doc := .none, pyModule := (.str ("rosterneed.plain" : Str) 327), annotations := none, code := (.ref 141), closureTuple := .none, builtins := 0 }), #[]⟩
def o0_143 (P : Params) : Obj := ⟨(.type "tuple"), none, (.seq #[] 0), #[]⟩
def o0_144 (P : Params) : Obj := ⟨.none, none, (.fields #[]), #[]⟩
def o0_145 (P : Params) : Obj := ⟨.none, none, (.func { name := ("is_counts" : Str), qualname := ("is_counts" : Str), params := defArgs tp12, body := .stmts (defBody tp12), scope := defScope tp12, globals := 0, closure := [], defaults := .none, kwdefaults := .none, doc := .none, pyModule := .none, annotations := none, code := .none, closureTuple := .none, builtins := 0 }), #[]⟩
def o0_146 (P : Params) : Obj := ⟨(.type "code"), none, (.fields #[(.str ("is_counts" : Str) 350), (.str ("is_counts" : Str) 351), (.str ("/claim/cut.py" : Str) 352), (.int 33 0), (.int 1 0), (.int 0 0), (.int 0 0), (.int 3 0), (.ref 143), (.bool true), (.int 181 0), (.ref 144), .none, .none, .none, (.ref 145), (.int 353 0), (.int 33 0), (.str ("/claim/cut.py" : Str) 354)]), #[]⟩
def o0_147 (P : Params) : Obj := ⟨(.type "function"), none, (.func { name := ("is_counts" : Str), qualname := ("is_counts" : Str), params := defArgs tp12, body := .stmts (defBody tp12), scope := defScope tp12, globals := 3, closure := [], defaults := .none, kwdefaults := .none, doc := .none, pyModule := (.str ("rosterneed.plain" : Str) 327), annotations := none, code := (.ref 146), closureTuple := .none, builtins := 0 }), #[]⟩
def o0_148 (P : Params) : Obj := ⟨(.type "tuple"), none, (.seq #[] 0), #[]⟩
def o0_149 (P : Params) : Obj := ⟨.none, none, (.fields #[]), #[]⟩
def o0_150 (P : Params) : Obj := ⟨.none, none, (.func { name := ("deep" : Str), qualname := ("deep" : Str), params := defArgs tp13, body := .stmts (defBody tp13), scope := defScope tp13, globals := 0, closure := [], defaults := .none, kwdefaults := .none, doc := .none, pyModule := .none, annotations := none, code := .none, closureTuple := .none, builtins := 0 }), #[]⟩
def o0_151 (P : Params) : Obj := ⟨(.type "code"), none, (.fields #[(.str ("deep" : Str) 356), (.str ("deep" : Str) 357), (.str ("/claim/cut.py" : Str) 358), (.int 35 0), (.int 1 0), (.int 0 0), (.int 0 0), (.int 3 0), (.ref 148), (.bool true), (.int 181 0), (.ref 149), .none, .none, .none, (.ref 150), (.int 359 0), (.int 35 0), (.str ("/claim/cut.py" : Str) 360)]), #[]⟩
def o0_152 (P : Params) : Obj := ⟨(.type "function"), none, (.func { name := ("deep" : Str), qualname := ("deep" : Str), params := defArgs tp13, body := .stmts (defBody tp13), scope := defScope tp13, globals := 3, closure := [], defaults := .none, kwdefaults := .none, doc := .none, pyModule := (.str ("rosterneed.plain" : Str) 327), annotations := none, code := (.ref 151), closureTuple := .none, builtins := 0 }), #[]⟩
def o0_153 (P : Params) : Obj := ⟨(.type "tuple"), none, (.seq #[] 0), #[]⟩
def o0_154 (P : Params) : Obj := ⟨.none, none, (.fields #[]), #[]⟩
def o0_155 (P : Params) : Obj := ⟨(.type "tuple"), none, (.seq #[(.str ("one" : Str) 365), (.str ("other" : Str) 366)] 0), #[]⟩
def o0_156 (P : Params) : Obj := ⟨(.type "tuple"), none, (.seq #[] 0), #[]⟩
def o0_157 (P : Params) : Obj := ⟨.none, none, (.func { name := ("at_most" : Str), qualname := ("at_most" : Str), params := defArgs tp14, body := .stmts (defBody tp14), scope := defScope tp14, globals := 0, closure := [], defaults := .none, kwdefaults := .none, doc := .none, pyModule := .none, annotations := none, code := .none, closureTuple := .none, builtins := 0 }), #[]⟩
def o0_158 (P : Params) : Obj := ⟨(.type "code"), none, (.fields #[(.str ("at_most" : Str) 362), (.str ("at_most" : Str) 363), (.str ("/claim/cut.py" : Str) 364), (.int 39 0), (.int 2 0), (.int 0 0), (.int 0 0), (.int 3 0), (.ref 153), (.bool true), (.int 181 0), (.ref 154), .none, (.ref 155), (.ref 156), (.ref 157), (.int 367 0), (.int 39 0), (.str ("/claim/cut.py" : Str) 368)]), #[]⟩
def o0_159 (P : Params) : Obj := ⟨(.type "function"), none, (.func { name := ("at_most" : Str), qualname := ("at_most" : Str), params := defArgs tp14, body := .stmts (defBody tp14), scope := defScope tp14, globals := 3, closure := [], defaults := .none, kwdefaults := .none, doc := .none, pyModule := (.str ("rosterneed.plain" : Str) 327), annotations := none, code := (.ref 158), closureTuple := .none, builtins := 0 }), #[]⟩
def o0_160 (P : Params) : Obj := ⟨(.type "tuple"), none, (.seq #[] 0), #[]⟩
def o0_161 (P : Params) : Obj := ⟨.none, none, (.fields #[]), #[]⟩
def o0_162 (P : Params) : Obj := ⟨(.type "tuple"), none, (.seq #[(.str ("one" : Str) 373), (.str ("other" : Str) 374)] 0), #[]⟩
def o0_163 (P : Params) : Obj := ⟨(.type "tuple"), none, (.seq #[] 0), #[]⟩
def o0_164 (P : Params) : Obj := ⟨.none, none, (.func { name := ("greater_of" : Str), qualname := ("greater_of" : Str), params := defArgs tp15, body := .stmts (defBody tp15), scope := defScope tp15, globals := 0, closure := [], defaults := .none, kwdefaults := .none, doc := .none, pyModule := .none, annotations := none, code := .none, closureTuple := .none, builtins := 0 }), #[]⟩
def o0_165 (P : Params) : Obj := ⟨(.type "code"), none, (.fields #[(.str ("greater_of" : Str) 370), (.str ("greater_of" : Str) 371), (.str ("/claim/cut.py" : Str) 372), (.int 41 0), (.int 2 0), (.int 0 0), (.int 0 0), (.int 3 0), (.ref 160), (.bool true), (.int 181 0), (.ref 161), .none, (.ref 162), (.ref 163), (.ref 164), (.int 375 0), (.int 41 0), (.str ("/claim/cut.py" : Str) 376)]), #[]⟩
def o0_166 (P : Params) : Obj := ⟨(.type "function"), none, (.func { name := ("greater_of" : Str), qualname := ("greater_of" : Str), params := defArgs tp15, body := .stmts (defBody tp15), scope := defScope tp15, globals := 3, closure := [], defaults := .none, kwdefaults := .none, doc := .none, pyModule := (.str ("rosterneed.plain" : Str) 327), annotations := none, code := (.ref 165), closureTuple := .none, builtins := 0 }), #[]⟩
def o0_167 (P : Params) : Obj := ⟨(.type "tuple"), none, (.seq #[] 0), #[]⟩
def o0_168 (P : Params) : Obj := ⟨.none, none, (.fields #[]), #[]⟩
def o0_169 (P : Params) : Obj := ⟨(.type "tuple"), none, (.seq #[(.str ("one" : Str) 381), (.str ("other" : Str) 382)] 0), #[]⟩
def o0_170 (P : Params) : Obj := ⟨(.type "tuple"), none, (.seq #[] 0), #[]⟩
def o0_171 (P : Params) : Obj := ⟨.none, none, (.func { name := ("lesser_of" : Str), qualname := ("lesser_of" : Str), params := defArgs tp16, body := .stmts (defBody tp16), scope := defScope tp16, globals := 0, closure := [], defaults := .none, kwdefaults := .none, doc := .none, pyModule := .none, annotations := none, code := .none, closureTuple := .none, builtins := 0 }), #[]⟩
def o0_172 (P : Params) : Obj := ⟨(.type "code"), none, (.fields #[(.str ("lesser_of" : Str) 378), (.str ("lesser_of" : Str) 379), (.str ("/claim/cut.py" : Str) 380), (.int 43 0), (.int 2 0), (.int 0 0), (.int 0 0), (.int 3 0), (.ref 167), (.bool true), (.int 181 0), (.ref 168), .none, (.ref 169), (.ref 170), (.ref 171), (.int 383 0), (.int 43 0), (.str ("/claim/cut.py" : Str) 384)]), #[]⟩
def o0_173 (P : Params) : Obj := ⟨(.type "function"), none, (.func { name := ("lesser_of" : Str), qualname := ("lesser_of" : Str), params := defArgs tp16, body := .stmts (defBody tp16), scope := defScope tp16, globals := 3, closure := [], defaults := .none, kwdefaults := .none, doc := .none, pyModule := (.str ("rosterneed.plain" : Str) 327), annotations := none, code := (.ref 172), closureTuple := .none, builtins := 0 }), #[]⟩
def o0_174 (P : Params) : Obj := ⟨(.type "tuple"), none, (.seq #[] 0), #[]⟩
def o0_175 (P : Params) : Obj := ⟨.none, none, (.fields #[]), #[]⟩
def o0_176 (P : Params) : Obj := ⟨(.type "tuple"), none, (.seq #[(.str ("one" : Str) 389), (.str ("other" : Str) 390)] 0), #[]⟩
def o0_177 (P : Params) : Obj := ⟨(.type "tuple"), none, (.seq #[] 0), #[]⟩
def o0_178 (P : Params) : Obj := ⟨.none, none, (.func { name := ("common_divisor" : Str), qualname := ("common_divisor" : Str), params := defArgs tp17, body := .stmts (defBody tp17), scope := defScope tp17, globals := 0, closure := [], defaults := .none, kwdefaults := .none, doc := .none, pyModule := .none, annotations := none, code := .none, closureTuple := .none, builtins := 0 }), #[]⟩
def o0_179 (P : Params) : Obj := ⟨(.type "code"), none, (.fields #[(.str ("common_divisor" : Str) 386), (.str ("common_divisor" : Str) 387), (.str ("/claim/cut.py" : Str) 388), (.int 45 0), (.int 2 0), (.int 0 0), (.int 0 0), (.int 3 0), (.ref 174), (.bool true), (.int 181 0), (.ref 175), .none, (.ref 176), (.ref 177), (.ref 178), (.int 391 0), (.int 45 0), (.str ("/claim/cut.py" : Str) 392)]), #[]⟩
def o0_180 (P : Params) : Obj := ⟨(.type "function"), none, (.func { name := ("common_divisor" : Str), qualname := ("common_divisor" : Str), params := defArgs tp17, body := .stmts (defBody tp17), scope := defScope tp17, globals := 3, closure := [], defaults := .none, kwdefaults := .none, doc := .none, pyModule := (.str ("rosterneed.plain" : Str) 327), annotations := none, code := (.ref 179), closureTuple := .none, builtins := 0 }), #[]⟩
def o0_181 (P : Params) : Obj := ⟨(.type "tuple"), none, (.seq #[] 0), #[]⟩
def o0_182 (P : Params) : Obj := ⟨.none, none, (.fields #[]), #[]⟩
def o0_183 (P : Params) : Obj := ⟨(.type "tuple"), none, (.seq #[(.str ("one" : Str) 397), (.str ("other" : Str) 398)] 0), #[]⟩
def o0_184 (P : Params) : Obj := ⟨(.type "tuple"), none, (.seq #[] 0), #[]⟩
def o0_185 (P : Params) : Obj := ⟨.none, none, (.func { name := ("common_multiple" : Str), qualname := ("common_multiple" : Str), params := defArgs tp18, body := .stmts (defBody tp18), scope := defScope tp18, globals := 0, closure := [], defaults := .none, kwdefaults := .none, doc := .none, pyModule := .none, annotations := none, code := .none, closureTuple := .none, builtins := 0 }), #[]⟩
def o0_186 (P : Params) : Obj := ⟨(.type "code"), none, (.fields #[(.str ("common_multiple" : Str) 394), (.str ("common_multiple" : Str) 395), (.str ("/claim/cut.py" : Str) 396), (.int 49 0), (.int 2 0), (.int 0 0), (.int 0 0), (.int 3 0), (.ref 181), (.bool true), (.int 181 0), (.ref 182), .none, (.ref 183), (.ref 184), (.ref 185), (.int 399 0), (.int 49 0), (.str ("/claim/cut.py" : Str) 400)]), #[]⟩
def o0_187 (P : Params) : Obj := ⟨(.type "function"), none, (.func { name := ("common_multiple" : Str), qualname := ("common_multiple" : Str), params := defArgs tp18, body := .stmts (defBody tp18), scope := defScope tp18, globals := 3, closure := [], defaults := .none, kwdefaults := .none, doc := .none, pyModule := (.str ("rosterneed.plain" : Str) 327), annotations := none, code := (.ref 186), closureTuple := .none, builtins := 0 }), #[]⟩
def o0_188 (P : Params) : Obj := ⟨(.type "tuple"), none, (.seq #[] 0), #[]⟩
def o0_189 (P : Params) : Obj := ⟨.none, none, (.fields #[]), #[]⟩
def o0_190 (P : Params) : Obj := ⟨(.type "tuple"), none, (.seq #[(.str ("raw" : Str) 407), (.str ("head" : Str) 408), (.str ("loop" : Str) 409), (.str ("rise" : Str) 410)] 0), #[]⟩
def o0_191 (P : Params) : Obj := ⟨(.type "tuple"), none, (.seq #[] 0), #[]⟩
def o0_192 (P : Params) : Obj := ⟨.none, none, (.func { name := ("end_of" : Str), qualname := ("end_of" : Str), params := defArgs tp20, body := .stmts (defBody tp20), scope := defScope tp20, globals := 0, closure := [], defaults := .none, kwdefaults := .none, doc := .none, pyModule := .none, annotations := none, code := .none, closureTuple := .none, builtins := 0 }), #[]⟩
def o0_193 (P : Params) : Obj := ⟨(.type "code"), none, (.fields #[(.str ("end_of" : Str) 404), (.str ("end_of" : Str) 405), (.str ("/claim/cut.py" : Str) 406), (.int 52 0), (.int 1 0), (.int 0 0), (.int 0 0), (.int 3 0), (.ref 188), (.bool true), (.int 181 0), (.ref 189), .none, (.ref 190), (.ref 191), (.ref 192), (.int 411 0), (.int 52 0), (.str ("/claim/cut.py" : Str) 412)]), #[]⟩
def o0_194 (P : Params) : Obj := ⟨(.type "function"), none, (.func { name := ("end_of" : Str), qualname := ("end_of" : Str), params := defArgs tp20, body := .stmts (defBody tp20), scope := defScope tp20, globals := 3, closure := [], defaults := .none, kwdefaults := .none, doc := .none, pyModule := (.str ("rosterneed.tablework" : Str) 402), annotations := none, code := (.ref 193), closureTuple := .none, builtins := 0 }), #[]⟩
def o0_195 (P : Params) : Obj := ⟨(.type "tuple"), none, (.seq #[] 0), #[]⟩
def o0_196 (P : Params) : Obj := ⟨.none, none, (.fields #[]), #[]⟩
def o0_197 (P : Params) : Obj := ⟨(.type "tuple"), none, (.seq #[(.str ("raw" : Str) 417), (.str ("place" : Str) 418), (.str ("head" : Str) 419), (.str ("loop" : Str) 420), (.str ("rise" : Str) 421), (.str ("rest" : Str) 422)] 0), #[]⟩
def o0_198 (P : Params) : Obj := ⟨(.type "tuple"), none, (.seq #[] 0), #[]⟩
def o0_199 (P : Params) : Obj := ⟨.none, none, (.func { name := ("value_at" : Str), qualname := ("value_at" : Str), params := defArgs tp21, body := .stmts (defBody tp21), scope := defScope tp21, globals := 0, closure := [], defaults := .none, kwdefaults := .none, doc := .none, pyModule := .none, annotations := none, code := .none, closureTuple := .none, builtins := 0 }), #[]⟩
def o0_200 (P : Params) : Obj := ⟨(.type "code"), none, (.fields #[(.str ("value_at" : Str) 414), (.str ("value_at" : Str) 415), (.str ("/claim/cut.py" : Str) 416), (.int 57 0), (.int 2 0), (.int 0 0), (.int 0 0), (.int 3 0), (.ref 195), (.bool true), (.int 181 0), (.ref 196), .none, (.ref 197), (.ref 198), (.ref 199), (.int 423 0), (.int 57 0), (.str ("/claim/cut.py" : Str) 424)]), #[]⟩
def o0_201 (P : Params) : Obj := ⟨(.type "function"), none, (.func { name := ("value_at" : Str), qualname := ("value_at" : Str), params := defArgs tp21, body := .stmts (defBody tp21), scope := defScope tp21, globals := 3, closure := [], defaults := .none, kwdefaults := .none, doc := .none, pyModule := (.str ("rosterneed.tablework" : Str) 402), annotations := none, code := (.ref 200), closureTuple := .none, builtins := 0 }), #[]⟩
def o0_202 (P : Params) : Obj := ⟨(.type "tuple"), none, (.seq #[] 0), #[]⟩
def o0_203 (P : Params) : Obj := ⟨.none, none, (.fields #[]), #[]⟩
def o0_204 (P : Params) : Obj := ⟨.none, none, (.func { name := ("short_loop" : Str), qualname := ("short_loop" : Str), params := defArgs tp22, body := .stmts (defBody tp22), scope := defScope tp22, globals := 0, closure := [], defaults := .none, kwdefaults := .none, doc := .none, pyModule := .none, annotations := none, code := .none, closureTuple := .none, builtins := 0 }), #[]⟩
def o0_205 (P : Params) : Obj := ⟨(.type "code"), none, (.fields #[(.str ("short_loop" : Str) 426), (.str ("short_loop" : Str) 427), (.str ("/claim/cut.py" : Str) 428), (.int 69 0), (.int 2 0), (.int 0 0), (.int 0 0), (.int 3 0), (.ref 202), (.bool true), (.int 181 0), (.ref 203), .none, .none, .none, (.ref 204), (.int 429 0), (.int 69 0), (.str ("/claim/cut.py" : Str) 430)]), #[]⟩
def o0_206 (P : Params) : Obj := ⟨(.type "function"), none, (.func { name := ("short_loop" : Str), qualname := ("short_loop" : Str), params := defArgs tp22, body := .stmts (defBody tp22), scope := defScope tp22, globals := 3, closure := [], defaults := .none, kwdefaults := .none, doc := .none, pyModule := (.str ("rosterneed.tablework" : Str) 402), annotations := none, code := (.ref 205), closureTuple := .none, builtins := 0 }), #[]⟩
def o0_207 (P : Params) : Obj := ⟨(.type "tuple"), none, (.seq #[] 0), #[]⟩
def o0_208 (P : Params) : Obj := ⟨.none, none, (.fields #[]), #[]⟩
def o0_209 (P : Params) : Obj := ⟨.none, none, (.func { name := ("plain_form" : Str), qualname := ("plain_form" : Str), params := defArgs tp23, body := .stmts (defBody tp23), scope := defScope tp23, globals := 0, closure := [], defaults := .none, kwdefaults := .none, doc := .none, pyModule := .none, annotations := none, code := .none, closureTuple := .none, builtins := 0 }), #[]⟩
def o0_210 (P : Params) : Obj := ⟨(.type "code"), none, (.fields #[(.str ("plain_form" : Str) 432), (.str ("plain_form" : Str) 433), (.str ("/claim/cut.py" : Str) 434), (.int 76 0), (.int 3 0), (.int 0 0), (.int 0 0), (.int 3 0), (.ref 207), (.bool true), (.int 181 0), (.ref 208), .none, .none, .none, (.ref 209), (.int 435 0), (.int 76 0), (.str ("/claim/cut.py" : Str) 436)]), #[]⟩
def o0_211 (P : Params) : Obj := ⟨(.type "function"), none, (.func { name := ("plain_form" : Str), qualname := ("plain_form" : Str), params := defArgs tp23, body := .stmts (defBody tp23), scope := defScope tp23, globals := 3, closure := [], defaults := .none, kwdefaults := .none, doc := .none, pyModule := (.str ("rosterneed.tablework" : Str) 402), annotations := none, code := (.ref 210), closureTuple := .none, builtins := 0 }), #[]⟩
def o0_212 (P : Params) : Obj := ⟨(.type "tuple"), none, (.seq #[] 0), #[]⟩
def o0_213 (P : Params) : Obj := ⟨.none, none, (.fields #[]), #[]⟩
def o0_214 (P : Params) : Obj := ⟨(.type "tuple"), none, (.seq #[(.str ("values" : Str) 441), (.str ("many" : Str) 442), (.str ("rise" : Str) 443), (.str ("cut" : Str) 444)] 0), #[]⟩
def o0_215 (P : Params) : Obj := ⟨(.type "tuple"), none, (.seq #[] 0), #[]⟩
def o0_216 (P : Params) : Obj := ⟨.none, none, (.func { name := ("formed" : Str), qualname := ("formed" : Str), params := defArgs tp24, body := .stmts (defBody tp24), scope := defScope tp24, globals := 0, closure := [], defaults := .none, kwdefaults := .none, doc := .none, pyModule := .none, annotations := none, code := .none, closureTuple := .none, builtins := 0 }), #[]⟩
def o0_217 (P : Params) : Obj := ⟨(.type "code"), none, (.fields #[(.str ("formed" : Str) 438), (.str ("formed" : Str) 439), (.str ("/claim/cut.py" : Str) 440), (.int 88 0), (.int 3 0), (.int 0 0), (.int 0 0), (.int 3 0), (.ref 212), (.bool true), (.int 181 0), (.ref 213), .none, (.ref 214), (.ref 215), (.ref 216), (.int 445 0), (.int 88 0), (.str ("/claim/cut.py" : Str) 446)]), #[]⟩
def o0_218 (P : Params) : Obj := ⟨(.type "function"), none, (.func { name := ("formed" : Str), qualname := ("formed" : Str), params := defArgs tp24, body := .stmts (defBody tp24), scope := defScope tp24, globals := 3, closure := [], defaults := .none, kwdefaults := .none, doc := .none, pyModule := (.str ("rosterneed.tablework" : Str) 402), annotations := none, code := (.ref 217), closureTuple := .none, builtins := 0 }), #[]⟩
def o0_219 (P : Params) : Obj := ⟨(.type "tuple"), none, (.seq #[] 0), #[]⟩
def o0_220 (P : Params) : Obj := ⟨.none, none, (.fields #[]), #[]⟩
def o0_221 (P : Params) : Obj := ⟨(.type "tuple"), none, (.seq #[(.str ("values" : Str) 451), (.str ("told" : Str) 452), (.str ("value" : Str) 453)] 0), #[]⟩
def o0_222 (P : Params) : Obj := ⟨(.type "tuple"), none, (.seq #[] 0), #[]⟩
def o0_223 (P : Params) : Obj := ⟨.none, none, (.func { name := ("until_never" : Str), qualname := ("until_never" : Str), params := defArgs tp25, body := .stmts (defBody tp25), scope := defScope tp25, globals := 0, closure := [], defaults := .none, kwdefaults := .none, doc := .none, pyModule := .none, annotations := none, code := .none, closureTuple := .none, builtins := 0 }), #[]⟩
def o0_224 (P : Params) : Obj := ⟨(.type "code"), none, (.fields #[(.str ("until_never" : Str) 448), (.str ("until_never" : Str) 449), (.str ("/claim/cut.py" : Str) 450), (.int 91 0), (.int 1 0), (.int 0 0), (.int 0 0), (.int 3 0), (.ref 219), (.bool true), (.int 181 0), (.ref 220), .none, (.ref 221), (.ref 222), (.ref 223), (.int 454 0), (.int 91 0), (.str ("/claim/cut.py" : Str) 455)]), #[]⟩
def o0_225 (P : Params) : Obj := ⟨(.type "function"), none, (.func { name := ("until_never" : Str), qualname := ("until_never" : Str), params := defArgs tp25, body := .stmts (defBody tp25), scope := defScope tp25, globals := 3, closure := [], defaults := .none, kwdefaults := .none, doc := .none, pyModule := (.str ("rosterneed.tablework" : Str) 402), annotations := none, code := (.ref 224), closureTuple := .none, builtins := 0 }), #[]⟩
def o0_226 (P : Params) : Obj := ⟨(.type "tuple"), none, (.seq #[] 0), #[]⟩
def o0_227 (P : Params) : Obj := ⟨.none, none, (.fields #[]), #[]⟩
def o0_228 (P : Params) : Obj := ⟨(.type "tuple"), none, (.seq #[(.str ("raw" : Str) 460), (.str ("least" : Str) 461), (.str ("bound" : Str) 462), (.str ("place" : Str) 463), (.str ("value" : Str) 464)] 0), #[]⟩
def o0_229 (P : Params) : Obj := ⟨(.type "tuple"), none, (.seq #[] 0), #[]⟩
def o0_230 (P : Params) : Obj := ⟨.none, none, (.func { name := ("first_beyond" : Str), qualname := ("first_beyond" : Str), params := defArgs tp26, body := .stmts (defBody tp26), scope := defScope tp26, globals := 0, closure := [], defaults := .none, kwdefaults := .none, doc := .none, pyModule := .none, annotations := none, code := .none, closureTuple := .none, builtins := 0 }), #[]⟩
def o0_231 (P : Params) : Obj := ⟨(.type "code"), none, (.fields #[(.str ("first_beyond" : Str) 457), (.str ("first_beyond" : Str) 458), (.str ("/claim/cut.py" : Str) 459), (.int 98 0), (.int 3 0), (.int 0 0), (.int 0 0), (.int 3 0), (.ref 226), (.bool true), (.int 181 0), (.ref 227), .none, (.ref 228), (.ref 229), (.ref 230), (.int 465 0), (.int 98 0), (.str ("/claim/cut.py" : Str) 466)]), #[]⟩
def o0_232 (P : Params) : Obj := ⟨(.type "function"), none, (.func { name := ("first_beyond" : Str), qualname := ("first_beyond" : Str), params := defArgs tp26, body := .stmts (defBody tp26), scope := defScope tp26, globals := 3, closure := [], defaults := .none, kwdefaults := .none, doc := .none, pyModule := (.str ("rosterneed.tablework" : Str) 402), annotations := none, code := (.ref 231), closureTuple := .none, builtins := 0 }), #[]⟩
def o0_233 (P : Params) : Obj := ⟨(.type "tuple"), none, (.seq #[] 0), #[]⟩
def o0_234 (P : Params) : Obj := ⟨.none, none, (.fields #[]), #[]⟩
def o0_235 (P : Params) : Obj := ⟨.none, none, (.func { name := ("behind_raw" : Str), qualname := ("behind_raw" : Str), params := defArgs tp27, body := .stmts (defBody tp27), scope := defScope tp27, globals := 0, closure := [], defaults := .none, kwdefaults := .none, doc := .none, pyModule := .none, annotations := none, code := .none, closureTuple := .none, builtins := 0 }), #[]⟩
def o0_236 (P : Params) : Obj := ⟨(.type "code"), none, (.fields #[(.str ("behind_raw" : Str) 468), (.str ("behind_raw" : Str) 469), (.str ("/claim/cut.py" : Str) 470), (.int 105 0), (.int 2 0), (.int 0 0), (.int 0 0), (.int 3 0), (.ref 233), (.bool true), (.int 181 0), (.ref 234), .none, .none, .none, (.ref 235), (.int 471 0), (.int 105 0), (.str ("/claim/cut.py" : Str) 472)]), #[]⟩
def o0_237 (P : Params) : Obj := ⟨(.type "function"), none, (.func { name := ("behind_raw" : Str), qualname := ("behind_raw" : Str), params := defArgs tp27, body := .stmts (defBody tp27), scope := defScope tp27, globals := 3, closure := [], defaults := .none, kwdefaults := .none, doc := .none, pyModule := (.str ("rosterneed.tablework" : Str) 402), annotations := none, code := (.ref 236), closureTuple := .none, builtins := 0 }), #[]⟩
def o0_238 (P : Params) : Obj := ⟨(.type "tuple"), none, (.seq #[] 0), #[]⟩
def o0_239 (P : Params) : Obj := ⟨.none, none, (.fields #[]), #[]⟩
def o0_240 (P : Params) : Obj := ⟨(.type "tuple"), none, (.seq #[(.str ("first" : Str) 477), (.str ("second" : Str) 478), (.str ("start" : Str) 479), (.str ("many" : Str) 480), (.str ("greatest" : Str) 481), (.str ("steps" : Str) 482), (.str ("slopes" : Str) 483), (.str ("ahead" : Str) 484), (.str ("behind" : Str) 485), (.str ("apart" : Str) 486), (.str ("place" : Str) 487), (.str ("lack" : Str) 488)] 0), #[]⟩
def o0_241 (P : Params) : Obj := ⟨(.type "tuple"), none, (.seq #[] 0), #[]⟩
def o0_242 (P : Params) : Obj := ⟨.none, none, (.func { name := ("later_start" : Str), qualname := ("later_start" : Str), params := defArgs tp28, body := .stmts (defBody tp28), scope := defScope tp28, globals := 0, closure := [], defaults := .none, kwdefaults := .none, doc := .none, pyModule := .none, annotations := none, code := .none, closureTuple := .none, builtins := 0 }), #[]⟩
def o0_243 (P : Params) : Obj := ⟨(.type "code"), none, (.fields #[(.str ("later_start" : Str) 474), (.str ("later_start" : Str) 475), (.str ("/claim/cut.py" : Str) 476), (.int 123 0), (.int 5 0), (.int 0 0), (.int 0 0), (.int 3 0), (.ref 238), (.bool true), (.int 181 0), (.ref 239), .none, (.ref 240), (.ref 241), (.ref 242), (.int 489 0), (.int 123 0), (.str ("/claim/cut.py" : Str) 490)]), #[]⟩
def o0_244 (P : Params) : Obj := ⟨(.type "function"), none, (.func { name := ("later_start" : Str), qualname := ("later_start" : Str), params := defArgs tp28, body := .stmts (defBody tp28), scope := defScope tp28, globals := 3, closure := [], defaults := .none, kwdefaults := .none, doc := .none, pyModule := (.str ("rosterneed.tablework" : Str) 402), annotations := none, code := (.ref 243), closureTuple := .none, builtins := 0 }), #[]⟩
def o0_245 (P : Params) : Obj := ⟨(.type "tuple"), none, (.seq #[] 0), #[]⟩
def o0_246 (P : Params) : Obj := ⟨.none, none, (.fields #[]), #[]⟩
def o0_247 (P : Params) : Obj := ⟨(.type "tuple"), none, (.seq #[(.str ("first" : Str) 495), (.str ("second" : Str) 496), (.str ("greatest" : Str) 497), (.str ("upto" : Str) 498), (.str ("told" : Str) 499), (.str ("place" : Str) 500), (.str ("one" : Str) 501), (.str ("other" : Str) 502)] 0), #[]⟩
def o0_248 (P : Params) : Obj := ⟨(.type "tuple"), none, (.seq #[] 0), #[]⟩
def o0_249 (P : Params) : Obj := ⟨.none, none, (.func { name := ("joined_values" : Str), qualname := ("joined_values" : Str), params := defArgs tp29, body := .stmts (defBody tp29), scope := defScope tp29, globals := 0, closure := [], defaults := .none, kwdefaults := .none, doc := .none, pyModule := .none, annotations := none, code := .none, closureTuple := .none, builtins := 0 }), #[]⟩
def o0_250 (P : Params) : Obj := ⟨(.type "code"), none, (.fields #[(.str ("joined_values" : Str) 492), (.str ("joined_values" : Str) 493), (.str ("/claim/cut.py" : Str) 494), (.int 137 0), (.int 4 0), (.int 0 0), (.int 0 0), (.int 3 0), (.ref 245), (.bool true), (.int 181 0), (.ref 246), .none, (.ref 247), (.ref 248), (.ref 249), (.int 503 0), (.int 137 0), (.str ("/claim/cut.py" : Str) 504)]), #[]⟩
def o0_251 (P : Params) : Obj := ⟨(.type "function"), none, (.func { name := ("joined_values" : Str), qualname := ("joined_values" : Str), params := defArgs tp29, body := .stmts (defBody tp29), scope := defScope tp29, globals := 3, closure := [], defaults := .none, kwdefaults := .none, doc := .none, pyModule := (.str ("rosterneed.tablework" : Str) 402), annotations := none, code := (.ref 250), closureTuple := .none, builtins := 0 }), #[]⟩
def o0_252 (P : Params) : Obj := ⟨(.type "tuple"), none, (.seq #[] 0), #[]⟩
def o0_253 (P : Params) : Obj := ⟨.none, none, (.fields #[]), #[]⟩
def o0_254 (P : Params) : Obj := ⟨.none, none, (.func { name := ("joined_raw" : Str), qualname := ("joined_raw" : Str), params := defArgs tp30, body := .stmts (defBody tp30), scope := defScope tp30, globals := 0, closure := [], defaults := .none, kwdefaults := .none, doc := .none, pyModule := .none, annotations := none, code := .none, closureTuple := .none, builtins := 0 }), #[]⟩
def o0_255 (P : Params) : Obj := ⟨(.type "code"), none, (.fields #[(.str ("joined_raw" : Str) 506), (.str ("joined_raw" : Str) 507), (.str ("/claim/cut.py" : Str) 508), (.int 143 0), (.int 3 0), (.int 0 0), (.int 0 0), (.int 3 0), (.ref 252), (.bool true), (.int 181 0), (.ref 253), .none, .none, .none, (.ref 254), (.int 509 0), (.int 143 0), (.str ("/claim/cut.py" : Str) 510)]), #[]⟩
def o0_256 (P : Params) : Obj := ⟨(.type "function"), none, (.func { name := ("joined_raw" : Str), qualname := ("joined_raw" : Str), params := defArgs tp30, body := .stmts (defBody tp30), scope := defScope tp30, globals := 3, closure := [], defaults := .none, kwdefaults := .none, doc := .none, pyModule := (.str ("rosterneed.tablework" : Str) 402), annotations := none, code := (.ref 255), closureTuple := .none, builtins := 0 }), #[]⟩
def o0_257 (P : Params) : Obj := ⟨(.type "tuple"), none, (.seq #[] 0), #[]⟩
def o0_258 (P : Params) : Obj := ⟨.none, none, (.fields #[]), #[]⟩
def o0_259 (P : Params) : Obj := ⟨(.type "tuple"), none, (.seq #[(.str ("raw" : Str) 515), (.str ("upto" : Str) 516), (.str ("told" : Str) 517), (.str ("many" : Str) 518), (.str ("bound" : Str) 519), (.str ("value" : Str) 520)] 0), #[]⟩
def o0_260 (P : Params) : Obj := ⟨(.type "tuple"), none, (.seq #[] 0), #[]⟩
def o0_261 (P : Params) : Obj := ⟨.none, none, (.func { name := ("counts_below" : Str), qualname := ("counts_below" : Str), params := defArgs tp31, body := .stmts (defBody tp31), scope := defScope tp31, globals := 0, closure := [], defaults := .none, kwdefaults := .none, doc := .none, pyModule := .none, annotations := none, code := .none, closureTuple := .none, builtins := 0 }), #[]⟩
def o0_262 (P : Params) : Obj := ⟨(.type "code"), none, (.fields #[(.str ("counts_below" : Str) 512), (.str ("counts_below" : Str) 513), (.str ("/claim/cut.py" : Str) 514), (.int 158 0), (.int 2 0), (.int 0 0), (.int 0 0), (.int 3 0), (.ref 257), (.bool true), (.int 181 0), (.ref 258), .none, (.ref 259), (.ref 260), (.ref 261), (.int 521 0), (.int 158 0), (.str ("/claim/cut.py" : Str) 522)]), #[]⟩
def o0_263 (P : Params) : Obj := ⟨(.type "function"), none, (.func { name := ("counts_below" : Str), qualname := ("counts_below" : Str), params := defArgs tp31, body := .stmts (defBody tp31), scope := defScope tp31, globals := 3, closure := [], defaults := .none, kwdefaults := .none, doc := .none, pyModule := (.str ("rosterneed.tablework" : Str) 402), annotations := none, code := (.ref 262), closureTuple := .none, builtins := 0 }), #[]⟩
def o0_264 (P : Params) : Obj := ⟨(.type "tuple"), none, (.seq #[] 0), #[]⟩
def o0_265 (P : Params) : Obj := ⟨.none, none, (.fields #[]), #[]⟩
def o0_266 (P : Params) : Obj := ⟨(.type "tuple"), none, (.seq #[(.str ("raw" : Str) 527), (.str ("head" : Str) 528), (.str ("loop" : Str) 529), (.str ("rise" : Str) 530), (.str ("upto" : Str) 531)] 0), #[]⟩
def o0_267 (P : Params) : Obj := ⟨(.type "tuple"), none, (.seq #[] 0), #[]⟩
def o0_268 (P : Params) : Obj := ⟨.none, none, (.func { name := ("turned_raw" : Str), qualname := ("turned_raw" : Str), params := defArgs tp32, body := .stmts (defBody tp32), scope := defScope tp32, globals := 0, closure := [], defaults := .none, kwdefaults := .none, doc := .none, pyModule := .none, annotations := none, code := .none, closureTuple := .none, builtins := 0 }), #[]⟩
def o0_269 (P : Params) : Obj := ⟨(.type "code"), none, (.fields #[(.str ("turned_raw" : Str) 524), (.str ("turned_raw" : Str) 525), (.str ("/claim/cut.py" : Str) 526), (.int 168 0), (.int 1 0), (.int 0 0), (.int 0 0), (.int 3 0), (.ref 264), (.bool true), (.int 181 0), (.ref 265), .none, (.ref 266), (.ref 267), (.ref 268), (.int 532 0), (.int 168 0), (.str ("/claim/cut.py" : Str) 533)]), #[]⟩
def o0_270 (P : Params) : Obj := ⟨(.type "function"), none, (.func { name := ("turned_raw" : Str), qualname := ("turned_raw" : Str), params := defArgs tp32, body := .stmts (defBody tp32), scope := defScope tp32, globals := 3, closure := [], defaults := .none, kwdefaults := .none, doc := .none, pyModule := (.str ("rosterneed.tablework" : Str) 402), annotations := none, code := (.ref 269), closureTuple := .none, builtins := 0 }), #[]⟩
def o0_271 (P : Params) : Obj := ⟨(.type "tuple"), none, (.seq #[] 0), #[]⟩
def o0_272 (P : Params) : Obj := ⟨.none, none, (.fields #[]), #[]⟩
def o0_273 (P : Params) : Obj := ⟨(.type "tuple"), none, (.seq #[(.str ("first" : Str) 538), (.str ("second" : Str) 539), (.str ("longest" : Str) 540), (.str ("many" : Str) 541), (.str ("place" : Str) 542), (.str ("climb" : Str) 543), (.str ("found" : Str) 544), (.str ("lack" : Str) 545), (.str ("seen" : Str) 546)] 0), #[]⟩
def o0_274 (P : Params) : Obj := ⟨(.type "tuple"), none, (.seq #[] 0), #[]⟩
def o0_275 (P : Params) : Obj := ⟨.none, none, (.func { name := ("least_above" : Str), qualname := ("least_above" : Str), params := defArgs tp33, body := .stmts (defBody tp33), scope := defScope tp33, globals := 0, closure := [], defaults := .none, kwdefaults := .none, doc := .none, pyModule := .none, annotations := none, code := .none, closureTuple := .none, builtins := 0 }), #[]⟩
def o0_276 (P : Params) : Obj := ⟨(.type "code"), none, (.fields #[(.str ("least_above" : Str) 535), (.str ("least_above" : Str) 536), (.str ("/claim/cut.py" : Str) 537), (.int 176 0), (.int 2 0), (.int 0 0), (.int 0 0), (.int 3 0), (.ref 271), (.bool true), (.int 181 0), (.ref 272), .none, (.ref 273), (.ref 274), (.ref 275), (.int 547 0), (.int 176 0), (.str ("/claim/cut.py" : Str) 548)]), #[]⟩
def o0_277 (P : Params) : Obj := ⟨(.type "function"), none, (.func { name := ("least_above" : Str), qualname := ("least_above" : Str), params := defArgs tp33, body := .stmts (defBody tp33), scope := defScope tp33, globals := 3, closure := [], defaults := .none, kwdefaults := .none, doc := .none, pyModule := (.str ("rosterneed.tablework" : Str) 402), annotations := none, code := (.ref 276), closureTuple := .none, builtins := 0 }), #[]⟩
def o0_278 (P : Params) : Obj := ⟨(.type "tuple"), none, (.seq #[] 0), #[]⟩
def o0_279 (P : Params) : Obj := ⟨(.type "builtin_function_or_method"), none, (.fields #[(.builtin "type.__prepare__"), (.type "type")]), #[]⟩
def o0_280 (P : Params) : Obj := ⟨(.type "dict"), none, (.dict #[⟨PyData.keyHash P ("__module__" : Str), (.str ("__module__" : Str) 559), (.str ("rosterneed.verdicts" : Str) 550)⟩, ⟨PyData.keyHash P ("__qualname__" : Str), (.str ("__qualname__" : Str) 561), (.str ("Verdict" : Str) 560)⟩, ⟨PyData.keyHash P ("__firstlineno__" : Str), (.str ("__firstlineno__" : Str) 563), (.int 197 562)⟩, ⟨PyData.keyHash P ("__init__" : Str), (.str ("__init__" : Str) 571), (.ref 291)⟩, ⟨PyData.keyHash P ("__bool__" : Str), (.str ("__bool__" : Str) 578), (.ref 298)⟩, ⟨PyData.keyHash P ("__static_attributes__" : Str), (.str ("__static_attributes__" : Str) 580), (.ref 299)⟩] 6), #[]⟩
def o0_281 (P : Params) : Obj := ⟨(.type "tuple"), none, (.seq #[] 0), #[]⟩
def o0_282 (P : Params) : Obj := ⟨.none, none, (.fields #[(.int 199 0), (.int 4 0), (.ref 290), (.int 202 0), (.int 4 0), (.ref 297)]), #[]⟩
def o0_283 (P : Params) : Obj := ⟨(.type "code"), none, (.fields #[(.str ("Verdict" : Str) 554), (.str ("Verdict" : Str) 555), (.str ("/claim/cut.py" : Str) 556), (.int 197 0), (.int 0 0), (.int 0 0), (.int 0 0), (.int 0 0), (.ref 281), (.bool false), (.int 181 0), (.ref 282), .none, .none, .none, .none, (.int 557 0), (.int 197 0), (.str ("/claim/cut.py" : Str) 558)]), #[]⟩
def o0_284 (P : Params) : Obj := ⟨(.type "frame"), none, .plain, #[(some (.ref 283)), (some (.ref 3)), (some (.ref 280)), none, (some (.str ("rosterneed.verdicts" : Str) 550)), none, (some (.ref 0))]⟩
def o0_285 (P : Params) : Obj := ⟨(.type "tuple"), none, (.seq #[] 0), #[]⟩
def o0_286 (P : Params) : Obj := ⟨.none, none, (.fields #[]), #[]⟩
def o0_287 (P : Params) : Obj := ⟨(.type "tuple"), none, (.seq #[(.str ("self" : Str) 567), (.str ("holds" : Str) 568)] 0), #[]⟩
def o0_288 (P : Params) : Obj := ⟨(.type "tuple"), none, (.seq #[] 0), #[]⟩
def o0_289 (P : Params) : Obj := ⟨.none, none, (.func { name := ("__init__" : Str), qualname := ("Verdict.__init__" : Str), params := defArgs tp35_0, body := .stmts (defBody tp35_0), scope := defScope tp35_0, globals := 0, closure := [], defaults := .none, kwdefaults := .none, doc := .none, pyModule := .none, annotations := none, code := .none, closureTuple := .none, builtins := 0 }), #[]⟩
def o0_290 (P : Params) : Obj := ⟨(.type "code"), none, (.fields #[(.str ("__init__" : Str) 564), (.str ("Verdict.__init__" : Str) 565), (.str ("/claim/cut.py" : Str) 566), (.int 199 0), (.int 2 0), (.int 0 0), (.int 0 0), (.int 3 0), (.ref 285), (.bool true), (.int 181 0), (.ref 286), .none, (.ref 287), (.ref 288), (.ref 289), (.int 569 0), (.int 199 0), (.str ("/claim/cut.py" : Str) 570)]), #[]⟩
def o0_291 (P : Params) : Obj := ⟨(.type "function"), none, (.func { name := ("__init__" : Str), qualname := ("Verdict.__init__" : Str), params := defArgs tp35_0, body := .stmts (defBody tp35_0), scope := defScope tp35_0, globals := 3, closure := [], defaults := .none, kwdefaults := .none, doc := .none, pyModule := (.str ("rosterneed.verdicts" : Str) 550), annotations := none, code := (.ref 290), closureTuple := .none, builtins := 0 }), #[]⟩
def o0_292 (P : Params) : Obj := ⟨(.type "tuple"), none, (.seq #[] 0), #[]⟩
def o0_293 (P : Params) : Obj := ⟨.none, none, (.fields #[]), #[]⟩
def o0_294 (P : Params) : Obj := ⟨(.type "tuple"), none, (.seq #[(.str ("self" : Str) 575)] 0), #[]⟩
def o0_295 (P : Params) : Obj := ⟨(.type "tuple"), none, (.seq #[] 0), #[]⟩
def o0_296 (P : Params) : Obj := ⟨.none, none, (.func { name := ("__bool__" : Str), qualname := ("Verdict.__bool__" : Str), params := defArgs tp35_1, body := .stmts (defBody tp35_1), scope := defScope tp35_1, globals := 0, closure := [], defaults := .none, kwdefaults := .none, doc := .none, pyModule := .none, annotations := none, code := .none, closureTuple := .none, builtins := 0 }), #[]⟩
def o0_297 (P : Params) : Obj := ⟨(.type "code"), none, (.fields #[(.str ("__bool__" : Str) 572), (.str ("Verdict.__bool__" : Str) 573), (.str ("/claim/cut.py" : Str) 574), (.int 202 0), (.int 1 0), (.int 0 0), (.int 0 0), (.int 3 0), (.ref 292), (.bool true), (.int 181 0), (.ref 293), .none, (.ref 294), (.ref 295), (.ref 296), (.int 576 0), (.int 202 0), (.str ("/claim/cut.py" : Str) 577)]), #[]⟩
def o0_298 (P : Params) : Obj := ⟨(.type "function"), none, (.func { name := ("__bool__" : Str), qualname := ("Verdict.__bool__" : Str), params := defArgs tp35_1, body := .stmts (defBody tp35_1), scope := defScope tp35_1, globals := 3, closure := [], defaults := .none, kwdefaults := .none, doc := .none, pyModule := (.str ("rosterneed.verdicts" : Str) 550), annotations := none, code := (.ref 297), closureTuple := .none, builtins := 0 }), #[]⟩
def o0_299 (P : Params) : Obj := ⟨(.type "tuple"), none, (.seq #[(.str ("holds" : Str) 579)] 0), #[]⟩
def o0_300 (P : Params) : Obj := ⟨(.type "dict"), none, (.dict #[⟨PyData.keyHash P ("__module__" : Str), (.str ("__module__" : Str) 559), (.str ("rosterneed.verdicts" : Str) 550)⟩, ⟨PyData.keyHash P ("__firstlineno__" : Str), (.str ("__firstlineno__" : Str) 563), (.int 197 562)⟩, ⟨PyData.keyHash P ("__init__" : Str), (.str ("__init__" : Str) 571), (.ref 291)⟩, ⟨PyData.keyHash P ("__bool__" : Str), (.str ("__bool__" : Str) 578), (.ref 298)⟩, ⟨PyData.keyHash P ("__static_attributes__" : Str), (.str ("__static_attributes__" : Str) 580), (.ref 299)⟩, ⟨PyData.keyHash P ("__dict__" : Str), (.str ("__dict__" : Str) 582), (.ref 302)⟩, ⟨PyData.keyHash P ("__weakref__" : Str), (.str ("__weakref__" : Str) 584), (.ref 303)⟩, ⟨PyData.keyHash P ("__doc__" : Str), (.str ("__doc__" : Str) 585), .none⟩] 4), #[]⟩
def o0_301 (P : Params) : Obj := ⟨(.type "type"), none, (.cls { name := ("Verdict" : Str), bases := [(.type "object")], mro := [(.ref 301), (.type "object")], ns := 300, qualname := ("Verdict" : Str), hasDict := true, slotNames := [], subclasses := [], abstract := false, collection := none, hasDel := false }), #[none, none, (some (.str ("Verdict" : Str) 552)), (some (.str ("Verdict" : Str) 560)), (some (.builtin "object.__new__")), (some (.bool true))]⟩
def o0_302 (P : Params) : Obj := ⟨(.type "getset_descriptor"), none, (.fields #[(.str ("__dict__" : Str) 581), (.ref 301), (.builtin "function.__dict__"), (.builtin "function.__dict__#set")]), #[]⟩
def o0_303 (P : Params) : Obj := ⟨(.type "getset_descriptor"), none, (.fields #[(.str ("__weakref__" : Str) 583), (.ref 301), (.builtin "ExceptionGroup.__weakref__"), .none]), #[]⟩
def o0_304 (P : Params) : Obj := ⟨(.type "super"), none, (.fields #[(.ref 301), (.ref 301), (.ref 301)]), #[]⟩
def o0_305 (P : Params) : Obj := ⟨(.type "builtin_function_or_method"), none, (.fields #[(.builtin "object.__init_subclass__"), (.ref 301)]), #[]⟩
def t0 (P : Params) : BT := (.node (boot_o_0 P) (.node (boot_o_1 P) (.node (o0_3 P) (.node (boot_o_7 P) (.node (o0_15 P) (.node (o0_31 P) (.node (o0_63 P) (.node (o0_127 P) (.node (o0_255 P) .nil .nil) .nil) (.node (o0_191 P) .nil .nil)) (.node (o0_95 P) (.node (o0_159 P) (.node (o0_287 P) .nil .nil) .nil) (.node (o0_223 P) .nil .nil))) (.node (o0_47 P) (.node (o0_79 P) (.node (o0_143 P) (.node (o0_271 P) .nil .nil) .nil) (.node (o0_207 P) .nil .nil)) (.node (o0_111 P) (.node (o0_175 P) (.node (o0_303 P) .nil .nil) .nil) (.node (o0_239 P) .nil .nil)))) (.node (o0_23 P) (.node (o0_39 P) (.node (o0_71 P) (.node (o0_135 P) (.node (o0_263 P) .nil .nil) .nil) (.node (o0_199 P) .nil .nil)) (.node (o0_103 P) (.node (o0_167 P) (.node (o0_295 P) .nil .nil) .nil) (.node (o0_231 P) .nil .nil))) (.node (o0_55 P) (.node (o0_87 P) (.node (o0_151 P) (.node (o0_279 P) .nil .nil) .nil) (.node (o0_215 P) .nil .nil)) (.node (o0_119 P) (.node (o0_183 P) .nil .nil) (.node (o0_247 P) .nil .nil))))) (.node (oa_11 P) (.node (o0_19 P) (.node (o0_35 P) (.node (o0_67 P) (.node (o0_131 P) (.node (o0_259 P) .nil .nil) .nil) (.node (o0_195 P) .nil .nil)) (.node (o0_99 P) (.node (o0_163 P) (.node (o0_291 P) .nil .nil) .nil) (.node (o0_227 P) .nil .nil))) (.node (o0_51 P) (.node (o0_83 P) (.node (o0_147 P) (.node (o0_275 P) .nil .nil) .nil) (.node (o0_211 P) .nil .nil)) (.node (o0_115 P) (.node (o0_179 P) .nil .nil) (.node (o0_243 P) .nil .nil)))) (.node (o0_27 P) (.node (o0_43 P) (.node (o0_75 P) (.node (o0_139 P) (.node (o0_267 P) .nil .nil) .nil) (.node (o0_203 P) .nil .nil)) (.node (o0_107 P) (.node (o0_171 P) (.node (o0_299 P) .nil .nil) .nil) (.node (o0_235 P) .nil .nil))) (.node (o0_59 P) (.node (o0_91 P) (.node (o0_155 P) (.node (o0_283 P) .nil .nil) .nil) (.node (o0_219 P) .nil .nil)) (.node (o0_123 P) (.node (o0_187 P) .nil .nil) (.node (o0_251 P) .nil .nil)))))) (.node (boot_o_5 P) (.node (boot_o_9 P) (.node (o0_17 P) (.node (o0_33 P) (.node (o0_65 P) (.node (o0_129 P) (.node (o0_257 P) .nil .nil) .nil) (.node (o0_193 P) .nil .nil)) (.node (o0_97 P) (.node (o0_161 P) (.node (o0_289 P) .nil .nil) .nil) (.node (o0_225 P) .nil .nil))) (.node (o0_49 P) (.node (o0_81 P) (.node (o0_145 P) (.node (o0_273 P) .nil .nil) .nil) (.node (o0_209 P) .nil .nil)) (.node (o0_113 P) (.node (o0_177 P) (.node (o0_305 P) .nil .nil) .nil) (.node (o0_241 P) .nil .nil)))) (.node (o0_25 P) (.node (o0_41 P) (.node (o0_73 P) (.node (o0_137 P) (.node (o0_265 P) .nil .nil) .nil) (.node (o0_201 P) .nil .nil)) (.node (o0_105 P) (.node (o0_169 P) (.node (o0_297 P) .nil .nil) .nil) (.node (o0_233 P) .nil .nil))) (.node (o0_57 P) (.node (o0_89 P) (.node (o0_153 P) (.node (o0_281 P) .nil .nil) .nil) (.node (o0_217 P) .nil .nil)) (.node (o0_121 P) (.node (o0_185 P) .nil .nil) (.node (o0_249 P) .nil .nil))))) (.node (oa_13 P) (.node (o0_21 P) (.node (o0_37 P) (.node (o0_69 P) (.node (o0_133 P) (.node (o0_261 P) .nil .nil) .nil) (.node (o0_197 P) .nil .nil)) (.node (o0_101 P) (.node (o0_165 P) (.node (o0_293 P) .nil .nil) .nil) (.node (o0_229 P) .nil .nil))) (.node (o0_53 P) (.node (o0_85 P) (.node (o0_149 P) (.node (o0_277 P) .nil .nil) .nil) (.node (o0_213 P) .nil .nil)) (.node (o0_117 P) (.node (o0_181 P) .nil .nil) (.node (o0_245 P) .nil .nil)))) (.node (o0_29 P) (.node (o0_45 P) (.node (o0_77 P) (.node (o0_141 P) (.node (o0_269 P) .nil .nil) .nil) (.node (o0_205 P) .nil .nil)) (.node (o0_109 P) (.node (o0_173 P) (.node (o0_301 P) .nil .nil) .nil) (.node (o0_237 P) .nil .nil))) (.node (o0_61 P) (.node (o0_93 P) (.node (o0_157 P) (.node (o0_285 P) .nil .nil) .nil) (.node (o0_221 P) .nil .nil)) (.node (o0_125 P) (.node (o0_189 P) .nil .nil) (.node (o0_253 P) .nil .nil))))))) (.node (boot_o_2 P) (.node (boot_o_4 P) (.node (boot_o_8 P) (.node (o0_16 P) (.node (o0_32 P) (.node (o0_64 P) (.node (o0_128 P) (.node (o0_256 P) .nil .nil) .nil) (.node (o0_192 P) .nil .nil)) (.node (o0_96 P) (.node (o0_160 P) (.node (o0_288 P) .nil .nil) .nil) (.node (o0_224 P) .nil .nil))) (.node (o0_48 P) (.node (o0_80 P) (.node (o0_144 P) (.node (o0_272 P) .nil .nil) .nil) (.node (o0_208 P) .nil .nil)) (.node (o0_112 P) (.node (o0_176 P) (.node (o0_304 P) .nil .nil) .nil) (.node (o0_240 P) .nil .nil)))) (.node (o0_24 P) (.node (o0_40 P) (.node (o0_72 P) (.node (o0_136 P) (.node (o0_264 P) .nil .nil) .nil) (.node (o0_200 P) .nil .nil)) (.node (o0_104 P) (.node (o0_168 P) (.node (o0_296 P) .nil .nil) .nil) (.node (o0_232 P) .nil .nil))) (.node (o0_56 P) (.node (o0_88 P) (.node (o0_152 P) (.node (o0_280 P) .nil .nil) .nil) (.node (o0_216 P) .nil .nil)) (.node (o0_120 P) (.node (o0_184 P) .nil .nil) (.node (o0_248 P) .nil .nil))))) (.node (o0_12 P) (.node (o0_20 P) (.node (o0_36 P) (.node (o0_68 P) (.node (o0_132 P) (.node (o0_260 P) .nil .nil) .nil) (.node (o0_196 P) .nil .nil)) (.node (o0_100 P) (.node (o0_164 P) (.node (o0_292 P) .nil .nil) .nil) (.node (o0_228 P) .nil .nil))) (.node (o0_52 P) (.node (o0_84 P) (.node (o0_148 P) (.node (o0_276 P) .nil .nil) .nil) (.node (o0_212 P) .nil .nil)) (.node (o0_116 P) (.node (o0_180 P) .nil .nil) (.node (o0_244 P) .nil .nil)))) (.node (o0_28 P) (.node (o0_44 P) (.node (o0_76 P) (.node (o0_140 P) (.node (o0_268 P) .nil .nil) .nil) (.node (o0_204 P) .nil .nil)) (.node (o0_108 P) (.node (o0_172 P) (.node (o0_300 P) .nil .nil) .nil) (.node (o0_236 P) .nil .nil))) (.node (o0_60 P) (.node (o0_92 P) (.node (o0_156 P) (.node (o0_284 P) .nil .nil) .nil) (.node (o0_220 P) .nil .nil)) (.node (o0_124 P) (.node (o0_188 P) .nil .nil) (.node (o0_252 P) .nil .nil)))))) (.node (boot_o_6 P) (.node (boot_o_10 P) (.node (o0_18 P) (.node (o0_34 P) (.node (o0_66 P) (.node (o0_130 P) (.node (o0_258 P) .nil .nil) .nil) (.node (o0_194 P) .nil .nil)) (.node (o0_98 P) (.node (o0_162 P) (.node (o0_290 P) .nil .nil) .nil) (.node (o0_226 P) .nil .nil))) (.node (o0_50 P) (.node (o0_82 P) (.node (o0_146 P) (.node (o0_274 P) .nil .nil) .nil) (.node (o0_210 P) .nil .nil)) (.node (o0_114 P) (.node (o0_178 P) .nil .nil) (.node (o0_242 P) .nil .nil)))) (.node (o0_26 P) (.node (o0_42 P) (.node (o0_74 P) (.node (o0_138 P) (.node (o0_266 P) .nil .nil) .nil) (.node (o0_202 P) .nil .nil)) (.node (o0_106 P) (.node (o0_170 P) (.node (o0_298 P) .nil .nil) .nil) (.node (o0_234 P) .nil .nil))) (.node (o0_58 P) (.node (o0_90 P) (.node (o0_154 P) (.node (o0_282 P) .nil .nil) .nil) (.node (o0_218 P) .nil .nil)) (.node (o0_122 P) (.node (o0_186 P) .nil .nil) (.node (o0_250 P) .nil .nil))))) (.node (oa_14 P) (.node (o0_22 P) (.node (o0_38 P) (.node (o0_70 P) (.node (o0_134 P) (.node (o0_262 P) .nil .nil) .nil) (.node (o0_198 P) .nil .nil)) (.node (o0_102 P) (.node (o0_166 P) (.node (o0_294 P) .nil .nil) .nil) (.node (o0_230 P) .nil .nil))) (.node (o0_54 P) (.node (o0_86 P) (.node (o0_150 P) (.node (o0_278 P) .nil .nil) .nil) (.node (o0_214 P) .nil .nil)) (.node (o0_118 P) (.node (o0_182 P) .nil .nil) (.node (o0_246 P) .nil .nil)))) (.node (o0_30 P) (.node (o0_46 P) (.node (o0_78 P) (.node (o0_142 P) (.node (o0_270 P) .nil .nil) .nil) (.node (o0_206 P) .nil .nil)) (.node (o0_110 P) (.node (o0_174 P) (.node (o0_302 P) .nil .nil) .nil) (.node (o0_238 P) .nil .nil))) (.node (o0_62 P) (.node (o0_94 P) (.node (o0_158 P) (.node (o0_286 P) .nil .nil) .nil) (.node (o0_222 P) .nil .nil)) (.node (o0_126 P) (.node (o0_190 P) .nil .nil) (.node (o0_254 P) .nil .nil))))))))
def S0 (w : World) (os : OsState) : SharedT := ⟨t0 w.params, 306, {}, #[], {}, 590, os⟩
def p0 : Pos := ⟨204, 0, 204, 8⟩
def o1_3 (P : Params) : Obj := ⟨(.type "dict"), none, (.dict #[⟨PyData.keyHash P ("__name__" : Str), (.str ("__name__" : Str) 165), (.str ("law_rosterneed_k89_whole_sides" : Str) 919)⟩, ⟨PyData.keyHash P ("__doc__" : Str), (.str ("__doc__" : Str) 166), .none⟩, ⟨PyData.keyHash P ("__package__" : Str), (.str ("__package__" : Str) 167), .none⟩, ⟨PyData.keyHash P ("__loader__" : Str), (.str ("__loader__" : Str) 168), (.builtin "__main__.__loader__#opaque")⟩, ⟨PyData.keyHash P ("__spec__" : Str), (.str ("__spec__" : Str) 169), .none⟩, ⟨PyData.keyHash P ("__annotations__" : Str), (.str ("__annotations__" : Str) 170), (.ref 6)⟩, ⟨PyData.keyHash P ("__builtins__" : Str), (.str ("__builtins__" : Str) 171), (.ref 4)⟩, ⟨PyData.keyHash P ("__file__" : Str), (.str ("__file__" : Str) 173), (.str ("/claim/cut.py" : Str) 172)⟩, ⟨PyData.keyHash P ("__cached__" : Str), (.str ("__cached__" : Str) 174), .none⟩, ⟨PyData.keyHash P ("_wall" : Str), (.str ("_wall" : Str) 193), (.ref 21)⟩, ⟨PyData.keyHash P ("RosterneedError" : Str), (.str ("RosterneedError" : Str) 213), (.ref 31)⟩, ⟨PyData.keyHash P ("WrongThing" : Str), (.str ("WrongThing" : Str) 240), (.ref 53)⟩, ⟨PyData.keyHash P ("WrongWord" : Str), (.str ("WrongWord" : Str) 267), (.ref 74)⟩, ⟨PyData.keyHash P ("TooMany" : Str), (.str ("TooMany" : Str) 294), (.ref 95)⟩, ⟨PyData.keyHash P ("BadCount" : Str), (.str ("BadCount" : Str) 310), (.ref 107)⟩, ⟨PyData.keyHash P ("BadTable" : Str), (.str ("BadTable" : Str) 326), (.ref 119)⟩, ⟨PyData.keyHash P ("is_integer" : Str), (.str ("is_integer" : Str) 335), (.ref 128)⟩, ⟨PyData.keyHash P ("is_count" : Str), (.str ("is_count" : Str) 342), (.ref 135)⟩, ⟨PyData.keyHash P ("is_listed" : Str), (.str ("is_listed" : Str) 349), (.ref 142)⟩, ⟨PyData.keyHash P ("is_counts" : Str), (.str ("is_counts" : Str) 355), (.ref 147)⟩, ⟨PyData.keyHash P ("deep" : Str), (.str ("deep" : Str) 361), (.ref 152)⟩, ⟨PyData.keyHash P ("at_most" : Str), (.str ("at_most" : Str) 369), (.ref 159)⟩, ⟨PyData.keyHash P ("greater_of" : Str), (.str ("greater_of" : Str) 377), (.ref 166)⟩, ⟨PyData.keyHash P ("lesser_of" : Str), (.str ("lesser_of" : Str) 385), (.ref 173)⟩, ⟨PyData.keyHash P ("common_divisor" : Str), (.str ("common_divisor" : Str) 393), (.ref 180)⟩, ⟨PyData.keyHash P ("common_multiple" : Str), (.str ("common_multiple" : Str) 401), (.ref 187)⟩, ⟨PyData.keyHash P ("end_of" : Str), (.str ("end_of" : Str) 413), (.ref 194)⟩, ⟨PyData.keyHash P ("value_at" : Str), (.str ("value_at" : Str) 425), (.ref 201)⟩, ⟨PyData.keyHash P ("short_loop" : Str), (.str ("short_loop" : Str) 431), (.ref 206)⟩, ⟨PyData.keyHash P ("plain_form" : Str), (.str ("plain_form" : Str) 437), (.ref 211)⟩, ⟨PyData.keyHash P ("formed" : Str), (.str ("formed" : Str) 447), (.ref 218)⟩, ⟨PyData.keyHash P ("until_never" : Str), (.str ("until_never" : Str) 456), (.ref 225)⟩, ⟨PyData.keyHash P ("first_beyond" : Str), (.str ("first_beyond" : Str) 467), (.ref 232)⟩, ⟨PyData.keyHash P ("behind_raw" : Str), (.str ("behind_raw" : Str) 473), (.ref 237)⟩, ⟨PyData.keyHash P ("later_start" : Str), (.str ("later_start" : Str) 491), (.ref 244)⟩, ⟨PyData.keyHash P ("joined_values" : Str), (.str ("joined_values" : Str) 505), (.ref 251)⟩, ⟨PyData.keyHash P ("joined_raw" : Str), (.str ("joined_raw" : Str) 511), (.ref 256)⟩, ⟨PyData.keyHash P ("counts_below" : Str), (.str ("counts_below" : Str) 523), (.ref 263)⟩, ⟨PyData.keyHash P ("turned_raw" : Str), (.str ("turned_raw" : Str) 534), (.ref 270)⟩, ⟨PyData.keyHash P ("least_above" : Str), (.str ("least_above" : Str) 549), (.ref 277)⟩, ⟨PyData.keyHash P ("Verdict" : Str), (.str ("Verdict" : Str) 587), (.ref 301)⟩, ⟨PyData.keyHash P ("Below" : Str), (.str ("Below" : Str) 620), (.ref 324)⟩, ⟨PyData.keyHash P ("below" : Str), (.str ("below" : Str) 628), (.ref 333)⟩, ⟨PyData.keyHash P ("window" : Str), (.str ("window" : Str) 637), (.ref 340)⟩, ⟨PyData.keyHash P ("climb_of" : Str), (.str ("climb_of" : Str) 646), (.ref 347)⟩, ⟨PyData.keyHash P ("MOST_PLACES" : Str), (.str ("MOST_PLACES" : Str) 650), (.int 5000 649)⟩, ⟨PyData.keyHash P ("sign_of" : Str), (.str ("sign_of" : Str) 658), (.ref 354)⟩, ⟨PyData.keyHash P ("sign_at" : Str), (.str ("sign_at" : Str) 667), (.ref 361)⟩, ⟨PyData.keyHash P ("last_other" : Str), (.str ("last_other" : Str) 679), (.ref 368)⟩, ⟨PyData.keyHash P ("settling" : Str), (.str ("settling" : Str) 692), (.ref 375)⟩, ⟨PyData.keyHash P ("shortest_round" : Str), (.str ("shortest_round" : Str) 698), (.ref 380)⟩, ⟨PyData.keyHash P ("Sides" : Str), (.str ("Sides" : Str) 751), (.ref 417)⟩, ⟨PyData.keyHash P ("sides" : Str), (.str ("sides" : Str) 759), (.ref 428)⟩, ⟨PyData.keyHash P ("MOST_SHIFT" : Str), (.str ("MOST_SHIFT" : Str) 763), (.int 5000 762)⟩, ⟨PyData.keyHash P ("is_rising" : Str), (.str ("is_rising" : Str) 769), (.ref 433)⟩, ⟨PyData.keyHash P ("checked_table" : Str), (.str ("checked_table" : Str) 778), (.ref 440)⟩, ⟨PyData.keyHash P ("Table" : Str), (.str ("Table" : Str) 911), (.ref 542)⟩, ⟨PyData.keyHash P ("table_from" : Str), (.str ("table_from" : Str) 918), (.ref 553)⟩, ⟨PyData.keyHash P ("_law_source" : Str), (.str ("_law_source" : Str) 932), (.ref 560)⟩, ⟨PyData.keyHash P ("_law_pick" : Str), (.str ("_law_pick" : Str) 942), (.ref 567)⟩, ⟨PyData.keyHash P ("_law_is_integer" : Str), (.str ("_law_is_integer" : Str) 949), (.ref 574)⟩, ⟨PyData.keyHash P ("_law_le" : Str), (.str ("_law_le" : Str) 957), (.ref 581)⟩, ⟨PyData.keyHash P ("_law_rising" : Str), (.str ("_law_rising" : Str) 970), (.ref 588)⟩, ⟨PyData.keyHash P ("_law_raw" : Str), (.str ("_law_raw" : Str) 984), (.ref 595)⟩, ⟨PyData.keyHash P ("_law_end" : Str), (.str ("_law_end" : Str) 991), (.ref 602)⟩, ⟨PyData.keyHash P ("_law_at" : Str), (.str ("_law_at" : Str) 1000), (.ref 609)⟩, ⟨PyData.keyHash P ("_law_plain" : Str), (.str ("_law_plain" : Str) 1006), (.ref 614)⟩, ⟨PyData.keyHash P ("_law_table" : Str), (.str ("_law_table" : Str) 1013), (.ref 621)⟩, ⟨PyData.keyHash P ("_law_sign" : Str), (.str ("_law_sign" : Str) 1024), (.ref 628)⟩, ⟨PyData.keyHash P ("_law_cut_signs" : Str), (.str ("_law_cut_signs" : Str) 1030), (.ref 633)⟩, ⟨PyData.keyHash P ("_law_far_apart" : Str), (.str ("_law_far_apart" : Str) 1036), (.ref 638)⟩, ⟨PyData.keyHash P ("_law_refused" : Str), (.str ("_law_refused" : Str) 1046), (.ref 645)⟩, ⟨PyData.keyHash P ("_law_edge" : Str), (.str ("_law_edge" : Str) 1056), (.ref 652)⟩, ⟨PyData.keyHash P ("law" : Str), (.str ("law" : Str) 1062), (.ref 657)⟩] 74), #[]⟩
def o1_12 (P : Params) : Obj := ⟨.none, none, (.fields #[(.int 1 0), (.int 0 0), (.ref 20), (.int 5 0), (.int 0 0), (.ref 27), (.int 7 0), (.int 0 0), (.ref 41), (.int 12 0), (.int 0 0), (.ref 62), (.int 17 0), (.int 0 0), (.ref 83), (.int 22 0), (.int 0 0), (.ref 103), (.int 24 0), (.int 0 0), (.ref 115), (.int 27 0), (.int 0 0), (.ref 127), (.int 29 0), (.int 0 0), (.ref 134), (.int 31 0), (.int 0 0), (.ref 141), (.int 33 0), (.int 0 0), (.ref 146), (.int 35 0), (.int 0 0), (.ref 151), (.int 39 0), (.int 0 0), (.ref 158), (.int 41 0), (.int 0 0), (.ref 165), (.int 43 0), (.int 0 0), (.ref 172), (.int 45 0), (.int 0 0), (.ref 179), (.int 49 0), (.int 0 0), (.ref 186), (.int 52 0), (.int 0 0), (.ref 193), (.int 57 0), (.int 0 0), (.ref 200), (.int 69 0), (.int 0 0), (.ref 205), (.int 76 0), (.int 0 0), (.ref 210), (.int 88 0), (.int 0 0), (.ref 217), (.int 91 0), (.int 0 0), (.ref 224), (.int 98 0), (.int 0 0), (.ref 231), (.int 105 0), (.int 0 0), (.ref 236), (.int 123 0), (.int 0 0), (.ref 243), (.int 137 0), (.int 0 0), (.ref 250), (.int 143 0), (.int 0 0), (.ref 255), (.int 158 0), (.int 0 0), (.ref 262), (.int 168 0), (.int 0 0), (.ref 269), (.int 176 0), (.int 0 0), (.ref 276), (.int 197 0), (.int 0 0), (.ref 283), (.int 205 0), (.int 0 0), (.ref 312), (.int 215 0), (.int 0 0), (.ref 332), (.int 217 0), (.int 0 0), (.ref 339), (.int 222 0), (.int 0 0), (.ref 346), (.int 226 0), (.int 0 0), (.ref 353), (.int 230 0), (.int 0 0), (.ref 360), (.int 232 0), (.int 0 0), (.ref 367), (.int 239 0), (.int 0 0), (.ref 374), (.int 250 0), (.int 0 0), (.ref 379), (.int 255 0), (.int 0 0), (.ref 386), (.int 286 0), (.int 0 0), (.ref 427), (.int 290 0), (.int 0 0), (.ref 432), (.int 292 0), (.int 0 0), (.ref 439), (.int 304 0), (.int 0 0), (.ref 446), (.int 354 0), (.int 0 0), (.ref 552), (.int 357 0), (.int 0 0), (.ref 559), (.int 368 0), (.int 0 0), (.ref 566), (.int 379 0), (.int 0 0), (.ref 573), (.int 381 0), (.int 0 0), (.ref 580), (.int 383 0), (.int 0 0), (.ref 587), (.int 390 0), (.int 0 0), (.ref 594), (.int 402 0), (.int 0 0), (.ref 601), (.int 406 0), (.int 0 0), (.ref 608), (.int 417 0), (.int 0 0), (.ref 613), (.int 434 0), (.int 0 0), (.ref 620), (.int 436 0), (.int 0 0), (.ref 627), (.int 441 0), (.int 0 0), (.ref 632), (.int 450 0), (.int 0 0), (.ref 637), (.int 457 0), (.int 0 0), (.ref 644), (.int 468 0), (.int 0 0), (.ref 651), (.int 475 0), (.int 0 0), (.ref 656)]), #[]⟩
def o1_301 (P : Params) : Obj := ⟨(.type "type"), none, (.cls { name := ("Verdict" : Str), bases := [(.type "object")], mro := [(.ref 301), (.type "object")], ns := 300, qualname := ("Verdict" : Str), hasDict := true, slotNames := [], subclasses := [(.ref 324)], abstract := false, collection := none, hasDel := false }), #[none, none, (some (.str ("Verdict" : Str) 552)), (some (.str ("Verdict" : Str) 560)), (some (.builtin "object.__new__")), (some (.bool true))]⟩
def o1_306 (P : Params) : Obj := ⟨(.type "tuple"), none, (.seq #[(.ref 301)] 0), #[]⟩
def o1_307 (P : Params) : Obj := ⟨(.type "builtin_function_or_method"), none, (.fields #[(.builtin "type.__prepare__"), (.type "type")]), #[]⟩
def o1_308 (P : Params) : Obj := ⟨(.type "dict"), none, (.dict #[⟨PyData.keyHash P ("__module__" : Str), (.str ("__module__" : Str) 597), (.str ("rosterneed.comparing" : Str) 588)⟩, ⟨PyData.keyHash P ("__qualname__" : Str), (.str ("__qualname__" : Str) 599), (.str ("Below" : Str) 598)⟩, ⟨PyData.keyHash P ("__firstlineno__" : Str), (.str ("__firstlineno__" : Str) 601), (.int 205 600)⟩, ⟨PyData.keyHash P ("__init__" : Str), (.str ("__init__" : Str) 611), (.ref 321)⟩, ⟨PyData.keyHash P ("__static_attributes__" : Str), (.str ("__static_attributes__" : Str) 616), (.ref 322)⟩, ⟨PyData.keyHash P ("__classcell__" : Str), (.str ("__classcell__" : Str) 617), (.ref 309)⟩] 6), #[]⟩
def o1_309 (P : Params) : Obj := ⟨(.type "cell"), none, (.cell (some (.ref 324))), #[]⟩
def o1_310 (P : Params) : Obj := ⟨(.type "tuple"), none, (.seq #[] 0), #[]⟩
def o1_311 (P : Params) : Obj := ⟨.none, none, (.fields #[(.int 207 0), (.int 4 0), (.ref 320)]), #[]⟩
def o1_312 (P : Params) : Obj := ⟨(.type "code"), none, (.fields #[(.str ("Below" : Str) 592), (.str ("Below" : Str) 593), (.str ("/claim/cut.py" : Str) 594), (.int 205 0), (.int 0 0), (.int 0 0), (.int 0 0), (.int 0 0), (.ref 310), (.bool false), (.int 181 0), (.ref 311), .none, .none, .none, .none, (.int 595 0), (.int 205 0), (.str ("/claim/cut.py" : Str) 596)]), #[]⟩
def o1_313 (P : Params) : Obj := ⟨(.type "frame"), none, .plain, #[(some (.ref 312)), (some (.ref 3)), (some (.ref 308)), none, (some (.str ("rosterneed.comparing" : Str) 588)), none, (some (.ref 0))]⟩
def o1_314 (P : Params) : Obj := ⟨(.type "tuple"), none, (.seq #[(.ref 309)] 0), #[]⟩
def o1_315 (P : Params) : Obj := ⟨(.type "tuple"), none, (.seq #[(.str ("__class__" : Str) 605)] 0), #[]⟩
def o1_316 (P : Params) : Obj := ⟨.none, none, (.fields #[]), #[]⟩
def o1_317 (P : Params) : Obj := ⟨(.type "tuple"), none, (.seq #[(.str ("self" : Str) 606), (.str ("first" : Str) 607), (.str ("second" : Str) 608)] 0), #[]⟩
def o1_318 (P : Params) : Obj := ⟨(.type "tuple"), none, (.seq #[] 0), #[]⟩
def o1_319 (P : Params) : Obj := ⟨.none, none, (.func { name := ("__init__" : Str), qualname := ("Below.__init__" : Str), params := defArgs tp37_0, body := .stmts (defBody tp37_0), scope := defScope tp37_0, globals := 0, closure := [], defaults := .none, kwdefaults := .none, doc := .none, pyModule := .none, annotations := none, code := .none, closureTuple := .none, builtins := 0 }), #[]⟩
def o1_320 (P : Params) : Obj := ⟨(.type "code"), none, (.fields #[(.str ("__init__" : Str) 602), (.str ("Below.__init__" : Str) 603), (.str ("/claim/cut.py" : Str) 604), (.int 207 0), (.int 3 0), (.int 0 0), (.int 0 0), (.int 3 0), (.ref 315), (.bool true), (.int 181 0), (.ref 316), .none, (.ref 317), (.ref 318), (.ref 319), (.int 609 0), (.int 207 0), (.str ("/claim/cut.py" : Str) 610)]), #[]⟩
def o1_321 (P : Params) : Obj := ⟨(.type "function"), none, (.func { name := ("__init__" : Str), qualname := ("Below.__init__" : Str), params := defArgs tp37_0, body := .stmts (defBody tp37_0), scope := defScope tp37_0, globals := 3, closure := [(("__class__" : Str), 309)], defaults := .none, kwdefaults := .none, doc := .none, pyModule := (.str ("rosterneed.comparing" : Str) 588), annotations := none, code := (.ref 320), closureTuple := (.ref 314), builtins := 0 }), #[]⟩
def o1_322 (P : Params) : Obj := ⟨(.type "tuple"), none, (.seq #[(.str ("first" : Str) 612), (.str ("place" : Str) 613), (.str ("second" : Str) 614), (.str ("sides" : Str) 615)] 0), #[]⟩
def o1_323 (P : Params) : Obj := ⟨(.type "dict"), none, (.dict #[⟨PyData.keyHash P ("__module__" : Str), (.str ("__module__" : Str) 597), (.str ("rosterneed.comparing" : Str) 588)⟩, ⟨PyData.keyHash P ("__firstlineno__" : Str), (.str ("__firstlineno__" : Str) 601), (.int 205 600)⟩, ⟨PyData.keyHash P ("__init__" : Str), (.str ("__init__" : Str) 611), (.ref 321)⟩, ⟨PyData.keyHash P ("__static_attributes__" : Str), (.str ("__static_attributes__" : Str) 616), (.ref 322)⟩, ⟨PyData.keyHash P ("__doc__" : Str), (.str ("__doc__" : Str) 618), .none⟩] 3), #[]⟩
def o1_324 (P : Params) : Obj := ⟨(.type "type"), none, (.cls { name := ("Below" : Str), bases := [(.ref 301)], mro := [(.ref 324), (.ref 301), (.type "object")], ns := 323, qualname := ("Below" : Str), hasDict := true, slotNames := [], subclasses := [], abstract := false, collection := none, hasDel := false }), #[(some (.ref 306)), none, (some (.str ("Below" : Str) 590)), (some (.str ("Below" : Str) 598)), (some (.builtin "object.__new__")), (some (.bool true))]⟩
def o1_325 (P : Params) : Obj := ⟨(.type "super"), none, (.fields #[(.ref 324), (.ref 324), (.ref 324)]), #[]⟩
def o1_326 (P : Params) : Obj := ⟨(.type "builtin_function_or_method"), none, (.fields #[(.builtin "object.__init_subclass__"), (.ref 324)]), #[]⟩
def o1_327 (P : Params) : Obj := ⟨(.type "tuple"), none, (.seq #[] 0), #[]⟩
def o1_328 (P : Params) : Obj := ⟨.none, none, (.fields #[]), #[]⟩
def o1_329 (P : Params) : Obj := ⟨(.type "tuple"), none, (.seq #[(.str ("first" : Str) 624), (.str ("second" : Str) 625)] 0), #[]⟩
def o1_330 (P : Params) : Obj := ⟨(.type "tuple"), none, (.seq #[] 0), #[]⟩
def o1_331 (P : Params) : Obj := ⟨.none, none, (.func { name := ("below" : Str), qualname := ("below" : Str), params := defArgs tp38, body := .stmts (defBody tp38), scope := defScope tp38, globals := 0, closure := [], defaults := .none, kwdefaults := .none, doc := .none, pyModule := .none, annotations := none, code := .none, closureTuple := .none, builtins := 0 }), #[]⟩
def o1_332 (P : Params) : Obj := ⟨(.type "code"), none, (.fields #[(.str ("below" : Str) 621), (.str ("below" : Str) 622), (.str ("/claim/cut.py" : Str) 623), (.int 215 0), (.int 2 0), (.int 0 0), (.int 0 0), (.int 3 0), (.ref 327), (.bool true), (.int 181 0), (.ref 328), .none, (.ref 329), (.ref 330), (.ref 331), (.int 626 0), (.int 215 0), (.str ("/claim/cut.py" : Str) 627)]), #[]⟩
def o1_333 (P : Params) : Obj := ⟨(.type "function"), none, (.func { name := ("below" : Str), qualname := ("below" : Str), params := defArgs tp38, body := .stmts (defBody tp38), scope := defScope tp38, globals := 3, closure := [], defaults := .none, kwdefaults := .none, doc := .none, pyModule := (.str ("rosterneed.comparing" : Str) 588), annotations := none, code := (.ref 332), closureTuple := .none, builtins := 0 }), #[]⟩
def o1_334 (P : Params) : Obj := ⟨(.type "tuple"), none, (.seq #[] 0), #[]⟩
def o1_335 (P : Params) : Obj := ⟨.none, none, (.fields #[]), #[]⟩
def o1_336 (P : Params) : Obj := ⟨(.type "tuple"), none, (.seq #[(.str ("first" : Str) 632), (.str ("second" : Str) 633), (.str ("longest" : Str) 634)] 0), #[]⟩
def o1_337 (P : Params) : Obj := ⟨(.type "tuple"), none, (.seq #[] 0), #[]⟩
def o1_338 (P : Params) : Obj := ⟨.none, none, (.func { name := ("window" : Str), qualname := ("window" : Str), params := defArgs tp39, body := .stmts (defBody tp39), scope := defScope tp39, globals := 0, closure := [], defaults := .none, kwdefaults := .none, doc := .none, pyModule := .none, annotations := none, code := .none, closureTuple := .none, builtins := 0 }), #[]⟩
def o1_339 (P : Params) : Obj := ⟨(.type "code"), none, (.fields #[(.str ("window" : Str) 629), (.str ("window" : Str) 630), (.str ("/claim/cut.py" : Str) 631), (.int 217 0), (.int 2 0), (.int 0 0), (.int 0 0), (.int 3 0), (.ref 334), (.bool true), (.int 181 0), (.ref 335), .none, (.ref 336), (.ref 337), (.ref 338), (.int 635 0), (.int 217 0), (.str ("/claim/cut.py" : Str) 636)]), #[]⟩
def o1_340 (P : Params) : Obj := ⟨(.type "function"), none, (.func { name := ("window" : Str), qualname := ("window" : Str), params := defArgs tp39, body := .stmts (defBody tp39), scope := defScope tp39, globals := 3, closure := [], defaults := .none, kwdefaults := .none, doc := .none, pyModule := (.str ("rosterneed.comparing" : Str) 588), annotations := none, code := (.ref 339), closureTuple := .none, builtins := 0 }), #[]⟩
def o1_341 (P : Params) : Obj := ⟨(.type "tuple"), none, (.seq #[] 0), #[]⟩
def o1_342 (P : Params) : Obj := ⟨.none, none, (.fields #[]), #[]⟩
def o1_343 (P : Params) : Obj := ⟨(.type "tuple"), none, (.seq #[(.str ("first" : Str) 641), (.str ("second" : Str) 642), (.str ("many" : Str) 643)] 0), #[]⟩
def o1_344 (P : Params) : Obj := ⟨(.type "tuple"), none, (.seq #[] 0), #[]⟩
def o1_345 (P : Params) : Obj := ⟨.none, none, (.func { name := ("climb_of" : Str), qualname := ("climb_of" : Str), params := defArgs tp40, body := .stmts (defBody tp40), scope := defScope tp40, globals := 0, closure := [], defaults := .none, kwdefaults := .none, doc := .none, pyModule := .none, annotations := none, code := .none, closureTuple := .none, builtins := 0 }), #[]⟩
def o1_346 (P : Params) : Obj := ⟨(.type "code"), none, (.fields #[(.str ("climb_of" : Str) 638), (.str ("climb_of" : Str) 639), (.str ("/claim/cut.py" : Str) 640), (.int 222 0), (.int 3 0), (.int 0 0), (.int 0 0), (.int 3 0), (.ref 341), (.bool true), (.int 181 0), (.ref 342), .none, (.ref 343), (.ref 344), (.ref 345), (.int 644 0), (.int 222 0), (.str ("/claim/cut.py" : Str) 645)]), #[]⟩
def o1_347 (P : Params) : Obj := ⟨(.type "function"), none, (.func { name := ("climb_of" : Str), qualname := ("climb_of" : Str), params := defArgs tp40, body := .stmts (defBody tp40), scope := defScope tp40, globals := 3, closure := [], defaults := .none, kwdefaults := .none, doc := .none, pyModule := (.str ("rosterneed.comparing" : Str) 588), annotations := none, code := (.ref 346), closureTuple := .none, builtins := 0 }), #[]⟩
def o1_348 (P : Params) : Obj := ⟨(.type "tuple"), none, (.seq #[] 0), #[]⟩
def o1_349 (P : Params) : Obj := ⟨.none, none, (.fields #[]), #[]⟩
def o1_350 (P : Params) : Obj := ⟨(.type "tuple"), none, (.seq #[(.str ("one" : Str) 654), (.str ("other" : Str) 655)] 0), #[]⟩
def o1_351 (P : Params) : Obj := ⟨(.type "tuple"), none, (.seq #[] 0), #[]⟩
def o1_352 (P : Params) : Obj := ⟨.none, none, (.func { name := ("sign_of" : Str), qualname := ("sign_of" : Str), params := defArgs tp43, body := .stmts (defBody tp43), scope := defScope tp43, globals := 0, closure := [], defaults := .none, kwdefaults := .none, doc := .none, pyModule := .none, annotations := none, code := .none, closureTuple := .none, builtins := 0 }), #[]⟩
def o1_353 (P : Params) : Obj := ⟨(.type "code"), none, (.fields #[(.str ("sign_of" : Str) 651), (.str ("sign_of" : Str) 652), (.str ("/claim/cut.py" : Str) 653), (.int 226 0), (.int 2 0), (.int 0 0), (.int 0 0), (.int 3 0), (.ref 348), (.bool true), (.int 181 0), (.ref 349), .none, (.ref 350), (.ref 351), (.ref 352), (.int 656 0), (.int 226 0), (.str ("/claim/cut.py" : Str) 657)]), #[]⟩
def o1_354 (P : Params) : Obj := ⟨(.type "function"), none, (.func { name := ("sign_of" : Str), qualname := ("sign_of" : Str), params := defArgs tp43, body := .stmts (defBody tp43), scope := defScope tp43, globals := 3, closure := [], defaults := .none, kwdefaults := .none, doc := .none, pyModule := (.str ("rosterneed.sides" : Str) 647), annotations := none, code := (.ref 353), closureTuple := .none, builtins := 0 }), #[]⟩
def o1_355 (P : Params) : Obj := ⟨(.type "tuple"), none, (.seq #[] 0), #[]⟩
def o1_356 (P : Params) : Obj := ⟨.none, none, (.fields #[]), #[]⟩
def o1_357 (P : Params) : Obj := ⟨(.type "tuple"), none, (.seq #[(.str ("first" : Str) 662), (.str ("second" : Str) 663), (.str ("place" : Str) 664)] 0), #[]⟩
def o1_358 (P : Params) : Obj := ⟨(.type "tuple"), none, (.seq #[] 0), #[]⟩
def o1_359 (P : Params) : Obj := ⟨.none, none, (.func { name := ("sign_at" : Str), qualname := ("sign_at" : Str), params := defArgs tp44, body := .stmts (defBody tp44), scope := defScope tp44, globals := 0, closure := [], defaults := .none, kwdefaults := .none, doc := .none, pyModule := .none, annotations := none, code := .none, closureTuple := .none, builtins := 0 }), #[]⟩
def o1_360 (P : Params) : Obj := ⟨(.type "code"), none, (.fields #[(.str ("sign_at" : Str) 659), (.str ("sign_at" : Str) 660), (.str ("/claim/cut.py" : Str) 661), (.int 230 0), (.int 3 0), (.int 0 0), (.int 0 0), (.int 3 0), (.ref 355), (.bool true), (.int 181 0), (.ref 356), .none, (.ref 357), (.ref 358), (.ref 359), (.int 665 0), (.int 230 0), (.str ("/claim/cut.py" : Str) 666)]), #[]⟩
def o1_361 (P : Params) : Obj := ⟨(.type "function"), none, (.func { name := ("sign_at" : Str), qualname := ("sign_at" : Str), params := defArgs tp44, body := .stmts (defBody tp44), scope := defScope tp44, globals := 3, closure := [], defaults := .none, kwdefaults := .none, doc := .none, pyModule := (.str ("rosterneed.sides" : Str) 647), annotations := none, code := (.ref 360), closureTuple := .none, builtins := 0 }), #[]⟩
def o1_362 (P : Params) : Obj := ⟨(.type "tuple"), none, (.seq #[] 0), #[]⟩
def o1_363 (P : Params) : Obj := ⟨.none, none, (.fields #[]), #[]⟩
def o1_364 (P : Params) : Obj := ⟨(.type "tuple"), none, (.seq #[(.str ("first" : Str) 671), (.str ("second" : Str) 672), (.str ("place" : Str) 673), (.str ("many" : Str) 674), (.str ("climb" : Str) 675), (.str ("apart" : Str) 676)] 0), #[]⟩
def o1_365 (P : Params) : Obj := ⟨(.type "tuple"), none, (.seq #[] 0), #[]⟩
def o1_366 (P : Params) : Obj := ⟨.none, none, (.func { name := ("last_other" : Str), qualname := ("last_other" : Str), params := defArgs tp45, body := .stmts (defBody tp45), scope := defScope tp45, globals := 0, closure := [], defaults := .none, kwdefaults := .none, doc := .none, pyModule := .none, annotations := none, code := .none, closureTuple := .none, builtins := 0 }), #[]⟩
def o1_367 (P : Params) : Obj := ⟨(.type "code"), none, (.fields #[(.str ("last_other" : Str) 668), (.str ("last_other" : Str) 669), (.str ("/claim/cut.py" : Str) 670), (.int 232 0), (.int 5 0), (.int 0 0), (.int 0 0), (.int 3 0), (.ref 362), (.bool true), (.int 181 0), (.ref 363), .none, (.ref 364), (.ref 365), (.ref 366), (.int 677 0), (.int 232 0), (.str ("/claim/cut.py" : Str) 678)]), #[]⟩
def o1_368 (P : Params) : Obj := ⟨(.type "function"), none, (.func { name := ("last_other" : Str), qualname := ("last_other" : Str), params := defArgs tp45, body := .stmts (defBody tp45), scope := defScope tp45, globals := 3, closure := [], defaults := .none, kwdefaults := .none, doc := .none, pyModule := (.str ("rosterneed.sides" : Str) 647), annotations := none, code := (.ref 367), closureTuple := .none, builtins := 0 }), #[]⟩
def o1_369 (P : Params) : Obj := ⟨(.type "tuple"), none, (.seq #[] 0), #[]⟩
def o1_370 (P : Params) : Obj := ⟨.none, none, (.fields #[]), #[]⟩
def o1_371 (P : Params) : Obj := ⟨(.type "tuple"), none, (.seq #[(.str ("first" : Str) 683), (.str ("second" : Str) 684), (.str ("longest" : Str) 685), (.str ("many" : Str) 686), (.str ("climb" : Str) 687), (.str ("last" : Str) 688), (.str ("place" : Str) 689)] 0), #[]⟩
def o1_372 (P : Params) : Obj := ⟨(.type "tuple"), none, (.seq #[] 0), #[]⟩
def o1_373 (P : Params) : Obj := ⟨.none, none, (.func { name := ("settling" : Str), qualname := ("settling" : Str), params := defArgs tp46, body := .stmts (defBody tp46), scope := defScope tp46, globals := 0, closure := [], defaults := .none, kwdefaults := .none, doc := .none, pyModule := .none, annotations := none, code := .none, closureTuple := .none, builtins := 0 }), #[]⟩
def o1_374 (P : Params) : Obj := ⟨(.type "code"), none, (.fields #[(.str ("settling" : Str) 680), (.str ("settling" : Str) 681), (.str ("/claim/cut.py" : Str) 682), (.int 239 0), (.int 2 0), (.int 0 0), (.int 0 0), (.int 3 0), (.ref 369), (.bool true), (.int 181 0), (.ref 370), .none, (.ref 371), (.ref 372), (.ref 373), (.int 690 0), (.int 239 0), (.str ("/claim/cut.py" : Str) 691)]), #[]⟩
def o1_375 (P : Params) : Obj := ⟨(.type "function"), none, (.func { name := ("settling" : Str), qualname := ("settling" : Str), params := defArgs tp46, body := .stmts (defBody tp46), scope := defScope tp46, globals := 3, closure := [], defaults := .none, kwdefaults := .none, doc := .none, pyModule := (.str ("rosterneed.sides" : Str) 647), annotations := none, code := (.ref 374), closureTuple := .none, builtins := 0 }), #[]⟩
def o1_376 (P : Params) : Obj := ⟨(.type "tuple"), none, (.seq #[] 0), #[]⟩
def o1_377 (P : Params) : Obj := ⟨.none, none, (.fields #[]), #[]⟩
def o1_378 (P : Params) : Obj := ⟨.none, none, (.func { name := ("shortest_round" : Str), qualname := ("shortest_round" : Str), params := defArgs tp47, body := .stmts (defBody tp47), scope := defScope tp47, globals := 0, closure := [], defaults := .none, kwdefaults := .none, doc := .none, pyModule := .none, annotations := none, code := .none, closureTuple := .none, builtins := 0 }), #[]⟩
def o1_379 (P : Params) : Obj := ⟨(.type "code"), none, (.fields #[(.str ("shortest_round" : Str) 693), (.str ("shortest_round" : Str) 694), (.str ("/claim/cut.py" : Str) 695), (.int 250 0), (.int 1 0), (.int 0 0), (.int 0 0), (.int 3 0), (.ref 376), (.bool true), (.int 181 0), (.ref 377), .none, .none, .none, (.ref 378), (.int 696 0), (.int 250 0), (.str ("/claim/cut.py" : Str) 697)]), #[]⟩
def o1_380 (P : Params) : Obj := ⟨(.type "function"), none, (.func { name := ("shortest_round" : Str), qualname := ("shortest_round" : Str), params := defArgs tp47, body := .stmts (defBody tp47), scope := defScope tp47, globals := 3, closure := [], defaults := .none, kwdefaults := .none, doc := .none, pyModule := (.str ("rosterneed.sides" : Str) 647), annotations := none, code := (.ref 379), closureTuple := .none, builtins := 0 }), #[]⟩
def o1_381 (P : Params) : Obj := ⟨(.type "tuple"), none, (.seq #[] 0), #[]⟩
def o1_382 (P : Params) : Obj := ⟨(.type "builtin_function_or_method"), none, (.fields #[(.builtin "type.__prepare__"), (.type "type")]), #[]⟩
def o1_383 (P : Params) : Obj := ⟨(.type "dict"), none, (.dict #[⟨PyData.keyHash P ("__module__" : Str), (.str ("__module__" : Str) 706), (.str ("rosterneed.sides" : Str) 647)⟩, ⟨PyData.keyHash P ("__qualname__" : Str), (.str ("__qualname__" : Str) 708), (.str ("Sides" : Str) 707)⟩, ⟨PyData.keyHash P ("__firstlineno__" : Str), (.str ("__firstlineno__" : Str) 710), (.int 255 709)⟩, ⟨PyData.keyHash P ("__init__" : Str), (.str ("__init__" : Str) 716), (.ref 392)⟩, ⟨PyData.keyHash P ("__eq__" : Str), (.str ("__eq__" : Str) 724), (.ref 399)⟩, ⟨PyData.keyHash P ("__call__" : Str), (.str ("__call__" : Str) 732), (.ref 406)⟩, ⟨PyData.keyHash P ("settled" : Str), (.str ("settled" : Str) 740), (.ref 414)⟩, ⟨PyData.keyHash P ("__static_attributes__" : Str), (.str ("__static_attributes__" : Str) 743), (.ref 415)⟩] 8), #[]⟩
def o1_384 (P : Params) : Obj := ⟨(.type "tuple"), none, (.seq #[] 0), #[]⟩
def o1_385 (P : Params) : Obj := ⟨.none, none, (.fields #[(.int 257 0), (.int 4 0), (.ref 391), (.int 269 0), (.int 4 0), (.ref 398), (.int 272 0), (.int 4 0), (.ref 405), (.int 282 0), (.int 4 0), (.ref 412)]), #[]⟩
def o1_386 (P : Params) : Obj := ⟨(.type "code"), none, (.fields #[(.str ("Sides" : Str) 701), (.str ("Sides" : Str) 702), (.str ("/claim/cut.py" : Str) 703), (.int 255 0), (.int 0 0), (.int 0 0), (.int 0 0), (.int 0 0), (.ref 384), (.bool false), (.int 181 0), (.ref 385), .none, .none, .none, .none, (.int 704 0), (.int 255 0), (.str ("/claim/cut.py" : Str) 705)]), #[]⟩
def o1_387 (P : Params) : Obj := ⟨(.type "frame"), none, .plain, #[(some (.ref 386)), (some (.ref 3)), (some (.ref 383)), none, (some (.str ("rosterneed.sides" : Str) 647)), none, (some (.ref 0))]⟩
def o1_388 (P : Params) : Obj := ⟨(.type "tuple"), none, (.seq #[] 0), #[]⟩
def o1_389 (P : Params) : Obj := ⟨.none, none, (.fields #[]), #[]⟩
def o1_390 (P : Params) : Obj := ⟨.none, none, (.func { name := ("__init__" : Str), qualname := ("Sides.__init__" : Str), params := defArgs tp48_0, body := .stmts (defBody tp48_0), scope := defScope tp48_0, globals := 0, closure := [], defaults := .none, kwdefaults := .none, doc := .none, pyModule := .none, annotations := none, code := .none, closureTuple := .none, builtins := 0 }), #[]⟩
def o1_391 (P : Params) : Obj := ⟨(.type "code"), none, (.fields #[(.str ("__init__" : Str) 711), (.str ("Sides.__init__" : Str) 712), (.str ("/claim/cut.py" : Str) 713), (.int 257 0), (.int 3 0), (.int 0 0), (.int 0 0), (.int 3 0), (.ref 388), (.bool true), (.int 181 0), (.ref 389), .none, .none, .none, (.ref 390), (.int 714 0), (.int 257 0), (.str ("/claim/cut.py" : Str) 715)]), #[]⟩
def o1_392 (P : Params) : Obj := ⟨(.type "function"), none, (.func { name := ("__init__" : Str), qualname := ("Sides.__init__" : Str), params := defArgs tp48_0, body := .stmts (defBody tp48_0), scope := defScope tp48_0, globals := 3, closure := [], defaults := .none, kwdefaults := .none, doc := .none, pyModule := (.str ("rosterneed.sides" : Str) 647), annotations := none, code := (.ref 391), closureTuple := .none, builtins := 0 }), #[]⟩
def o1_393 (P : Params) : Obj := ⟨(.type "tuple"), none, (.seq #[] 0), #[]⟩
def o1_394 (P : Params) : Obj := ⟨.none, none, (.fields #[]), #[]⟩
def o1_395 (P : Params) : Obj := ⟨(.type "tuple"), none, (.seq #[(.str ("self" : Str) 720), (.str ("other" : Str) 721)] 0), #[]⟩
def o1_396 (P : Params) : Obj := ⟨(.type "tuple"), none, (.seq #[] 0), #[]⟩
def o1_397 (P : Params) : Obj := ⟨.none, none, (.func { name := ("__eq__" : Str), qualname := ("Sides.__eq__" : Str), params := defArgs tp48_1, body := .stmts (defBody tp48_1), scope := defScope tp48_1, globals := 0, closure := [], defaults := .none, kwdefaults := .none, doc := .none, pyModule := .none, annotations := none, code := .none, closureTuple := .none, builtins := 0 }), #[]⟩
def o1_398 (P : Params) : Obj := ⟨(.type "code"), none, (.fields #[(.str ("__eq__" : Str) 717), (.str ("Sides.__eq__" : Str) 718), (.str ("/claim/cut.py" : Str) 719), (.int 269 0), (.int 2 0), (.int 0 0), (.int 0 0), (.int 3 0), (.ref 393), (.bool true), (.int 181 0), (.ref 394), .none, (.ref 395), (.ref 396), (.ref 397), (.int 722 0), (.int 269 0), (.str ("/claim/cut.py" : Str) 723)]), #[]⟩
def o1_399 (P : Params) : Obj := ⟨(.type "function"), none, (.func { name := ("__eq__" : Str), qualname := ("Sides.__eq__" : Str), params := defArgs tp48_1, body := .stmts (defBody tp48_1), scope := defScope tp48_1, globals := 3, closure := [], defaults := .none, kwdefaults := .none, doc := .none, pyModule := (.str ("rosterneed.sides" : Str) 647), annotations := none, code := (.ref 398), closureTuple := .none, builtins := 0 }), #[]⟩
def o1_400 (P : Params) : Obj := ⟨(.type "tuple"), none, (.seq #[] 0), #[]⟩
def o1_401 (P : Params) : Obj := ⟨.none, none, (.fields #[]), #[]⟩
def o1_402 (P : Params) : Obj := ⟨(.type "tuple"), none, (.seq #[(.str ("self" : Str) 728), (.str ("n" : Str) 729)] 0), #[]⟩
def o1_403 (P : Params) : Obj := ⟨(.type "tuple"), none, (.seq #[] 0), #[]⟩
def o1_404 (P : Params) : Obj := ⟨.none, none, (.func { name := ("__call__" : Str), qualname := ("Sides.__call__" : Str), params := defArgs tp48_2, body := .stmts (defBody tp48_2), scope := defScope tp48_2, globals := 0, closure := [], defaults := .none, kwdefaults := .none, doc := .none, pyModule := .none, annotations := none, code := .none, closureTuple := .none, builtins := 0 }), #[]⟩
def o1_405 (P : Params) : Obj := ⟨(.type "code"), none, (.fields #[(.str ("__call__" : Str) 725), (.str ("Sides.__call__" : Str) 726), (.str ("/claim/cut.py" : Str) 727), (.int 272 0), (.int 2 0), (.int 0 0), (.int 0 0), (.int 3 0), (.ref 400), (.bool true), (.int 181 0), (.ref 401), .none, (.ref 402), (.ref 403), (.ref 404), (.int 730 0), (.int 272 0), (.str ("/claim/cut.py" : Str) 731)]), #[]⟩
def o1_406 (P : Params) : Obj := ⟨(.type "function"), none, (.func { name := ("__call__" : Str), qualname := ("Sides.__call__" : Str), params := defArgs tp48_2, body := .stmts (defBody tp48_2), scope := defScope tp48_2, globals := 3, closure := [], defaults := .none, kwdefaults := .none, doc := .none, pyModule := (.str ("rosterneed.sides" : Str) 647), annotations := none, code := (.ref 405), closureTuple := .none, builtins := 0 }), #[]⟩
def o1_407 (P : Params) : Obj := ⟨(.type "tuple"), none, (.seq #[] 0), #[]⟩
def o1_408 (P : Params) : Obj := ⟨.none, none, (.fields #[]), #[]⟩
def o1_409 (P : Params) : Obj := ⟨(.type "tuple"), none, (.seq #[(.str ("self" : Str) 736)] 0), #[]⟩
def o1_410 (P : Params) : Obj := ⟨(.type "tuple"), none, (.seq #[] 0), #[]⟩
def o1_411 (P : Params) : Obj := ⟨.none, none, (.func { name := ("settled" : Str), qualname := ("Sides.settled" : Str), params := defArgs tp48_3, body := .stmts (defBody tp48_3), scope := defScope tp48_3, globals := 0, closure := [], defaults := .none, kwdefaults := .none, doc := .none, pyModule := .none, annotations := none, code := .none, closureTuple := .none, builtins := 0 }), #[]⟩
def o1_412 (P : Params) : Obj := ⟨(.type "code"), none, (.fields #[(.str ("settled" : Str) 733), (.str ("Sides.settled" : Str) 734), (.str ("/claim/cut.py" : Str) 735), (.int 281 0), (.int 1 0), (.int 0 0), (.int 0 0), (.int 3 0), (.ref 407), (.bool true), (.int 181 0), (.ref 408), .none, (.ref 409), (.ref 410), (.ref 411), (.int 737 0), (.int 281 0), (.str ("/claim/cut.py" : Str) 738)]), #[]⟩
def o1_413 (P : Params) : Obj := ⟨(.type "function"), none, (.func { name := ("settled" : Str), qualname := ("Sides.settled" : Str), params := defArgs tp48_3, body := .stmts (defBody tp48_3), scope := defScope tp48_3, globals := 3, closure := [], defaults := .none, kwdefaults := .none, doc := .none, pyModule := (.str ("rosterneed.sides" : Str) 647), annotations := none, code := (.ref 412), closureTuple := .none, builtins := 0 }), #[]⟩
def o1_414 (P : Params) : Obj := ⟨(.type "property"), none, (.fields #[(.ref 413), .none, .none, .none, (.str ("settled" : Str) 740), (.bool false)]), #[]⟩
def o1_415 (P : Params) : Obj := ⟨(.type "tuple"), none, (.seq #[(.str ("head" : Str) 741), (.str ("loop" : Str) 742)] 0), #[]⟩
def o1_416 (P : Params) : Obj := ⟨(.type "dict"), none, (.dict #[⟨PyData.keyHash P ("__module__" : Str), (.str ("__module__" : Str) 706), (.str ("rosterneed.sides" : Str) 647)⟩, ⟨PyData.keyHash P ("__firstlineno__" : Str), (.str ("__firstlineno__" : Str) 710), (.int 255 709)⟩, ⟨PyData.keyHash P ("__init__" : Str), (.str ("__init__" : Str) 716), (.ref 392)⟩, ⟨PyData.keyHash P ("__eq__" : Str), (.str ("__eq__" : Str) 724), (.ref 399)⟩, ⟨PyData.keyHash P ("__call__" : Str), (.str ("__call__" : Str) 732), (.ref 406)⟩, ⟨PyData.keyHash P ("settled" : Str), (.str ("settled" : Str) 740), (.ref 414)⟩, ⟨PyData.keyHash P ("__static_attributes__" : Str), (.str ("__static_attributes__" : Str) 743), (.ref 415)⟩, ⟨PyData.keyHash P ("__dict__" : Str), (.str ("__dict__" : Str) 745), (.ref 418)⟩, ⟨PyData.keyHash P ("__weakref__" : Str), (.str ("__weakref__" : Str) 747), (.ref 419)⟩, ⟨PyData.keyHash P ("__doc__" : Str), (.str ("__doc__" : Str) 748), .none⟩, ⟨PyData.keyHash P ("__hash__" : Str), (.str ("__hash__" : Str) 749), .none⟩] 5), #[]⟩
def o1_417 (P : Params) : Obj := ⟨(.type "type"), none, (.cls { name := ("Sides" : Str), bases := [(.type "object")], mro := [(.ref 417), (.type "object")], ns := 416, qualname := ("Sides" : Str), hasDict := true, slotNames := [], subclasses := [], abstract := false, collection := none, hasDel := false }), #[none, none, (some (.str ("Sides" : Str) 699)), (some (.str ("Sides" : Str) 707)), (some (.builtin "object.__new__")), (some (.bool true))]⟩
def o1_418 (P : Params) : Obj := ⟨(.type "getset_descriptor"), none, (.fields #[(.str ("__dict__" : Str) 744), (.ref 417), (.builtin "function.__dict__"), (.builtin "function.__dict__#set")]), #[]⟩
def o1_419 (P : Params) : Obj := ⟨(.type "getset_descriptor"), none, (.fields #[(.str ("__weakref__" : Str) 746), (.ref 417), (.builtin "ExceptionGroup.__weakref__"), .none]), #[]⟩
def o1_420 (P : Params) : Obj := ⟨(.type "super"), none, (.fields #[(.ref 417), (.ref 417), (.ref 417)]), #[]⟩
def o1_421 (P : Params) : Obj := ⟨(.type "builtin_function_or_method"), none, (.fields #[(.builtin "object.__init_subclass__"), (.ref 417)]), #[]⟩
def o1_422 (P : Params) : Obj := ⟨(.type "tuple"), none, (.seq #[] 0), #[]⟩
def o1_423 (P : Params) : Obj := ⟨.none, none, (.fields #[]), #[]⟩
def o1_424 (P : Params) : Obj := ⟨(.type "tuple"), none, (.seq #[(.str ("first" : Str) 755), (.str ("second" : Str) 756)] 0), #[]⟩
def o1_425 (P : Params) : Obj := ⟨(.type "tuple"), none, (.seq #[] 0), #[]⟩
def o1_426 (P : Params) : Obj := ⟨.none, none, (.func { name := ("sides" : Str), qualname := ("sides" : Str), params := defArgs tp49, body := .stmts (defBody tp49), scope := defScope tp49, globals := 0, closure := [], defaults := .none, kwdefaults := .none, doc := .none, pyModule := .none, annotations := none, code := .none, closureTuple := .none, builtins := 0 }), #[]⟩
def o1_427 (P : Params) : Obj := ⟨(.type "code"), none, (.fields #[(.str ("sides" : Str) 752), (.str ("sides" : Str) 753), (.str ("/claim/cut.py" : Str) 754), (.int 286 0), (.int 2 0), (.int 0 0), (.int 0 0), (.int 3 0), (.ref 422), (.bool true), (.int 181 0), (.ref 423), .none, (.ref 424), (.ref 425), (.ref 426), (.int 757 0), (.int 286 0), (.str ("/claim/cut.py" : Str) 758)]), #[]⟩
def o1_428 (P : Params) : Obj := ⟨(.type "function"), none, (.func { name := ("sides" : Str), qualname := ("sides" : Str), params := defArgs tp49, body := .stmts (defBody tp49), scope := defScope tp49, globals := 3, closure := [], defaults := .none, kwdefaults := .none, doc := .none, pyModule := (.str ("rosterneed.sides" : Str) 647), annotations := none, code := (.ref 427), closureTuple := .none, builtins := 0 }), #[]⟩
def o1_429 (P : Params) : Obj := ⟨(.type "tuple"), none, (.seq #[] 0), #[]⟩
def o1_430 (P : Params) : Obj := ⟨.none, none, (.fields #[]), #[]⟩
def o1_431 (P : Params) : Obj := ⟨.none, none, (.func { name := ("is_rising" : Str), qualname := ("is_rising" : Str), params := defArgs tp52, body := .stmts (defBody tp52), scope := defScope tp52, globals := 0, closure := [], defaults := .none, kwdefaults := .none, doc := .none, pyModule := .none, annotations := none, code := .none, closureTuple := .none, builtins := 0 }), #[]⟩
def o1_432 (P : Params) : Obj := ⟨(.type "code"), none, (.fields #[(.str ("is_rising" : Str) 764), (.str ("is_rising" : Str) 765), (.str ("/claim/cut.py" : Str) 766), (.int 290 0), (.int 1 0), (.int 0 0), (.int 0 0), (.int 3 0), (.ref 429), (.bool true), (.int 181 0), (.ref 430), .none, .none, .none, (.ref 431), (.int 767 0), (.int 290 0), (.str ("/claim/cut.py" : Str) 768)]), #[]⟩
def o1_433 (P : Params) : Obj := ⟨(.type "function"), none, (.func { name := ("is_rising" : Str), qualname := ("is_rising" : Str), params := defArgs tp52, body := .stmts (defBody tp52), scope := defScope tp52, globals := 3, closure := [], defaults := .none, kwdefaults := .none, doc := .none, pyModule := (.str ("rosterneed.tables" : Str) 760), annotations := none, code := (.ref 432), closureTuple := .none, builtins := 0 }), #[]⟩
def o1_434 (P : Params) : Obj := ⟨(.type "tuple"), none, (.seq #[] 0), #[]⟩
def o1_435 (P : Params) : Obj := ⟨.none, none, (.fields #[]), #[]⟩
def o1_436 (P : Params) : Obj := ⟨(.type "tuple"), none, (.seq #[(.str ("head" : Str) 773), (.str ("loop" : Str) 774), (.str ("rise" : Str) 775)] 0), #[]⟩
def o1_437 (P : Params) : Obj := ⟨(.type "tuple"), none, (.seq #[] 0), #[]⟩
def o1_438 (P : Params) : Obj := ⟨.none, none, (.func { name := ("checked_table" : Str), qualname := ("checked_table" : Str), params := defArgs tp53, body := .stmts (defBody tp53), scope := defScope tp53, globals := 0, closure := [], defaults := .none, kwdefaults := .none, doc := .none, pyModule := .none, annotations := none, code := .none, closureTuple := .none, builtins := 0 }), #[]⟩
def o1_439 (P : Params) : Obj := ⟨(.type "code"), none, (.fields #[(.str ("checked_table" : Str) 770), (.str ("checked_table" : Str) 771), (.str ("/claim/cut.py" : Str) 772), (.int 292 0), (.int 3 0), (.int 0 0), (.int 0 0), (.int 3 0), (.ref 434), (.bool true), (.int 181 0), (.ref 435), .none, (.ref 436), (.ref 437), (.ref 438), (.int 776 0), (.int 292 0), (.str ("/claim/cut.py" : Str) 777)]), #[]⟩
def o1_440 (P : Params) : Obj := ⟨(.type "function"), none, (.func { name := ("checked_table" : Str), qualname := ("checked_table" : Str), params := defArgs tp53, body := .stmts (defBody tp53), scope := defScope tp53, globals := 3, closure := [], defaults := .none, kwdefaults := .none, doc := .none, pyModule := (.str ("rosterneed.tables" : Str) 760), annotations := none, code := (.ref 439), closureTuple := .none, builtins := 0 }), #[]⟩
def o1_441 (P : Params) : Obj := ⟨(.type "tuple"), none, (.seq #[] 0), #[]⟩
def o1_442 (P : Params) : Obj := ⟨(.type "builtin_function_or_method"), none, (.fields #[(.builtin "type.__prepare__"), (.type "type")]), #[]⟩
def o1_443 (P : Params) : Obj := ⟨(.type "dict"), none, (.dict #[⟨PyData.keyHash P ("__module__" : Str), (.str ("__module__" : Str) 786), (.str ("rosterneed.tables" : Str) 760)⟩, ⟨PyData.keyHash P ("__qualname__" : Str), (.str ("__qualname__" : Str) 788), (.str ("Table" : Str) 787)⟩, ⟨PyData.keyHash P ("__firstlineno__" : Str), (.str ("__firstlineno__" : Str) 790), (.int 304 789)⟩, ⟨PyData.keyHash P ("__init__" : Str), (.str ("__init__" : Str) 802), (.ref 456)⟩, ⟨PyData.keyHash P ("shift" : Str), (.str ("shift" : Str) 821), (.ref 465)⟩, ⟨PyData.keyHash P ("raw" : Str), (.str ("raw" : Str) 828), (.ref 473)⟩, ⟨PyData.keyHash P ("__call__" : Str), (.str ("__call__" : Str) 836), (.ref 480)⟩, ⟨PyData.keyHash P ("end" : Str), (.str ("end" : Str) 844), (.ref 488)⟩, ⟨PyData.keyHash P ("rate" : Str), (.str ("rate" : Str) 852), (.ref 496)⟩, ⟨PyData.keyHash P ("steady" : Str), (.str ("steady" : Str) 860), (.ref 504)⟩, ⟨PyData.keyHash P ("__eq__" : Str), (.str ("__eq__" : Str) 868), (.ref 511)⟩, ⟨PyData.keyHash P ("__mul__" : Str), (.str ("__mul__" : Str) 876), (.ref 518)⟩, ⟨PyData.keyHash P ("__and__" : Str), (.str ("__and__" : Str) 884), (.ref 525)⟩, ⟨PyData.keyHash P ("__or__" : Str), (.str ("__or__" : Str) 892), (.ref 532)⟩, ⟨PyData.keyHash P ("__invert__" : Str), (.str ("__invert__" : Str) 899), (.ref 539)⟩, ⟨PyData.keyHash P ("__static_attributes__" : Str), (.str ("__static_attributes__" : Str) 903), (.ref 540)⟩] 16), #[]⟩
def o1_444 (P : Params) : Obj := ⟨(.type "tuple"), none, (.seq #[] 0), #[]⟩
def o1_445 (P : Params) : Obj := ⟨.none, none, (.fields #[(.int 306 0), (.int 4 0), (.ref 455), (.int 313 0), (.int 4 0), (.ref 462), (.int 320 0), (.int 4 0), (.ref 472), (.int 323 0), (.int 4 0), (.ref 479), (.int 329 0), (.int 4 0), (.ref 486), (.int 333 0), (.int 4 0), (.ref 494), (.int 337 0), (.int 4 0), (.ref 502), (.int 340 0), (.int 4 0), (.ref 510), (.int 343 0), (.int 4 0), (.ref 517), (.int 346 0), (.int 4 0), (.ref 524), (.int 349 0), (.int 4 0), (.ref 531), (.int 352 0), (.int 4 0), (.ref 538)]), #[]⟩
def o1_446 (P : Params) : Obj := ⟨(.type "code"), none, (.fields #[(.str ("Table" : Str) 781), (.str ("Table" : Str) 782), (.str ("/claim/cut.py" : Str) 783), (.int 304 0), (.int 0 0), (.int 0 0), (.int 0 0), (.int 0 0), (.ref 444), (.bool false), (.int 181 0), (.ref 445), .none, .none, .none, .none, (.int 784 0), (.int 304 0), (.str ("/claim/cut.py" : Str) 785)]), #[]⟩
def o1_447 (P : Params) : Obj := ⟨(.type "frame"), none, .plain, #[(some (.ref 446)), (some (.ref 3)), (some (.ref 443)), none, (some (.str ("rosterneed.tables" : Str) 760)), none, (some (.ref 0))]⟩
def o1_448 (P : Params) : Obj := ⟨(.type "tuple"), none, (.seq #[] 0), #[]⟩
def o1_449 (P : Params) : Obj := ⟨(.type "tuple"), none, (.seq #[(.ref 448), (.int 0 791)] 0), #[]⟩
def o1_450 (P : Params) : Obj := ⟨(.type "tuple"), none, (.seq #[] 0), #[]⟩
def o1_451 (P : Params) : Obj := ⟨.none, none, (.fields #[]), #[]⟩
def o1_452 (P : Params) : Obj := ⟨(.type "tuple"), none, (.seq #[(.str ("self" : Str) 795), (.str ("head" : Str) 796), (.str ("loop" : Str) 797), (.str ("rise" : Str) 798), (.str ("told" : Str) 799)] 0), #[]⟩
def o1_453 (P : Params) : Obj := ⟨(.type "tuple"), none, (.seq #[] 0), #[]⟩
def o1_454 (P : Params) : Obj := ⟨.none, none, (.func { name := ("__init__" : Str), qualname := ("Table.__init__" : Str), params := defArgs tp54_0, body := .stmts (defBody tp54_0), scope := defScope tp54_0, globals := 0, closure := [], defaults := .none, kwdefaults := .none, doc := .none, pyModule := .none, annotations := none, code := .none, closureTuple := .none, builtins := 0 }), #[]⟩
def o1_455 (P : Params) : Obj := ⟨(.type "code"), none, (.fields #[(.str ("__init__" : Str) 792), (.str ("Table.__init__" : Str) 793), (.str ("/claim/cut.py" : Str) 794), (.int 306 0), (.int 4 0), (.int 0 0), (.int 0 0), (.int 3 0), (.ref 450), (.bool true), (.int 181 0), (.ref 451), .none, (.ref 452), (.ref 453), (.ref 454), (.int 800 0), (.int 306 0), (.str ("/claim/cut.py" : Str) 801)]), #[]⟩
def o1_456 (P : Params) : Obj := ⟨(.type "function"), none, (.func { name := ("__init__" : Str), qualname := ("Table.__init__" : Str), params := defArgs tp54_0, body := .stmts (defBody tp54_0), scope := defScope tp54_0, globals := 3, closure := [], defaults := (.ref 449), kwdefaults := .none, doc := .none, pyModule := (.str ("rosterneed.tables" : Str) 760), annotations := none, code := (.ref 455), closureTuple := .none, builtins := 0 }), #[]⟩
def o1_457 (P : Params) : Obj := ⟨(.type "tuple"), none, (.seq #[] 0), #[]⟩
def o1_458 (P : Params) : Obj := ⟨.none, none, (.fields #[]), #[]⟩
def o1_459 (P : Params) : Obj := ⟨(.type "tuple"), none, (.seq #[(.str ("k" : Str) 806)] 0), #[]⟩
def o1_460 (P : Params) : Obj := ⟨(.type "tuple"), none, (.seq #[] 0), #[]⟩
def o1_461 (P : Params) : Obj := ⟨.none, none, (.func { name := ("shift" : Str), qualname := ("Table.shift" : Str), params := defArgs tp54_1, body := .stmts (defBody tp54_1), scope := defScope tp54_1, globals := 0, closure := [], defaults := .none, kwdefaults := .none, doc := .none, pyModule := .none, annotations := none, code := .none, closureTuple := .none, builtins := 0 }), #[]⟩
def o1_462 (P : Params) : Obj := ⟨(.type "code"), none, (.fields #[(.str ("shift" : Str) 803), (.str ("Table.shift" : Str) 804), (.str ("/claim/cut.py" : Str) 805), (.int 312 0), (.int 1 0), (.int 0 0), (.int 0 0), (.int 3 0), (.ref 457), (.bool true), (.int 181 0), (.ref 458), .none, (.ref 459), (.ref 460), (.ref 461), (.int 807 0), (.int 312 0), (.str ("/claim/cut.py" : Str) 808)]), #[]⟩
def o1_463 (P : Params) : Obj := ⟨(.type "function"), none, (.func { name := ("shift" : Str), qualname := ("Table.shift" : Str), params := defArgs tp54_1, body := .stmts (defBody tp54_1), scope := defScope tp54_1, globals := 3, closure := [], defaults := .none, kwdefaults := .none, doc := .none, pyModule := (.str ("rosterneed.tables" : Str) 760), annotations := (some 466), code := (.ref 462), closureTuple := .none, builtins := 0 }), #[]⟩
def o1_464 (P : Params) : Obj := ⟨(.type "dict"), none, (.dict #[⟨PyData.keyHash P ("__module__" : Str), (.str ("__module__" : Str) 810), (.str ("rosterneed.tables" : Str) 760)⟩, ⟨PyData.keyHash P ("__name__" : Str), (.str ("__name__" : Str) 813), (.str ("shift" : Str) 812)⟩, ⟨PyData.keyHash P ("__qualname__" : Str), (.str ("__qualname__" : Str) 816), (.str ("Table.shift" : Str) 815)⟩, ⟨PyData.keyHash P ("__doc__" : Str), (.str ("__doc__" : Str) 818), .none⟩, ⟨PyData.keyHash P ("__annotations__" : Str), (.str ("__annotations__" : Str) 820), (.ref 466)⟩] 5), #[]⟩
def o1_465 (P : Params) : Obj := ⟨(.type "staticmethod"), (some 464), (.fields #[(.ref 463), (.bool false)]), #[]⟩
def o1_466 (P : Params) : Obj := ⟨(.type "dict"), none, (.dict #[] 0), #[]⟩
def o1_467 (P : Params) : Obj := ⟨(.type "tuple"), none, (.seq #[] 0), #[]⟩
def o1_468 (P : Params) : Obj := ⟨.none, none, (.fields #[]), #[]⟩
def o1_469 (P : Params) : Obj := ⟨(.type "tuple"), none, (.seq #[(.str ("self" : Str) 825)] 0), #[]⟩
def o1_470 (P : Params) : Obj := ⟨(.type "tuple"), none, (.seq #[] 0), #[]⟩
def o1_471 (P : Params) : Obj := ⟨.none, none, (.func { name := ("raw" : Str), qualname := ("Table.raw" : Str), params := defArgs tp54_2, body := .stmts (defBody tp54_2), scope := defScope tp54_2, globals := 0, closure := [], defaults := .none, kwdefaults := .none, doc := .none, pyModule := .none, annotations := none, code := .none, closureTuple := .none, builtins := 0 }), #[]⟩
def o1_472 (P : Params) : Obj := ⟨(.type "code"), none, (.fields #[(.str ("raw" : Str) 822), (.str ("Table.raw" : Str) 823), (.str ("/claim/cut.py" : Str) 824), (.int 320 0), (.int 1 0), (.int 0 0), (.int 0 0), (.int 3 0), (.ref 467), (.bool true), (.int 181 0), (.ref 468), .none, (.ref 469), (.ref 470), (.ref 471), (.int 826 0), (.int 320 0), (.str ("/claim/cut.py" : Str) 827)]), #[]⟩
def o1_473 (P : Params) : Obj := ⟨(.type "function"), none, (.func { name := ("raw" : Str), qualname := ("Table.raw" : Str), params := defArgs tp54_2, body := .stmts (defBody tp54_2), scope := defScope tp54_2, globals := 3, closure := [], defaults := .none, kwdefaults := .none, doc := .none, pyModule := (.str ("rosterneed.tables" : Str) 760), annotations := none, code := (.ref 472), closureTuple := .none, builtins := 0 }), #[]⟩
def o1_474 (P : Params) : Obj := ⟨(.type "tuple"), none, (.seq #[] 0), #[]⟩
def o1_475 (P : Params) : Obj := ⟨.none, none, (.fields #[]), #[]⟩
def o1_476 (P : Params) : Obj := ⟨(.type "tuple"), none, (.seq #[(.str ("self" : Str) 832), (.str ("n" : Str) 833)] 0), #[]⟩
def o1_477 (P : Params) : Obj := ⟨(.type "tuple"), none, (.seq #[] 0), #[]⟩
def o1_478 (P : Params) : Obj := ⟨.none, none, (.func { name := ("__call__" : Str), qualname := ("Table.__call__" : Str), params := defArgs tp54_3, body := .stmts (defBody tp54_3), scope := defScope tp54_3, globals := 0, closure := [], defaults := .none, kwdefaults := .none, doc := .none, pyModule := .none, annotations := none, code := .none, closureTuple := .none, builtins := 0 }), #[]⟩
def o1_479 (P : Params) : Obj := ⟨(.type "code"), none, (.fields #[(.str ("__call__" : Str) 829), (.str ("Table.__call__" : Str) 830), (.str ("/claim/cut.py" : Str) 831), (.int 323 0), (.int 2 0), (.int 0 0), (.int 0 0), (.int 3 0), (.ref 474), (.bool true), (.int 181 0), (.ref 475), .none, (.ref 476), (.ref 477), (.ref 478), (.int 834 0), (.int 323 0), (.str ("/claim/cut.py" : Str) 835)]), #[]⟩
def o1_480 (P : Params) : Obj := ⟨(.type "function"), none, (.func { name := ("__call__" : Str), qualname := ("Table.__call__" : Str), params := defArgs tp54_3, body := .stmts (defBody tp54_3), scope := defScope tp54_3, globals := 3, closure := [], defaults := .none, kwdefaults := .none, doc := .none, pyModule := (.str ("rosterneed.tables" : Str) 760), annotations := none, code := (.ref 479), closureTuple := .none, builtins := 0 }), #[]⟩
def o1_481 (P : Params) : Obj := ⟨(.type "tuple"), none, (.seq #[] 0), #[]⟩
def o1_482 (P : Params) : Obj := ⟨.none, none, (.fields #[]), #[]⟩
def o1_483 (P : Params) : Obj := ⟨(.type "tuple"), none, (.seq #[(.str ("self" : Str) 840)] 0), #[]⟩
def o1_484 (P : Params) : Obj := ⟨(.type "tuple"), none, (.seq #[] 0), #[]⟩
def o1_485 (P : Params) : Obj := ⟨.none, none, (.func { name := ("end" : Str), qualname := ("Table.end" : Str), params := defArgs tp54_4, body := .stmts (defBody tp54_4), scope := defScope tp54_4, globals := 0, closure := [], defaults := .none, kwdefaults := .none, doc := .none, pyModule := .none, annotations := none, code := .none, closureTuple := .none, builtins := 0 }), #[]⟩
def o1_486 (P : Params) : Obj := ⟨(.type "code"), none, (.fields #[(.str ("end" : Str) 837), (.str ("Table.end" : Str) 838), (.str ("/claim/cut.py" : Str) 839), (.int 328 0), (.int 1 0), (.int 0 0), (.int 0 0), (.int 3 0), (.ref 481), (.bool true), (.int 181 0), (.ref 482), .none, (.ref 483), (.ref 484), (.ref 485), (.int 841 0), (.int 328 0), (.str ("/claim/cut.py" : Str) 842)]), #[]⟩
def o1_487 (P : Params) : Obj := ⟨(.type "function"), none, (.func { name := ("end" : Str), qualname := ("Table.end" : Str), params := defArgs tp54_4, body := .stmts (defBody tp54_4), scope := defScope tp54_4, globals := 3, closure := [], defaults := .none, kwdefaults := .none, doc := .none, pyModule := (.str ("rosterneed.tables" : Str) 760), annotations := none, code := (.ref 486), closureTuple := .none, builtins := 0 }), #[]⟩
def o1_488 (P : Params) : Obj := ⟨(.type "property"), none, (.fields #[(.ref 487), .none, .none, .none, (.str ("end" : Str) 844), (.bool false)]), #[]⟩
def o1_489 (P : Params) : Obj := ⟨(.type "tuple"), none, (.seq #[] 0), #[]⟩
def o1_490 (P : Params) : Obj := ⟨.none, none, (.fields #[]), #[]⟩
def o1_491 (P : Params) : Obj := ⟨(.type "tuple"), none, (.seq #[(.str ("self" : Str) 848)] 0), #[]⟩
def o1_492 (P : Params) : Obj := ⟨(.type "tuple"), none, (.seq #[] 0), #[]⟩
def o1_493 (P : Params) : Obj := ⟨.none, none, (.func { name := ("rate" : Str), qualname := ("Table.rate" : Str), params := defArgs tp54_5, body := .stmts (defBody tp54_5), scope := defScope tp54_5, globals := 0, closure := [], defaults := .none, kwdefaults := .none, doc := .none, pyModule := .none, annotations := none, code := .none, closureTuple := .none, builtins := 0 }), #[]⟩
def o1_494 (P : Params) : Obj := ⟨(.type "code"), none, (.fields #[(.str ("rate" : Str) 845), (.str ("Table.rate" : Str) 846), (.str ("/claim/cut.py" : Str) 847), (.int 332 0), (.int 1 0), (.int 0 0), (.int 0 0), (.int 3 0), (.ref 489), (.bool true), (.int 181 0), (.ref 490), .none, (.ref 491), (.ref 492), (.ref 493), (.int 849 0), (.int 332 0), (.str ("/claim/cut.py" : Str) 850)]), #[]⟩
def o1_495 (P : Params) : Obj := ⟨(.type "function"), none, (.func { name := ("rate" : Str), qualname := ("Table.rate" : Str), params := defArgs tp54_5, body := .stmts (defBody tp54_5), scope := defScope tp54_5, globals := 3, closure := [], defaults := .none, kwdefaults := .none, doc := .none, pyModule := (.str ("rosterneed.tables" : Str) 760), annotations := none, code := (.ref 494), closureTuple := .none, builtins := 0 }), #[]⟩
def o1_496 (P : Params) : Obj := ⟨(.type "property"), none, (.fields #[(.ref 495), .none, .none, .none, (.str ("rate" : Str) 852), (.bool false)]), #[]⟩
def o1_497 (P : Params) : Obj := ⟨(.type "tuple"), none, (.seq #[] 0), #[]⟩
def o1_498 (P : Params) : Obj := ⟨.none, none, (.fields #[]), #[]⟩
def o1_499 (P : Params) : Obj := ⟨(.type "tuple"), none, (.seq #[(.str ("self" : Str) 856)] 0), #[]⟩
def o1_500 (P : Params) : Obj := ⟨(.type "tuple"), none, (.seq #[] 0), #[]⟩
def o1_501 (P : Params) : Obj := ⟨.none, none, (.func { name := ("steady" : Str), qualname := ("Table.steady" : Str), params := defArgs tp54_6, body := .stmts (defBody tp54_6), scope := defScope tp54_6, globals := 0, closure := [], defaults := .none, kwdefaults := .none, doc := .none, pyModule := .none, annotations := none, code := .none, closureTuple := .none, builtins := 0 }), #[]⟩
def o1_502 (P : Params) : Obj := ⟨(.type "code"), none, (.fields #[(.str ("steady" : Str) 853), (.str ("Table.steady" : Str) 854), (.str ("/claim/cut.py" : Str) 855), (.int 336 0), (.int 1 0), (.int 0 0), (.int 0 0), (.int 3 0), (.ref 497), (.bool true), (.int 181 0), (.ref 498), .none, (.ref 499), (.ref 500), (.ref 501), (.int 857 0), (.int 336 0), (.str ("/claim/cut.py" : Str) 858)]), #[]⟩
def o1_503 (P : Params) : Obj := ⟨(.type "function"), none, (.func { name := ("steady" : Str), qualname := ("Table.steady" : Str), params := defArgs tp54_6, body := .stmts (defBody tp54_6), scope := defScope tp54_6, globals := 3, closure := [], defaults := .none, kwdefaults := .none, doc := .none, pyModule := (.str ("rosterneed.tables" : Str) 760), annotations := none, code := (.ref 502), closureTuple := .none, builtins := 0 }), #[]⟩
def o1_504 (P : Params) : Obj := ⟨(.type "property"), none, (.fields #[(.ref 503), .none, .none, .none, (.str ("steady" : Str) 860), (.bool false)]), #[]⟩
def o1_505 (P : Params) : Obj := ⟨(.type "tuple"), none, (.seq #[] 0), #[]⟩
def o1_506 (P : Params) : Obj := ⟨.none, none, (.fields #[]), #[]⟩
def o1_507 (P : Params) : Obj := ⟨(.type "tuple"), none, (.seq #[(.str ("self" : Str) 864), (.str ("other" : Str) 865)] 0), #[]⟩
def o1_508 (P : Params) : Obj := ⟨(.type "tuple"), none, (.seq #[] 0), #[]⟩
def o1_509 (P : Params) : Obj := ⟨.none, none, (.func { name := ("__eq__" : Str), qualname := ("Table.__eq__" : Str), params := defArgs tp54_7, body := .stmts (defBody tp54_7), scope := defScope tp54_7, globals := 0, closure := [], defaults := .none, kwdefaults := .none, doc := .none, pyModule := .none, annotations := none, code := .none, closureTuple := .none, builtins := 0 }), #[]⟩
def o1_510 (P : Params) : Obj := ⟨(.type "code"), none, (.fields #[(.str ("__eq__" : Str) 861), (.str ("Table.__eq__" : Str) 862), (.str ("/claim/cut.py" : Str) 863), (.int 340 0), (.int 2 0), (.int 0 0), (.int 0 0), (.int 3 0), (.ref 505), (.bool true), (.int 181 0), (.ref 506), .none, (.ref 507), (.ref 508), (.ref 509), (.int 866 0), (.int 340 0), (.str ("/claim/cut.py" : Str) 867)]), #[]⟩
def o1_511 (P : Params) : Obj := ⟨(.type "function"), none, (.func { name := ("__eq__" : Str), qualname := ("Table.__eq__" : Str), params := defArgs tp54_7, body := .stmts (defBody tp54_7), scope := defScope tp54_7, globals := 3, closure := [], defaults := .none, kwdefaults := .none, doc := .none, pyModule := (.str ("rosterneed.tables" : Str) 760), annotations := none, code := (.ref 510), closureTuple := .none, builtins := 0 }), #[]⟩
def o1_512 (P : Params) : Obj := ⟨(.type "tuple"), none, (.seq #[] 0), #[]⟩
def o1_513 (P : Params) : Obj := ⟨.none, none, (.fields #[]), #[]⟩
def o1_514 (P : Params) : Obj := ⟨(.type "tuple"), none, (.seq #[(.str ("self" : Str) 872), (.str ("other" : Str) 873)] 0), #[]⟩
def o1_515 (P : Params) : Obj := ⟨(.type "tuple"), none, (.seq #[] 0), #[]⟩
def o1_516 (P : Params) : Obj := ⟨.none, none, (.func { name := ("__mul__" : Str), qualname := ("Table.__mul__" : Str), params := defArgs tp54_8, body := .stmts (defBody tp54_8), scope := defScope tp54_8, globals := 0, closure := [], defaults := .none, kwdefaults := .none, doc := .none, pyModule := .none, annotations := none, code := .none, closureTuple := .none, builtins := 0 }), #[]⟩
def o1_517 (P : Params) : Obj := ⟨(.type "code"), none, (.fields #[(.str ("__mul__" : Str) 869), (.str ("Table.__mul__" : Str) 870), (.str ("/claim/cut.py" : Str) 871), (.int 343 0), (.int 2 0), (.int 0 0), (.int 0 0), (.int 3 0), (.ref 512), (.bool true), (.int 181 0), (.ref 513), .none, (.ref 514), (.ref 515), (.ref 516), (.int 874 0), (.int 343 0), (.str ("/claim/cut.py" : Str) 875)]), #[]⟩
def o1_518 (P : Params) : Obj := ⟨(.type "function"), none, (.func { name := ("__mul__" : Str), qualname := ("Table.__mul__" : Str), params := defArgs tp54_8, body := .stmts (defBody tp54_8), scope := defScope tp54_8, globals := 3, closure := [], defaults := .none, kwdefaults := .none, doc := .none, pyModule := (.str ("rosterneed.tables" : Str) 760), annotations := none, code := (.ref 517), closureTuple := .none, builtins := 0 }), #[]⟩
def o1_519 (P : Params) : Obj := ⟨(.type "tuple"), none, (.seq #[] 0), #[]⟩
def o1_520 (P : Params) : Obj := ⟨.none, none, (.fields #[]), #[]⟩
def o1_521 (P : Params) : Obj := ⟨(.type "tuple"), none, (.seq #[(.str ("self" : Str) 880), (.str ("other" : Str) 881)] 0), #[]⟩
def o1_522 (P : Params) : Obj := ⟨(.type "tuple"), none, (.seq #[] 0), #[]⟩
def o1_523 (P : Params) : Obj := ⟨.none, none, (.func { name := ("__and__" : Str), qualname := ("Table.__and__" : Str), params := defArgs tp54_9, body := .stmts (defBody tp54_9), scope := defScope tp54_9, globals := 0, closure := [], defaults := .none, kwdefaults := .none, doc := .none, pyModule := .none, annotations := none, code := .none, closureTuple := .none, builtins := 0 }), #[]⟩
def o1_524 (P : Params) : Obj := ⟨(.type "code"), none, (.fields #[(.str ("__and__" : Str) 877), (.str ("Table.__and__" : Str) 878), (.str ("/claim/cut.py" : Str) 879), (.int 346 0), (.int 2 0), (.int 0 0), (.int 0 0), (.int 3 0), (.ref 519), (.bool true), (.int 181 0), (.ref 520), .none, (.ref 521), (.ref 522), (.ref 523), (.int 882 0), (.int 346 0), (.str ("/claim/cut.py" : Str) 883)]), #[]⟩
def o1_525 (P : Params) : Obj := ⟨(.type "function"), none, (.func { name := ("__and__" : Str), qualname := ("Table.__and__" : Str), params := defArgs tp54_9, body := .stmts (defBody tp54_9), scope := defScope tp54_9, globals := 3, closure := [], defaults := .none, kwdefaults := .none, doc := .none, pyModule := (.str ("rosterneed.tables" : Str) 760), annotations := none, code := (.ref 524), closureTuple := .none, builtins := 0 }), #[]⟩
def o1_526 (P : Params) : Obj := ⟨(.type "tuple"), none, (.seq #[] 0), #[]⟩
def o1_527 (P : Params) : Obj := ⟨.none, none, (.fields #[]), #[]⟩
def o1_528 (P : Params) : Obj := ⟨(.type "tuple"), none, (.seq #[(.str ("self" : Str) 888), (.str ("other" : Str) 889)] 0), #[]⟩
def o1_529 (P : Params) : Obj := ⟨(.type "tuple"), none, (.seq #[] 0), #[]⟩
def o1_530 (P : Params) : Obj := ⟨.none, none, (.func { name := ("__or__" : Str), qualname := ("Table.__or__" : Str), params := defArgs tp54_10, body := .stmts (defBody tp54_10), scope := defScope tp54_10, globals := 0, closure := [], defaults := .none, kwdefaults := .none, doc := .none, pyModule := .none, annotations := none, code := .none, closureTuple := .none, builtins := 0 }), #[]⟩
def o1_531 (P : Params) : Obj := ⟨(.type "code"), none, (.fields #[(.str ("__or__" : Str) 885), (.str ("Table.__or__" : Str) 886), (.str ("/claim/cut.py" : Str) 887), (.int 349 0), (.int 2 0), (.int 0 0), (.int 0 0), (.int 3 0), (.ref 526), (.bool true), (.int 181 0), (.ref 527), .none, (.ref 528), (.ref 529), (.ref 530), (.int 890 0), (.int 349 0), (.str ("/claim/cut.py" : Str) 891)]), #[]⟩
def o1_532 (P : Params) : Obj := ⟨(.type "function"), none, (.func { name := ("__or__" : Str), qualname := ("Table.__or__" : Str), params := defArgs tp54_10, body := .stmts (defBody tp54_10), scope := defScope tp54_10, globals := 3, closure := [], defaults := .none, kwdefaults := .none, doc := .none, pyModule := (.str ("rosterneed.tables" : Str) 760), annotations := none, code := (.ref 531), closureTuple := .none, builtins := 0 }), #[]⟩
def o1_533 (P : Params) : Obj := ⟨(.type "tuple"), none, (.seq #[] 0), #[]⟩
def o1_534 (P : Params) : Obj := ⟨.none, none, (.fields #[]), #[]⟩
def o1_535 (P : Params) : Obj := ⟨(.type "tuple"), none, (.seq #[(.str ("self" : Str) 896)] 0), #[]⟩
def o1_536 (P : Params) : Obj := ⟨(.type "tuple"), none, (.seq #[] 0), #[]⟩
def o1_537 (P : Params) : Obj := ⟨.none, none, (.func { name := ("__invert__" : Str), qualname := ("Table.__invert__" : Str), params := defArgs tp54_11, body := .stmts (defBody tp54_11), scope := defScope tp54_11, globals := 0, closure := [], defaults := .none, kwdefaults := .none, doc := .none, pyModule := .none, annotations := none, code := .none, closureTuple := .none, builtins := 0 }), #[]⟩
def o1_538 (P : Params) : Obj := ⟨(.type "code"), none, (.fields #[(.str ("__invert__" : Str) 893), (.str ("Table.__invert__" : Str) 894), (.str ("/claim/cut.py" : Str) 895), (.int 352 0), (.int 1 0), (.int 0 0), (.int 0 0), (.int 3 0), (.ref 533), (.bool true), (.int 181 0), (.ref 534), .none, (.ref 535), (.ref 536), (.ref 537), (.int 897 0), (.int 352 0), (.str ("/claim/cut.py" : Str) 898)]), #[]⟩
def o1_539 (P : Params) : Obj := ⟨(.type "function"), none, (.func { name := ("__invert__" : Str), qualname := ("Table.__invert__" : Str), params := defArgs tp54_11, body := .stmts (defBody tp54_11), scope := defScope tp54_11, globals := 3, closure := [], defaults := .none, kwdefaults := .none, doc := .none, pyModule := (.str ("rosterneed.tables" : Str) 760), annotations := none, code := (.ref 538), closureTuple := .none, builtins := 0 }), #[]⟩
def o1_540 (P : Params) : Obj := ⟨(.type "tuple"), none, (.seq #[(.str ("head" : Str) 900), (.str ("loop" : Str) 901), (.str ("rise" : Str) 902)] 0), #[]⟩
def o1_541 (P : Params) : Obj := ⟨(.type "dict"), none, (.dict #[⟨PyData.keyHash P ("__module__" : Str), (.str ("__module__" : Str) 786), (.str ("rosterneed.tables" : Str) 760)⟩, ⟨PyData.keyHash P ("__firstlineno__" : Str), (.str ("__firstlineno__" : Str) 790), (.int 304 789)⟩, ⟨PyData.keyHash P ("__init__" : Str), (.str ("__init__" : Str) 802), (.ref 456)⟩, ⟨PyData.keyHash P ("shift" : Str), (.str ("shift" : Str) 821), (.ref 465)⟩, ⟨PyData.keyHash P ("raw" : Str), (.str ("raw" : Str) 828), (.ref 473)⟩, ⟨PyData.keyHash P ("__call__" : Str), (.str ("__call__" : Str) 836), (.ref 480)⟩, ⟨PyData.keyHash P ("end" : Str), (.str ("end" : Str) 844), (.ref 488)⟩, ⟨PyData.keyHash P ("rate" : Str), (.str ("rate" : Str) 852), (.ref 496)⟩, ⟨PyData.keyHash P ("steady" : Str), (.str ("steady" : Str) 860), (.ref 504)⟩, ⟨PyData.keyHash P ("__eq__" : Str), (.str ("__eq__" : Str) 868), (.ref 511)⟩, ⟨PyData.keyHash P ("__mul__" : Str), (.str ("__mul__" : Str) 876), (.ref 518)⟩, ⟨PyData.keyHash P ("__and__" : Str), (.str ("__and__" : Str) 884), (.ref 525)⟩, ⟨PyData.keyHash P ("__or__" : Str), (.str ("__or__" : Str) 892), (.ref 532)⟩, ⟨PyData.keyHash P ("__invert__" : Str), (.str ("__invert__" : Str) 899), (.ref 539)⟩, ⟨PyData.keyHash P ("__static_attributes__" : Str), (.str ("__static_attributes__" : Str) 903), (.ref 540)⟩, ⟨PyData.keyHash P ("__dict__" : Str), (.str ("__dict__" : Str) 905), (.ref 543)⟩, ⟨PyData.keyHash P ("__weakref__" : Str), (.str ("__weakref__" : Str) 907), (.ref 544)⟩, ⟨PyData.keyHash P ("__doc__" : Str), (.str ("__doc__" : Str) 908), .none⟩, ⟨PyData.keyHash P ("__hash__" : Str), (.str ("__hash__" : Str) 909), .none⟩] 5), #[]⟩
def o1_542 (P : Params) : Obj := ⟨(.type "type"), none, (.cls { name := ("Table" : Str), bases := [(.type "object")], mro := [(.ref 542), (.type "object")], ns := 541, qualname := ("Table" : Str), hasDict := true, slotNames := [], subclasses := [], abstract := false, collection := none, hasDel := false }), #[none, none, (some (.str ("Table" : Str) 779)), (some (.str ("Table" : Str) 787)), (some (.builtin "object.__new__")), (some (.bool true))]⟩
def o1_543 (P : Params) : Obj := ⟨(.type "getset_descriptor"), none, (.fields #[(.str ("__dict__" : Str) 904), (.ref 542), (.builtin "function.__dict__"), (.builtin "function.__dict__#set")]), #[]⟩
def o1_544 (P : Params) : Obj := ⟨(.type "getset_descriptor"), none, (.fields #[(.str ("__weakref__" : Str) 906), (.ref 542), (.builtin "ExceptionGroup.__weakref__"), .none]), #[]⟩
def o1_545 (P : Params) : Obj := ⟨(.type "super"), none, (.fields #[(.ref 542), (.ref 542), (.ref 542)]), #[]⟩
def o1_546 (P : Params) : Obj := ⟨(.type "builtin_function_or_method"), none, (.fields #[(.builtin "object.__init_subclass__"), (.ref 542)]), #[]⟩
def o1_547 (P : Params) : Obj := ⟨(.type "tuple"), none, (.seq #[] 0), #[]⟩
def o1_548 (P : Params) : Obj := ⟨.none, none, (.fields #[]), #[]⟩
def o1_549 (P : Params) : Obj := ⟨(.type "tuple"), none, (.seq #[(.str ("raw" : Str) 915)] 0), #[]⟩
def o1_550 (P : Params) : Obj := ⟨(.type "tuple"), none, (.seq #[] 0), #[]⟩
def o1_551 (P : Params) : Obj := ⟨.none, none, (.func { name := ("table_from" : Str), qualname := ("table_from" : Str), params := defArgs tp55, body := .stmts (defBody tp55), scope := defScope tp55, globals := 0, closure := [], defaults := .none, kwdefaults := .none, doc := .none, pyModule := .none, annotations := none, code := .none, closureTuple := .none, builtins := 0 }), #[]⟩
def o1_552 (P : Params) : Obj := ⟨(.type "code"), none, (.fields #[(.str ("table_from" : Str) 912), (.str ("table_from" : Str) 913), (.str ("/claim/cut.py" : Str) 914), (.int 354 0), (.int 1 0), (.int 0 0), (.int 0 0), (.int 3 0), (.ref 547), (.bool true), (.int 181 0), (.ref 548), .none, (.ref 549), (.ref 550), (.ref 551), (.int 916 0), (.int 354 0), (.str ("/claim/cut.py" : Str) 917)]), #[]⟩
def o1_553 (P : Params) : Obj := ⟨(.type "function"), none, (.func { name := ("table_from" : Str), qualname := ("table_from" : Str), params := defArgs tp55, body := .stmts (defBody tp55), scope := defScope tp55, globals := 3, closure := [], defaults := .none, kwdefaults := .none, doc := .none, pyModule := (.str ("rosterneed.tables" : Str) 760), annotations := none, code := (.ref 552), closureTuple := .none, builtins := 0 }), #[]⟩
def o1_554 (P : Params) : Obj := ⟨(.type "tuple"), none, (.seq #[] 0), #[]⟩
def o1_555 (P : Params) : Obj := ⟨.none, none, (.fields #[]), #[]⟩
def o1_556 (P : Params) : Obj := ⟨(.type "tuple"), none, (.seq #[(.str ("script" : Str) 924), (.str ("place" : Str) 925), (.str ("cell" : Str) 926), (.str ("seed" : Str) 927), (.str ("one" : Str) 928), (.str ("number" : Str) 929)] 0), #[]⟩
def o1_557 (P : Params) : Obj := ⟨(.type "tuple"), none, (.seq #[] 0), #[]⟩
def o1_558 (P : Params) : Obj := ⟨.none, none, (.func { name := ("_law_source" : Str), qualname := ("_law_source" : Str), params := defArgs tp57, body := .stmts (defBody tp57), scope := defScope tp57, globals := 0, closure := [], defaults := .none, kwdefaults := .none, doc := .none, pyModule := .none, annotations := none, code := .none, closureTuple := .none, builtins := 0 }), #[]⟩
def o1_559 (P : Params) : Obj := ⟨(.type "code"), none, (.fields #[(.str ("_law_source" : Str) 921), (.str ("_law_source" : Str) 922), (.str ("/claim/cut.py" : Str) 923), (.int 357 0), (.int 2 0), (.int 0 0), (.int 0 0), (.int 3 0), (.ref 554), (.bool true), (.int 181 0), (.ref 555), .none, (.ref 556), (.ref 557), (.ref 558), (.int 930 0), (.int 357 0), (.str ("/claim/cut.py" : Str) 931)]), #[]⟩
def o1_560 (P : Params) : Obj := ⟨(.type "function"), none, (.func { name := ("_law_source" : Str), qualname := ("_law_source" : Str), params := defArgs tp57, body := .stmts (defBody tp57), scope := defScope tp57, globals := 3, closure := [], defaults := .none, kwdefaults := .none, doc := .none, pyModule := (.str ("law_rosterneed_k89_whole_sides" : Str) 919), annotations := none, code := (.ref 559), closureTuple := .none, builtins := 0 }), #[]⟩
def o1_561 (P : Params) : Obj := ⟨(.type "tuple"), none, (.seq #[] 0), #[]⟩
def o1_562 (P : Params) : Obj := ⟨.none, none, (.fields #[]), #[]⟩
def o1_563 (P : Params) : Obj := ⟨(.type "tuple"), none, (.seq #[(.str ("source" : Str) 936), (.str ("many" : Str) 937), (.str ("digit" : Str) 938), (.str ("value" : Str) 939)] 0), #[]⟩
def o1_564 (P : Params) : Obj := ⟨(.type "tuple"), none, (.seq #[] 0), #[]⟩
def o1_565 (P : Params) : Obj := ⟨.none, none, (.func { name := ("_law_pick" : Str), qualname := ("_law_pick" : Str), params := defArgs tp58, body := .stmts (defBody tp58), scope := defScope tp58, globals := 0, closure := [], defaults := .none, kwdefaults := .none, doc := .none, pyModule := .none, annotations := none, code := .none, closureTuple := .none, builtins := 0 }), #[]⟩
def o1_566 (P : Params) : Obj := ⟨(.type "code"), none, (.fields #[(.str ("_law_pick" : Str) 933), (.str ("_law_pick" : Str) 934), (.str ("/claim/cut.py" : Str) 935), (.int 368 0), (.int 2 0), (.int 0 0), (.int 0 0), (.int 3 0), (.ref 561), (.bool true), (.int 181 0), (.ref 562), .none, (.ref 563), (.ref 564), (.ref 565), (.int 940 0), (.int 368 0), (.str ("/claim/cut.py" : Str) 941)]), #[]⟩
def o1_567 (P : Params) : Obj := ⟨(.type "function"), none, (.func { name := ("_law_pick" : Str), qualname := ("_law_pick" : Str), params := defArgs tp58, body := .stmts (defBody tp58), scope := defScope tp58, globals := 3, closure := [], defaults := .none, kwdefaults := .none, doc := .none, pyModule := (.str ("law_rosterneed_k89_whole_sides" : Str) 919), annotations := none, code := (.ref 566), closureTuple := .none, builtins := 0 }), #[]⟩
def o1_568 (P : Params) : Obj := ⟨(.type "tuple"), none, (.seq #[] 0), #[]⟩
def o1_569 (P : Params) : Obj := ⟨.none, none, (.fields #[]), #[]⟩
def o1_570 (P : Params) : Obj := ⟨(.type "tuple"), none, (.seq #[(.str ("thing" : Str) 946)] 0), #[]⟩
def o1_571 (P : Params) : Obj := ⟨(.type "tuple"), none, (.seq #[] 0), #[]⟩
def o1_572 (P : Params) : Obj := ⟨.none, none, (.func { name := ("_law_is_integer" : Str), qualname := ("_law_is_integer" : Str), params := defArgs tp59, body := .stmts (defBody tp59), scope := defScope tp59, globals := 0, closure := [], defaults := .none, kwdefaults := .none, doc := .none, pyModule := .none, annotations := none, code := .none, closureTuple := .none, builtins := 0 }), #[]⟩
def o1_573 (P : Params) : Obj := ⟨(.type "code"), none, (.fields #[(.str ("_law_is_integer" : Str) 943), (.str ("_law_is_integer" : Str) 944), (.str ("/claim/cut.py" : Str) 945), (.int 379 0), (.int 1 0), (.int 0 0), (.int 0 0), (.int 3 0), (.ref 568), (.bool true), (.int 181 0), (.ref 569), .none, (.ref 570), (.ref 571), (.ref 572), (.int 947 0), (.int 379 0), (.str ("/claim/cut.py" : Str) 948)]), #[]⟩
def o1_574 (P : Params) : Obj := ⟨(.type "function"), none, (.func { name := ("_law_is_integer" : Str), qualname := ("_law_is_integer" : Str), params := defArgs tp59, body := .stmts (defBody tp59), scope := defScope tp59, globals := 3, closure := [], defaults := .none, kwdefaults := .none, doc := .none, pyModule := (.str ("law_rosterneed_k89_whole_sides" : Str) 919), annotations := none, code := (.ref 573), closureTuple := .none, builtins := 0 }), #[]⟩
def o1_575 (P : Params) : Obj := ⟨(.type "tuple"), none, (.seq #[] 0), #[]⟩
def o1_576 (P : Params) : Obj := ⟨.none, none, (.fields #[]), #[]⟩
def o1_577 (P : Params) : Obj := ⟨(.type "tuple"), none, (.seq #[(.str ("one" : Str) 953), (.str ("other" : Str) 954)] 0), #[]⟩
def o1_578 (P : Params) : Obj := ⟨(.type "tuple"), none, (.seq #[] 0), #[]⟩
def o1_579 (P : Params) : Obj := ⟨.none, none, (.func { name := ("_law_le" : Str), qualname := ("_law_le" : Str), params := defArgs tp60, body := .stmts (defBody tp60), scope := defScope tp60, globals := 0, closure := [], defaults := .none, kwdefaults := .none, doc := .none, pyModule := .none, annotations := none, code := .none, closureTuple := .none, builtins := 0 }), #[]⟩
def o1_580 (P : Params) : Obj := ⟨(.type "code"), none, (.fields #[(.str ("_law_le" : Str) 950), (.str ("_law_le" : Str) 951), (.str ("/claim/cut.py" : Str) 952), (.int 381 0), (.int 2 0), (.int 0 0), (.int 0 0), (.int 3 0), (.ref 575), (.bool true), (.int 181 0), (.ref 576), .none, (.ref 577), (.ref 578), (.ref 579), (.int 955 0), (.int 381 0), (.str ("/claim/cut.py" : Str) 956)]), #[]⟩
def o1_581 (P : Params) : Obj := ⟨(.type "function"), none, (.func { name := ("_law_le" : Str), qualname := ("_law_le" : Str), params := defArgs tp60, body := .stmts (defBody tp60), scope := defScope tp60, globals := 3, closure := [], defaults := .none, kwdefaults := .none, doc := .none, pyModule := (.str ("law_rosterneed_k89_whole_sides" : Str) 919), annotations := none, code := (.ref 580), closureTuple := .none, builtins := 0 }), #[]⟩
def o1_582 (P : Params) : Obj := ⟨(.type "tuple"), none, (.seq #[] 0), #[]⟩
def o1_583 (P : Params) : Obj := ⟨.none, none, (.fields #[]), #[]⟩
def o1_584 (P : Params) : Obj := ⟨(.type "tuple"), none, (.seq #[(.str ("source" : Str) 961), (.str ("many" : Str) 962), (.str ("low" : Str) 963), (.str ("steps" : Str) 964), (.str ("told" : Str) 965), (.str ("value" : Str) 966), (.str ("k" : Str) 967)] 0), #[]⟩
def o1_585 (P : Params) : Obj := ⟨(.type "tuple"), none, (.seq #[] 0), #[]⟩
def o1_586 (P : Params) : Obj := ⟨.none, none, (.func { name := ("_law_rising" : Str), qualname := ("_law_rising" : Str), params := defArgs tp61, body := .stmts (defBody tp61), scope := defScope tp61, globals := 0, closure := [], defaults := .none, kwdefaults := .none, doc := .none, pyModule := .none, annotations := none, code := .none, closureTuple := .none, builtins := 0 }), #[]⟩
def o1_587 (P : Params) : Obj := ⟨(.type "code"), none, (.fields #[(.str ("_law_rising" : Str) 958), (.str ("_law_rising" : Str) 959), (.str ("/claim/cut.py" : Str) 960), (.int 383 0), (.int 4 0), (.int 0 0), (.int 0 0), (.int 3 0), (.ref 582), (.bool true), (.int 181 0), (.ref 583), .none, (.ref 584), (.ref 585), (.ref 586), (.int 968 0), (.int 383 0), (.str ("/claim/cut.py" : Str) 969)]), #[]⟩
def o1_588 (P : Params) : Obj := ⟨(.type "function"), none, (.func { name := ("_law_rising" : Str), qualname := ("_law_rising" : Str), params := defArgs tp61, body := .stmts (defBody tp61), scope := defScope tp61, globals := 3, closure := [], defaults := .none, kwdefaults := .none, doc := .none, pyModule := (.str ("law_rosterneed_k89_whole_sides" : Str) 919), annotations := none, code := (.ref 587), closureTuple := .none, builtins := 0 }), #[]⟩
def o1_589 (P : Params) : Obj := ⟨(.type "tuple"), none, (.seq #[] 0), #[]⟩
def o1_590 (P : Params) : Obj := ⟨.none, none, (.fields #[]), #[]⟩
def o1_591 (P : Params) : Obj := ⟨(.type "tuple"), none, (.seq #[(.str ("source" : Str) 974), (.str ("steady" : Str) 975), (.str ("head" : Str) 976), (.str ("low" : Str) 977), (.str ("many" : Str) 978), (.str ("loop" : Str) 979), (.str ("more" : Str) 980), (.str ("rise" : Str) 981)] 0), #[]⟩
def o1_592 (P : Params) : Obj := ⟨(.type "tuple"), none, (.seq #[] 0), #[]⟩
def o1_593 (P : Params) : Obj := ⟨.none, none, (.func { name := ("_law_raw" : Str), qualname := ("_law_raw" : Str), params := defArgs tp62, body := .stmts (defBody tp62), scope := defScope tp62, globals := 0, closure := [], defaults := .none, kwdefaults := .none, doc := .none, pyModule := .none, annotations := none, code := .none, closureTuple := .none, builtins := 0 }), #[]⟩
def o1_594 (P : Params) : Obj := ⟨(.type "code"), none, (.fields #[(.str ("_law_raw" : Str) 971), (.str ("_law_raw" : Str) 972), (.str ("/claim/cut.py" : Str) 973), (.int 390 0), (.int 2 0), (.int 0 0), (.int 0 0), (.int 3 0), (.ref 589), (.bool true), (.int 181 0), (.ref 590), .none, (.ref 591), (.ref 592), (.ref 593), (.int 982 0), (.int 390 0), (.str ("/claim/cut.py" : Str) 983)]), #[]⟩
def o1_595 (P : Params) : Obj := ⟨(.type "function"), none, (.func { name := ("_law_raw" : Str), qualname := ("_law_raw" : Str), params := defArgs tp62, body := .stmts (defBody tp62), scope := defScope tp62, globals := 3, closure := [], defaults := .none, kwdefaults := .none, doc := .none, pyModule := (.str ("law_rosterneed_k89_whole_sides" : Str) 919), annotations := none, code := (.ref 594), closureTuple := .none, builtins := 0 }), #[]⟩
def o1_596 (P : Params) : Obj := ⟨(.type "tuple"), none, (.seq #[] 0), #[]⟩
def o1_597 (P : Params) : Obj := ⟨.none, none, (.fields #[]), #[]⟩
def o1_598 (P : Params) : Obj := ⟨(.type "tuple"), none, (.seq #[(.str ("raw" : Str) 988)] 0), #[]⟩
def o1_599 (P : Params) : Obj := ⟨(.type "tuple"), none, (.seq #[] 0), #[]⟩
def o1_600 (P : Params) : Obj := ⟨.none, none, (.func { name := ("_law_end" : Str), qualname := ("_law_end" : Str), params := defArgs tp63, body := .stmts (defBody tp63), scope := defScope tp63, globals := 0, closure := [], defaults := .none, kwdefaults := .none, doc := .none, pyModule := .none, annotations := none, code := .none, closureTuple := .none, builtins := 0 }), #[]⟩
def o1_601 (P : Params) : Obj := ⟨(.type "code"), none, (.fields #[(.str ("_law_end" : Str) 985), (.str ("_law_end" : Str) 986), (.str ("/claim/cut.py" : Str) 987), (.int 402 0), (.int 1 0), (.int 0 0), (.int 0 0), (.int 3 0), (.ref 596), (.bool true), (.int 181 0), (.ref 597), .none, (.ref 598), (.ref 599), (.ref 600), (.int 989 0), (.int 402 0), (.str ("/claim/cut.py" : Str) 990)]), #[]⟩
def o1_602 (P : Params) : Obj := ⟨(.type "function"), none, (.func { name := ("_law_end" : Str), qualname := ("_law_end" : Str), params := defArgs tp63, body := .stmts (defBody tp63), scope := defScope tp63, globals := 3, closure := [], defaults := .none, kwdefaults := .none, doc := .none, pyModule := (.str ("law_rosterneed_k89_whole_sides" : Str) 919), annotations := none, code := (.ref 601), closureTuple := .none, builtins := 0 }), #[]⟩
def o1_603 (P : Params) : Obj := ⟨(.type "tuple"), none, (.seq #[] 0), #[]⟩
def o1_604 (P : Params) : Obj := ⟨.none, none, (.fields #[]), #[]⟩
def o1_605 (P : Params) : Obj := ⟨(.type "tuple"), none, (.seq #[(.str ("raw" : Str) 995), (.str ("place" : Str) 996), (.str ("rest" : Str) 997)] 0), #[]⟩
def o1_606 (P : Params) : Obj := ⟨(.type "tuple"), none, (.seq #[] 0), #[]⟩
def o1_607 (P : Params) : Obj := ⟨.none, none, (.func { name := ("_law_at" : Str), qualname := ("_law_at" : Str), params := defArgs tp64, body := .stmts (defBody tp64), scope := defScope tp64, globals := 0, closure := [], defaults := .none, kwdefaults := .none, doc := .none, pyModule := .none, annotations := none, code := .none, closureTuple := .none, builtins := 0 }), #[]⟩
def o1_608 (P : Params) : Obj := ⟨(.type "code"), none, (.fields #[(.str ("_law_at" : Str) 992), (.str ("_law_at" : Str) 993), (.str ("/claim/cut.py" : Str) 994), (.int 406 0), (.int 2 0), (.int 0 0), (.int 0 0), (.int 3 0), (.ref 603), (.bool true), (.int 181 0), (.ref 604), .none, (.ref 605), (.ref 606), (.ref 607), (.int 998 0), (.int 406 0), (.str ("/claim/cut.py" : Str) 999)]), #[]⟩
def o1_609 (P : Params) : Obj := ⟨(.type "function"), none, (.func { name := ("_law_at" : Str), qualname := ("_law_at" : Str), params := defArgs tp64, body := .stmts (defBody tp64), scope := defScope tp64, globals := 3, closure := [], defaults := .none, kwdefaults := .none, doc := .none, pyModule := (.str ("law_rosterneed_k89_whole_sides" : Str) 919), annotations := none, code := (.ref 608), closureTuple := .none, builtins := 0 }), #[]⟩
def o1_610 (P : Params) : Obj := ⟨(.type "tuple"), none, (.seq #[] 0), #[]⟩
def o1_611 (P : Params) : Obj := ⟨.none, none, (.fields #[]), #[]⟩
def o1_612 (P : Params) : Obj := ⟨.none, none, (.func { name := ("_law_plain" : Str), qualname := ("_law_plain" : Str), params := defArgs tp65, body := .stmts (defBody tp65), scope := defScope tp65, globals := 0, closure := [], defaults := .none, kwdefaults := .none, doc := .none, pyModule := .none, annotations := none, code := .none, closureTuple := .none, builtins := 0 }), #[]⟩
def o1_613 (P : Params) : Obj := ⟨(.type "code"), none, (.fields #[(.str ("_law_plain" : Str) 1001), (.str ("_law_plain" : Str) 1002), (.str ("/claim/cut.py" : Str) 1003), (.int 417 0), (.int 3 0), (.int 0 0), (.int 0 0), (.int 3 0), (.ref 610), (.bool true), (.int 181 0), (.ref 611), .none, .none, .none, (.ref 612), (.int 1004 0), (.int 417 0), (.str ("/claim/cut.py" : Str) 1005)]), #[]⟩
def o1_614 (P : Params) : Obj := ⟨(.type "function"), none, (.func { name := ("_law_plain" : Str), qualname := ("_law_plain" : Str), params := defArgs tp65, body := .stmts (defBody tp65), scope := defScope tp65, globals := 3, closure := [], defaults := .none, kwdefaults := .none, doc := .none, pyModule := (.str ("law_rosterneed_k89_whole_sides" : Str) 919), annotations := none, code := (.ref 613), closureTuple := .none, builtins := 0 }), #[]⟩
def o1_615 (P : Params) : Obj := ⟨(.type "tuple"), none, (.seq #[] 0), #[]⟩
def o1_616 (P : Params) : Obj := ⟨.none, none, (.fields #[]), #[]⟩
def o1_617 (P : Params) : Obj := ⟨(.type "tuple"), none, (.seq #[(.str ("raw" : Str) 1010)] 0), #[]⟩
def o1_618 (P : Params) : Obj := ⟨(.type "tuple"), none, (.seq #[] 0), #[]⟩
def o1_619 (P : Params) : Obj := ⟨.none, none, (.func { name := ("_law_table" : Str), qualname := ("_law_table" : Str), params := defArgs tp66, body := .stmts (defBody tp66), scope := defScope tp66, globals := 0, closure := [], defaults := .none, kwdefaults := .none, doc := .none, pyModule := .none, annotations := none, code := .none, closureTuple := .none, builtins := 0 }), #[]⟩
def o1_620 (P : Params) : Obj := ⟨(.type "code"), none, (.fields #[(.str ("_law_table" : Str) 1007), (.str ("_law_table" : Str) 1008), (.str ("/claim/cut.py" : Str) 1009), (.int 434 0), (.int 1 0), (.int 0 0), (.int 0 0), (.int 3 0), (.ref 615), (.bool true), (.int 181 0), (.ref 616), .none, (.ref 617), (.ref 618), (.ref 619), (.int 1011 0), (.int 434 0), (.str ("/claim/cut.py" : Str) 1012)]), #[]⟩
def o1_621 (P : Params) : Obj := ⟨(.type "function"), none, (.func { name := ("_law_table" : Str), qualname := ("_law_table" : Str), params := defArgs tp66, body := .stmts (defBody tp66), scope := defScope tp66, globals := 3, closure := [], defaults := .none, kwdefaults := .none, doc := .none, pyModule := (.str ("law_rosterneed_k89_whole_sides" : Str) 919), annotations := none, code := (.ref 620), closureTuple := .none, builtins := 0 }), #[]⟩
def o1_622 (P : Params) : Obj := ⟨(.type "tuple"), none, (.seq #[] 0), #[]⟩
def o1_623 (P : Params) : Obj := ⟨.none, none, (.fields #[]), #[]⟩
def o1_624 (P : Params) : Obj := ⟨(.type "tuple"), none, (.seq #[(.str ("first" : Str) 1017), (.str ("second" : Str) 1018), (.str ("place" : Str) 1019), (.str ("one" : Str) 1020), (.str ("other" : Str) 1021)] 0), #[]⟩
def o1_625 (P : Params) : Obj := ⟨(.type "tuple"), none, (.seq #[] 0), #[]⟩
def o1_626 (P : Params) : Obj := ⟨.none, none, (.func { name := ("_law_sign" : Str), qualname := ("_law_sign" : Str), params := defArgs tp67, body := .stmts (defBody tp67), scope := defScope tp67, globals := 0, closure := [], defaults := .none, kwdefaults := .none, doc := .none, pyModule := .none, annotations := none, code := .none, closureTuple := .none, builtins := 0 }), #[]⟩
def o1_627 (P : Params) : Obj := ⟨(.type "code"), none, (.fields #[(.str ("_law_sign" : Str) 1014), (.str ("_law_sign" : Str) 1015), (.str ("/claim/cut.py" : Str) 1016), (.int 436 0), (.int 3 0), (.int 0 0), (.int 0 0), (.int 3 0), (.ref 622), (.bool true), (.int 181 0), (.ref 623), .none, (.ref 624), (.ref 625), (.ref 626), (.int 1022 0), (.int 436 0), (.str ("/claim/cut.py" : Str) 1023)]), #[]⟩
def o1_628 (P : Params) : Obj := ⟨(.type "function"), none, (.func { name := ("_law_sign" : Str), qualname := ("_law_sign" : Str), params := defArgs tp67, body := .stmts (defBody tp67), scope := defScope tp67, globals := 3, closure := [], defaults := .none, kwdefaults := .none, doc := .none, pyModule := (.str ("law_rosterneed_k89_whole_sides" : Str) 919), annotations := none, code := (.ref 627), closureTuple := .none, builtins := 0 }), #[]⟩
def o1_629 (P : Params) : Obj := ⟨(.type "tuple"), none, (.seq #[] 0), #[]⟩
def o1_630 (P : Params) : Obj := ⟨.none, none, (.fields #[]), #[]⟩
def o1_631 (P : Params) : Obj := ⟨.none, none, (.func { name := ("_law_cut_signs" : Str), qualname := ("_law_cut_signs" : Str), params := defArgs tp68, body := .stmts (defBody tp68), scope := defScope tp68, globals := 0, closure := [], defaults := .none, kwdefaults := .none, doc := .none, pyModule := .none, annotations := none, code := .none, closureTuple := .none, builtins := 0 }), #[]⟩
def o1_632 (P : Params) : Obj := ⟨(.type "code"), none, (.fields #[(.str ("_law_cut_signs" : Str) 1025), (.str ("_law_cut_signs" : Str) 1026), (.str ("/claim/cut.py" : Str) 1027), (.int 441 0), (.int 1 0), (.int 0 0), (.int 0 0), (.int 3 0), (.ref 629), (.bool true), (.int 181 0), (.ref 630), .none, .none, .none, (.ref 631), (.int 1028 0), (.int 441 0), (.str ("/claim/cut.py" : Str) 1029)]), #[]⟩
def o1_633 (P : Params) : Obj := ⟨(.type "function"), none, (.func { name := ("_law_cut_signs" : Str), qualname := ("_law_cut_signs" : Str), params := defArgs tp68, body := .stmts (defBody tp68), scope := defScope tp68, globals := 3, closure := [], defaults := .none, kwdefaults := .none, doc := .none, pyModule := (.str ("law_rosterneed_k89_whole_sides" : Str) 919), annotations := none, code := (.ref 632), closureTuple := .none, builtins := 0 }), #[]⟩
def o1_634 (P : Params) : Obj := ⟨(.type "tuple"), none, (.seq #[] 0), #[]⟩
def o1_635 (P : Params) : Obj := ⟨.none, none, (.fields #[]), #[]⟩
def o1_636 (P : Params) : Obj := ⟨.none, none, (.func { name := ("_law_far_apart" : Str), qualname := ("_law_far_apart" : Str), params := defArgs tp69, body := .stmts (defBody tp69), scope := defScope tp69, globals := 0, closure := [], defaults := .none, kwdefaults := .none, doc := .none, pyModule := .none, annotations := none, code := .none, closureTuple := .none, builtins := 0 }), #[]⟩
def o1_637 (P : Params) : Obj := ⟨(.type "code"), none, (.fields #[(.str ("_law_far_apart" : Str) 1031), (.str ("_law_far_apart" : Str) 1032), (.str ("/claim/cut.py" : Str) 1033), (.int 450 0), (.int 2 0), (.int 0 0), (.int 0 0), (.int 3 0), (.ref 634), (.bool true), (.int 181 0), (.ref 635), .none, .none, .none, (.ref 636), (.int 1034 0), (.int 450 0), (.str ("/claim/cut.py" : Str) 1035)]), #[]⟩
def o1_638 (P : Params) : Obj := ⟨(.type "function"), none, (.func { name := ("_law_far_apart" : Str), qualname := ("_law_far_apart" : Str), params := defArgs tp69, body := .stmts (defBody tp69), scope := defScope tp69, globals := 3, closure := [], defaults := .none, kwdefaults := .none, doc := .none, pyModule := (.str ("law_rosterneed_k89_whole_sides" : Str) 919), annotations := none, code := (.ref 637), closureTuple := .none, builtins := 0 }), #[]⟩
def o1_639 (P : Params) : Obj := ⟨(.type "tuple"), none, (.seq #[] 0), #[]⟩
def o1_640 (P : Params) : Obj := ⟨.none, none, (.fields #[]), #[]⟩
def o1_641 (P : Params) : Obj := ⟨(.type "tuple"), none, (.seq #[(.str ("call" : Str) 1040), (.str ("first" : Str) 1041), (.str ("second" : Str) 1042), (.str ("error" : Str) 1043)] 0), #[]⟩
def o1_642 (P : Params) : Obj := ⟨(.type "tuple"), none, (.seq #[] 0), #[]⟩
def o1_643 (P : Params) : Obj := ⟨.none, none, (.func { name := ("_law_refused" : Str), qualname := ("_law_refused" : Str), params := defArgs tp70, body := .stmts (defBody tp70), scope := defScope tp70, globals := 0, closure := [], defaults := .none, kwdefaults := .none, doc := .none, pyModule := .none, annotations := none, code := .none, closureTuple := .none, builtins := 0 }), #[]⟩
def o1_644 (P : Params) : Obj := ⟨(.type "code"), none, (.fields #[(.str ("_law_refused" : Str) 1037), (.str ("_law_refused" : Str) 1038), (.str ("/claim/cut.py" : Str) 1039), (.int 457 0), (.int 3 0), (.int 0 0), (.int 0 0), (.int 3 0), (.ref 639), (.bool true), (.int 181 0), (.ref 640), .none, (.ref 641), (.ref 642), (.ref 643), (.int 1044 0), (.int 457 0), (.str ("/claim/cut.py" : Str) 1045)]), #[]⟩
def o1_645 (P : Params) : Obj := ⟨(.type "function"), none, (.func { name := ("_law_refused" : Str), qualname := ("_law_refused" : Str), params := defArgs tp70, body := .stmts (defBody tp70), scope := defScope tp70, globals := 3, closure := [], defaults := .none, kwdefaults := .none, doc := .none, pyModule := (.str ("law_rosterneed_k89_whole_sides" : Str) 919), annotations := none, code := (.ref 644), closureTuple := .none, builtins := 0 }), #[]⟩
def o1_646 (P : Params) : Obj := ⟨(.type "tuple"), none, (.seq #[] 0), #[]⟩
def o1_647 (P : Params) : Obj := ⟨.none, none, (.fields #[]), #[]⟩
def o1_648 (P : Params) : Obj := ⟨(.type "tuple"), none, (.seq #[(.str ("source" : Str) 1050), (.str ("more" : Str) 1051), (.str ("high" : Str) 1052), (.str ("told" : Str) 1053)] 0), #[]⟩
def o1_649 (P : Params) : Obj := ⟨(.type "tuple"), none, (.seq #[] 0), #[]⟩
def o1_650 (P : Params) : Obj := ⟨.none, none, (.func { name := ("_law_edge" : Str), qualname := ("_law_edge" : Str), params := defArgs tp71, body := .stmts (defBody tp71), scope := defScope tp71, globals := 0, closure := [], defaults := .none, kwdefaults := .none, doc := .none, pyModule := .none, annotations := none, code := .none, closureTuple := .none, builtins := 0 }), #[]⟩
def o1_651 (P : Params) : Obj := ⟨(.type "code"), none, (.fields #[(.str ("_law_edge" : Str) 1047), (.str ("_law_edge" : Str) 1048), (.str ("/claim/cut.py" : Str) 1049), (.int 468 0), (.int 1 0), (.int 0 0), (.int 0 0), (.int 3 0), (.ref 646), (.bool true), (.int 181 0), (.ref 647), .none, (.ref 648), (.ref 649), (.ref 650), (.int 1054 0), (.int 468 0), (.str ("/claim/cut.py" : Str) 1055)]), #[]⟩
def o1_652 (P : Params) : Obj := ⟨(.type "function"), none, (.func { name := ("_law_edge" : Str), qualname := ("_law_edge" : Str), params := defArgs tp71, body := .stmts (defBody tp71), scope := defScope tp71, globals := 3, closure := [], defaults := .none, kwdefaults := .none, doc := .none, pyModule := (.str ("law_rosterneed_k89_whole_sides" : Str) 919), annotations := none, code := (.ref 651), closureTuple := .none, builtins := 0 }), #[]⟩
def o1_653 (P : Params) : Obj := ⟨(.type "tuple"), none, (.seq #[] 0), #[]⟩
def o1_654 (P : Params) : Obj := ⟨.none, none, (.fields #[]), #[]⟩
def o1_655 (P : Params) : Obj := ⟨.none, none, (.func { name := ("law" : Str), qualname := ("law" : Str), params := defArgs tp72, body := .stmts (defBody tp72), scope := defScope tp72, globals := 0, closure := [], defaults := .none, kwdefaults := .none, doc := .none, pyModule := .none, annotations := none, code := .none, closureTuple := .none, builtins := 0 }), #[]⟩
def o1_656 (P : Params) : Obj := ⟨(.type "code"), none, (.fields #[(.str ("law" : Str) 1057), (.str ("law" : Str) 1058), (.str ("/claim/cut.py" : Str) 1059), (.int 475 0), (.int 1 0), (.int 0 0), (.int 0 0), (.int 3 0), (.ref 653), (.bool true), (.int 181 0), (.ref 654), .none, .none, .none, (.ref 655), (.int 1060 0), (.int 475 0), (.str ("/claim/cut.py" : Str) 1061)]), #[]⟩
def o1_657 (P : Params) : Obj := ⟨(.type "function"), none, (.func { name := ("law" : Str), qualname := ("law" : Str), params := defArgs tp72, body := .stmts (defBody tp72), scope := defScope tp72, globals := 3, closure := [], defaults := .none, kwdefaults := .none, doc := .none, pyModule := (.str ("law_rosterneed_k89_whole_sides" : Str) 919), annotations := none, code := (.ref 656), closureTuple := .none, builtins := 0 }), #[]⟩
def t1 (P : Params) : BT := (.node (boot_o_0 P) (.node (boot_o_1 P) (.node (o1_3 P) (.node (boot_o_7 P) (.node (o0_15 P) (.node (o0_31 P) (.node (o0_63 P) (.node (o0_127 P) (.node (o0_255 P) (.node (o1_511 P) .nil .nil) .nil) (.node (o1_383 P) (.node (o1_639 P) .nil .nil) .nil)) (.node (o0_191 P) (.node (o1_319 P) (.node (o1_575 P) .nil .nil) .nil) (.node (o1_447 P) .nil .nil))) (.node (o0_95 P) (.node (o0_159 P) (.node (o0_287 P) (.node (o1_543 P) .nil .nil) .nil) (.node (o1_415 P) .nil .nil)) (.node (o0_223 P) (.node (o1_351 P) (.node (o1_607 P) .nil .nil) .nil) (.node (o1_479 P) .nil .nil)))) (.node (o0_47 P) (.node (o0_79 P) (.node (o0_143 P) (.node (o0_271 P) (.node (o1_527 P) .nil .nil) .nil) (.node (o1_399 P) (.node (o1_655 P) .nil .nil) .nil)) (.node (o0_207 P) (.node (o1_335 P) (.node (o1_591 P) .nil .nil) .nil) (.node (o1_463 P) .nil .nil))) (.node (o0_111 P) (.node (o0_175 P) (.node (o0_303 P) (.node (o1_559 P) .nil .nil) .nil) (.node (o1_431 P) .nil .nil)) (.node (o0_239 P) (.node (o1_367 P) (.node (o1_623 P) .nil .nil) .nil) (.node (o1_495 P) .nil .nil))))) (.node (o0_23 P) (.node (o0_39 P) (.node (o0_71 P) (.node (o0_135 P) (.node (o0_263 P) (.node (o1_519 P) .nil .nil) .nil) (.node (o1_391 P) (.node (o1_647 P) .nil .nil) .nil)) (.node (o0_199 P) (.node (o1_327 P) (.node (o1_583 P) .nil .nil) .nil) (.node (o1_455 P) .nil .nil))) (.node (o0_103 P) (.node (o0_167 P) (.node (o0_295 P) (.node (o1_551 P) .nil .nil) .nil) (.node (o1_423 P) .nil .nil)) (.node (o0_231 P) (.node (o1_359 P) (.node (o1_615 P) .nil .nil) .nil) (.node (o1_487 P) .nil .nil)))) (.node (o0_55 P) (.node (o0_87 P) (.node (o0_151 P) (.node (o0_279 P) (.node (o1_535 P) .nil .nil) .nil) (.node (o1_407 P) .nil .nil)) (.node (o0_215 P) (.node (o1_343 P) (.node (o1_599 P) .nil .nil) .nil) (.node (o1_471 P) .nil .nil))) (.node (o0_119 P) (.node (o0_183 P) (.node (o1_311 P) (.node (o1_567 P) .nil .nil) .nil) (.node (o1_439 P) .nil .nil)) (.node (o0_247 P) (.node (o1_375 P) (.node (o1_631 P) .nil .nil) .nil) (.node (o1_503 P) .nil .nil)))))) (.node (oa_11 P) (.node (o0_19 P) (.node (o0_35 P) (.node (o0_67 P) (.node (o0_131 P) (.node (o0_259 P) (.node (o1_515 P) .nil .nil) .nil) (.node (o1_387 P) (.node (o1_643 P) .nil .nil) .nil)) (.node (o0_195 P) (.node (o1_323 P) (.node (o1_579 P) .nil .nil) .nil) (.node (o1_451 P) .nil .nil))) (.node (o0_99 P) (.node (o0_163 P) (.node (o0_291 P) (.node (o1_547 P) .nil .nil) .nil) (.node (o1_419 P) .nil .nil)) (.node (o0_227 P) (.node (o1_355 P) (.node (o1_611 P) .nil .nil) .nil) (.node (o1_483 P) .nil .nil)))) (.node (o0_51 P) (.node (o0_83 P) (.node (o0_147 P) (.node (o0_275 P) (.node (o1_531 P) .nil .nil) .nil) (.node (o1_403 P) .nil .nil)) (.node (o0_211 P) (.node (o1_339 P) (.node (o1_595 P) .nil .nil) .nil) (.node (o1_467 P) .nil .nil))) (.node (o0_115 P) (.node (o0_179 P) (.node (o1_307 P) (.node (o1_563 P) .nil .nil) .nil) (.node (o1_435 P) .nil .nil)) (.node (o0_243 P) (.node (o1_371 P) (.node (o1_627 P) .nil .nil) .nil) (.node (o1_499 P) .nil .nil))))) (.node (o0_27 P) (.node (o0_43 P) (.node (o0_75 P) (.node (o0_139 P) (.node (o0_267 P) (.node (o1_523 P) .nil .nil) .nil) (.node (o1_395 P) (.node (o1_651 P) .nil .nil) .nil)) (.node (o0_203 P) (.node (o1_331 P) (.node (o1_587 P) .nil .nil) .nil) (.node (o1_459 P) .nil .nil))) (.node (o0_107 P) (.node (o0_171 P) (.node (o0_299 P) (.node (o1_555 P) .nil .nil) .nil) (.node (o1_427 P) .nil .nil)) (.node (o0_235 P) (.node (o1_363 P) (.node (o1_619 P) .nil .nil) .nil) (.node (o1_491 P) .nil .nil)))) (.node (o0_59 P) (.node (o0_91 P) (.node (o0_155 P) (.node (o0_283 P) (.node (o1_539 P) .nil .nil) .nil) (.node (o1_411 P) .nil .nil)) (.node (o0_219 P) (.node (o1_347 P) (.node (o1_603 P) .nil .nil) .nil) (.node (o1_475 P) .nil .nil))) (.node (o0_123 P) (.node (o0_187 P) (.node (o1_315 P) (.node (o1_571 P) .nil .nil) .nil) (.node (o1_443 P) .nil .nil)) (.node (o0_251 P) (.node (o1_379 P) (.node (o1_635 P) .nil .nil) .nil) (.node (o1_507 P) .nil .nil))))))) (.node (boot_o_5 P) (.node (boot_o_9 P) (.node (o0_17 P) (.node (o0_33 P) (.node (o0_65 P) (.node (o0_129 P) (.node (o0_257 P) (.node (o1_513 P) .nil .nil) .nil) (.node (o1_385 P) (.node (o1_641 P) .nil .nil) .nil)) (.node (o0_193 P) (.node (o1_321 P) (.node (o1_577 P) .nil .nil) .nil) (.node (o1_449 P) .nil .nil))) (.node (o0_97 P) (.node (o0_161 P) (.node (o0_289 P) (.node (o1_545 P) .nil .nil) .nil) (.node (o1_417 P) .nil .nil)) (.node (o0_225 P) (.node (o1_353 P) (.node (o1_609 P) .nil .nil) .nil) (.node (o1_481 P) .nil .nil)))) (.node (o0_49 P) (.node (o0_81 P) (.node (o0_145 P) (.node (o0_273 P) (.node (o1_529 P) .nil .nil) .nil) (.node (o1_401 P) (.node (o1_657 P) .nil .nil) .nil)) (.node (o0_209 P) (.node (o1_337 P) (.node (o1_593 P) .nil .nil) .nil) (.node (o1_465 P) .nil .nil))) (.node (o0_113 P) (.node (o0_177 P) (.node (o0_305 P) (.node (o1_561 P) .nil .nil) .nil) (.node (o1_433 P) .nil .nil)) (.node (o0_241 P) (.node (o1_369 P) (.node (o1_625 P) .nil .nil) .nil) (.node (o1_497 P) .nil .nil))))) (.node (o0_25 P) (.node (o0_41 P) (.node (o0_73 P) (.node (o0_137 P) (.node (o0_265 P) (.node (o1_521 P) .nil .nil) .nil) (.node (o1_393 P) (.node (o1_649 P) .nil .nil) .nil)) (.node (o0_201 P) (.node (o1_329 P) (.node (o1_585 P) .nil .nil) .nil) (.node (o1_457 P) .nil .nil))) (.node (o0_105 P) (.node (o0_169 P) (.node (o0_297 P) (.node (o1_553 P) .nil .nil) .nil) (.node (o1_425 P) .nil .nil)) (.node (o0_233 P) (.node (o1_361 P) (.node (o1_617 P) .nil .nil) .nil) (.node (o1_489 P) .nil .nil)))) (.node (o0_57 P) (.node (o0_89 P) (.node (o0_153 P) (.node (o0_281 P) (.node (o1_537 P) .nil .nil) .nil) (.node (o1_409 P) .nil .nil)) (.node (o0_217 P) (.node (o1_345 P) (.node (o1_601 P) .nil .nil) .nil) (.node (o1_473 P) .nil .nil))) (.node (o0_121 P) (.node (o0_185 P) (.node (o1_313 P) (.node (o1_569 P) .nil .nil) .nil) (.node (o1_441 P) .nil .nil)) (.node (o0_249 P) (.node (o1_377 P) (.node (o1_633 P) .nil .nil) .nil) (.node (o1_505 P) .nil .nil)))))) (.node (oa_13 P) (.node (o0_21 P) (.node (o0_37 P) (.node (o0_69 P) (.node (o0_133 P) (.node (o0_261 P) (.node (o1_517 P) .nil .nil) .nil) (.node (o1_389 P) (.node (o1_645 P) .nil .nil) .nil)) (.node (o0_197 P) (.node (o1_325 P) (.node (o1_581 P) .nil .nil) .nil) (.node (o1_453 P) .nil .nil))) (.node (o0_101 P) (.node (o0_165 P) (.node (o0_293 P) (.node (o1_549 P) .nil .nil) .nil) (.node (o1_421 P) .nil .nil)) (.node (o0_229 P) (.node (o1_357 P) (.node (o1_613 P) .nil .nil) .nil) (.node (o1_485 P) .nil .nil)))) (.node (o0_53 P) (.node (o0_85 P) (.node (o0_149 P) (.node (o0_277 P) (.node (o1_533 P) .nil .nil) .nil) (.node (o1_405 P) .nil .nil)) (.node (o0_213 P) (.node (o1_341 P) (.node (o1_597 P) .nil .nil) .nil) (.node (o1_469 P) .nil .nil))) (.node (o0_117 P) (.node (o0_181 P) (.node (o1_309 P) (.node (o1_565 P) .nil .nil) .nil) (.node (o1_437 P) .nil .nil)) (.node (o0_245 P) (.node (o1_373 P) (.node (o1_629 P) .nil .nil) .nil) (.node (o1_501 P) .nil .nil))))) (.node (o0_29 P) (.node (o0_45 P) (.node (o0_77 P) (.node (o0_141 P) (.node (o0_269 P) (.node (o1_525 P) .nil .nil) .nil) (.node (o1_397 P) (.node (o1_653 P) .nil .nil) .nil)) (.node (o0_205 P) (.node (o1_333 P) (.node (o1_589 P) .nil .nil) .nil) (.node (o1_461 P) .nil .nil))) (.node (o0_109 P) (.node (o0_173 P) (.node (o1_301 P) (.node (o1_557 P) .nil .nil) .nil) (.node (o1_429 P) .nil .nil)) (.node (o0_237 P) (.node (o1_365 P) (.node (o1_621 P) .nil .nil) .nil) (.node (o1_493 P) .nil .nil)))) (.node (o0_61 P) (.node (o0_93 P) (.node (o0_157 P) (.node (o0_285 P) (.node (o1_541 P) .nil .nil) .nil) (.node (o1_413 P) .nil .nil)) (.node (o0_221 P) (.node (o1_349 P) (.node (o1_605 P) .nil .nil) .nil) (.node (o1_477 P) .nil .nil))) (.node (o0_125 P) (.node (o0_189 P) (.node (o1_317 P) (.node (o1_573 P) .nil .nil) .nil) (.node (o1_445 P) .nil .nil)) (.node (o0_253 P) (.node (o1_381 P) (.node (o1_637 P) .nil .nil) .nil) (.node (o1_509 P) .nil .nil)))))))) (.node (boot_o_2 P) (.node (boot_o_4 P) (.node (boot_o_8 P) (.node (o0_16 P) (.node (o0_32 P) (.node (o0_64 P) (.node (o0_128 P) (.node (o0_256 P) (.node (o1_512 P) .nil .nil) .nil) (.node (o1_384 P) (.node (o1_640 P) .nil .nil) .nil)) (.node (o0_192 P) (.node (o1_320 P) (.node (o1_576 P) .nil .nil) .nil) (.node (o1_448 P) .nil .nil))) (.node (o0_96 P) (.node (o0_160 P) (.node (o0_288 P) (.node (o1_544 P) .nil .nil) .nil) (.node (o1_416 P) .nil .nil)) (.node (o0_224 P) (.node (o1_352 P) (.node (o1_608 P) .nil .nil) .nil) (.node (o1_480 P) .nil .nil)))) (.node (o0_48 P) (.node (o0_80 P) (.node (o0_144 P) (.node (o0_272 P) (.node (o1_528 P) .nil .nil) .nil) (.node (o1_400 P) (.node (o1_656 P) .nil .nil) .nil)) (.node (o0_208 P) (.node (o1_336 P) (.node (o1_592 P) .nil .nil) .nil) (.node (o1_464 P) .nil .nil))) (.node (o0_112 P) (.node (o0_176 P) (.node (o0_304 P) (.node (o1_560 P) .nil .nil) .nil) (.node (o1_432 P) .nil .nil)) (.node (o0_240 P) (.node (o1_368 P) (.node (o1_624 P) .nil .nil) .nil) (.node (o1_496 P) .nil .nil))))) (.node (o0_24 P) (.node (o0_40 P) (.node (o0_72 P) (.node (o0_136 P) (.node (o0_264 P) (.node (o1_520 P) .nil .nil) .nil) (.node (o1_392 P) (.node (o1_648 P) .nil .nil) .nil)) (.node (o0_200 P) (.node (o1_328 P) (.node (o1_584 P) .nil .nil) .nil) (.node (o1_456 P) .nil .nil))) (.node (o0_104 P) (.node (o0_168 P) (.node (o0_296 P) (.node (o1_552 P) .nil .nil) .nil) (.node (o1_424 P) .nil .nil)) (.node (o0_232 P) (.node (o1_360 P) (.node (o1_616 P) .nil .nil) .nil) (.node (o1_488 P) .nil .nil)))) (.node (o0_56 P) (.node (o0_88 P) (.node (o0_152 P) (.node (o0_280 P) (.node (o1_536 P) .nil .nil) .nil) (.node (o1_408 P) .nil .nil)) (.node (o0_216 P) (.node (o1_344 P) (.node (o1_600 P) .nil .nil) .nil) (.node (o1_472 P) .nil .nil))) (.node (o0_120 P) (.node (o0_184 P) (.node (o1_312 P) (.node (o1_568 P) .nil .nil) .nil) (.node (o1_440 P) .nil .nil)) (.node (o0_248 P) (.node (o1_376 P) (.node (o1_632 P) .nil .nil) .nil) (.node (o1_504 P) .nil .nil)))))) (.node (o1_12 P) (.node (o0_20 P) (.node (o0_36 P) (.node (o0_68 P) (.node (o0_132 P) (.node (o0_260 P) (.node (o1_516 P) .nil .nil) .nil) (.node (o1_388 P) (.node (o1_644 P) .nil .nil) .nil)) (.node (o0_196 P) (.node (o1_324 P) (.node (o1_580 P) .nil .nil) .nil) (.node (o1_452 P) .nil .nil))) (.node (o0_100 P) (.node (o0_164 P) (.node (o0_292 P) (.node (o1_548 P) .nil .nil) .nil) (.node (o1_420 P) .nil .nil)) (.node (o0_228 P) (.node (o1_356 P) (.node (o1_612 P) .nil .nil) .nil) (.node (o1_484 P) .nil .nil)))) (.node (o0_52 P) (.node (o0_84 P) (.node (o0_148 P) (.node (o0_276 P) (.node (o1_532 P) .nil .nil) .nil) (.node (o1_404 P) .nil .nil)) (.node (o0_212 P) (.node (o1_340 P) (.node (o1_596 P) .nil .nil) .nil) (.node (o1_468 P) .nil .nil))) (.node (o0_116 P) (.node (o0_180 P) (.node (o1_308 P) (.node (o1_564 P) .nil .nil) .nil) (.node (o1_436 P) .nil .nil)) (.node (o0_244 P) (.node (o1_372 P) (.node (o1_628 P) .nil .nil) .nil) (.node (o1_500 P) .nil .nil))))) (.node (o0_28 P) (.node (o0_44 P) (.node (o0_76 P) (.node (o0_140 P) (.node (o0_268 P) (.node (o1_524 P) .nil .nil) .nil) (.node (o1_396 P) (.node (o1_652 P) .nil .nil) .nil)) (.node (o0_204 P) (.node (o1_332 P) (.node (o1_588 P) .nil .nil) .nil) (.node (o1_460 P) .nil .nil))) (.node (o0_108 P) (.node (o0_172 P) (.node (o0_300 P) (.node (o1_556 P) .nil .nil) .nil) (.node (o1_428 P) .nil .nil)) (.node (o0_236 P) (.node (o1_364 P) (.node (o1_620 P) .nil .nil) .nil) (.node (o1_492 P) .nil .nil)))) (.node (o0_60 P) (.node (o0_92 P) (.node (o0_156 P) (.node (o0_284 P) (.node (o1_540 P) .nil .nil) .nil) (.node (o1_412 P) .nil .nil)) (.node (o0_220 P) (.node (o1_348 P) (.node (o1_604 P) .nil .nil) .nil) (.node (o1_476 P) .nil .nil))) (.node (o0_124 P) (.node (o0_188 P) (.node (o1_316 P) (.node (o1_572 P) .nil .nil) .nil) (.node (o1_444 P) .nil .nil)) (.node (o0_252 P) (.node (o1_380 P) (.node (o1_636 P) .nil .nil) .nil) (.node (o1_508 P) .nil .nil))))))) (.node (boot_o_6 P) (.node (boot_o_10 P) (.node (o0_18 P) (.node (o0_34 P) (.node (o0_66 P) (.node (o0_130 P) (.node (o0_258 P) (.node (o1_514 P) .nil .nil) .nil) (.node (o1_386 P) (.node (o1_642 P) .nil .nil) .nil)) (.node (o0_194 P) (.node (o1_322 P) (.node (o1_578 P) .nil .nil) .nil) (.node (o1_450 P) .nil .nil))) (.node (o0_98 P) (.node (o0_162 P) (.node (o0_290 P) (.node (o1_546 P) .nil .nil) .nil) (.node (o1_418 P) .nil .nil)) (.node (o0_226 P) (.node (o1_354 P) (.node (o1_610 P) .nil .nil) .nil) (.node (o1_482 P) .nil .nil)))) (.node (o0_50 P) (.node (o0_82 P) (.node (o0_146 P) (.node (o0_274 P) (.node (o1_530 P) .nil .nil) .nil) (.node (o1_402 P) .nil .nil)) (.node (o0_210 P) (.node (o1_338 P) (.node (o1_594 P) .nil .nil) .nil) (.node (o1_466 P) .nil .nil))) (.node (o0_114 P) (.node (o0_178 P) (.node (o1_306 P) (.node (o1_562 P) .nil .nil) .nil) (.node (o1_434 P) .nil .nil)) (.node (o0_242 P) (.node (o1_370 P) (.node (o1_626 P) .nil .nil) .nil) (.node (o1_498 P) .nil .nil))))) (.node (o0_26 P) (.node (o0_42 P) (.node (o0_74 P) (.node (o0_138 P) (.node (o0_266 P) (.node (o1_522 P) .nil .nil) .nil) (.node (o1_394 P) (.node (o1_650 P) .nil .nil) .nil)) (.node (o0_202 P) (.node (o1_330 P) (.node (o1_586 P) .nil .nil) .nil) (.node (o1_458 P) .nil .nil))) (.node (o0_106 P) (.node (o0_170 P) (.node (o0_298 P) (.node (o1_554 P) .nil .nil) .nil) (.node (o1_426 P) .nil .nil)) (.node (o0_234 P) (.node (o1_362 P) (.node (o1_618 P) .nil .nil) .nil) (.node (o1_490 P) .nil .nil)))) (.node (o0_58 P) (.node (o0_90 P) (.node (o0_154 P) (.node (o0_282 P) (.node (o1_538 P) .nil .nil) .nil) (.node (o1_410 P) .nil .nil)) (.node (o0_218 P) (.node (o1_346 P) (.node (o1_602 P) .nil .nil) .nil) (.node (o1_474 P) .nil .nil))) (.node (o0_122 P) (.node (o0_186 P) (.node (o1_314 P) (.node (o1_570 P) .nil .nil) .nil) (.node (o1_442 P) .nil .nil)) (.node (o0_250 P) (.node (o1_378 P) (.node (o1_634 P) .nil .nil) .nil) (.node (o1_506 P) .nil .nil)))))) (.node (oa_14 P) (.node (o0_22 P) (.node (o0_38 P) (.node (o0_70 P) (.node (o0_134 P) (.node (o0_262 P) (.node (o1_518 P) .nil .nil) .nil) (.node (o1_390 P) (.node (o1_646 P) .nil .nil) .nil)) (.node (o0_198 P) (.node (o1_326 P) (.node (o1_582 P) .nil .nil) .nil) (.node (o1_454 P) .nil .nil))) (.node (o0_102 P) (.node (o0_166 P) (.node (o0_294 P) (.node (o1_550 P) .nil .nil) .nil) (.node (o1_422 P) .nil .nil)) (.node (o0_230 P) (.node (o1_358 P) (.node (o1_614 P) .nil .nil) .nil) (.node (o1_486 P) .nil .nil)))) (.node (o0_54 P) (.node (o0_86 P) (.node (o0_150 P) (.node (o0_278 P) (.node (o1_534 P) .nil .nil) .nil) (.node (o1_406 P) .nil .nil)) (.node (o0_214 P) (.node (o1_342 P) (.node (o1_598 P) .nil .nil) .nil) (.node (o1_470 P) .nil .nil))) (.node (o0_118 P) (.node (o0_182 P) (.node (o1_310 P) (.node (o1_566 P) .nil .nil) .nil) (.node (o1_438 P) .nil .nil)) (.node (o0_246 P) (.node (o1_374 P) (.node (o1_630 P) .nil .nil) .nil) (.node (o1_502 P) .nil .nil))))) (.node (o0_30 P) (.node (o0_46 P) (.node (o0_78 P) (.node (o0_142 P) (.node (o0_270 P) (.node (o1_526 P) .nil .nil) .nil) (.node (o1_398 P) (.node (o1_654 P) .nil .nil) .nil)) (.node (o0_206 P) (.node (o1_334 P) (.node (o1_590 P) .nil .nil) .nil) (.node (o1_462 P) .nil .nil))) (.node (o0_110 P) (.node (o0_174 P) (.node (o0_302 P) (.node (o1_558 P) .nil .nil) .nil) (.node (o1_430 P) .nil .nil)) (.node (o0_238 P) (.node (o1_366 P) (.node (o1_622 P) .nil .nil) .nil) (.node (o1_494 P) .nil .nil)))) (.node (o0_62 P) (.node (o0_94 P) (.node (o0_158 P) (.node (o0_286 P) (.node (o1_542 P) .nil .nil) .nil) (.node (o1_414 P) .nil .nil)) (.node (o0_222 P) (.node (o1_350 P) (.node (o1_606 P) .nil .nil) .nil) (.node (o1_478 P) .nil .nil))) (.node (o0_126 P) (.node (o0_190 P) (.node (o1_318 P) (.node (o1_574 P) .nil .nil) .nil) (.node (o1_446 P) .nil .nil)) (.node (o0_254 P) (.node (o1_382 P) (.node (o1_638 P) .nil .nil) .nil) (.node (o1_510 P) .nil .nil)))))))))
def S1 (w : World) (os : OsState) : SharedT := ⟨t1 w.params, 658, {}, #[], {}, 1063, os⟩
def p1 : Pos := ⟨475, 0, 515, 100⟩

def tz (P : Params) : BT := (.node (boot_o_0 P) (.node (boot_o_1 P) (.node (boot_o_3 P) (.node (boot_o_7 P) .nil .nil) .nil) (.node (boot_o_5 P) (.node (boot_o_9 P) .nil .nil) .nil)) (.node (boot_o_2 P) (.node (boot_o_4 P) (.node (boot_o_8 P) .nil .nil) .nil) (.node (boot_o_6 P) (.node (boot_o_10 P) .nil .nil) .nil)))
def Sz (w : World) (os : OsState) : SharedT := ⟨tz w.params, 11, (boot_heap w.params).life, #[], boot_drawn, boot_toks, os⟩
theorem hSz (w : World) (os : OsState) : (Sz w os).abs = ⟨boot_heap w.params, #[], boot_drawn, boot_toks, os⟩ := by
  show (⟨absHeap (tz w.params) 11 (boot_heap w.params).life, #[], boot_drawn, boot_toks, os⟩ : Shared) = _
  rw [putAll_heap (h := boot_heap w.params) (by kernel_rfl)]
theorem hn0 (w : World) : (boot_heap w.params).objs.size = 11 := by kernel_rfl
def annC : Option Value := (some (.ref 6))
theorem hann (w : World) : bootAnn w = annC := by kernel_rfl
def qC : Pos := ⟨0, 0, 0, 0⟩
def bodyC : List Stmt := behindTheImports prg
def envC : PySem.Env := { scope := prg.main.scope, locals := mainNs, globals := mainNs, cells := [], code := (.ref 13), frame := some 14 }
abbrev cC : Code := .body bodyC envC
abbrev stC (w : World) := stepQ (denQ tabQ) prg w
theorem h_pre (w : World) (os : OsState) : HC.gpF (stC w) 11 annC 12 (Sz w os) (topStub prg) = some (Sa w os, ⟨denQ tabQ cC, cC, pa, [topFrame qC]⟩) := by kernel_rfl
theorem h_blk (w : World) (os : OsState) : HC.gsF (stC w) 11 annC 1 (Sa w os) (HC.blockQ bodyC envC cC pa [topFrame qC]) = some (.next, Sb w os, cC, pb) := by kernel_rfl
def rst0 : List Stmt := bodyC.drop 0
def sts0 : List Stmt := rst0.take 37
theorem h_0 (w : World) (os : OsState) : HC.gsF (stC w) 11 annC 2486 (Sb w os) (HC.piecesQ sts0 envC cC pb [topFrame qC]) = some (.next, S0 w os, cC, p0) := by kernel_rfl
def rst1 : List Stmt := bodyC.drop 37
def sts1 : List Stmt := rst1.take 36
theorem h_1 (w : World) (os : OsState) : HC.gsF (stC w) 11 annC 2428 (S0 w os) (HC.piecesQ sts1 envC cC p0 [topFrame qC]) = some (.next, S1 w os, cC, p1) := by kernel_rfl
theorem h_fin (w : World) (os : OsState) : goF (stC w) 11 annC 2 (S1 w os) ⟨doneF .next, cC, p1, [topFrame qC]⟩ = some (S1 w os) := by kernel_rfl
def stepsC : Nat := 12 + (1 + (2486 + (2428 + 2)))
theorem h_run (w : World) (os : OsState) : topRun treeTable prg w 11 annC stepsC (Sz w os).abs (topStub prg) = some (S1 w os).abs := by
  refine HC.pre_of (h_pre w os) ?_
  refine HC.start_of (h_blk w os) ?_
  rw [show bodyC = rst0 from rfl]
  rw [show rst0 = sts0 ++ rst1 by exact (List.take_append_drop 37 rst0).symm.trans (congrArg _ (by unfold rst0 rst1; rw [List.drop_drop]))]
  refine HC.chunk_of (h_0 w os) ?_
  rw [show rst1 = sts1 ++ [] by rw [List.append_nil]; kernel_rfl]
  refine HC.chunk_of (h_1 w os) ?_
  exact HC.fin_of (h_fin w os)
abbrev Sl := S1
theorem h_look (w : World) (os : OsState) : (looksF R.prog (boot_heap w.params) (Sl w os).abs, seenQ (PySem.W.view R.prog [72]) nmL (importedModules R.prog.main.body) (fun s => xlAt (PySem.W.view R.prog [72]) [] s && recOk R.toRowW.records s) (Sl w os).abs, ob (Sl w os)) = (true, openGood (PySem.W.view R.prog [72]) nmL, hk.val w) := by kernel_rfl
end HD
end
end
end M

namespace M
open PySem PySem.Spec PyProof.Rows L2 Evl MS
local macro_rules | `(tactic| walk_at "ex") => `(tactic| first
  | exact Ex.refl _ | with_reducible assumption | (refine' Ex.trans ?a ?b; (case b => with_reducible assumption); (case a => walk_at "ex")))
local macro_rules | `(tactic| walk_at "hp") => `(tactic| first
  | with_reducible assumption
  | (with_reducible refine' st_of ?a; (case a => with_reducible assumption))
  | (with_reducible refine' sq_of ?a; (case a => with_reducible assumption))
  | (with_reducible refine' ex_t ?a ?b; (case a => with_reducible assumption); (case b => walk_at "hp"))
  | (with_reducible refine' ex_l ?a ?b; (case a => with_reducible assumption); (case b => walk_at "hp"))
  | (with_reducible refine' ex_e ?a ?b; (case a => with_reducible assumption); (case b => walk_at "hp")))
local macro_rules | `(tactic| walk_at "om") => `(tactic| first
  | with_reducible assumption | omega | (simp only [List.length_map, List.length_nil, List.length_cons, List.length_append, List.length_range] <;> omega))
local macro_rules | `(tactic| walk_at "sz") => `(tactic| first
  | (refine sz_of ?_; omega) | exact sz_of (by simp only [List.length_map, List.length_nil, List.length_cons, List.length_append, List.length_range] <;> omega))
local macro_rules | `(tactic| walk_at "ty") => `(tactic| first
  | exact .base (.int _) | exact .base .non | exact .base (.bl _) | exact .base (.str _) | (with_reducible refine' SqT.ty ?a; (case a => walk_at "hp")) | (with_reducible refine' SqL.ty ?a; (case a => walk_at "hp")) | (with_reducible refine' dp_ty ?a; (case a => with_reducible assumption)))
local macro_rules | `(tactic| walk_at "vv") => `(tactic| first | refine w_v0 ?_ | refine w_v1 ?_ | refine w_v2 ?_ | refine w_v3 ?_ | refine w_v4 ?_ | refine w_v5 ?_ | refine w_v6 ?_ | refine w_v7 ?_ | refine w_v8 ?_ | refine w_v9 ?_ | refine w_v10 ?_ | refine w_v11 ?_ | refine w_v12 ?_ | refine w_v13 ?_ | refine w_v14 ?_ | refine w_v15 ?_)
local macro_rules | `(tactic| walk_at "nn") => `(tactic| first | refine w_n0 ?_ | refine w_n1 ?_ | refine w_n2 ?_ | refine w_n3 ?_ | refine w_n4 ?_ | refine w_n5 ?_ | refine w_n6 ?_ | refine w_n7 ?_ | refine w_n8 ?_ | refine w_n9 ?_ | refine w_n10 ?_ | refine w_n11 ?_ | refine w_n12 ?_ | refine w_n13 ?_ | refine w_n14 ?_ | refine w_n15 ?_)
local macro_rules | `(tactic| walk_at "w1") => `(tactic| with_reducible first
  | refine w_cons ?_ | (refine w_vv ?_; walk_at "vv") | refine w_nil ?_ | refine w_op ?_ | refine w_c ?_ | refine w_cb ?_ | refine w_seq ?_ | refine w_asg ?_ | (refine w_nn ?_; walk_at "nn")
  | refine w_test ?_ | refine w_exbl2 ?_ | refine w_ifS ?_ | refine w_ret ?_
  | refine w_call ?_ | refine w_call1 ?_ | refine w_call2 ?_ | refine w_call3 ?_
  | refine w_and ?_ | refine w_or ?_ | refine w_not ?_ | refine w_andV ?_ | refine w_orV ?_ | refine w_notV ?_ | refine w_ifE ?_ | refine w_un ?_ | refine w_tB ?_ | refine w_tru ?_ | refine r_truB ?_ | refine r_truI ?_
  | refine w_tup ?_ | refine w_lst ?_ | refine w_sl ?_ | refine w_part ?_ | refine w_noPart ?_ | refine w_exint ?_ | refine w_drop ?_ | refine w_next ?_ | refine w_yes ?_
  | refine w_gcons ?_ | refine w_gnil ?_ | refine iteT ?_ | refine iteF ?_
  | refine w_lcJ ?_ | refine w_forJ ?_ | refine i_r1 ?_ | refine i_r2 ?_ | refine w_fld ?_ | refine w_fldS ?_ | refine w_prop ?_ | refine w_meth ?_ | refine w_make ?_ | refine w_callO ?_ | refine w_callOI ?_ | refine w_bm ?_ | refine w_retN ?_ | refine w_chain ?_ | refine w_break ?_ | refine w_gsub ?_ | refine w_par ?_ | refine w_call4 ?_ | refine w_call5 ?_)
local macro_rules | `(tactic| walk_at "w2") => `(tactic| first
  | with_reducible (first | refine r_addI ?_ | refine r_subI ?_ | refine r_eqI ?_ | refine r_neI ?_ | refine r_lt ?_ | refine r_le ?_ | refine r_gt ?_ | refine r_ge ?_ | refine r_neg ?_)
  | with_reducible (first | refine r_eqO ?_ | refine r_neO ?_ | refine r_eqB ?_ | refine r_isO ?_ | refine r_isNotO ?_ | refine r_isI ?_ | refine r_isN ?_ | refine r_isR ?_ | refine r_isNotI ?_ | refine r_isNotN ?_ | refine r_isNotR ?_)
  | with_reducible (first | refine r_int ?_ | refine r_abs ?_ | refine r_max2 ?_ | refine r_min2 ?_ | refine r_boolB ?_)
  | ((with_reducible refine' r_lenTI ?a ?q); (case a => walk_at "hp"))
  | ((with_reducible refine' r_lenLI ?a ?q); (case a => walk_at "hp"))
  | ((with_reducible refine' r_lenT ?a ?q); (case a => walk_at "hp"))
  | ((with_reducible refine' r_lenL ?a ?q); (case a => walk_at "hp"))
  | ((with_reducible refine' w_gtup ?a ?b ?q); (case a => walk_at "hp"); (case b => rfl))
  | ((with_reducible refine' r_modI ?a ?q); (case a => walk_at "om"))
  | ((with_reducible refine' r_divI ?a ?b ?q); (case a => walk_at "om"); (case b => walk_at "om"))
  | ((with_reducible refine' r_ixTI ?a ?b ?c ?q); (case a => walk_at "hp"); (case b => walk_at "om"); (case c => walk_at "om"))
  | ((with_reducible refine' r_ixTN ?a ?b ?c ?q); (case a => walk_at "hp"); (case b => walk_at "om"); (case c => walk_at "om"))
  | ((with_reducible refine' r_ixLI ?a ?b ?c ?q); (case a => walk_at "hp"); (case b => walk_at "om"); (case c => walk_at "om"))
  | ((with_reducible refine' r_ixLN ?a ?b ?c ?q); (case a => walk_at "hp"); (case b => walk_at "om"); (case c => walk_at "om"))
  | ((with_reducible refine' r_lenEI ?a ?q); (case a => walk_at "hp"))
  | ((with_reducible refine' r_ixEI ?a ?b ?c ?q); (case a => walk_at "hp"); (case b => walk_at "om"); (case c => walk_at "om"))
  | ((with_reducible refine' r_ixEN ?a ?b ?c ?q); (case a => walk_at "hp"); (case b => walk_at "om"); (case c => walk_at "om"))
  | ((with_reducible refine' r_ixT ?a ?b ?q); (case a => walk_at "hp"); (case b => exact rfl))
  | ((with_reducible refine' r_ixL ?a ?b ?q); (case a => walk_at "hp"); (case b => exact rfl))
  | ((with_reducible refine' r_shr ?a ?q); (case a => walk_at "om"))
  | ((with_reducible refine' r_pow ?a ?q); (case a => (exact ⟨by decide, by decide, by decide⟩)))
  | ((with_reducible refine' r_bmL ?a ?q); (case a => walk_at "hp"))
  | ((with_reducible refine' r_mulI ?a ?q); (case a => first | (left; walk_at "om") | (right; walk_at "om")))
  | ((with_reducible refine' r_eqT ?a ?b ?q); (case a => walk_at "hp"); (case b => walk_at "hp"))
  | ((with_reducible refine' r_neT ?a ?b ?q); (case a => walk_at "hp"); (case b => walk_at "hp"))
  | ((with_reducible refine' i_x1 ?a ?q); (case a => omega))
  | ((with_reducible refine' i_x2 ?a ?q); (case a => omega))
  | ((with_reducible refine' i_xT ?a ?q); (case a => walk_at "hp"))
  | ((with_reducible refine' i_xL ?a ?q); (case a => walk_at "hp"))
  | ((with_reducible refine' r_slTto ?a ?b ?q); (case a => walk_at "hp"); (case b => walk_at "om"))
  | ((with_reducible refine' r_slTfrom ?a ?b ?q); (case a => walk_at "hp"); (case b => walk_at "om"))
  | ((with_reducible refine' r_slLto ?a ?b ?q); (case a => walk_at "hp"); (case b => walk_at "om"))
  | ((with_reducible refine' r_slLfrom ?a ?b ?q); (case a => walk_at "hp"); (case b => walk_at "om"))
  | ((with_reducible refine' r_slLmid ?a ?b ?c ?d ?q); (case a => walk_at "hp"); (case b => walk_at "om"); (case c => walk_at "om"); (case d => walk_at "om"))
  | ((with_reducible refine' r_tupT ?a ?q); (case a => walk_at "hp"))
  | ((with_reducible refine' r_tupL ?a ?q); (case a => walk_at "hp"))
  | ((with_reducible refine' r_lstT ?a ?q); (case a => walk_at "hp"))
  | ((with_reducible refine' r_lstL ?a ?q); (case a => walk_at "hp"))
  | ((with_reducible refine' w_newT ?a ?q); (case a => walk_at "sz"))
  | ((with_reducible refine' w_newL ?a ?q); (case a => walk_at "sz"))
  | ((with_reducible refine' r_isi (b := true) ?a ?b ?q); (case a => walk_at "ty"); (case b => exact rfl))
  | ((with_reducible refine' r_isi (b := false) ?a ?b ?q); (case a => walk_at "ty"); (case b => exact rfl))
  | ((with_reducible refine' r_isiT (b := true) ?a ?b ?c ?q); (case a => walk_at "hp"); (case b => walk_at "ty"); (case c => exact rfl))
  | ((with_reducible refine' r_isiT (b := false) ?a ?b ?c ?q); (case a => walk_at "hp"); (case b => walk_at "ty"); (case c => exact rfl))
  | ((with_reducible refine' w_dT ?a ?q); (case a => walk_at "om"))
  | ((with_reducible refine' w_dF ?a ?q); (case a => walk_at "om"))
  | ((with_reducible refine' w_nT ?a ?q); (case a => walk_at "om"))
  | ((with_reducible refine' w_nF ?a ?q); (case a => walk_at "om"))
  | ((with_reducible refine' w_bT ?a ?q); (case a => exact rfl))
  | ((with_reducible refine' w_bF ?a ?q); (case a => exact rfl)))
local macro_rules | `(tactic| walk_at "w") => `(tactic| repeat (first | walk_at "w1" | walk_at "w2"))

section
def dIsInt : PyData → Bool
  | .int _ => true
  | _ => false
def dIsCount : PyData → Bool
  | .int i => decide (0 ≤ i)
  | _ => false
def dIsSeq : PyData → Bool
  | .list _ => true
  | .tuple _ => true
  | _ => false
theorem dp_nodict {K : PySem.W.Frag} {H : Hp} {v : V} {x : List (PyData × PyData)} (h : Dp K H v (.dict x)) : False := nomatch h
abbrev N_is_integer : List Str := ["thing"]
theorem sc_is_integer : FnScope N_is_integer ["thing"] (defScope s_is_integer) := ⟨rfl, rfl, rfl, by decide +kernel, rfl, by decide +kernel, by decide +kernel⟩
theorem ok_is_integer {P : Program} {w : World} {K : PySem.W.Frag} {mg : Str → Option Value} {base : Heap} (E : Env P K mg) : Fn P w K mg base CX0 1 "is_integer" (sp1 fun v H Q _ => ∃ d, Dp K H v d ∧ RetD K (.bool (dIsInt d)) H Q) := by
  obtain ⟨fd, F⟩ := E.dd_is_integer
  refine Fn.mk0 F E.g_is_integer sc_is_integer sp1_len (fun _ _ _ _ _ _ us hl => match us, hl with | [_], _ => rfl) (fun cdv A outer s H vs Q X hr h => ?_)
  have nd := sc_is_integer.nd
  obtain ⟨v0, rfl, h⟩ := h
  refine ⟨_, (pss_one (ps_ret (pe_and (pe_callB (kIsi K) (by rfl) E.f_isinstance (by decide +kernel) (pa_cons (pv 0) (pa_cons (pe_bltn (v := .ty "int") (by rfl) E.f_int (by decide +kernel) rfl) pa_nil))) (pe_one (pe_not (pe_callB (kIsi K) (by rfl) E.f_isinstance (by decide +kernel) (pa_cons (pv 0) (pa_cons (pe_bltn (v := .ty "bool") (by rfl) E.f_bool (by decide +kernel) rfl) pa_nil)))))))), ?_⟩
  change (_ : TS) _ [some v0] H
  try dsimp only [cxOf, Cx.nox, Cx.blk]
  obtain ⟨d, hd, k⟩ := h
  cases d with
  | dict x => exact (dp_nodict hd).elim
  | int i => cases hd; walk_at "w"; exact k.bl (by walk_at "ex")
  | _ => cases hd <;> (walk_at "w"; exact k.bl (by walk_at "ex"))
abbrev N_is_count : List Str := ["thing"]
theorem sc_is_count : FnScope N_is_count ["thing"] (defScope s_is_count) := ⟨rfl, rfl, rfl, by decide +kernel, rfl, by decide +kernel, by decide +kernel⟩
theorem ok_is_count {P : Program} {w : World} {K : PySem.W.Frag} {mg : Str → Option Value} {base : Heap} (E : Env P K mg) : Fn P w K mg base CX0 2 "is_count" (sp1 fun v H Q _ => ∃ d, Dp K H v d ∧ RetD K (.bool (dIsCount d)) H Q) := by
  obtain ⟨fd, F⟩ := E.dd_is_count
  refine Fn.mk0 F E.g_is_count sc_is_count sp1_len (fun _ _ _ _ _ _ us hl => match us, hl with | [_], _ => rfl) (fun cdv A outer s H vs Q X hr h => ?_)
  have nd := sc_is_count.nd
  obtain ⟨v0, rfl, h⟩ := h
  refine ⟨_, (pss_one (ps_ret (pe_and (pc (ok_is_integer E) hr (by decide) pass0 rfl (pa_cons (pv 0) pa_nil)) (pe_one (pe_cmpR op_ge (pv 0) (pe_int) (nomark _)))))), ?_⟩
  change (_ : TS) _ [some v0] H
  try dsimp only [cxOf, Cx.nox, Cx.blk]
  obtain ⟨d, hd, k⟩ := h
  walk_at "w"
  refine ⟨d, hd, fun v H1 e1 d1 => ?_⟩
  obtain rfl := dp_toBl d1
  cases d with
  | int i =>
    cases hd
    walk_at "w"
    exact k.bl (by walk_at "ex")
  | _ => walk_at "w"; exact k.bl (by walk_at "ex")
/-- data, or a dict -/
def DpX (K : PySem.W.Frag) (H : Hp) (v : V) (d : PyData) : Prop := Dp K H v d ∨ (d = .dict [] ∧ ∃ a kvs, v = .ref a ∧ H a = some (.dK kvs))
instance {K : PySem.W.Frag} {H : Hp} {v : V} {d : PyData} : Coe (Dp K H v d) (DpX K H v d) := ⟨.inl⟩
abbrev N_is_listed : List Str := ["thing"]
theorem sc_is_listed : FnScope N_is_listed ["thing"] (defScope s_is_listed) := ⟨rfl, rfl, rfl, by decide +kernel, rfl, by decide +kernel, by decide +kernel⟩
theorem ok_is_listed {P : Program} {w : World} {K : PySem.W.Frag} {mg : Str → Option Value} {base : Heap} (E : Env P K mg) : Fn P w K mg base CX0 1 "is_listed" (sp1 fun v H Q _ => ∃ d, DpX K H v d ∧ RetD K (.bool (dIsSeq d)) H Q) := by
  obtain ⟨fd, F⟩ := E.dd_is_listed
  refine Fn.mk0 F E.g_is_listed sc_is_listed sp1_len (fun _ _ _ _ _ _ us hl => match us, hl with | [_], _ => rfl) (fun cdv A outer s H vs Q X hr h => ?_)
  have nd := sc_is_listed.nd
  obtain ⟨v0, rfl, h⟩ := h
  refine ⟨_, (pss_one (ps_ret (pe_callB (kIsiT K) (by rfl) E.f_isinstance (by decide +kernel) (pa_cons (pv 0) (pa_cons (pe_tup (pa_cons (pe_bltn (v := .ty "tuple") (by rfl) E.f_tuple (by decide +kernel) rfl) (pa_cons (pe_bltn (v := .ty "list") (by rfl) E.f_list (by decide +kernel) rfl) pa_nil))) pa_nil))))), ?_⟩
  change (_ : TS) _ [some v0] H
  try dsimp only [cxOf, Cx.nox, Cx.blk]
  obtain ⟨d, hd | ⟨rfl, a, kvs, rfl, hk⟩, k⟩ := h
  case' inr =>
    walk_at "w"
    intro p H1 n1 e1 h1
    refine r_isiT (b := false) h1 (.base (.dK (e1 _ _ hk))) rfl ?_
    exact k.bl (by walk_at "ex")
  cases d with
  | dict x => exact (dp_nodict hd).elim
  | _ => cases hd <;> (walk_at "w"; intro p H1 n1 e1 h1; walk_at "w"; exact k.bl (by walk_at "ex"))

end
section
def endOf (l : List Int) (r : Int) : Option Int := if l = [] ∨ r > 0 then none else some (gI l (l.length - 1))
def vat (h l : List Int) (r p : Int) : Option Int :=
  if p = 0 then some 0 else if p ≤ h.length then some (gI h (p - 1)) else if l = [] then none
  else some (gI l ((p - h.length - 1) % l.length) + r * ((p - h.length - 1) / l.length))
def valueAt (h l : List Int) (r : Int) : Option Int → Option Int
  | none => endOf l r
  | some p => vat h l r p
/-- rises that fit a product -/
def RSm (h l : List Int) (r : Int) : Prop := -1152921504606846976 < r ∧ r < 1152921504606846976 ∧ h.length ≤ 50000 ∧ l.length ≤ 50000
abbrev N_end_of : List Str := ["raw", "head", "loop", "rise"]
theorem sc_end_of : FnScope N_end_of ["raw"] (defScope s_end_of) := ⟨rfl, rfl, rfl, by decide +kernel, rfl, by decide +kernel, by decide +kernel⟩
theorem ok_end_of {P : Program} {w : World} {K : PySem.W.Frag} {mg : Str → Option Value} {base : Heap} (E : Env P K mg) : Fn P w K mg base CX0 1 "end_of" (sp1 fun v H Q _ => ∃ h l r, Dp K H v (dRaw h l r) ∧ RetD K (dOpt (endOf l r)) H Q) := by
  obtain ⟨fd, F⟩ := E.dd_end_of
  refine Fn.mk0 F E.g_end_of sc_end_of sp1_len (fun _ _ _ _ _ _ us hl => match us, hl with | [_], _ => rfl) (fun cdv A outer s H vs Q X hr h => ?_)
  have nd := sc_end_of.nd
  obtain ⟨v0, rfl, h⟩ := h
  refine ⟨_, (pss_cons (ps_asg (pv 0) (kGtup K rfl (pgs_cons (pg_name (i := 1) nd rfl (.inl rfl)) (pgs_cons (pg_name (i := 2) nd rfl (.inl rfl)) (pgs_cons (pg_name (i := 3) nd rfl (.inl rfl)) (pgs_nil))))))
  (pss_cons (ps_if (PW.pt (pw_or (pt_cmpR (kEq K hr) (pe_callB (kLen K) (by rfl) E.f_len (by decide +kernel) (pa_cons (pv 2) pa_nil)) (pe_int) (nomark _)) (pw_or1 (pt_cmpR op_gt (pv 3) (pe_int) (nomark _)))))
   (pss_one (ps_ret (pe_non)))
   pss_nil)
  (pss_one (ps_ret (pe_ix (kIx K) (pv 2) (pe_un un_neg (pe_int)) (fun _ _ => rfl)))))), ?_⟩
  change (_ : TS) _ [some v0, none, none, none] H
  try dsimp only [cxOf, Cx.nox, Cx.blk]
  obtain ⟨hd, l, r, hD, k⟩ := h
  obtain ⟨a, th, tl, rfl, s1, s2, s3⟩ := dp_raw hD
  walk_at "w"
  by_cases h1 : l = []
  · subst h1
    walk_at "w"
    exact k.non (by walk_at "ex")
  · have h2 : 0 < l.length := List.length_pos_iff.mpr h1
    walk_at "w"
    unfold endOf at k
    by_cases h3 : 0 < r
    · walk_at "w"
      rw [if_pos (.inr h3)] at k
      exact k.non (by walk_at "ex")
    · walk_at "w"
      rw [if_neg (by rintro (h | h) <;> contradiction)] at k
      exact k.int (by walk_at "ex")
abbrev spValueAt (K : PySem.W.Frag) : Sp := sp2 fun a b H Q _ => ∃ h l r p, Dp K H a (dRaw h l r) ∧ Dp K H b (dOpt p) ∧ (∀ n, p = some n → 0 ≤ n) ∧ RSm h l r ∧ RetD K (dOpt (valueAt h l r p)) H Q
abbrev N_value_at : List Str := ["raw", "place", "head", "loop", "rise", "rest"]
theorem sc_value_at : FnScope N_value_at ["raw", "place"] (defScope s_value_at) := ⟨rfl, rfl, rfl, by decide +kernel, rfl, by decide +kernel, by decide +kernel⟩
theorem ok_value_at {P : Program} {w : World} {K : PySem.W.Frag} {mg : Str → Option Value} {base : Heap} (E : Env P K mg) : Fn P w K mg base CX0 2 "value_at" (spValueAt K) := by
  obtain ⟨fd, F⟩ := E.dd_value_at
  refine Fn.mk0 F E.g_value_at sc_value_at sp2_len (fun _ _ _ _ _ _ us hl => match us, hl with | [_, _], _ => rfl) (fun cdv A outer s H vs Q X hr h => ?_)
  have nd := sc_value_at.nd
  obtain ⟨v0, v1, rfl, h⟩ := h
  refine ⟨_, (pss_cons (ps_asg (pv 0) (kGtup K rfl (pgs_cons (pg_name (i := 2) nd rfl (.inl rfl)) (pgs_cons (pg_name (i := 3) nd rfl (.inl rfl)) (pgs_cons (pg_name (i := 4) nd rfl (.inl rfl)) (pgs_nil))))))
  (pss_cons (ps_if (pt_cmpR xIs (pv 1) (pe_non) (nomark _))
   (pss_one (ps_ret (pc (ok_end_of E) hr (by decide) pass0 rfl (pa_cons (pv 0) pa_nil))))
   pss_nil)
  (pss_cons (ps_if (pt_cmpR (kEq K hr) (pv 1) (pe_int) (nomark _))
   (pss_one (ps_ret (pe_int)))
   pss_nil)
  (pss_cons (ps_if (pt_cmpR op_le (pv 1) (pe_callB (kLen K) (by rfl) E.f_len (by decide +kernel) (pa_cons (pv 2) pa_nil)) (nomark _))
   (pss_one (ps_ret (pe_ix (kIx K) (pv 2) (pe_op xSub (pv 1) (pe_int)) (fun _ _ => rfl))))
   pss_nil)
  (pss_cons (ps_if (pt_cmpR (kEq K hr) (pe_callB (kLen K) (by rfl) E.f_len (by decide +kernel) (pa_cons (pv 3) pa_nil)) (pe_int) (nomark _))
   (pss_one (ps_ret (pe_non)))
   pss_nil)
  (pss_cons (ps_set (i := 5) nd rfl (.inl rfl) (pe_op xSub (pe_op xSub (pv 1) (pe_callB (kLen K) (by rfl) E.f_len (by decide +kernel) (pa_cons (pv 2) pa_nil))) (pe_int)))
  (pss_one (ps_ret (pe_op (kAdd K) (pe_ix (kIx K) (pv 3) (pe_op xMod (pv 5) (pe_callB (kLen K) (by rfl) E.f_len (by decide +kernel) (pa_cons (pv 3) pa_nil))) (fun _ _ => rfl)) (pe_op (kMul K) (pv 4) (pe_op xDiv (pv 5) (pe_callB (kLen K) (by rfl) E.f_len (by decide +kernel) (pa_cons (pv 3) pa_nil))))))))))))), ?_⟩
  change (_ : TS) _ [some v0, some v1, none, none, none, none] H
  try dsimp only [cxOf, Cx.nox, Cx.blk]
  obtain ⟨hd, l, r, p, hD, hp, hn, hr1, k⟩ := h
  obtain ⟨a, th, tl, rfl, s1, s2, s3⟩ := dp_raw hD
  obtain ⟨r1, r2, r3, r4⟩ := hr1
  cases p with
  | none =>
    obtain rfl := dp_toNon hp
    walk_at "w"
    exact ⟨hd, l, r, hD, k⟩
  | some p =>
    obtain rfl := dp_toInt hp
    have hn0 := hn p rfl
    walk_at "w"
    have k' : RetD K (dOpt (vat hd l r p)) H Q := k
    unfold vat at k'
    by_cases h0 : p = 0
    · walk_at "w"
      rw [if_pos h0] at k'
      exact k'.int (by walk_at "ex")
    · rw [if_neg h0] at k'
      walk_at "w"
      by_cases h1 : p ≤ hd.length
      · rw [if_pos h1] at k'
        walk_at "w"
        exact k'.int (by walk_at "ex")
      · rw [if_neg h1] at k'
        walk_at "w"
        by_cases h2 : l = []
        · rw [if_pos h2] at k'
          subst h2
          walk_at "w"
          exact k'.non (by walk_at "ex")
        · rw [if_neg h2] at k'
          have h3 : 0 < l.length := List.length_pos_iff.mpr h2
          have h4 : (p - hd.length - 1) % l.length < l.length := Int.emod_lt_of_pos _ (by omega)
          have h5 : 0 ≤ (p - hd.length - 1) % l.length := Int.emod_nonneg _ (by omega)
          walk_at "w"
          exact k'.int (by walk_at "ex")

end
section
/-- whether a loop goes on in the same way behind its first m entries -/
def slOk (l : List Int) (r : Int) (m : Nat) : Prop :=
  (l.length : Int) % m = 0 ∧ r % ((l.length : Int) / m) = 0 ∧ ∀ i : Nat, i + m < l.length → gI l (i + m) = gI l i + r / ((l.length : Int) / m)
open Classical in
noncomputable def shortLoop (l : List Int) (r : Int) : List Int × Int :=
  match (List.range' 1 (l.length - 1)).find? (fun m => decide (slOk l r m)) with
  | some m => (l.take m, r / ((l.length : Int) / m))
  | none => (l, r)
theorem shortLoop_some {l : List Int} {r : Int} {m : Nat} (h1 : 1 ≤ m) (h2 : m < l.length) (ho : slOk l r m) (hn : ∀ j, 1 ≤ j → j < m → ¬ slOk l r j) : shortLoop l r = (l.take m, r / ((l.length : Int) / m)) := by
  unfold shortLoop
  have e : (List.range' 1 (l.length - 1)).find? (fun m => @decide (slOk l r m) (Classical.propDecidable _)) = some m := by
    rw [List.find?_eq_some_iff_getElem]
    refine ⟨by simpa using ho, m - 1, by simp; omega, by simp; omega, fun j hj => ?_⟩
    simp
    exact hn (1 + j) (by omega) (by omega)
  rw [e]
theorem shortLoop_none {l : List Int} {r : Int} (hn : ∀ j, 1 ≤ j → j < l.length → ¬ slOk l r j) : shortLoop l r = (l, r) := by
  unfold shortLoop
  have e : (List.range' 1 (l.length - 1)).find? (fun m => @decide (slOk l r m) (Classical.propDecidable _)) = none := by
    rw [List.find?_eq_none]
    intro m hm
    simp at hm ⊢
    exact hn m (by omega) (by omega)
  rw [e]
abbrev N_short_loop : List Str := ["loop", "rise", "many", "step", "place"]
theorem sc_short_loop : FnScope N_short_loop ["loop", "rise"] (defScope s_short_loop) := ⟨rfl, rfl, rfl, by decide +kernel, rfl, by decide +kernel, by decide +kernel⟩
theorem ok_short_loop {P : Program} {w : World} {K : PySem.W.Frag} {mg : Str → Option Value} {base : Heap} (E : Env P K mg) : Fn P w K mg base CX0 1 "short_loop" (sp2 fun a b H Q _ => ∃ l r, Dp K H a (dInts l) ∧ Dp K H b (.int r) ∧ RSm [] l r ∧ RetD K (.tuple [dInts (shortLoop l r).1, .int (shortLoop l r).2]) H Q) := by
  obtain ⟨fd, F⟩ := E.dd_short_loop
  refine Fn.mk0 F E.g_short_loop sc_short_loop sp2_len (fun _ _ _ _ _ _ us hl => match us, hl with | [_, _], _ => rfl) (fun cdv A outer s H vs Q X hr h => ?_)
  have nd := sc_short_loop.nd
  obtain ⟨v0, v1, rfl, h⟩ := h
  refine ⟨_, (pss_cons (ps_for PassesOwn.never rfl (pi_range2 (by rfl) E.f_range (pa_cons (pe_int) (pa_cons (pe_callB (kLen K) (by rfl) E.f_len (by decide +kernel) (pa_cons (pv 0) pa_nil)) pa_nil))) (pg_name (i := 2) nd rfl (.inr rfl))
   (pss_one (ps_if (PW.pt (pw_and (pt_cmpR (kEq K hr) (pe_op xMod (pe_callB (kLen K) (by rfl) E.f_len (by decide +kernel) (pa_cons (pv 0) pa_nil)) (pv 2)) (pe_int) (nomark _)) (pw_and1 (pt_cmpR (kEq K hr) (pe_op xMod (pv 1) (pe_op xDiv (pe_callB (kLen K) (by rfl) E.f_len (by decide +kernel) (pa_cons (pv 0) pa_nil)) (pv 2))) (pe_int) (nomark _)))))
   (pss_cons (ps_set (i := 3) nd rfl (.inr rfl) (pe_op xDiv (pv 1) (pe_op xDiv (pe_callB (kLen K) (by rfl) E.f_len (by decide +kernel) (pa_cons (pv 0) pa_nil)) (pv 2))))
  (pss_one (ps_if (kTru K (pe_callB (kAll K rfl) (by rfl) E.f_all (by decide +kernel) (pa_cons (pe_lc (own := [("place", 4)]) (g := gName 4) (tt := tYes) rfl nd (pi_range1 (by rfl) E.f_range (pa_cons (pe_op xSub (pe_callB (kLen K) (by rfl) E.f_len (by decide +kernel) (pa_cons (pv 0) pa_nil)) (pv 2)) pa_nil)) (blkOk_by (N := N_short_loop) (sc := defScope s_short_loop) (by decide +kernel)) (fun _ _ _ _ _ => pg_name (i := 4) nd rfl (Or.inl rfl)) (fun _ _ _ _ _ => pts_nil) (fun _ _ _ _ _ => pe_cmpR (kEq K hr) (pe_ix (kIx K) (pv 0) (pe_op (kAdd K) (pv 4) (pv 2)) (fun _ _ => rfl)) (pe_op (kAdd K) (pe_ix (kIx K) (pv 0) (pv 4) (fun _ _ => rfl)) (pv 3)) (nomark _))) pa_nil)) (by intro _; rfl))
   (pss_one (ps_ret (pe_tup (pa_cons (pe_slice (kSl K) (pv 0) po_none (po_some (pv 2))) (pa_cons (pv 3) pa_nil)))))
   pss_nil)))
   pss_nil)))
  (pss_one (ps_ret (pe_tup (pa_cons (pv 0) (pa_cons (pv 1) pa_nil)))))), ?_⟩
  change (_ : TS) _ [some v0, some v1, none, none, none] H
  try dsimp only [cxOf, Cx.nox, Cx.blk]
  obtain ⟨l, r, hl, hri, ⟨r1, r2, r3, r4⟩, k⟩ := h
  obtain ⟨t, rfl, s1⟩ := dp_ints hl
  obtain rfl := dp_toInt hri
  walk_at "w"
  refine for_range (lo := 1) (Pv := fun i σ' H' => ∃ a b c, σ' = [some (.ref t), some (.int r), a, b, c] ∧ Ex H H' ∧ ∀ j : Nat, 1 ≤ j → j < 1 + i → ¬ slOk l r j) ⟨_, _, _, rfl, Ex.refl H, fun j h1 h2 => by omega⟩ ?_ ?_
  · rintro i σ' H' hi ⟨a, b, c, rfl, e, hnot⟩
    have hi' : 1 + i < l.length := by omega
    obtain ⟨m, hm⟩ : ∃ m : Nat, m = 1 + i := ⟨_, rfl⟩
    have hm0 : 0 < m := by omega
    rw [show (1 + (i : Int)) = (m : Int) by omega]
    have hq : 0 < (l.length : Int) / m := Int.le_ediv_of_mul_le (by omega) (by omega)
    have hq2 : (l.length : Int) / m ≤ l.length := Int.ediv_le_self _ (by omega)
    have hno : ¬ slOk l r m → ∀ j : Nat, 1 ≤ j → j < 1 + (i + 1) → ¬ slOk l r j := fun hn j h1 h2 => by
      by_cases hj : j = m
      · rw [hj]; exact hn
      · exact hnot j h1 (by omega)
    walk_at "w"
    by_cases c1 : (l.length : Int) % m = 0
    · walk_at "w"
      by_cases c2 : r % ((l.length : Int) / m) = 0
      · walk_at "w"
        refine lcJ_r0 (v := fun i => .bl (decide (gI l (i + m) = gI l i + r / ((l.length : Int) / m)))) (by omega) (fun x => [_, _, _, _, some x]) (fun x => rfl) (fun x => rfl) (fun j H1 Q' e1 hj hq => ?_) (fun p H2 np e2 hp => ?_)
        · walk_at "w"
          exact hq H1 (Ex.refl _)
        · rw [map_bl_range] at hp
          walk_at "w"
          refine r_all (sq_of hp) rfl ?_
          rw [all_range]
          walk_at "w"
          by_cases c3 : ∀ j : Nat, j < ((l.length : Int) - m).toNat → gI l (j + m) = gI l j + r / ((l.length : Int) / m)
          · walk_at "w"
            intro p3 H3 e3 s3
            walk_at "w"
            intro p4 H4 n4 e4 h4
            rw [shortLoop_some hm0 (by omega) ⟨c1, c2, fun j hj => c3 j (by omega)⟩ (fun j h1 h2 => hnot j h1 (by omega))] at k
            refine k _ _ (((e.trans e2).trans e3).trans e4) (.tup (st_of h4) (.cons (dp_of_ints (ex_t e4 ?_)) (.cons (.int _) .nil)))
            exact s3
          · walk_at "w"
            refine ⟨_, _, _, rfl, e.trans e2, hno fun h => c3 fun j hj => ?_⟩
            exact h.2.2 j (by omega)
      · walk_at "w"
        exact ⟨_, _, _, rfl, e, hno fun h => c2 h.2.1⟩
    · walk_at "w"
      exact ⟨_, _, _, rfl, e, hno fun h => c1 h.1⟩
  · rintro σ' H' ⟨a, b, c, rfl, e, hnot⟩
    walk_at "w"
    intro p H1 n1 e1 h1
    rw [shortLoop_none (fun j h1 h2 => hnot j h1 (by omega))] at k
    exact k _ _ (e.trans e1) (.tup (st_of h1) (.cons (dp_of_ints (ex_t e1 (ex_t e s1))) (.cons (.int r) .nil)))

end
section
theorem shortLoop_cases (l : List Int) (r : Int) : (shortLoop l r = (l, r)) ∨ ∃ m : Nat, 1 ≤ m ∧ m < l.length ∧ slOk l r m ∧ shortLoop l r = (l.take m, r / ((l.length : Int) / m)) := by
  by_cases h : ∃ m : Nat, 1 ≤ m ∧ m < l.length ∧ slOk l r m
  · have key : ∀ n : Nat, (∃ m : Nat, m ≤ n ∧ 1 ≤ m ∧ m < l.length ∧ slOk l r m) → ∃ m : Nat, 1 ≤ m ∧ m < l.length ∧ slOk l r m ∧ ∀ j, 1 ≤ j → j < m → ¬ slOk l r j := by
      intro n
      induction n with
      | zero => rintro ⟨m, h0, h1, _⟩; omega
      | succ n ih =>
        rintro ⟨m, h0, h1, h2, h3⟩
        by_cases q : ∃ m : Nat, m ≤ n ∧ 1 ≤ m ∧ m < l.length ∧ slOk l r m
        · exact ih q
        · exact ⟨m, h1, h2, h3, fun j j1 j2 j3 => q ⟨j, by omega, j1, by omega, j3⟩⟩
    obtain ⟨m, h1, h2, h3⟩ := h
    obtain ⟨m, h1, h2, h3, h4⟩ := key m ⟨m, Nat.le_refl _, h1, h2, h3⟩
    exact .inr ⟨m, h1, h2, h3, shortLoop_some h1 h2 h3 h4⟩
  · exact .inl (shortLoop_none fun j h1 h2 h3 => h ⟨j, h1, h2, h3⟩)
theorem shortLoop_len (l : List Int) (r : Int) : (shortLoop l r).1.length ≤ l.length ∧ (l ≠ [] → (shortLoop l r).1 ≠ []) := by
  rcases shortLoop_cases l r with e | ⟨m, h1, h2, _, e⟩
  · rw [e]; exact ⟨Nat.le_refl _, id⟩
  · rw [e]
    refine ⟨by show (l.take m).length ≤ _; rw [List.length_take]; omega, fun _ q => ?_⟩
    have : (l.take m).length = 0 := by rw [show l.take m = [] from q]; rfl
    rw [List.length_take] at this
    omega
theorem shortLoop_rise {l : List Int} {r : Int} (h : 0 ≤ r) : 0 ≤ (shortLoop l r).2 ∧ (shortLoop l r).2 ≤ r := by
  rcases shortLoop_cases l r with e | ⟨m, h1, h2, _, e⟩
  · rw [e]; exact ⟨h, Int.le_refl _⟩
  · rw [e]
    have hq : 0 < (l.length : Int) / m := Int.le_ediv_of_mul_le (by omega) (by omega)
    exact ⟨Int.ediv_nonneg h (by omega), Int.ediv_le_self _ h⟩
/-- what a loop going on backwards has back places ahead of itself -/
def bkV (l : List Int) (r back : Int) : Int := gI l (-1 - back % l.length + l.length) - r * (back / l.length + 1)
def cutH (h l : List Int) (r : Int) : Nat → Nat
  | 0 => 0
  | k + 1 => if gI h k = bkV l r (h.length - (k + 1)) then cutH h l r k else k + 1
noncomputable def plainF (h l : List Int) (r : Int) : List Int × List Int × Int :=
  if l = [] then (h, [], 0) else
    (h.take (cutH h (shortLoop l r).1 (shortLoop l r).2 h.length),
     (List.range (shortLoop l r).1.length).map fun i : Nat => (vat h (shortLoop l r).1 (shortLoop l r).2 (cutH h (shortLoop l r).1 (shortLoop l r).2 h.length + 1 + i)).getD 0,
     (shortLoop l r).2)
theorem cutH_le (h l : List Int) (r : Int) : ∀ k, cutH h l r k ≤ k
  | 0 => Nat.le_refl _
  | k + 1 => by
    unfold cutH
    split
    · exact Nat.le_succ_of_le (cutH_le h l r k)
    · exact Nat.le_refl _
theorem vat_some {h l : List Int} {r p : Int} (hl : l ≠ []) : vat h l r p = some ((vat h l r p).getD 0) := by
  unfold vat
  rw [if_neg hl]
  split
  · rfl
  · split <;> rfl
abbrev N_plain_form : List Str := ["head", "loop", "rise", "keep", "back", "told", "place"]
theorem sc_plain_form : FnScope N_plain_form ["head", "loop", "rise"] (defScope s_plain_form) := ⟨rfl, rfl, rfl, by decide +kernel, rfl, by decide +kernel, by decide +kernel⟩
theorem ok_plain_form {P : Program} {w : World} {K : PySem.W.Frag} {mg : Str → Option Value} {base : Heap} (E : Env P K mg) : Fn P w K mg base CX0 3 "plain_form" (sp3 fun a b c H Q _ => ∃ h l r, Dp K H a (dInts h) ∧ Dp K H b (dInts l) ∧ Dp K H c (.int r) ∧ 0 ≤ r ∧ RSm h l r ∧ RetD K (dRaw (plainF h l r).1 (plainF h l r).2.1 (plainF h l r).2.2) H Q) := by
  obtain ⟨fd, F⟩ := E.dd_plain_form
  refine Fn.mk0 F E.g_plain_form sc_plain_form sp3_len (fun _ _ _ _ _ _ us hl => match us, hl with | [_, _, _], _ => rfl) (fun cdv A outer s H vs Q X hr h => ?_)
  have nd := sc_plain_form.nd
  obtain ⟨v0, v1, v2, rfl, h⟩ := h
  refine ⟨_, (pss_cons (ps_if (pt_cmpR (kEq K hr) (pe_callB (kLen K) (by rfl) E.f_len (by decide +kernel) (pa_cons (pv 1) pa_nil)) (pe_int) (nomark _))
   (pss_one (ps_ret (pe_tup (pa_cons (pv 0) (pa_cons (pe_tup pa_nil) (pa_cons (pe_int) pa_nil))))))
   pss_nil)
  (pss_cons (ps_asg (pc (ok_short_loop E) hr (by decide) pass0 rfl (pa_cons (pv 1) (pa_cons (pv 2) pa_nil))) (kGtup K rfl (pgs_cons (pg_name (i := 1) nd rfl (.inl rfl)) (pgs_cons (pg_name (i := 2) nd rfl (.inl rfl)) (pgs_nil)))))
  (pss_cons (ps_set (i := 3) nd rfl (.inr rfl) (pe_callB (kLen K) (by rfl) E.f_len (by decide +kernel) (pa_cons (pv 0) pa_nil)))
  (pss_cut (ps_while PassesOwn.never (pt_cmpR op_gt (pv 3) (pe_int) (nomark _))
   (pss_cons (ps_set (i := 4) nd rfl (.inl rfl) (pe_op xSub (pe_callB (kLen K) (by rfl) E.f_len (by decide +kernel) (pa_cons (pv 0) pa_nil)) (pv 3)))
  (pss_cons (ps_if (pt_cmpR (kNe K hr) (pe_ix (kIx K) (pv 0) (pe_op xSub (pv 3) (pe_int)) (fun _ _ => rfl)) (pe_op xSub (pe_ix (kIx K) (pv 1) (pe_op xSub (pe_un un_neg (pe_int)) (pe_op xMod (pv 4) (pe_callB (kLen K) (by rfl) E.f_len (by decide +kernel) (pa_cons (pv 1) pa_nil)))) (fun _ _ => rfl)) (pe_op (kMul K) (pv 2) (pe_op (kAdd K) (pe_op xDiv (pv 4) (pe_callB (kLen K) (by rfl) E.f_len (by decide +kernel) (pa_cons (pv 1) pa_nil))) (pe_int)))) (nomark _))
   (pss_one (ps_break))
   pss_nil)
  (pss_one (ps_set (i := 3) nd rfl (.inr rfl) (pe_op xSub (pv 3) (pe_int)))))))
  (pss_cons (ps_set (i := 5) nd rfl (.inr rfl) (pe_tup (pa_cons (pv 0) (pa_cons (pv 1) (pa_cons (pv 2) pa_nil)))))
  (pss_one (ps_ret (pe_tup (pa_cons (pe_slice (kSl K) (pv 0) po_none (po_some (pv 3))) (pa_cons (pe_callTy (kTup K) (by rfl) E.f_tuple (by decide +kernel) (pa_cons (pe_lc (own := [("place", 6)]) (g := gName 6) (tt := tYes) rfl nd (pi_range1 (by rfl) E.f_range (pa_cons (pe_callB (kLen K) (by rfl) E.f_len (by decide +kernel) (pa_cons (pv 1) pa_nil)) pa_nil)) (blkOk_by (N := N_plain_form) (sc := defScope s_plain_form) (by decide +kernel)) (fun _ _ _ _ _ => pg_name (i := 6) nd rfl (Or.inl rfl)) (fun _ _ _ _ _ => pts_nil) (fun _ _ _ _ _ => pc (ok_value_at E) hr (by decide) pass0 rfl (pa_cons (pv 5) (pa_cons (pe_op (kAdd K) (pe_op (kAdd K) (pv 3) (pe_int)) (pv 6)) pa_nil)))) pa_nil)) (pa_cons (pv 2) pa_nil))))))))))), ?_⟩
  change (_ : TS) _ [some v0, some v1, some v2, none, none, none, none] H
  try dsimp only [cxOf, Cx.nox, Cx.blk]
  obtain ⟨h, l, r, hh, hl, hri, hr0, ⟨r1, r2, r3, r4⟩, k⟩ := h
  obtain ⟨th, rfl, s1⟩ := dp_ints hh
  obtain ⟨tl, rfl, s2⟩ := dp_ints hl
  obtain rfl := dp_toInt hri
  unfold plainF at k
  walk_at "w"
  by_cases hn : l = []
  · subst hn
    rw [if_pos rfl] at k
    walk_at "w"
    intro p1 H1 n1 e1 h1
    walk_at "w"
    intro p2 H2 n2 e2 h2
    exact k _ _ (e1.trans e2) (dp_of_raw (st_of h2) (ex_t e2 (ex_t e1 s1)) (ex_t e2 (st_of h1)))
  · rw [if_neg hn] at k
    have hl0 : 0 < l.length := List.length_pos_iff.mpr hn
    walk_at "w"
    refine ⟨l, r, dp_of_ints s2, .int r, ⟨r1, r2, by simp, r4⟩, fun v H1 e1 d1 => ?_⟩
    obtain ⟨pa, x, y, rfl, sp, dx, dy⟩ := dp_t2 d1
    obtain ⟨ta, rfl, sa⟩ := dp_ints dx
    obtain rfl := dp_toInt dy
    obtain ⟨q1, q2⟩ := shortLoop_len l r
    obtain ⟨q3, q4⟩ := shortLoop_rise (l := l) hr0
    have q5 := q2 hn
    have q5' := q5
    generalize shortLoop l r = sl at *
    obtain ⟨l', r'⟩ := sl
    dsimp only at *
    have hl1 : 0 < l'.length := List.length_pos_iff.mpr q5
    walk_at "w"
    refine w_cut (M := fun σ' H' => ∃ (m : Nat) (bk : Option V), σ' = [some (.ref th), some (.ref ta), some (.int r'), some (.int (m : Int)), bk, none, none] ∧ Ex H1 H' ∧ m ≤ h.length ∧ cutH h l' r' h.length = m) ?_ ?_
    · refine ⟨fun m σ' H' => ∃ bk, σ' = [some (.ref th), some (.ref ta), some (.int r'), some (.int (m : Int)), bk, none, none] ∧ Ex H1 H' ∧ m ≤ h.length ∧ cutH h l' r' h.length = cutH h l' r' m, ⟨h.length, none, rfl, Ex.refl _, Nat.le_refl _, rfl⟩, ?_⟩
      rintro m σ' H' ⟨bk, rfl, e2, hm, hc⟩
      walk_at "w"
      cases m with
      | zero =>
        walk_at "w"
        exact ⟨0, _, rfl, e2, hm, hc⟩
      | succ m =>
        walk_at "w"
        refine ⟨_, fun σ2 H2 h2 => ⟨m, Nat.lt_succ_self m, h2⟩, ?_⟩
        have hb0 : 0 ≤ ((h.length : Int) - (m + 1 : Nat)) % l'.length := Int.emod_nonneg _ (by omega)
        have hb1 : ((h.length : Int) - (m + 1 : Nat)) % l'.length < l'.length := Int.emod_lt_of_pos _ (by omega)
        walk_at "w"
        have hb : bkV l' r' ((h.length : Int) - (m + 1 : Nat)) = gI l' (-1 - (↑h.length - ↑(m + 1)) % ↑l'.length + ↑l'.length) - r' * ((↑h.length - ↑(m + 1)) / ↑l'.length + 1) := rfl
        rw [← hb, show ((m + 1 : Nat) : Int) - 1 = (m : Int) by omega]
        by_cases c : gI h m = bkV l' r' ((h.length : Int) - (m + 1 : Nat))
        · walk_at "w"
          rw [show ((m + 1 : Nat) : Int) - 1 = (m : Int) by omega]
          refine ⟨_, rfl, e2, by omega, ?_⟩
          rw [hc]
          exact if_pos c
        · walk_at "w"
          refine ⟨m + 1, _, rfl, e2, hm, ?_⟩
          rw [hc]
          exact if_neg c
    · rintro σ' H' ⟨m, bk, rfl, e2, hm, hc⟩
      walk_at "w"
      intro p1 H2 n2 e3 h3
      walk_at "w"
      intro p2 H3 e4 s4
      rw [Int.toNat_natCast] at s4
      walk_at "w"
      have hs : Dp K H3 (.ref p1) (dRaw h l' r') := dp_of_raw (ex_t e4 (st_of h3)) (by walk_at "hp") (by walk_at "hp")
      refine lcJ_r0 (v := fun i : Nat => .int ((vat h l' r' (m + 1 + i)).getD 0)) (by omega) (fun x => [_, _, _, _, _, _, some x]) (fun x => rfl) (fun x => rfl) (fun j H4 Q' e5 hj hq => ?_) (fun p4 H4 n4 e5 h5 => ?_)
      · walk_at "w"
        refine ⟨h, l', r', some (m + 1 + j), dp_ex e5 hs, .int _, fun n hn => by cases hn; omega, ⟨by omega, by omega, r3, by omega⟩, fun v H5 e6 d6 => ?_⟩
        obtain rfl := dp_toInt (by rw [show valueAt h l' r' (some (m + 1 + j)) = some _ from vat_some q5'] at d6; exact d6)
        exact hq _ e6
      · walk_at "w"
        intro p5 H5 e6 s6
        walk_at "w"
        intro p6 H6 n6 e7 h6
        rw [Int.toNat_natCast] at s6
        rw [hc] at k
        refine k _ _ (by walk_at "ex") (dp_of_raw (st_of h6) (by walk_at "hp") (ex_t e7 ?_))
        unfold vI
        rw [List.map_map]
        exact s6

end
section
def rising (ns : List Int) : Prop := ∀ i : Nat, i + 1 < ns.length → gI ns i ≤ gI ns (i + 1)
def allPos (ns : List Int) : Prop := ∀ n ∈ ns, 0 ≤ n
/-- a tuple or a list of ints -/
def dSeqI (b : Bool) (ns : List Int) : PyData := if b then dInts ns else dIntL ns
theorem dp_seqI {K : PySem.W.Frag} {H : Hp} {v : V} {b : Bool} {ns : List Int} (h : Dp K H v (dSeqI b ns)) : ∃ a, v = .ref a ∧ ((b = true ∧ SqT K H a (vI ns)) ∨ (b = false ∧ SqL K H a (vI ns))) := by
  cases b with
  | true => obtain ⟨a, e, s⟩ := dp_ints h; exact ⟨a, e, .inl ⟨rfl, s⟩⟩
  | false => obtain ⟨a, e, s⟩ := dp_intL h; exact ⟨a, e, .inr ⟨rfl, s⟩⟩
abbrev N_is_counts : List Str := ["thing", "one"]
theorem sc_is_counts : FnScope N_is_counts ["thing"] (defScope s_is_counts) := ⟨rfl, rfl, rfl, by decide +kernel, rfl, by decide +kernel, by decide +kernel⟩
theorem ok_is_counts {P : Program} {w : World} {K : PySem.W.Frag} {mg : Str → Option Value} {base : Heap} (E : Env P K mg) : Fn P w K mg base CX0 3 "is_counts" (sp1 fun v H Q _ => ∃ b ns, Dp K H v (dSeqI b ns) ∧ allPos ns ∧ ns.length ≤ 50000 ∧ RetD K (.bool true) H Q) := by
  obtain ⟨fd, F⟩ := E.dd_is_counts
  refine Fn.mk0 F E.g_is_counts sc_is_counts sp1_len (fun _ _ _ _ _ _ us hl => match us, hl with | [_], _ => rfl) (fun cdv A outer s H vs Q X hr h => ?_)
  have nd := sc_is_counts.nd
  obtain ⟨v0, rfl, h⟩ := h
  refine ⟨_, (pss_one (ps_ret (pe_and (pc (ok_is_listed E) hr (by decide) pass0 rfl (pa_cons (pv 0) pa_nil)) (pe_one (pe_callB (kAll K rfl) (by rfl) E.f_all (by decide +kernel) (pa_cons (pe_lc (own := [("one", 1)]) (g := gName 1) (tt := tYes) rfl nd (kSeq K (pv 0)) (blkOk_by (N := N_is_counts) (sc := defScope s_is_counts) (by decide +kernel)) (fun _ _ _ _ _ => pg_name (i := 1) nd rfl (Or.inl rfl)) (fun _ _ _ _ _ => pts_nil) (fun _ _ _ _ _ => pc (ok_is_count E) hr (by decide) pass0 rfl (pa_cons (pv 1) pa_nil))) pa_nil)))))), ?_⟩
  change (_ : TS) _ [some v0, none] H
  try dsimp only [cxOf, Cx.nox, Cx.blk]
  obtain ⟨b, ns, hd, hp, hz, k⟩ := h
  obtain ⟨a, rfl, hs⟩ := dp_seqI hd
  walk_at "w"
  refine ⟨_, .inl hd, fun v H1 e1 d1 => ?_⟩
  have e : dIsSeq (dSeqI b ns) = true := by cases b <;> rfl
  rw [e] at d1
  obtain rfl := dp_toBl d1
  walk_at "w"
  have key : ∀ (x : V) (H2 : Hp) (Q' : VK), x ∈ vI ns → (∀ H3, Ex H2 H3 → Q' (.bl true) H3) → ∃ d, Dp K H2 x d ∧ RetD K (.bool (dIsCount d)) H2 Q' := fun x H2 Q' hx hq => by
    obtain ⟨n, hn, rfl⟩ := List.mem_map.mp hx
    refine ⟨.int n, .int n, fun v H3 e3 d3 => ?_⟩
    rw [show dIsCount (.int n) = true from decide_eq_true (hp n hn)] at d3
    obtain rfl := dp_toBl d3
    exact hq H3 e3
  have fin : ∀ (p : Addr) (H2 : Hp), Ex H1 H2 → H2 p = some (.lst ((vI ns).map fun _ => V.bl true)) → rAll K [.ref p] H2 (fun v H => Q v H) := fun p H2 e2 hp => by
    refine r_all (bs := (vI ns).map fun _ => true) (sq_of hp) (by simp [Function.comp]) ?_
    have : ((vI ns).map fun _ => true).all id = true := by simp
    rw [this]
    exact k.bl (e1.trans e2)
  rcases hs with ⟨rfl, s⟩ | ⟨rfl, s⟩
  · refine i_seqT ?_
    walk_at "w"
    refine lcJ_tup (v := fun _ => .bl true) (ex_t e1 s) (by rw [List.length_map]; omega) (fun x => [_, some x]) (fun x => rfl) (fun x => rfl) (fun x H2 Q' e2 hx hq => ?_) (fun p H2 n2 e2 hp => ?_)
    · walk_at "w"
      exact key x H2 Q' hx hq
    · walk_at "w"
      exact fin p H2 e2 hp
  · refine i_seqL ?_
    walk_at "w"
    refine lcJ_list (v := fun _ => .bl true) (ex_l e1 s) (by rw [List.length_map]; omega) (fun x => [_, some x]) (fun x => rfl) (fun x => rfl) (fun x H2 Q' e2 hx hq => ?_) (fun p H2 n2 e2 hp => ?_)
    · walk_at "w"
      exact key x H2 Q' hx hq
    · walk_at "w"
      exact fin p H2 e2 hp
abbrev N_is_rising : List Str := ["counts", "place"]
theorem sc_is_rising : FnScope N_is_rising ["counts"] (defScope s_is_rising) := ⟨rfl, rfl, rfl, by decide +kernel, rfl, by decide +kernel, by decide +kernel⟩
theorem ok_is_rising {P : Program} {w : World} {K : PySem.W.Frag} {mg : Str → Option Value} {base : Heap} (E : Env P K mg) : Fn P w K mg base CX0 1 "is_rising" (sp1 fun v H Q _ => ∃ b ns, Dp K H v (dSeqI b ns) ∧ rising ns ∧ ns.length ≤ 50000 ∧ RetD K (.bool true) H Q) := by
  obtain ⟨fd, F⟩ := E.dd_is_rising
  refine Fn.mk0 F E.g_is_rising sc_is_rising sp1_len (fun _ _ _ _ _ _ us hl => match us, hl with | [_], _ => rfl) (fun cdv A outer s H vs Q X hr h => ?_)
  have nd := sc_is_rising.nd
  obtain ⟨v0, rfl, h⟩ := h
  refine ⟨_, (pss_one (ps_ret (pe_callB (kAll K rfl) (by rfl) E.f_all (by decide +kernel) (pa_cons (pe_lc (own := [("place", 1)]) (g := gName 1) (tt := tYes) rfl nd (pi_range1 (by rfl) E.f_range (pa_cons (pe_op xSub (pe_callB (kLen K) (by rfl) E.f_len (by decide +kernel) (pa_cons (pv 0) pa_nil)) (pe_int)) pa_nil)) (blkOk_by (N := N_is_rising) (sc := defScope s_is_rising) (by decide +kernel)) (fun _ _ _ _ _ => pg_name (i := 1) nd rfl (Or.inl rfl)) (fun _ _ _ _ _ => pts_nil) (fun _ _ _ _ _ => pe_cmpR op_le (pe_ix (kIx K) (pv 0) (pv 1) (fun _ _ => rfl)) (pe_ix (kIx K) (pv 0) (pe_op (kAdd K) (pv 1) (pe_int)) (fun _ _ => rfl)) (nomark _))) pa_nil)))), ?_⟩
  change (_ : TS) _ [some v0, none] H
  try dsimp only [cxOf, Cx.nox, Cx.blk]
  obtain ⟨b, ns, hd, hri, hz, k⟩ := h
  obtain ⟨a, rfl, hs⟩ := dp_seqI hd
  have fin : ∀ (p : Addr) (H2 : Hp), Ex H H2 → H2 p = some (.lst ((List.range ((ns.length : Int) - 1).toNat).map fun _ => V.bl true)) → rAll K [.ref p] H2 (fun v H => Q v H) := fun p H2 e2 hp => by
    refine r_all (bs := (List.range ((ns.length : Int) - 1).toNat).map fun _ => true) (sq_of hp) (by simp [Function.comp]) ?_
    have : ((List.range ((ns.length : Int) - 1).toNat).map fun _ => true).all id = true := by simp
    rw [this]
    exact k.bl e2
  have cmp : ∀ j : Nat, j < ((ns.length : Int) - 1).toNat → decide (gI ns j ≤ gI ns (j + 1)) = true := fun j hj => decide_eq_true (hri j (by omega))
  rcases hs with ⟨rfl, s⟩ | ⟨rfl, s⟩
  all_goals
    walk_at "w"
    refine lcJ_r0 (v := fun _ => .bl true) (by omega) (fun x => [_, some x]) (fun x => rfl) (fun x => rfl) (fun j H2 Q' e2 hj hq => ?_) (fun p H2 n2 e2 hp => ?_)
    · walk_at "w"
      rw [cmp j hj]
      exact hq _ (Ex.refl _)
    · walk_at "w"
      exact fin p H2 e2 hp

end
section
abbrev spDeep (K : PySem.W.Frag) (n : Nat) : Sp := sp1 fun v H Q _ => ∃ d, Dp K H v d ∧ shp n d = true ∧ RetD K (dDeep d) H Q
abbrev N_deep : List Str := ["thing", "one"]
theorem sc_deep : FnScope N_deep ["thing"] (defScope s_deep) := ⟨rfl, rfl, rfl, by decide +kernel, rfl, by decide +kernel, by decide +kernel⟩
--derivation of deep:
theorem deep_step {P : Program} {w : World} {K : PySem.W.Frag} {mg : Str → Option Value} {base : Heap} (E : Env P K mg) {k n : Nat} {sp : Sp} (hk1 : 1 ≤ k) (IH : Fn P w K mg base CX0 k "deep" sp)
    (hsp : ∀ (m : Nat), n = m + 1 → sp = spDeep K m) : Fn P w K mg base CX0 (k + 1) "deep" (spDeep K n) := by
  obtain ⟨fd, F⟩ := E.dd_deep
  refine Fn.mk0 F E.g_deep sc_deep sp1_len (fun _ _ _ _ _ _ us hl => match us, hl with | [_], _ => rfl) (fun cdv A outer s H vs Q X hr h => ?_)
  have nd := sc_deep.nd
  obtain ⟨v0, rfl, h⟩ := h
  refine ⟨_, (pss_cons (ps_if (kTru K (pc (ok_is_listed E) hr (by omega) pass0 rfl (pa_cons (pv 0) pa_nil)) (by intro _; rfl))
   (pss_one (ps_ret (pe_callTy (kTup K) (by rfl) E.f_tuple (by decide +kernel) (pa_cons (pe_lc (own := [("one", 1)]) (g := gName 1) (tt := tYes) rfl nd (kSeq K (pv 0)) (blkOk_by (N := N_deep) (sc := defScope s_deep) (by decide +kernel)) (fun _ _ _ _ _ => pg_name (i := 1) nd rfl (Or.inl rfl)) (fun _ _ _ _ _ => pts_nil) (fun _ _ _ _ _ => pc IH hr (by omega) pass0 rfl (pa_cons (pv 1) pa_nil))) pa_nil))))
   pss_nil)
  (pss_one (ps_ret (pv 0)))), ?_⟩
  change (_ : TS) _ [some v0, none] H
  obtain ⟨d, hd, hs, k⟩ := h
  walk_at "w"
  refine ⟨d, .inl hd, fun v H1 e1 d1 => ?_⟩
  obtain rfl := dp_toBl d1
  have h0 : ∀ (b : Bool), dIsSeq d = b → (b = false → dDeep d = d) := by
    intro b hb hb2
    subst hb2
    cases d with
    | list _ => exact nomatch hb
    | tuple _ => exact nomatch hb
    | dict _ => exact (dp_nodict hd).elim
    | _ => rfl
  cases hq : dIsSeq d with
  | false =>
    walk_at "w"
    rw [h0 false hq rfl] at k
    exact k _ _ e1 (dp_ex e1 hd)
  | true =>
    walk_at "w"
    cases n with
    | zero => cases d <;> first | (simp [dIsSeq] at hq; done) | (simp [shp] at hs; done)
    | succ n =>
      have esp := hsp n rfl
      subst esp
      have fin : ∀ (ds : List PyData) (p : Addr) (H2 : Hp) (ys : List V), dDeep d = .tuple (dDeepAll ds) → Ex H1 H2 → H2 p = some (.lst ys) → DpAll K H2 ys ((List.range ds.length).map fun i => dDeep (ds.getD i .none)) → ∀ (p3 : Addr) (H3 : Hp), Ex H2 H3 → SqT K H3 p3 ys → Q (.ref p3) H3 := fun ds p H2 ys he e2 hp hy p3 H3 e3 s3 => by
        rw [he] at k
        refine k _ _ (e1.trans (e2.trans e3)) (.tup s3 ?_)
        have el : (List.range ds.length).map (fun i => dDeep (ds.getD i .none)) = dDeepAll ds := by
          rw [dDeepAll_eq]
          apply List.ext_getElem
          · simp
          · intro i h1 h2
            simp at h1 h2
            simp [h2]
        rw [el] at hy
        exact dpAll_ex e3 hy
      have elt : ∀ (ds : List PyData) (xs : List V) (H1' : Hp) (i : Nat) (x : V) (Q' : VK) (h1 : DpAll K H xs ds) (hsh : shpAll n ds = true), Ex H H1' → xs[i]? = some x → (∀ y H2, Ex H1' H2 → Dp K H2 y (dDeep (ds.getD i .none)) → Q' y H2) → ∃ d, Dp K H1' x d ∧ shp n d = true ∧ RetD K (dDeep d) H1' Q' := by
        intro ds xs H1' i x Q' h1 hsh e hx hq
        obtain ⟨d', g1, g2⟩ := dpAll_get h1 hx
        refine ⟨d', dp_ex e g2, shpAll_get hsh g1, fun y H2 e2 d2 => hq y H2 e2 ?_⟩
        rw [List.getD_eq_getElem?_getD, g1]
        exact d2
      cases hd with
      | lst s a =>
        rename_i ad xs ds
        obtain ⟨hz, hsh⟩ := Bool.and_eq_true_iff.mp (show (decide (ds.length ≤ 50000) && shpAll n ds) = true from hs)
        have hz' := of_decide_eq_true hz
        have hl := dpAll_len a
        refine i_seqL ?_
        walk_at "w"
        refine lcD_list (fun i => dDeep (ds.getD i .none)) (fun i => imm_deep _) (ex_l e1 s) (by omega) (fun x => [_, some x]) (fun x => rfl) (fun x => rfl) (fun i x H2 Q' e2 hx hq => ?_) (fun p H2 ys n2 e2 hp hy => ?_)
        · walk_at "w"
          exact elt ds xs H2 i x Q' a hsh (e1.trans e2) hx hq
        · walk_at "w"
          rw [hl] at hy
          intro p3 H3 e3 s3
          exact fin ds p H2 ys rfl e2 hp hy p3 H3 e3 s3
      | tup s a =>
        rename_i ad xs ds
        obtain ⟨hz, hsh⟩ := Bool.and_eq_true_iff.mp (show (decide (ds.length ≤ 50000) && shpAll n ds) = true from hs)
        have hz' := of_decide_eq_true hz
        have hl := dpAll_len a
        refine i_seqT ?_
        walk_at "w"
        refine lcD_tup (fun i => dDeep (ds.getD i .none)) (fun i => imm_deep _) (ex_t e1 s) (by omega) (fun x => [_, some x]) (fun x => rfl) (fun x => rfl) (fun i x H2 Q' e2 hx hq => ?_) (fun p H2 ys n2 e2 hp hy => ?_)
        · walk_at "w"
          exact elt ds xs H2 i x Q' a hsh (e1.trans e2) hx hq
        · walk_at "w"
          rw [hl] at hy
          intro p3 H3 e3 s3
          exact fin ds p H2 ys rfl e2 hp hy p3 H3 e3 s3
      | _ => exact nomatch hq
theorem ok_deepN {P : Program} {w : World} {K : PySem.W.Frag} {mg : Str → Option Value} {base : Heap} (E : Env P K mg) : ∀ n : Nat, Fn P w K mg base CX0 (n + 2) "deep" (spDeep K n)
  | 0 => by
    obtain ⟨fd, F⟩ := E.dd_deep
    exact deep_step E (k := 1) (Nat.le_refl _) (Fn.never F E.g_deep (ps := ["thing"]) (fun _ _ _ _ _ _ us hl => match us, hl with | [_], _ => rfl)) (fun m e => nomatch e)
  | n + 1 => deep_step E (by omega) (ok_deepN E n) (fun m e => by cases e; rfl)
theorem ok_deep {P : Program} {w : World} {K : PySem.W.Frag} {mg : Str → Option Value} {base : Heap} (E : Env P K mg) : Fn P w K mg base CX0 8 "deep" (spDeep K 6) := ok_deepN E 6

end
section
/-- a head, a loop and a rise that make a table -/
structure Val (h l : List Int) (r : Int) : Prop where
  p1 : allPos h
  p2 : allPos l
  r1 : rising h
  r2 : rising l
  r0 : 0 ≤ r
  e0 : l = [] → r = 0
  hl : h ≠ [] → l ≠ [] → gI h (h.length - 1) ≤ gI l 0
  ll : l ≠ [] → gI l (l.length - 1) ≤ gI l 0 + r
  sm : RSm h l r
theorem dp_seqE {K : PySem.W.Frag} {H : Hp} {v : V} {b : Bool} {ns : List Int} (h : Dp K H v (dSeqI b ns)) : ∃ a, v = .ref a ∧ SqE K H a (vI ns) := by
  obtain ⟨a, e, h⟩ := dp_seqI h
  exact ⟨a, e, h.elim (fun h => .inr h.2) (fun h => .inl h.2)⟩
theorem deep_seq (b : Bool) (ns : List Int) : dDeep (dSeqI b ns) = dInts ns := by
  cases b <;> (show PyData.tuple (dDeepAll (ns.map .int)) = _; rw [dDeep_ints])
theorem shp_seq {b : Bool} {ns : List Int} (h : ns.length ≤ 50000) : shp 6 (dSeqI b ns) = true := by
  have key : ∀ ns : List Int, shpAll 5 (ns.map .int) = true := fun ns => by
    induction ns with
    | nil => rfl
    | cons n ns ih => show (shp 5 (.int n) && shpAll 5 (ns.map .int)) = true; rw [ih]; rfl
  cases b <;> (show (decide ((ns.map PyData.int).length ≤ 50000) && shpAll 5 (ns.map .int)) = true; rw [key, List.length_map, decide_eq_true h]; rfl)
noncomputable abbrev dPl (h l : List Int) (r : Int) : PyData := dRaw (plainF h l r).1 (plainF h l r).2.1 (plainF h l r).2.2
abbrev N_checked_table : List Str := ["head", "loop", "rise"]
theorem sc_checked_table : FnScope N_checked_table ["head", "loop", "rise"] (defScope s_checked_table) := ⟨rfl, rfl, rfl, by decide +kernel, rfl, by decide +kernel, by decide +kernel⟩
theorem ok_checked_table {P : Program} {w : World} {K : PySem.W.Frag} {mg : Str → Option Value} {base : Heap} (E : Env P K mg) : Fn P w K mg base CX0 9 "checked_table" (sp3 fun a b c H Q _ => ∃ b1 b2 h l r, Dp K H a (dSeqI b1 h) ∧ Dp K H b (dSeqI b2 l) ∧ Dp K H c (.int r) ∧ Val h l r ∧ RetD K (dPl h l r) H Q) := by
  obtain ⟨fd, F⟩ := E.dd_checked_table
  refine Fn.mk0 F E.g_checked_table sc_checked_table sp3_len (fun _ _ _ _ _ _ us hl => match us, hl with | [_, _, _], _ => rfl) (fun cdv A outer s H vs Q X hr h => ?_)
  have nd := sc_checked_table.nd
  obtain ⟨v0, v1, v2, rfl, h⟩ := h
  refine ⟨_, (pss_cut (ps_if (PW.pt (pw_or (pt_not (kTru K (pc (ok_is_counts E) hr (by decide) pass0 rfl (pa_cons (pv 0) pa_nil)) (by intro _; rfl))) (pw_or1 (pt_not (kTru K (pc (ok_is_rising E) hr (by decide) pass0 rfl (pa_cons (pv 0) pa_nil)) (by intro _; rfl))))))
   (pss_one (ps_never))
   pss_nil)
  (pss_cut (ps_if (PW.pt (pw_or (pt_not (kTru K (pc (ok_is_counts E) hr (by decide) pass0 rfl (pa_cons (pv 1) pa_nil)) (by intro _; rfl))) (pw_or1 (pt_not (kTru K (pc (ok_is_rising E) hr (by decide) pass0 rfl (pa_cons (pv 1) pa_nil)) (by intro _; rfl))))))
   (pss_one (ps_never))
   pss_nil)
  (pss_cut (ps_if (PW.pt (pw_and (pt_cmpR op_gt (pe_callB (kLen K) (by rfl) E.f_len (by decide +kernel) (pa_cons (pv 0) pa_nil)) (pe_int) (nomark _)) (pw_and (pt_cmpR op_gt (pe_callB (kLen K) (by rfl) E.f_len (by decide +kernel) (pa_cons (pv 1) pa_nil)) (pe_int) (nomark _)) (pw_and1 (pt_cmpR op_lt (pe_ix (kIx K) (pv 1) (pe_int) (fun _ _ => rfl)) (pe_ix (kIx K) (pv 0) (pe_un un_neg (pe_int)) (fun _ _ => rfl)) (nomark _))))))
   (pss_one (ps_never))
   pss_nil)
  (pss_cut (ps_if (PW.pt (pw_or (pt_not (kTru K (pc (ok_is_count E) hr (by decide) pass0 rfl (pa_cons (pv 2) pa_nil)) (by intro _; rfl))) (pw_or1 (PW.pt (pw_and (pt_cmpR (kEq K hr) (pe_callB (kLen K) (by rfl) E.f_len (by decide +kernel) (pa_cons (pv 1) pa_nil)) (pe_int) (nomark _)) (pw_and1 (pt_cmpR op_gt (pv 2) (pe_int) (nomark _))))))))
   (pss_one (ps_never))
   pss_nil)
  (pss_cut (ps_if (PW.pt (pw_and (pt_cmpR op_gt (pe_callB (kLen K) (by rfl) E.f_len (by decide +kernel) (pa_cons (pv 1) pa_nil)) (pe_int) (nomark _)) (pw_and1 (pt_cmpR op_gt (pe_ix (kIx K) (pv 1) (pe_un un_neg (pe_int)) (fun _ _ => rfl)) (pe_op (kAdd K) (pe_ix (kIx K) (pv 1) (pe_int) (fun _ _ => rfl)) (pv 2)) (nomark _)))))
   (pss_one (ps_never))
   pss_nil)
  (pss_one (ps_ret (pc (ok_plain_form E) hr (by decide) pass0 rfl (pa_cons (pc (ok_deep E) hr (by decide) pass0 rfl (pa_cons (pv 0) pa_nil)) (pa_cons (pc (ok_deep E) hr (by decide) pass0 rfl (pa_cons (pv 1) pa_nil)) (pa_cons (pv 2) pa_nil))))))))))), ?_⟩
  change (_ : TS) _ [some v0, some v1, some v2] H
  try dsimp only [cxOf, Cx.nox, Cx.blk]
  obtain ⟨b1, b2, h, l, r, d1, d2, d3, W, k⟩ := h
  obtain rfl := dp_toInt d3
  obtain ⟨z1, z2, z3, z4⟩ := W.sm
  have z5 := W.r0
  obtain ⟨a1, rfl, s1⟩ := dp_seqE d1
  obtain ⟨a2, rfl, s2⟩ := dp_seqE d2
  have hlast : h ≠ [] → l ≠ [] → gI h (-1 + h.length) ≤ gI l 0 := fun q1 q2 => by
    have := W.hl q1 q2
    rwa [show (h.length : Int) - 1 = -1 + h.length by omega] at this
  have llast : l ≠ [] → gI l (-1 + l.length) ≤ gI l 0 + r := fun q1 => by
    have := W.ll q1
    rwa [show (l.length : Int) - 1 = -1 + l.length by omega] at this
  have ne0 : ∀ {xs : List Int}, 0 < (xs.length : Int) → xs ≠ [] := fun q => List.length_pos_iff.mp (by omega)
  refine w_cut (M := fun σ' H' => σ' = [some (.ref a1), some (.ref a2), some (.int r)] ∧ Ex H H') ?_ ?_
  · walk_at "w"
    refine ⟨b1, h, d1, W.p1, z3, fun v H1 e1 q1 => ?_⟩
    obtain rfl := dp_toBl q1
    walk_at "w"
    refine ⟨b1, h, dp_ex e1 d1, W.r1, z3, fun v H2 e2 q1 => ?_⟩
    obtain rfl := dp_toBl q1
    walk_at "w"
    exact ⟨rfl, e1.trans e2⟩
  rintro σ' H0 ⟨rfl, e0⟩
  refine w_cut (M := fun σ' H' => σ' = [some (.ref a1), some (.ref a2), some (.int r)] ∧ Ex H H') ?_ ?_
  · walk_at "w"
    refine ⟨b2, l, dp_ex e0 d2, W.p2, z4, fun v H1 e1 q1 => ?_⟩
    obtain rfl := dp_toBl q1
    walk_at "w"
    refine ⟨b2, l, dp_ex (e0.trans e1) d2, W.r2, z4, fun v H2 e2 q1 => ?_⟩
    obtain rfl := dp_toBl q1
    walk_at "w"
    exact ⟨rfl, (e0.trans e1).trans e2⟩
  rintro σ' H1 ⟨rfl, e1⟩
  clear e0
  refine w_cut (M := fun σ' H' => σ' = [some (.ref a1), some (.ref a2), some (.int r)] ∧ Ex H H') ?_ ?_
  · walk_at "w"
    refine w_ite (fun q1 => ?_) (fun q1 => ?_)
    · walk_at "w"
      refine w_ite (fun q2 => ?_) (fun q2 => ?_)
      · have := hlast (ne0 q1) (ne0 q2)
        walk_at "w"
        exact ⟨rfl, e1⟩
      · walk_at "w"
        exact ⟨rfl, e1⟩
    · walk_at "w"
      exact ⟨rfl, e1⟩
  rintro σ' H2 ⟨rfl, e2⟩
  clear e1
  refine w_cut (M := fun σ' H' => σ' = [some (.ref a1), some (.ref a2), some (.int r)] ∧ Ex H H') ?_ ?_
  · walk_at "w"
    refine ⟨.int r, .int r, fun v H3 e3 q1 => ?_⟩
    rw [show dIsCount (.int r) = true from decide_eq_true z5] at q1
    obtain rfl := dp_toBl q1
    walk_at "w"
    refine w_ite (fun q1 => ?_) (fun q1 => ?_)
    · have := W.e0 (List.length_eq_zero_iff.mp (by omega))
      walk_at "w"
      exact ⟨rfl, e2.trans e3⟩
    · walk_at "w"
      exact ⟨rfl, e2.trans e3⟩
  rintro σ' H3 ⟨rfl, e3⟩
  clear e2
  refine w_cut (M := fun σ' H' => σ' = [some (.ref a1), some (.ref a2), some (.int r)] ∧ Ex H H') ?_ ?_
  · walk_at "w"
    refine w_ite (fun q1 => ?_) (fun q1 => ?_)
    · have := llast (ne0 q1)
      walk_at "w"
      exact ⟨rfl, e3⟩
    · walk_at "w"
      exact ⟨rfl, e3⟩
  rintro σ' H4 ⟨rfl, e4⟩
  clear e3
  walk_at "w"
  refine ⟨dSeqI b1 h, dp_ex e4 d1, shp_seq z3, fun v H5 e5 q5 => ?_⟩
  rw [deep_seq] at q5
  walk_at "w"
  refine ⟨dSeqI b2 l, dp_ex (e4.trans e5) d2, shp_seq z4, fun v2 H6 e6 q6 => ?_⟩
  rw [deep_seq] at q6
  walk_at "w"
  exact ⟨h, l, r, dp_ex e6 q5, q6, .int r, z5, W.sm, fun v H7 e7 q7 => k _ _ (by walk_at "ex") q7⟩

end
section
def tFlds (th tl : Addr) (r : Int) : List (Str × V) := putF "rise" (.int r) (putF "loop" (.ref tl) (putF "head" (.ref th) []))
theorem tn_hl : ¬ (("head" : Str) = "loop") := by decide +kernel
theorem tn_hr : ¬ (("head" : Str) = "rise") := by decide +kernel
theorem tn_lr : ¬ (("loop" : Str) = "rise") := by decide +kernel
theorem tFlds_head (th tl : Addr) (r : Int) : (tFlds th tl r).lookup ("head" : Str) = some (.ref th) := by
  unfold tFlds
  rw [lookup_putF, if_neg tn_hr, lookup_putF, if_neg tn_hl, lookup_putF, if_pos rfl]
theorem tFlds_loop (th tl : Addr) (r : Int) : (tFlds th tl r).lookup ("loop" : Str) = some (.ref tl) := by
  unfold tFlds
  rw [lookup_putF, if_neg tn_lr, lookup_putF, if_pos rfl]
theorem tFlds_rise (th tl : Addr) (r : Int) : (tFlds th tl r).lookup ("rise" : Str) = some (.int r) := by
  unfold tFlds
  rw [lookup_putF, if_pos rfl]
theorem putF_len (f : Str) (y : V) : ∀ fs : List (Str × V), (putF f y fs).length ≤ fs.length + 1
  | [] => Nat.le_refl _
  | (g, v) :: r => by
    show (if g = f then (g, y) :: r else (g, v) :: putF f y r).length ≤ _
    split
    · exact Nat.le_succ _
    · exact Nat.succ_le_succ (putF_len f y r)
/-- a table stands at x -/
def TabAt (K : PySem.W.Frag) (H : Hp) (x : Addr) (h l : List Int) (r : Int) : Prop := ∃ dx th tl, H x = some (.ins (He.ga K "Table") dx (tFlds th tl r)) ∧ SqT K H th (vI h) ∧ SqT K H tl (vI l)
theorem ex_tab {K : PySem.W.Frag} {H H' : Hp} {x : Addr} {h l : List Int} {r : Int} (e : Ex H H') (t : TabAt K H x h l r) : TabAt K H' x h l r := by
  obtain ⟨dx, th, tl, h1, h2, h3⟩ := t
  exact ⟨dx, th, tl, e _ _ h1, ex_t e h2, ex_t e h3⟩
section
variable {P : Program} {K : PySem.W.Frag} {mg : Str → Option Value} {H : Hp} {x : Addr} {h l : List Int} {r : Int} {Q : VK}
theorem r_tabHead (E : Env P K mg) (t : TabAt K H x h l r) (q : ∀ th, SqT K H th (vI h) → Q (.ref th) H) : GetF K "head" (.ref x) H Q := by
  obtain ⟨dx, th, tl, h1, h2, h3⟩ := t
  exact r_getF h1 E.c_Table E.na_Table_head (tFlds_head _ _ _) (q th h2)
theorem r_tabLoop (E : Env P K mg) (t : TabAt K H x h l r) (q : ∀ tl, SqT K H tl (vI l) → Q (.ref tl) H) : GetF K "loop" (.ref x) H Q := by
  obtain ⟨dx, th, tl, h1, h2, h3⟩ := t
  exact r_getF h1 E.c_Table E.na_Table_loop (tFlds_loop _ _ _) (q tl h3)
theorem r_tabRise (E : Env P K mg) (t : TabAt K H x h l r) (q : Q (.int r) H) : GetF K "rise" (.ref x) H Q := by
  obtain ⟨dx, th, tl, h1, h2, h3⟩ := t
  exact r_getF h1 E.c_Table E.na_Table_rise (tFlds_rise _ _ _) q
end
abbrev spInit (K : PySem.W.Frag) : Sp := sp4 fun x a b c H Q _ => ∃ p dx b1 b2 h l r, x = .ref p ∧ H p = some (.ins (He.ga K "Table") dx []) ∧ Dp K H a (dSeqI b1 h) ∧ Dp K H b (dSeqI b2 l) ∧ Dp K H c (.int r) ∧ Val h l r ∧ ∀ H', TabAt K H' p (plainF h l r).1 (plainF h l r).2.1 (plainF h l r).2.2 → (∀ a o, a ≠ p → H a = some o → H' a = some o) → Q .non H'
abbrev N_Table_init : List Str := ["self", "head", "loop", "rise", "told"]
theorem sc_Table_init : FnScope N_Table_init ["self", "head", "loop", "rise"] (defScope s_Table_init) := ⟨rfl, rfl, rfl, by decide +kernel, rfl, by decide +kernel, by decide +kernel⟩
theorem fx_Table_init {P : Program} {w : World} {K : PySem.W.Frag} {mg : Str → Option Value} {base : Heap} (E : Env P K mg) : ∃ fd, FunD K "__init__" "Table.__init__" (defArgs s_Table_init) (defBody s_Table_init) (defScope s_Table_init) (d_Table_init.dvs K) [] (d_Table_init.adr K) fd ∧ FnOk P w K mg base CX0 10 (d_Table_init.adr K) fd ["self", "head", "loop", "rise"] (spInit K) := by
  obtain ⟨fd, F⟩ := E.dd_Table_init
  refine ⟨fd, F, fnok0 F sc_Table_init sp4_len (fun cdv A outer s H vs Q X hr h => ?_)⟩
  have nd := sc_Table_init.nd
  obtain ⟨v0, v1, v2, v3, rfl, h⟩ := h
  refine ⟨_, (pss_cons (ps_set (i := 4) nd rfl (.inl rfl) (pc (ok_checked_table E) hr (by decide) pass0 rfl (pa_cons (pv 1) (pa_cons (pv 2) (pa_cons (pv 3) pa_nil)))))
  (pss_cons (kFldS K (ps_fld (pv 0) (pe_ix (kIx K) (pv 4) (pe_int) (fun _ _ => rfl)) rfl))
  (pss_cons (kFldS K (ps_fld (pv 0) (pe_ix (kIx K) (pv 4) (pe_int) (fun _ _ => rfl)) rfl))
  (pss_one (kFldS K (ps_fld (pv 0) (pe_ix (kIx K) (pv 4) (pe_int) (fun _ _ => rfl)) rfl)))))), ?_⟩
  change (_ : TS) _ [some v0, some v1, some v2, some v3, none] H
  try dsimp only [cxOf, Cx.nox, Cx.blk]
  obtain ⟨p, dx, b1, b2, h, l, r, rfl, hp, d1, d2, d3, W, k⟩ := h
  walk_at "w"
  refine ⟨b1, b2, h, l, r, d1, d2, d3, W, fun v H1 e1 q1 => ?_⟩
  obtain ⟨a, th, tl, rfl, s1, s2, s3⟩ := dp_raw q1
  have g1 : H1 p = some (.ins (He.ga K "Table") dx []) := e1 _ _ hp
  have nt : ∀ {a : Addr} {xs : List V} {H2 : Hp} {fs : List (Str × V)}, H2 p = some (.ins (He.ga K "Table") dx fs) → SqT K H2 a xs → ∀ o, SqT K (upd H2 p o) a xs := fun {a xs H2 fs} hp s o => by
    have key : ∀ u, H2 a = some u → (∃ o', u = .frz o' (.tup xs)) ∨ u = .tup xs → a ≠ p := by
      rintro u hu hc rfl
      rw [hp] at hu
      cases hu
      rcases hc with ⟨_, hc⟩ | hc <;> cases hc
    rcases s with (s | ⟨o', s⟩) | s
    · exact .inl (.inl (by rw [upd_ne (key _ s (.inr rfl))]; exact s))
    · exact .inl (.inr ⟨o', by rw [upd_ne (key _ s (.inl ⟨o', rfl⟩))]; exact s⟩)
    · exact .inr s
  have stp : ∀ {H2 : Hp} {fs : List (Str × V)} (o : HO), H2 p = some (.ins (He.ga K "Table") dx fs) → SqT K H2 a [.ref th, .ref tl, .int (plainF h l r).2.2] → SqT K H2 th (vI (plainF h l r).1) → SqT K H2 tl (vI (plainF h l r).2.1) →
      ∃ H3, upd H2 p o = H3 ∧ H3 p = some o ∧ SqT K H3 a [.ref th, .ref tl, .int (plainF h l r).2.2] ∧ SqT K H3 th (vI (plainF h l r).1) ∧ SqT K H3 tl (vI (plainF h l r).2.1) ∧ ∀ a u, a ≠ p → H2 a = some u → H3 a = some u :=
    fun {H2 fs} o hp t1 t2 t3 => ⟨_, rfl, upd_same, nt hp t1 o, nt hp t2 o, nt hp t3 o, fun a u ne e => by rw [upd_ne ne]; exact e⟩
  walk_at "w"
  refine r_putF g1 E.c_Table E.na_Table_head (by decide) ?_
  obtain ⟨H2, e2, g2, t1, t2, t3, k2⟩ := stp (.ins (He.ga K "Table") dx (putF "head" (.ref th) [])) g1 s1 s2 s3
  rw [e2]
  walk_at "w"
  refine r_putF g2 E.c_Table E.na_Table_loop (Nat.lt_of_le_of_lt (putF_len _ _ _) (by decide)) ?_
  obtain ⟨H3, e3, g3, t4, t5, t6, k3⟩ := stp (.ins (He.ga K "Table") dx (putF "loop" (.ref tl) (putF "head" (.ref th) []))) g2 t1 t2 t3
  rw [e3]
  walk_at "w"
  refine r_putF g3 E.c_Table E.na_Table_rise (Nat.lt_of_le_of_lt (Nat.le_trans (putF_len _ _ _) (Nat.succ_le_succ (putF_len _ _ _))) (by decide)) ?_
  obtain ⟨H4, e4, g4, t7, t8, t9, k4⟩ := stp (.ins (He.ga K "Table") dx (tFlds th tl (plainF h l r).2.2)) g3 t4 t5 t6
  refine k _ ⟨dx, th, tl, upd_same, ?_, ?_⟩ (fun a u ne e => ?_)
  · exact nt g3 t5 _
  · exact nt g3 t6 _
  · rw [upd_ne ne]
    exact k3 _ _ ne (k2 _ _ ne (e1 _ _ e))
/-- Table(..) made: from __init__'s promise to what a caller sees -/
theorem mk_tab {K : PySem.W.Frag} {H : Hp} {Q : VK} {a b c : V} {b1 b2 : Bool} {h l : List Int} {r : Int} {dvs ws : List V} (e : ws ++ dvs = [a, b, c]) (d1 : Dp K H a (dSeqI b1 h)) (d2 : Dp K H b (dSeqI b2 l)) (d3 : Dp K H c (.int r)) (W : Val h l r)
    (q : ∀ x H2, Ex H H2 → TabAt K H2 x (plainF h l r).1 (plainF h l r).2.1 (plainF h l r).2.2 → Q (.ref x) H2) :
    MakeI (He.ga K "Table") (spInit K) dvs E0 ws H Q := by
  intro x dx nx ndx ne
  rw [e]
  have ex : Ex H (upd (upd H dx (.own x)) x (.ins (He.ga K "Table") dx [])) := fun b o e => by
    rw [upd_ne (ne_of_none e nx), upd_ne (ne_of_none e ndx)]
    exact e
  refine ⟨_, _, _, _, rfl, x, dx, b1, b2, h, l, r, rfl, upd_same, dp_ex ex d1, dp_ex ex d2, dp_ex ex d3, W, fun H' t k => ⟨rfl, q x H' (fun b o e => ?_) t⟩⟩
  exact k b o (ne_of_none e nx) (ex b o e)
section
variable {P : Program} {w : World} {K : PySem.W.Frag} {mg : Str → Option Value} {base : Heap}
theorem ok_Table3 (E : Env P K mg) : Mkc P w K mg base CX0 10 "Table" (He.ga K "Table") (spInit K) [] := by
  obtain ⟨fd, F, k⟩ := fx_Table_init (P := P) (w := w) (base := base) E
  obtain ⟨ds, hd, hb⟩ := F.binds1 (ps := ["self", "head", "loop", "rise"]) 4 2 (List.cons_ne_nil _ _) rfl (fun T kV doc pm an cdv ct us its hu hi => match us, its, hu, hi with | [_, _, _, _], [_, _], _, _ => ⟨_, rfl, rfl⟩)
  exact ⟨_, fd, _, ds, E.mk_Table, k, E.g_Table, hb, hd⟩
end

end
section
section
variable {P : Program} {w : World} {K : PySem.W.Frag} {mg : Str → Option Value} {base : Heap}
theorem ok_Table2 (E : Env P K mg) : Mkc P w K mg base CX0 10 "Table" (He.ga K "Table") (spInit K) [.int 0] := by
  obtain ⟨fd, F, k⟩ := fx_Table_init (P := P) (w := w) (base := base) E
  obtain ⟨ds, hd, hb⟩ := F.binds1 (ps := ["self", "head", "loop", "rise"]) 3 1 (List.cons_ne_nil _ _) rfl (fun T kV doc pm an cdv ct us its hu hi => match us, its, hu, hi with | [_, _, _], [_, _], _, _ => ⟨_, rfl, rfl⟩)
  exact ⟨_, fd, _, ds, E.mk_Table, k, E.g_Table, hb, hd⟩
theorem ok_Table1 (E : Env P K mg) : Mkc P w K mg base CX0 10 "Table" (He.ga K "Table") (spInit K) [.ref (He.dflAt ("Table", some "__init__") 0 K), .int 0] := by
  obtain ⟨fd, F, k⟩ := fx_Table_init (P := P) (w := w) (base := base) E
  obtain ⟨ds, hd, hb⟩ := F.binds1 (ps := ["self", "head", "loop", "rise"]) 2 0 (List.cons_ne_nil _ _) rfl (fun T kV doc pm an cdv ct us its hu hi => match us, its, hu, hi with | [_, _], [_, _], _, _ => ⟨_, rfl, rfl⟩)
  exact ⟨_, fd, _, ds, E.mk_Table, k, E.g_Table, hb, hd⟩
end
local macro_rules | `(tactic| walk_at "hp") => `(tactic| first
  | with_reducible assumption
  | (with_reducible refine' ex_tab ?a ?b; (case a => with_reducible assumption); (case b => walk_at "hp")))
local macro_rules | `(tactic| walk_at "w2") => `(tactic| first
  | ((with_reducible refine' r_tabHead ?a ?b ?q); (case a => with_reducible assumption); (case b => walk_at "hp"))
  | ((with_reducible refine' r_tabLoop ?a ?b ?q); (case a => with_reducible assumption); (case b => walk_at "hp"))
  | ((with_reducible refine' r_tabRise ?a ?b ?q); (case a => with_reducible assumption); (case b => walk_at "hp")))
/-- gcd as the loop has it -/
def gcdI : Nat → Int → Int → Int
  | 0, a, _ => a
  | n + 1, a, b => if 0 < b then gcdI n b (a % b) else a
abbrev N_common_divisor : List Str := ["one", "other"]
theorem sc_common_divisor : FnScope N_common_divisor ["one", "other"] (defScope s_common_divisor) := ⟨rfl, rfl, rfl, by decide +kernel, rfl, by decide +kernel, by decide +kernel⟩
theorem ok_common_divisor {P : Program} {w : World} {K : PySem.W.Frag} {mg : Str → Option Value} {base : Heap} (E : Env P K mg) : Fn P w K mg base CX0 1 "common_divisor" (sp2 fun a b H Q _ => ∃ i j : Int, a = .int i ∧ b = .int j ∧ 0 ≤ i ∧ 0 ≤ j ∧ Q (.int (Int.gcd i j)) H) := by
  obtain ⟨fd, F⟩ := E.dd_common_divisor
  refine Fn.mk0 F E.g_common_divisor sc_common_divisor sp2_len (fun _ _ _ _ _ _ us hl => match us, hl with | [_, _], _ => rfl) (fun cdv A outer s H vs Q X hr h => ?_)
  have nd := sc_common_divisor.nd
  obtain ⟨v0, v1, rfl, h⟩ := h
  refine ⟨_, (pss_cons (ps_while PassesOwn.never (pt_cmpR op_gt (pv 1) (pe_int) (nomark _))
   (pss_one (ps_par (i := 0) (j := 1) rfl nd rfl rfl (by decide) rfl rfl (pa_cons (pv 1) (pa_cons (pe_op xMod (pv 0) (pv 1)) pa_nil)) rfl)))
  (pss_one (ps_ret (pv 0)))), ?_⟩
  change (_ : TS) _ [some v0, some v1] H
  try dsimp only [cxOf, Cx.nox, Cx.blk]
  obtain ⟨i, j, rfl, rfl, hi, hj, k⟩ := h
  walk_at "w"
  refine ⟨fun m σ' H' => ∃ a b : Int, σ' = [some (.int a), some (.int b)] ∧ H' = H ∧ 0 ≤ a ∧ 0 ≤ b ∧ b.toNat = m ∧ Int.gcd a b = Int.gcd i j, ⟨j.toNat, i, j, rfl, rfl, hi, hj, rfl, rfl⟩, ?_⟩
  rintro m σ' H' ⟨a, b, rfl, rfl, ha, hb, hm, hg⟩
  walk_at "w"
  by_cases c : 0 < b
  · walk_at "w"
    refine ⟨_, fun σ2 H2 h2 => h2, ?_⟩
    walk_at "w"
    refine ⟨_, _, rfl, ?_⟩
    have hlt := Int.emod_lt_of_pos a c
    have h0 := Int.emod_nonneg a (show b ≠ 0 by omega)
    refine ⟨(a % b).toNat, by omega, b, a % b, rfl, rfl, hb, h0, rfl, ?_⟩
    rw [← hg, Int.gcd_comm a b]
    obtain ⟨n, rfl⟩ := Int.eq_ofNat_of_zero_le ha
    obtain ⟨m, rfl⟩ := Int.eq_ofNat_of_zero_le hb
    show Nat.gcd m (n % m) = Nat.gcd m n
    rw [Nat.gcd_comm m n, Nat.gcd_comm m (n % m), Nat.gcd_comm n m, Nat.gcd_rec m n]
  · walk_at "w"
    have : b = 0 := by omega
    subst this
    rw [Int.gcd_zero_right] at hg
    have e : (Int.gcd i j : Int) = a := by rw [← hg]; omega
    rw [e] at k
    exact k
theorem tab_mine {K : PySem.W.Frag} {H : Hp} {x : Addr} {h l : List Int} {r : Int} (t : TabAt K H x h l r) : ∃ dx fs, H x = some (.ins (He.ga K "Table") dx fs) := by
  obtain ⟨dx, th, tl, h1, _⟩ := t
  exact ⟨dx, _, h1⟩
abbrev N_Table_call : List Str := ["self", "n"]
theorem sc_Table_call : FnScope N_Table_call ["self", "n"] (defScope s_Table_call) := ⟨rfl, rfl, rfl, by decide +kernel, rfl, by decide +kernel, by decide +kernel⟩
theorem fx_Table_call {P : Program} {w : World} {K : PySem.W.Frag} {mg : Str → Option Value} {base : Heap} (E : Env P K mg) : ∃ fd, FunD K "__call__" "Table.__call__" (defArgs s_Table_call) (defBody s_Table_call) (defScope s_Table_call) (d_Table_call.dvs K) [] (d_Table_call.adr K) fd ∧ FnOk P w K mg base CX0 3 (d_Table_call.adr K) fd ["self", "n"] (sp2 fun x n H Q _ => ∃ p h l r o, x = .ref p ∧ TabAt K H p h l r ∧ n = optV o ∧ (∀ i, o = some i → 0 ≤ i) ∧ RSm h l r ∧ RetD K (dOpt (valueAt h l r o)) H Q) := by
  obtain ⟨fd, F⟩ := E.dd_Table_call
  refine ⟨fd, F, fnok0 F sc_Table_call sp2_len (fun cdv A outer s H vs Q X hr h => ?_)⟩
  have nd := sc_Table_call.nd
  obtain ⟨v0, v1, rfl, h⟩ := h
  refine ⟨_, (pss_cons (ps_if (PW.pt (pw_and (pt_cmpR xIsNot (pv 1) (pe_non) (nomark _)) (pw_and1 (pt_not (kTru K (pc (ok_is_count E) hr (by decide) pass0 rfl (pa_cons (pv 1) pa_nil)) (by intro _; rfl))))))
   (pss_one (ps_never))
   pss_nil)
  (pss_one (ps_ret (pc (ok_value_at E) hr (by decide) pass0 rfl (pa_cons (pe_tup (pa_cons (kFld K (pv 0) rfl) (pa_cons (kFld K (pv 0) rfl) (pa_cons (kFld K (pv 0) rfl) pa_nil)))) (pa_cons (pv 1) pa_nil)))))), ?_⟩
  change (_ : TS) _ [some v0, some v1] H
  try dsimp only [cxOf, Cx.nox, Cx.blk]
  obtain ⟨p, h, l, r, o, rfl, ht, rfl, ho, hs, k⟩ := h
  cases o with
  | none =>
    simp only [optV]
    walk_at "w"
    intro th s1
    walk_at "w"
    intro tl s2
    walk_at "w"
    intro a H2 n2 e2 h2
    walk_at "w"
    exact ⟨h, l, r, none, dp_of_raw (st_of h2) (by walk_at "hp") (by walk_at "hp"), dp_of_opt (p := none), ho, hs, fun v H3 e3 d3 => k v H3 (by walk_at "ex") d3⟩
  | some i =>
    have hi := ho i rfl
    simp only [optV]
    walk_at "w"
    refine ⟨.int i, .int i, fun v H1 e1 d1 => ?_⟩
    rw [show dIsCount (.int i) = true from decide_eq_true hi] at d1
    obtain rfl := dp_toBl d1
    walk_at "w"
    intro th s1
    walk_at "w"
    intro tl s2
    walk_at "w"
    intro a H2 n2 e2 h2
    walk_at "w"
    exact ⟨h, l, r, some i, dp_of_raw (st_of h2) (by walk_at "hp") (by walk_at "hp"), dp_of_opt (p := some i), ho, hs, fun v H3 e3 d3 => k v H3 (by walk_at "ex") d3⟩
theorem ok_Table_call {P : Program} {w : World} {K : PySem.W.Frag} {mg : Str → Option Value} {base : Heap} (E : Env P K mg) : Cli P w K mg base 3 (He.ga K "Table") (sp2 fun x n H Q _ => ∃ p h l r o, x = .ref p ∧ TabAt K H p h l r ∧ n = optV o ∧ (∀ i, o = some i → 0 ≤ i) ∧ RSm h l r ∧ RetD K (dOpt (valueAt h l r o)) H Q) := by
  obtain ⟨fd, F, k⟩ := fx_Table_call (P := P) (w := w) (base := base) E
  exact ⟨_, fd, _, E.call_Table, k, F.bindsN (fun _ _ _ _ _ _ us hl => match us, hl with | [_, _], _ => rfl)⟩
/-- the pair of rise and length in lowest terms -/
def rateOf (l : List Int) (r : Int) : PyData := if l = [] then .none else .tuple [.int (r / Int.gcd l.length r), .int ((l.length : Int) / Int.gcd l.length r)]
abbrev N_Table_eq : List Str := ["self", "other"]
theorem sc_Table_eq : FnScope N_Table_eq ["self", "other"] (defScope s_Table_eq) := ⟨rfl, rfl, rfl, by decide +kernel, rfl, by decide +kernel, by decide +kernel⟩
theorem fx_Table_eq {P : Program} {w : World} {K : PySem.W.Frag} {mg : Str → Option Value} {base : Heap} (E : Env P K mg) : ∃ fd, FunD K "__eq__" "Table.__eq__" (defArgs s_Table_eq) (defBody s_Table_eq) (defScope s_Table_eq) (d_Table_eq.dvs K) [] (d_Table_eq.adr K) fd ∧ FnOk P w K mg base CX0 1 (d_Table_eq.adr K) fd ["self", "other"] (sp2 fun x y H Q _ => ∃ p h l r, x = .ref p ∧ TabAt K H p h l r ∧ ((∃ q h' l' r', y = .ref q ∧ TabAt K H q h' l' r' ∧ RetD K (.bool (decide (h = h' ∧ l = l' ∧ r = r'))) H Q) ∨ (∃ n ∈ ["tuple", "list", "int", "NoneType", "str", "bool"], TyX K H y (.type n) ∧ RetD K (.bool false) H Q))) := by
  obtain ⟨fd, F⟩ := E.dd_Table_eq
  refine ⟨fd, F, fnok0 F sc_Table_eq sp2_len (fun cdv A outer s H vs Q X hr h => ?_)⟩
  have nd := sc_Table_eq.nd
  obtain ⟨v0, v1, rfl, h⟩ := h
  refine ⟨_, (pss_one (ps_ret (pe_and (pe_callB (kIsi K) (by rfl) E.f_isinstance (by decide +kernel) (pa_cons (pv 1) (pa_cons (pe_glob (v := .ref (He.ga K "Table")) (by rfl) E.g_Table rfl) pa_nil))) (pe_and (pe_cmpR (kEq K hr) (kFld K (pv 0) rfl) (kFld K (pv 1) rfl) (nomark _)) (pe_and (pe_cmpR (kEq K hr) (kFld K (pv 0) rfl) (kFld K (pv 1) rfl) (nomark _)) (pe_one (pe_cmpR (kEq K hr) (kFld K (pv 0) rfl) (kFld K (pv 1) rfl) (nomark _)))))))), ?_⟩
  change (_ : TS) _ [some v0, some v1] H
  try dsimp only [cxOf, Cx.nox, Cx.blk]
  obtain ⟨p, h, l, r, rfl, ht, h2⟩ := h
  rcases h2 with ⟨q, h', l', r', rfl, hu, k⟩ | ⟨n, hn, ty, k⟩
  · walk_at "w"
    refine r_isiC (insB_ok E.ins_Table E.c_Table (tab_mine hu).choose_spec.choose_spec) E.kit_Table_self ?_
    walk_at "w"
    intro th s1
    walk_at "w"
    intro th' s2
    walk_at "w"
    by_cases c1 : h = h'
    · walk_at "w"
      intro tl s3
      walk_at "w"
      intro tl' s4
      walk_at "w"
      by_cases c2 : l = l'
      · walk_at "w"
        rw [show decide (h = h' ∧ l = l' ∧ r = r') = decide (r = r') by simp [c1, c2]] at k
        exact k.bl (Ex.refl _)
      · walk_at "w"
        rw [show decide (h = h' ∧ l = l' ∧ r = r') = false by simp [c2]] at k
        exact k.bl (Ex.refl _)
    · walk_at "w"
      rw [show decide (h = h' ∧ l = l' ∧ r = r') = false by simp [c1]] at k
      exact k.bl (Ex.refl _)
  · walk_at "w"
    refine r_isiC (b := false) ty ?_ ?_
    · simp at hn
      rcases hn with rfl | rfl | rfl | rfl | rfl | rfl
      · exact E.kit_Table_tuple
      · exact E.kit_Table_list
      · exact E.kit_Table_int
      · exact E.kit_Table_NoneType
      · exact E.kit_Table_str
      · exact E.kit_Table_bool
    walk_at "w"
    exact k.bl (Ex.refl _)
theorem ok_Table_eq {P : Program} {w : World} {K : PySem.W.Frag} {mg : Str → Option Value} {base : Heap} (E : Env P K mg) : EqOf P w K mg base 1 (He.ga K "Table") (sp2 fun x y H Q _ => ∃ p h l r, x = .ref p ∧ TabAt K H p h l r ∧ ((∃ q h' l' r', y = .ref q ∧ TabAt K H q h' l' r' ∧ RetD K (.bool (decide (h = h' ∧ l = l' ∧ r = r'))) H Q) ∨ (∃ n ∈ ["tuple", "list", "int", "NoneType", "str", "bool"], TyX K H y (.type n) ∧ RetD K (.bool false) H Q))) := by
  obtain ⟨fd, F, k⟩ := fx_Table_eq (P := P) (w := w) (base := base) E
  exact ⟨_, fd, _, E.m_Table_eq.at_, E.m_Table_eq.fn, k, F.bindsN (fun _ _ _ _ _ _ us hl => match us, hl with | [_, _], _ => rfl)⟩

end
section
local macro_rules | `(tactic| walk_at "hp") => `(tactic| first
  | with_reducible assumption
  | (with_reducible refine' ex_tab ?a ?b; (case a => with_reducible assumption); (case b => walk_at "hp")))
local macro_rules | `(tactic| walk_at "w2") => `(tactic| first
  | ((with_reducible refine' r_tabHead ?a ?b ?q); (case a => with_reducible assumption); (case b => walk_at "hp"))
  | ((with_reducible refine' r_tabLoop ?a ?b ?q); (case a => with_reducible assumption); (case b => walk_at "hp"))
  | ((with_reducible refine' r_tabRise ?a ?b ?q); (case a => with_reducible assumption); (case b => walk_at "hp")))
abbrev N_Table_raw : List Str := ["self"]
theorem sc_Table_raw : FnScope N_Table_raw ["self"] (defScope s_Table_raw) := ⟨rfl, rfl, rfl, by decide +kernel, rfl, by decide +kernel, by decide +kernel⟩
theorem fx_Table_raw {P : Program} {w : World} {K : PySem.W.Frag} {mg : Str → Option Value} {base : Heap} (E : Env P K mg) : ∃ fd, FunD K "raw" "Table.raw" (defArgs s_Table_raw) (defBody s_Table_raw) (defScope s_Table_raw) (d_Table_raw.dvs K) [] (d_Table_raw.adr K) fd ∧ FnOk P w K mg base CX0 1 (d_Table_raw.adr K) fd ["self"] (sp1 fun x H Q _ => ∃ p h l r, x = .ref p ∧ TabAt K H p h l r ∧ RetD K (dRaw h l r) H Q) := by
  obtain ⟨fd, F⟩ := E.dd_Table_raw
  refine ⟨fd, F, fnok0 F sc_Table_raw sp1_len (fun cdv A outer s H vs Q X hr h => ?_)⟩
  have nd := sc_Table_raw.nd
  obtain ⟨v0, rfl, h⟩ := h
  refine ⟨_, (pss_one (ps_ret (pe_tup (pa_cons (kFld K (pv 0) rfl) (pa_cons (kFld K (pv 0) rfl) (pa_cons (kFld K (pv 0) rfl) pa_nil)))))), ?_⟩
  change (_ : TS) _ [some v0] H
  try dsimp only [cxOf, Cx.nox, Cx.blk]
  obtain ⟨p, h, l, r, rfl, ht, k⟩ := h
  walk_at "w"
  intro th s1
  walk_at "w"
  intro tl s2
  walk_at "w"
  intro a H2 n2 e2 h2
  exact k _ _ (by walk_at "ex") (dp_of_raw (st_of h2) (by walk_at "hp") (by walk_at "hp"))
theorem ok_Table_raw {P : Program} {w : World} {K : PySem.W.Frag} {mg : Str → Option Value} {base : Heap} (E : Env P K mg) : Mt P w K mg base CX0 1 (He.ga K "Table") "raw" (sp1 fun x H Q _ => ∃ p h l r, x = .ref p ∧ TabAt K H p h l r ∧ RetD K (dRaw h l r) H Q) := by
  obtain ⟨fd, F, k⟩ := fx_Table_raw (P := P) (w := w) (base := base) E
  exact ⟨_, fd, _, E.c_Table, E.m_Table_raw, k, F.bindsN (fun _ _ _ _ _ _ us hl => match us, hl with | [_], _ => rfl)⟩

end
section
theorem ifBoundB_K {K : PySem.W.Frag} {M : Model} {A : Around} {E : Value → Shared → Prop} {s : Shared} {x C : Addr} {ox : Obj} {od : Option Obj} {name : Str} {id : String} {args : List Value} {Q : Option Value → Shared → Prop}
    (X : K.In s.heap) (I : PySem.W.InstAt s.heap x ox C od) (hs : PySem.W.findIn K (.ref C) name = some (some (.builtin id))) (S : Slot "object" name id)
    (h : wpAny M A (call (.builtin id) (.ref x :: args)) (fun v => Q (some v)) E s) : wpAny M A (callSpecialIfBound? (.ref x) name args) Q E s := by
  simp only [callSpecialIfBound?, bindSpecialIfBound?]
  refine wpAny_holding (wpAny_bind (wpAny_bind (wpAny_bind (I.type.here ((PySem.W.looks_findIn X hs).here ?_)))))
  simp only [S.bind]
  refine wpAny_bind (wpAny_askSetting (wpAny_ite ?_))
  have fin : wpAny M A (call (.builtin id) ([.ref x] ++ args) >>= fun v => pure (some v)) Q E s := wpAny_bind (wpAny_mono h (fun v s' h' => wpAny_pure h') fun _ _ h' => h')
  split
  · exact wpAny_bind (wpAny_pure (wpAny_pure fin))
  · exact wpAny_tryCatch (wpAny_bind (wpAny_pure (wpAny_pure fin)))
theorem check_ne_K {K : PySem.W.Frag} {M : Model} {A : Around} {E : Value → Shared → Prop} {s : Shared} {x C : Addr} {ox : Obj} {od : Option Obj} {u : Value} {Q : Unit → Shared → Prop}
    (X : K.In s.heap) (I : PySem.W.InstAt s.heap x ox C od) (hm : PySem.W.mroIn K C (.type "object") = some true) (hq : Q () s) : wpAny M A (checkBuiltinCall "object.__ne__" ⟨[.ref x, u], []⟩) Q E s := by
  have L0 := I.type (M := M)
  have L1 := PySem.W.looks_mroIn (M := M) X hm
  simp only [checkBuiltinCall, F.cmpKind_ne, F.cmpSplit_ne]
  refine wpAny_bind ?_
  · unfold isInstance
    refine wpAny_bind (L0.here (L1.here ?_))
    simp only [Bool.not_true, Bool.false_eq_true, if_false]
    have ha := F.cmpArgs_ne (.ref x) u
    cases hsig : Manifest.signature? "object.__ne__" with
    | none => exact wpAny_pure hq
    | some sig =>
      simp only [argsOk, hsig] at ha
      have h2 : Bind.checkArgs "object.__ne__" sig ⟨[.ref x, u], []⟩ = pure () := ha
      show wpAny M A (Bind.checkArgs "object.__ne__" sig ⟨[.ref x, u], []⟩) Q E _
      rw [h2]; exact wpAny_pure hq
theorem objNe_K {K : PySem.W.Frag} {prog : Program} {w : World} {A : Around} {E : Value → Shared → Prop} {s : Shared} {x C f : Addr} {ox : Obj} {od : Option Obj} {u : Value} {Q : Fin → Shared → Prop}
    (X : K.In s.heap) (I : PySem.W.InstAt s.heap x ox C od) (hs : PySem.W.findIn K (.ref C) "__eq__" = some (some (.ref f))) (hf : PySem.W.isFn K (.ref f) = true) (hu : A.units < cLine)
    (hcall : wpAny (model prog w) A (call (.ref f) [.ref x, u]) (fun v s' => ∃ b, v = .bool b ∧ Q (.done (.ret (.bool (!b)))) s') E s) :
    wpAny (model prog w) A (Builtin.«object.__ne__» ⟨[.ref x, u], []⟩) Q E s := by
  unfold Builtin.«object.__ne__»
  repeat (first
    | with_reducible refine wpAny_cRoomFor hu ?_
    | (refine wpAny_bind (m := callSpecialIfBound? (.ref x) (Str.ofString "__eq__") [u])
        (PySem.W.ifBound_K X I hs hf (wpAny_mono hcall (fun r s' hr => by
          obtain ⟨b, rfl, hq⟩ := hr
          repeat (first | exact hq | exact wpAny_pure hq | exact wpAny_truthy_bool hq | (refine wpAny_bind (m := truthy (.bool _)) (wpAny_truthy_bool ?_)) | wp_step)) fun _ _ e => e)))
    | wp_step)
theorem rich_ne_K {K : PySem.W.Frag} {prog : Program} {w : World} {A : Around} {E : Value → Shared → Prop} {s : Shared} {x C f : Addr} {ox : Obj} {od : Option Obj} {b tb : Value} {Q : Value → Shared → Prop}
    (X : K.In s.heap) (I : PySem.W.InstAt s.heap x ox C od) (hb : PySem.W.Looks (model prog w) s.heap (typeOf b) tb) (hn : PySem.W.notFirst K C tb = true)
    (hs : PySem.W.findIn K (.ref C) "__eq__" = some (some (.ref f))) (hf : PySem.W.isFn K (.ref f) = true) (hne : PySem.W.findIn K (.ref C) "__ne__" = some (some (.builtin "object.__ne__"))) (hm : PySem.W.mroIn K C (.type "object") = some true)
    (hu : A.units + 1 < cLine)
    (hcall : wpAny (model prog w) A.in1 (call (.ref f) [.ref x, b]) (fun v s' => ∃ b, v = .bool b ∧ Q (.bool (!b)) s') E s) :
    wpAny (model prog w) A (richCompare .NotEq (.ref x) b) Q E s := by
  have one : wpAny (model prog w) A (tryCompare (.ref x) "__ne__" b) (fun r s' => ∃ v, r = some v ∧ Q v s') E s := by
    simp only [tryCompare]
    refine wpAny_bind (ifBoundB_K X I hne F.cmp_object.ne (wpAny_call (codeAny_call_builtin F.cmp_object.ne.plain F.cmpEntry_ne
      (check_ne_K X I hm (objNe_K (A := A.in1) X I hs hf hu (wpAny_mono hcall (fun v s' hv => ?_) fun _ _ e => e))))))
    obtain ⟨b, rfl, hq⟩ := hv
    first | exact ⟨b, rfl, wpAny_pure ⟨_, rfl, hq⟩⟩ | exact ⟨b, rfl, wpAny_pure (wpAny_pure ⟨_, rfl, hq⟩)⟩
  unfold richCompare
  simp only [oneThing_ref]
  refine wpAny_holding (wpAny_bind (wpAny_cRoomFor (Nat.lt_of_succ_lt hu) ?_))
  rw [cmpInfo_NotEq]
  dsimp only
  refine wpAny_bind (I.type.here (wpAny_bind (hb.here ?_)))
  split
  · rename_i q
    have e : PySem.W.subIn K tb (.ref C) = some false := by
      rcases Bool.or_eq_true_iff.mp hn with e | e
      · rw [beq_iff_eq.mp e] at q; simp at q
      · exact beq_iff_eq.mp e
    refine wpAny_bind ((PySem.W.looks_subIn X e).here ?_)
    simp only [Bool.false_eq_true, if_false]
    refine wpAny_bind (wpAny_mono one (fun r s' z => ?_) fun _ _ e => e)
    obtain ⟨v, rfl, hq⟩ := z
    exact wpAny_pure hq
  · refine wpAny_bind (wpAny_pure ?_)
    simp only [Bool.false_eq_true, if_false]
    refine wpAny_bind (wpAny_mono one (fun r s' z => ?_) fun _ _ e => e)
    obtain ⟨v, rfl, hq⟩ := z
    exact wpAny_pure hq
section
variable {X : Cx} {n : Nat} {C : Addr} {sp : Sp}
theorem run_fnA {CX : CXT} {k : Nat} {f : Addr} {fd : FuncData} {ps : List Str} {sp : Sp} {dvs : List V} {ds : List Value} {E : XK} {pins : List (Addr × Obj)} {σ : L2.St} {H : Hp} {s : Shared} {Q : VK} {us : List Value} {vs : List V} (F : FnOk X.prog X.w X.K X.mg X.base CX k f fd ps sp) (hr : Room k X.A.in1) (hb : L2.Binds X.K fd ps ds) (hd : L2.Vals dvs ds) (hx : L2.Passes CX X E)
    (I : L2.Inv X pins σ H s) (r : L2.Vals vs us) (h : sp (vs ++ dvs) H Q E) : wpAny (model X.prog X.w) X.A.in1 (call (.ref f) us) (EP X pins σ Q) X.xe s := by
  have r2 : L2.Vals (vs ++ dvs) (us ++ ds) := r.append hd
  have hl : (us ++ ds).length = ps.length := by rw [← r2.length]; exact F.len _ _ _ _ h
  refine wpAny_call (codeAny_mono (F.run X.A.in1 X.stack s H ⟨us, []⟩ (us ++ ds) (vs ++ dvs) Q E hr I.env0.in1 (hb s us I.kIn hl) r2 h) fun r s' hq => ?_)
  cases r with
  | error e => exact hx pins σ H s e s' I hq
  | ok fl =>
    cases fl with
    | ret u => exact I.after hq
    | next => exact False.elim hq
    | brk => exact False.elim hq
    | cont => exact False.elim hq
/-- != over an own == -/
def rOwnNe (K : PySem.W.Frag) (C : Addr) (sp : Sp) : R2 := fun x y H Q => ∃ a dx fs t, x = .ref a ∧ H a = some (.ins C dx fs) ∧ TyX K H y t ∧ PySem.W.notFirst K C t = true ∧ PySem.W.findIn K (.ref C) "__ne__" = some (some (.builtin "object.__ne__")) ∧ PySem.W.mroIn K C (.type "object") = some true ∧ sp [x, y] H (fun v H' => ∃ b, v = .bl b ∧ Q (.bl (!b)) H') E0
theorem op_ownNe {j : Nat} (c : EqOf X.prog X.w X.K X.mg X.base n C sp) (hr : Room j X.A) (hn : n + 1 ≤ j) : OpR X (compareOp .NotEq) (rOwnNe X.K C sp) := by
  obtain ⟨g, fd, ps, hs, hf, F, hb⟩ := c.ex
  intro pins s σ H x y v u Q I rx ry h
  obtain ⟨a, dx, fs, t, rfl, ha, ty, hnf, hne, hm, q⟩ := h
  cases (show v = Value.ref a from rx)
  obtain ⟨mA, O, _⟩ := ins_get I.hok ha
  obtain ⟨od, J, _⟩ := O.look
  obtain ⟨Pk, kit, hk, _⟩ := kit_of I ry ty
  show wpAny _ _ (richCompare .NotEq (.ref a) u) _ _ _
  refine rich_ne_K (tb := t) I.kIn J (kit.ty _ _ I.kIn hk) hnf hs hf hne hm (by have := (hr.mono hn).un; omega) ?_
  refine wpAny_mono (run_fnA (us := [.ref a, u]) (vs := [.ref a, y]) (dvs := []) (ds := []) F (hr.mono hn).in1 hb .nil pass0 I (.cons rfl (.cons ry .nil)) q) (fun z s' hz => ?_) fun _ _ x => x
  obtain ⟨zv, H', I', rz, b, hzv, qz⟩ := hz
  subst hzv
  cases (show z = Value.bool b from rz)
  exact ⟨b, rfl, .bl (!b), H', I', rfl, qz⟩
def rNeO (K : PySem.W.Frag) (C : Addr) (sp : Sp) : R2 := fun x y H Q => rNeU K x y H Q ∨ rOwnNe K C sp x y H Q
end
theorem kNeO (K : PySem.W.Frag) {X : Cx} {n : Nat} {C : Addr} {sp : Sp} {j : Nat} (c : EqOf X.prog X.w X.K X.mg X.base n C sp) (hr : Room j X.A) (hn : n + 1 ≤ j) (h : X.K = K := by rfl) : OpR X (compareOp .NotEq) (rNeO K C sp) := by subst h; exact (xNe hr).or (op_ownNe c hr hn)
section
variable {K : PySem.W.Frag} {C : Addr} {sp : Sp} {H : Hp} {Q : VK} {x y : V}
theorem w_neO (h : rNeU K x y H Q) : rNeO K C sp x y H Q := .inl h
theorem r_ownNe {F} {a dx : Addr} {fs : List (Str × V)} {t : Value} (ha : H a = some (.ins C dx fs)) (ty : TyX K H y t) (hn : PySem.W.notFirst K C t = true) (hne : PySem.W.findIn K (.ref C) "__ne__" = some (some (.builtin "object.__ne__"))) (hm : PySem.W.mroIn K C (.type "object") = some true) (q : F (.ref a) y H (fun v H' => ∃ b, v = .bl b ∧ Q (.bl (!b)) H') E0) : rNeO K C (sp2 F) (.ref a) y H Q :=
  .inr ⟨a, dx, fs, t, rfl, ha, ty, hn, hne, hm, _, _, rfl, q⟩
end

end
section
abbrev N__law_pick : List Str := ["source", "many", "digit", "value"]
theorem sc__law_pick : FnScope N__law_pick ["source", "many"] (defScope s__law_pick) := ⟨rfl, rfl, rfl, by decide +kernel, rfl, by decide +kernel, by decide +kernel⟩
theorem ok__law_pick {P : Program} {w : World} {K : PySem.W.Frag} {mg : Str → Option Value} {base : Heap} (E : Env P K mg) : Fn P w K mg base CX0 1 "_law_pick" (sp2 fun s m H Q _ => ∃ (a : Addr) (n : Int), s = .ref a ∧ m = .int n ∧ 0 < n ∧ n < 4611686018427387904 ∧ SrcAt H a ∧ ∀ (r : Int) H', 0 ≤ r → r < n → SrcAt H' a → Fr a H H' → Q (.int r) H') := by
  obtain ⟨fd, F⟩ := E.dd__law_pick
  refine Fn.mk0 F E.g__law_pick sc__law_pick sp2_len (fun _ _ _ _ _ _ us hl => match us, hl with | [_, _], _ => rfl) (fun cdv A outer s H vs Q X hr h => ?_)
  have nd := sc__law_pick.nd
  obtain ⟨v0, v1, rfl, h⟩ := h
  refine ⟨_, (pss_cons (ps_if (pt_cmpR op_gt (pe_ix (kIx K) (pv 0) (pe_int) (fun _ _ => rfl)) (pe_int) (nomark _))
   (pss_cons (ps_set (i := 2) nd rfl (.inl rfl) (pe_op xMod (pe_callTy xInt (by rfl) E.f_int (by decide +kernel) (pa_cons (pe_ix (kIx K) (pv 0) (pe_int) (fun _ _ => rfl)) pa_nil)) (pv 1)))
  (pss_cons (ps_asg (pe_op xDiv (pe_ix (kIx K) (pv 0) (pe_int) (fun _ _ => rfl)) (pv 1)) (pg_sub (pv 0) (pe_int) set_list))
  (pss_one (ps_ret (pv 2)))))
   pss_nil)
  (pss_cons (ps_asg (pe_op (kAdd K) (pe_ix (kIx K) (pv 0) (pe_int) (fun _ _ => rfl)) (pe_int)) (pg_sub (pv 0) (pe_int) set_list))
  (pss_cons (ps_set (i := 3) nd rfl (.inl rfl) (pe_op xMod (pe_callTy xInt (by rfl) E.f_int (by decide +kernel) (pa_cons (pe_op (kMul K) (pe_op (kAdd K) (pe_ix (kIx K) (pv 0) (pe_int) (fun _ _ => rfl)) (pe_op (kMul K) (pe_int) (pe_ix (kIx K) (pv 0) (pe_int) (fun _ _ => rfl)))) (pe_int)) pa_nil)) (pe_int)))
  (pss_cons (ps_set (i := 3) nd rfl (.inl rfl) (pe_op xMod (pe_callTy xInt (by rfl) E.f_int (by decide +kernel) (pa_cons (pe_op (kAdd K) (pe_op (kAdd K) (pe_op (kMul K) (pv 3) (pv 3)) (pe_op (kMul K) (pe_int) (pe_ix (kIx K) (pv 0) (pe_int) (fun _ _ => rfl)))) (pe_ix (kIx K) (pv 0) (pe_int) (fun _ _ => rfl))) pa_nil)) (pe_int)))
  (pss_cons (ps_set (i := 3) nd rfl (.inl rfl) (pe_op xMod (pe_callTy xInt (by rfl) E.f_int (by decide +kernel) (pa_cons (pe_op (kAdd K) (pe_op (kMul K) (pv 3) (pe_int)) (pe_int)) pa_nil)) (pe_int)))
  (pss_cons (ps_set (i := 3) nd rfl (.inl rfl) (pe_op xMod (pe_callTy xInt (by rfl) E.f_int (by decide +kernel) (pa_cons (pe_op (kAdd K) (pe_op (kMul K) (pv 3) (pv 3)) (pv 3)) pa_nil)) (pe_int)))
  (pss_one (ps_ret (pe_op xMod (pe_callTy xInt (by rfl) E.f_int (by decide +kernel) (pa_cons (pe_op xDiv (pv 3) (pe_int)) pa_nil)) (pv 1)))))))))), ?_⟩
  change (_ : TS) _ [some v0, some v1, none, none] H
  try dsimp only [cxOf, Cx.nox, Cx.blk]
  obtain ⟨a, n, rfl, rfl, hn, hn2, hs, k⟩ := h
  obtain ⟨d, sd, c, h1, h2, h3, h4, h5⟩ := hs
  have s1 : SqL K H a [.int d, .int sd, .int c] := sq_of h1
  walk_at "w"
  by_cases c0 : 0 < d
  · walk_at "w"
    have hd0 : 0 ≤ d / n := Int.ediv_nonneg h2 (by omega)
    refine r_set (j := 0) h1 rfl ?_
    walk_at "w"
    exact k _ _ (Int.emod_nonneg _ (by omega)) (Int.emod_lt_of_pos _ hn) ⟨d / n, sd, c, upd_same, hd0, h3, h4, h5⟩ Fr.upd
  · walk_at "w"
    refine r_set (j := 2) h1 rfl ?_
    obtain ⟨H1, e1, g1, f1⟩ : ∃ H1, upd H a (.lst ([V.int d, .int sd, .int c].set 2 (.int (c + 1)))) = H1 ∧ H1 a = some (.lst [.int d, .int sd, .int (c + 1)]) ∧ Fr a H H1 := ⟨_, rfl, upd_same, Fr.upd⟩
    rw [e1]
    have s2 : SqL K H1 a [.int d, .int sd, .int (c + 1)] := sq_of g1
    walk_at "w"
    generalize hx1 : (sd + 104729 * (c + 1)) * 48271 % 2147483647 = x1
    have b1 : 0 ≤ x1 ∧ x1 < 2147483647 := by subst hx1; exact ⟨Int.emod_nonneg _ (by decide), Int.emod_lt_of_pos _ (by decide)⟩
    walk_at "w"
    generalize hx2 : (x1 * x1 + 7 * (c + 1) + sd) % 2147483629 = x2
    have b2 : 0 ≤ x2 ∧ x2 < 2147483629 := by subst hx2; exact ⟨Int.emod_nonneg _ (by decide), Int.emod_lt_of_pos _ (by decide)⟩
    walk_at "w"
    generalize hx3 : (x2 * 69621 + 5) % 2147483647 = x3
    have b3 : 0 ≤ x3 ∧ x3 < 2147483647 := by subst hx3; exact ⟨Int.emod_nonneg _ (by decide), Int.emod_lt_of_pos _ (by decide)⟩
    walk_at "w"
    exact k _ _ (Int.emod_nonneg _ (by omega)) (Int.emod_lt_of_pos _ hn) ⟨d, sd, c + 1, g1, h2, h3, h4, by omega⟩ f1

end
section
theorem bits_abs {z : Int} (h : Builtin.Int.intBits z ≤ 1048576) : ∃ n : Nat, n ≤ 1048577 ∧ z.natAbs < 2 ^ n := by
  refine ⟨z.natAbs.log2 + 1, ?_, Nat.lt_log2_self⟩
  unfold Builtin.Int.intBits at h
  split at h
  · rename_i h0
    have : z = 0 := by simpa using h0
    subst this
    decide
  · omega
theorem shl_of {z : Int} {j : Nat} (hj : j ≤ 100000) (hz : 0 ≤ z) (h : ∃ n : Nat, n ≤ 1048577 ∧ z.natAbs < 2 ^ n) (m : Nat) : CShl (z / 2 ^ m) (j : Int) := by
  obtain ⟨n, hn, hb⟩ := h
  refine shl_ok (n := n) (Nat.lt_of_le_of_lt ?_ hb) (by omega)
  have h1 : z / 2 ^ m ≤ z := Int.ediv_le_self _ hz
  have h2 : 0 ≤ z / 2 ^ m := Int.ediv_nonneg hz (Int.le_of_lt (Int.pow_pos (by decide)))
  omega
abbrev N__law_source : List Str := ["script", "place", "cell", "seed", "one", "number"]
theorem sc__law_source : FnScope N__law_source ["script", "place"] (defScope s__law_source) := ⟨rfl, rfl, rfl, by decide +kernel, rfl, by decide +kernel, by decide +kernel⟩
theorem ok__law_source {P : Program} {w : World} {K : PySem.W.Frag} {mg : Str → Option Value} {base : Heap} (E : Env P K mg) : Fn P w K mg base CX0 1 "_law_source" (sp2 fun s p H Q _ => ∃ (a : Addr) (ns : List Int) (i : Int), s = .ref a ∧ p = .int i ∧ SqL K H a (vI ns) ∧ (∀ z ∈ ns, Builtin.Int.intBits z ≤ 1048576) ∧ ns.length ≤ 63 ∧ 0 ≤ i ∧ i ≤ 100 ∧ ∀ x H', H x = none → Ex H H' → SrcAt H' x → Q (.ref x) H') := by
  obtain ⟨fd, F⟩ := E.dd__law_source
  refine Fn.mk0 F E.g__law_source sc__law_source sp2_len (fun _ _ _ _ _ _ us hl => match us, hl with | [_, _], _ => rfl) (fun cdv A outer s H vs Q X hr h => ?_)
  have nd := sc__law_source.nd
  obtain ⟨v0, v1, rfl, h⟩ := h
  refine ⟨_, (pss_cut (ps_set (i := 2) nd rfl (.inl rfl) (pe_ifExp (pt_cmpR op_lt (pv 1) (pe_callB (kLen K) (by rfl) E.f_len (by decide +kernel) (pa_cons (pv 0) pa_nil)) (nomark _)) (pe_ix (kIx K) (pv 0) (pv 1) (fun _ _ => rfl)) (pe_op (kAdd K) (pe_op (kMul K) (pe_int) (pv 1)) (pe_int))))
  (pss_cons (ps_set (i := 3) nd rfl (.inl rfl) (pe_op xMod (pe_callTy xInt (by rfl) E.f_int (by decide +kernel) (pa_cons (pe_op (kAdd K) (pe_op xMod (pe_callTy xInt (by rfl) E.f_int (by decide +kernel) (pa_cons (pv 2) pa_nil)) (pe_int)) (pe_op (kMul K) (pe_int) (pv 1))) pa_nil)) (pe_int)))
  (pss_cons (ps_for PassesOwn.never rfl (kSeq K (pe_slice (kSl K) (pv 0) po_none (po_some (pe_int)))) (pg_name (i := 4) nd rfl (.inl rfl))
   (pss_one (ps_set (i := 3) nd rfl (.inl rfl) (pe_op xMod (pe_callTy xInt (by rfl) E.f_int (by decide +kernel) (pa_cons (pe_op (kAdd K) (pe_op (kMul K) (pv 3) (pe_int)) (pe_op xMod (pe_callTy xInt (by rfl) E.f_int (by decide +kernel) (pa_cons (pv 4) pa_nil)) (pe_int))) pa_nil)) (pe_int)))))
  (pss_cons (ps_set (i := 5) nd rfl (.inl rfl) (pe_callB xAbs (by rfl) E.f_abs (by decide +kernel) (pa_cons (pv 2) pa_nil)))
  (pss_cons (ps_if (pt_cmpR op_lt (pv 5) (pe_op xPow (pe_int) (pe_int)) (nomark _))
   (pss_one (ps_ret (pe_lst (pa_cons (pe_int) (pa_cons (pv 3) (pa_cons (pe_int) pa_nil))))))
   pss_nil)
  (pss_cons (ps_if (pt_cmpR op_gt (pe_op xShr (pv 5) (pe_int)) (pe_int) (nomark _))
   (pss_one (ps_set (i := 5) nd rfl (.inl rfl) (pe_op xSub (pv 5) (pe_op xShl (pe_op xShr (pv 5) (pe_int)) (pe_int)))))
   pss_nil)
  (pss_one (ps_ret (pe_lst (pa_cons (pv 5) (pa_cons (pv 3) (pa_cons (pe_int) pa_nil)))))))))))), ?_⟩
  change (_ : TS) _ [some v0, some v1, none, none, none, none] H
  try dsimp only [cxOf, Cx.nox, Cx.blk]
  obtain ⟨a, ns, i, rfl, rfl, s0, hb, hz, hi, hi2, k⟩ := h
  have fin : ∀ (cell seed : Int) (H1 : Hp) (v : Option V), Ex H H1 → (∃ n : Nat, n ≤ 1048577 ∧ cell.natAbs < 2 ^ n) → 0 ≤ seed → seed < 2147483629 →
      tSeq (tAsg (tCB rAbsU (tCons (tVar 2) tNil)) (gName 5)) (tSeq (tIfS (tTest (tOp (rI0 fun i j => .bl (decide (i < j))) (tVar 5) (tOp rPow (tC (.int 10)) (tC (.int 18))))) (tRet (tLst (tCons (tC (.int 0)) (tCons (tVar 3) (tCons (tC (.int 0)) tNil))))) tNext)
        (tSeq (tIfS (tTest (tOp (rI0 fun i j => .bl (decide (j < i))) (tOp rShr (tVar 5) (tC (.int 4000))) (tC (.int 0)))) (tAsg (tOp rSubI (tVar 5) (tOp rShl (tOp rShr (tVar 5) (tC (.int 4000))) (tC (.int 4000)))) (gName 5)) tNext)
          (tRet (tLst (tCons (tVar 5) (tCons (tVar 3) (tCons (tC (.int 0)) tNil))))))) { nx := fun _ H' => Q .non H', rt := Q } [some (.ref a), some (.int i), some (.int cell), some (.int seed), v, none] H1 := by
    intro cell seed H1 v e1 hc h0 h1
    have ret : ∀ (d : Int), 0 ≤ d → NewL [.int d, .int seed, .int 0] H1 Q := fun d hd => w_newL (by walk_at "sz") fun p H2 n2 e2 h2 => k p H2 (fresh_back e1 n2) (e1.trans e2) ⟨d, seed, 0, h2, hd, h0, h1, Int.le_refl 0⟩
    repeat walk_at "w1"
    refine r_abs ?_
    repeat walk_at "w1"
    refine r_pow ⟨by decide, by decide, by decide⟩ ?_
    refine r_lt ?_
    repeat walk_at "w1"
    have hn0 : (0 : Int) ≤ (cell.natAbs : Int) := Int.natCast_nonneg _
    have hb : ∃ n : Nat, n ≤ 1048577 ∧ (cell.natAbs : Int).natAbs < 2 ^ n := hc
    generalize (10 : Int) ^ (18 : Int).toNat = B1
    generalize (cell.natAbs : Int) = num at *
    refine w_ite (fun _ => ?_) (fun _ => ?_)
    · repeat walk_at "w1"
      exact ret 0 (Int.le_refl 0)
    · repeat walk_at "w1"
      refine r_shr (by decide) ?_
      repeat walk_at "w1"
      refine r_gt ?_
      repeat walk_at "w1"
      refine w_ite (fun _ => ?_) (fun _ => ?_)
      · repeat walk_at "w1"
        refine r_shr (by decide) ?_
        repeat walk_at "w1"
        refine r_shl (shl_of (j := 4000) (by decide) hn0 hb _) ?_
        refine r_subI ?_
        repeat walk_at "w1"
        refine ret _ ?_
        have h4 : (4000 : Int).toNat = ((4000 : Nat) : Int).toNat := rfl
        generalize (4000 : Int).toNat = m at *
        rw [← h4]
        have h5 : num / 2 ^ m * 2 ^ m ≤ num := Int.ediv_mul_le num (Int.ne_of_gt (Int.pow_pos (by decide)))
        exact Int.sub_nonneg_of_le h5
      · repeat walk_at "w1"
        exact ret _ hn0
  refine w_cut (M := fun σ' H' => ∃ cell : Int, σ' = [some (.ref a), some (.int i), some (.int cell), none, none, none] ∧ H' = H ∧ ∃ n : Nat, n ≤ 1048577 ∧ cell.natAbs < 2 ^ n) ?_ ?_
  · walk_at "w"
    by_cases c : i < ns.length
    · walk_at "w"
      have hm : gI ns i ∈ ns := by
        unfold gI
        rw [List.getD_eq_getElem?_getD, List.getElem?_eq_getElem (show i.toNat < ns.length by omega)]
        exact List.getElem_mem _
      exact ⟨_, rfl, rfl, bits_abs (hb _ hm)⟩
    · walk_at "w"
      exact ⟨_, rfl, rfl, 10, by omega, by omega⟩
  rintro σ' H' ⟨cell, rfl, rfl, hc⟩
  walk_at "w"
  refine i_seqL ?_
  walk_at "w"
  intro p H1 n1 e1 h1
  walk_at "w"
  refine for_list (xs := vI (ns.take 2)) (Pv := fun _ σ' H2 => ∃ (sd : Int) (v : Option V), σ' = [some (.ref a), some (.int i), some (.int cell), some (.int sd), v, none] ∧ 0 ≤ sd ∧ sd < 2147483629 ∧ H2 = H1) ⟨_, _, rfl, Int.emod_nonneg _ (by decide), Int.emod_lt_of_pos _ (by decide), rfl⟩ (fun _ _ H2 _ q => by obtain ⟨_, _, _, _, _, rfl⟩ := q; exact sq_of h1) ?_ ?_
  · rintro j x σ' H2 hx ⟨sd, v, rfl, g0, g1, rfl⟩
    obtain ⟨z, _, rfl⟩ := List.mem_map.mp (List.mem_of_getElem? hx)
    walk_at "w"
    exact ⟨_, _, rfl, Int.emod_nonneg _ (by decide), Int.emod_lt_of_pos _ (by decide), rfl⟩
  · rintro σ' H2 ⟨sd, v, rfl, g0, g1, rfl⟩
    exact fin cell sd H2 v e1 hc g0 g1

end
section
/-- counts from lo on that do not fall, each step less than st -/
def Ris (ns : List Int) (lo st : Int) : Prop := rising ns ∧ (∀ n ∈ ns, lo ≤ n) ∧ ∀ n ∈ ns, n ≤ lo + ns.length * (st - 1)
theorem gI_app {ns : List Int} {v : Int} {i : Nat} : gI (ns ++ [v]) i = if i < ns.length then gI ns i else if i = ns.length then v else 0 := by
  unfold gI
  rw [Int.toNat_natCast, List.getD_eq_getElem?_getD, List.getD_eq_getElem?_getD]
  by_cases h : i < ns.length
  · rw [List.getElem?_append_left h, if_pos h]
  · rw [List.getElem?_append_right (by omega), if_neg h]
    by_cases h2 : i = ns.length
    · subst h2; simp
    · rw [if_neg h2, List.getElem?_eq_none (by simp; omega)]; rfl
theorem rising_app {ns : List Int} {v : Int} (h : rising ns) (hv : ∀ n ∈ ns, n ≤ v) : rising (ns ++ [v]) := by
  intro i hi
  rw [List.length_append, List.length_singleton] at hi
  have e : ((i : Int) + 1) = ((i + 1 : Nat) : Int) := rfl
  rw [e, gI_app, gI_app, if_pos (by omega)]
  by_cases h2 : i + 1 < ns.length
  · rw [if_pos h2]; exact h i h2
  · rw [if_neg h2, if_pos (by omega)]
    refine hv _ ?_
    unfold gI
    rw [Int.toNat_natCast, List.getD_eq_getElem?_getD, List.getElem?_eq_getElem (show i < ns.length by omega)]
    exact List.getElem_mem _
abbrev N__law_rising : List Str := ["source", "many", "low", "steps", "told", "value", "k"]
theorem sc__law_rising : FnScope N__law_rising ["source", "many", "low", "steps"] (defScope s__law_rising) := ⟨rfl, rfl, rfl, by decide +kernel, rfl, by decide +kernel, by decide +kernel⟩
theorem ok__law_rising {P : Program} {w : World} {K : PySem.W.Frag} {mg : Str → Option Value} {base : Heap} (E : Env P K mg) : Fn P w K mg base CX0 2 "_law_rising" (sp4 fun s m lo st H Q _ => ∃ (a : Addr) (n : Nat) (low step : Int), s = .ref a ∧ m = .int n ∧ lo = .int low ∧ st = .int step ∧ n ≤ 1000 ∧ 0 < step ∧ step < 1000000 ∧ SrcAt H a ∧ ∀ p ns H', H p = none → Fr a H H' → SrcAt H' a → H' p = some (.lst (vI ns)) → ns.length = n → Ris ns low step → Q (.ref p) H') := by
  obtain ⟨fd, F⟩ := E.dd__law_rising
  refine Fn.mk0 F E.g__law_rising sc__law_rising sp4_len (fun _ _ _ _ _ _ us hl => match us, hl with | [_, _, _, _], _ => rfl) (fun cdv A outer s H vs Q X hr h => ?_)
  have nd := sc__law_rising.nd
  obtain ⟨v0, v1, v2, v3, rfl, h⟩ := h
  refine ⟨_, (pss_cons (ps_set (i := 4) nd rfl (.inl rfl) (pe_lst (pa_nil)))
  (pss_cons (ps_set (i := 5) nd rfl (.inl rfl) (pv 2))
  (pss_cons (ps_for PassesOwn.never rfl (pi_range1 (by rfl) E.f_range (pa_cons (pv 1) pa_nil)) (pg_name (i := 6) nd rfl (.inl rfl))
   (pss_cons (ps_set (i := 5) nd rfl (.inl rfl) (pe_op (kAdd K) (pv 5) (pc (ok__law_pick E) hr (by decide) pass0 rfl (pa_cons (pv 0) (pa_cons (pv 3) pa_nil)))))
  (pss_one (ps_expr (kBM K (pe_bm PySem.F.plainAttrs_list PySem.F.slot_list_append PySem.F.type_list_append mt_append (pv 4) (pa_cons (pv 5) pa_nil)))))))
  (pss_one (ps_ret (pv 4)))))), ?_⟩
  change (_ : TS) _ [some v0, some v1, some v2, some v3, none, none, none] H
  try dsimp only [cxOf, Cx.nox, Cx.blk]
  obtain ⟨a, n, low, step, rfl, rfl, rfl, rfl, hn, hs0, hs1, hsrc, k⟩ := h
  walk_at "w"
  intro p H1 n1 e1 h1
  have hpa := hsrc.ne n1
  walk_at "w"
  refine for_range (lo := 0) (Pv := fun i σ' H' => ∃ (ns : List Int) (v : Int) (o : Option V), σ' = [some (.ref a), some (.int n), some (.int low), some (.int step), some (.ref p), some (.int v), o] ∧ Fr a H H' ∧ SrcAt H' a ∧ H' p = some (.lst (vI ns)) ∧ ns.length = i ∧ rising ns ∧ (∀ x ∈ ns, low ≤ x ∧ x ≤ v) ∧ low ≤ v ∧ v ≤ low + i * (step - 1))
    ⟨[], low, none, rfl, Fr.of e1, hsrc.ex e1, h1, rfl, fun i hi => by simp at hi, fun x hx => by simp at hx, Int.le_refl _, by omega⟩ ?_ ?_
  · rintro i σ' H' hi ⟨ns, v, o, rfl, f1, q1, g1, hl, hr1, hr2, hr3, hr4⟩
    walk_at "w"
    refine ⟨a, step, rfl, rfl, hs0, by omega, q1, fun r H2 r0 r1 q2 f2 => ?_⟩
    walk_at "w"
    have g2 := f2 p _ hpa g1
    walk_at "w"
    refine r_app (K := K) g2 (sz_lt (by rw [List.length_map]; omega)) ?_
    walk_at "w"
    refine ⟨ns ++ [v + r], v + r, _, rfl, fun b o nb hb => ?_, ?_, ?_, ?_, ?_, ?_, ?_, ?_⟩
    · rw [upd_ne (ne_of_none hb n1)]
      exact f2 b o nb (f1 b o nb hb)
    · obtain ⟨d, s, c, w1, w2⟩ := q2
      exact ⟨d, s, c, by rw [upd_ne hpa.symm]; exact w1, w2⟩
    · rw [show vI (ns ++ [v + r]) = vI ns ++ [V.int (v + r)] from List.map_append ..]
      exact upd_same
    · rw [List.length_append, hl]; rfl
    · exact rising_app hr1 fun x hx => by have := (hr2 x hx).2; omega
    · intro x hx
      rcases List.mem_append.mp hx with hx | hx
      · have := hr2 x hx; omega
      · have : x = v + r := by simpa using hx
        omega
    · omega
    · rw [show ((i + 1 : Nat) : Int) * (step - 1) = i * (step - 1) + (step - 1) by rw [Int.natCast_add, Int.add_mul]; omega]
      omega
  · rintro σ' H' ⟨ns, v, o, rfl, f1, q1, g1, hl, hr1, hr2, hr3, hr4⟩
    walk_at "w"
    rw [Int.toNat_natCast] at hl hr4
    refine k p ns H' n1 f1 q1 g1 hl ⟨hr1, fun x hx => (hr2 x hx).1, fun x hx => ?_⟩
    have := (hr2 x hx).2
    rw [hl]
    omega

end
section
theorem gI_lit {ns : List Int} {r lo hi : Int} (h : ns.all (fun n => decide (lo ≤ n) && decide (n ≤ hi)) = true) (r0 : 0 ≤ r) (r1 : r < ns.length) : lo ≤ gI ns r ∧ gI ns r ≤ hi := by
  have hl : r.toNat < ns.length := by omega
  have hm : gI ns r ∈ ns := by
    unfold gI
    rw [List.getD_eq_getElem?_getD, List.getElem?_eq_getElem hl]
    exact List.getElem_mem _
  have := List.all_eq_true.mp h _ hm
  simpa using this
theorem gI_mem {ns : List Int} {r : Int} (r0 : 0 ≤ r) (r1 : r < ns.length) : gI ns r ∈ ns := by
  unfold gI
  rw [List.getD_eq_getElem?_getD, List.getElem?_eq_getElem (show r.toNat < ns.length by omega)]
  exact List.getElem_mem _
theorem rising_le {ns : List Int} (h : rising ns) : ∀ (d i : Nat), i + d < ns.length → gI ns i ≤ gI ns (i + d)
  | 0, i, _ => Int.le_refl _
  | d + 1, i, hi => by
    refine Int.le_trans (rising_le h d i (by omega)) ?_
    have := h (i + d) (by omega)
    exact this
/-- small values -/
structure RawOk (h l : List Int) (r : Int) : Prop where
  val : Val h l r
  zh : h.length ≤ 4
  zl : l.length ≤ 4
  bh : ∀ n ∈ h, n ≤ 8
  bl : ∀ n ∈ l, n ≤ 16
  br : r ≤ 12
abbrev N__law_raw : List Str := ["source", "steady", "head", "low", "many", "loop", "more", "rise"]
theorem sc__law_raw : FnScope N__law_raw ["source", "steady"] (defScope s__law_raw) := ⟨rfl, rfl, rfl, by decide +kernel, rfl, by decide +kernel, by decide +kernel⟩
theorem ok__law_raw {P : Program} {w : World} {K : PySem.W.Frag} {mg : Str → Option Value} {base : Heap} (E : Env P K mg) : Fn P w K mg base CX0 3 "_law_raw" (sp2 fun s t H Q _ => ∃ (a : Addr) (b : Bool), s = .ref a ∧ t = .bl b ∧ SrcAt H a ∧ ∀ v H' h l r, Fr a H H' → SrcAt H' a → Dp K H' v (dRaw h l r) → RawOk h l r → (b = true → l ≠ [] ∧ 0 < r) → Q v H') := by
  obtain ⟨fd, F⟩ := E.dd__law_raw
  refine Fn.mk0 F E.g__law_raw sc__law_raw sp2_len (fun _ _ _ _ _ _ us hl => match us, hl with | [_, _], _ => rfl) (fun cdv A outer s H vs Q X hr h => ?_)
  have nd := sc__law_raw.nd
  obtain ⟨v0, v1, rfl, h⟩ := h
  refine ⟨_, (pss_cons (ps_set (i := 2) nd rfl (.inl rfl) (pc (ok__law_rising E) hr (by decide) pass0 rfl (pa_cons (pv 0) (pa_cons (pe_ix (kIx K) (pe_lst (pa_cons (pe_int) (pa_cons (pe_int) (pa_cons (pe_int) (pa_cons (pe_int) (pa_cons (pe_int) (pa_cons (pe_int) (pa_cons (pe_int) (pa_cons (pe_int) pa_nil))))))))) (pc (ok__law_pick E) hr (by decide) pass0 rfl (pa_cons (pv 0) (pa_cons (pe_int) pa_nil))) (fun _ _ => rfl)) (pa_cons (pe_int) (pa_cons (pe_int) pa_nil))))))
  (pss_cut (ps_set (i := 3) nd rfl (.inl rfl) (pe_ifExp (pt_cmpR op_gt (pe_callB (kLen K) (by rfl) E.f_len (by decide +kernel) (pa_cons (pv 2) pa_nil)) (pe_int) (nomark _)) (pe_ix (kIx K) (pv 2) (pe_un un_neg (pe_int)) (fun _ _ => rfl)) (pe_int)))
  (pss_cut (ps_if (PW.pt (pw_and (pt_not (kTru K (pv 1) (by intro _; rfl))) (pw_and1 (pt_cmpR (kEq K hr) (pc (ok__law_pick E) hr (by decide) pass0 rfl (pa_cons (pv 0) (pa_cons (pe_int) pa_nil))) (pe_int) (nomark _)))))
   (pss_one (ps_ret (pe_tup (pa_cons (pe_callTy (kTup K) (by rfl) E.f_tuple (by decide +kernel) (pa_cons (pv 2) pa_nil)) (pa_cons (pe_tup pa_nil) (pa_cons (pe_int) pa_nil))))))
   pss_nil)
  (pss_cons (ps_set (i := 4) nd rfl (.inl rfl) (pe_ix (kIx K) (pe_lst (pa_cons (pe_int) (pa_cons (pe_int) (pa_cons (pe_int) (pa_cons (pe_int) (pa_cons (pe_int) (pa_cons (pe_int) (pa_cons (pe_int) (pa_cons (pe_int) pa_nil))))))))) (pc (ok__law_pick E) hr (by decide) pass0 rfl (pa_cons (pv 0) (pa_cons (pe_int) pa_nil))) (fun _ _ => rfl)))
  (pss_cons (ps_set (i := 5) nd rfl (.inl rfl) (pc (ok__law_rising E) hr (by decide) pass0 rfl (pa_cons (pv 0) (pa_cons (pv 4) (pa_cons (pv 3) (pa_cons (pe_int) pa_nil))))))
  (pss_cons (ps_set (i := 6) nd rfl (.inl rfl) (pe_ix (kIx K) (pe_lst (pa_cons (pe_int) (pa_cons (pe_int) (pa_cons (pe_int) (pa_cons (pe_int) (pa_cons (pe_int) (pa_cons (pv 4) (pa_cons (pe_int) (pa_cons (pe_int) pa_nil))))))))) (pc (ok__law_pick E) hr (by decide) pass0 rfl (pa_cons (pv 0) (pa_cons (pe_int) pa_nil))) (fun _ _ => rfl)))
  (pss_cons (ps_set (i := 7) nd rfl (.inl rfl) (pe_op (kAdd K) (pe_op xSub (pe_ix (kIx K) (pv 5) (pe_un un_neg (pe_int)) (fun _ _ => rfl)) (pe_ix (kIx K) (pv 5) (pe_int) (fun _ _ => rfl))) (pv 6)))
  (pss_cut (ps_if (PW.pt (pw_and (kTru K (pv 1) (by intro _; rfl)) (pw_and1 (pt_cmpR (kEq K hr) (pv 7) (pe_int) (nomark _)))))
   (pss_one (ps_set (i := 7) nd rfl (.inl rfl) (pe_int)))
   pss_nil)
  (pss_one (ps_ret (pe_tup (pa_cons (pe_callTy (kTup K) (by rfl) E.f_tuple (by decide +kernel) (pa_cons (pv 2) pa_nil)) (pa_cons (pe_callTy (kTup K) (by rfl) E.f_tuple (by decide +kernel) (pa_cons (pv 5) pa_nil)) (pa_cons (pv 7) pa_nil)))))))))))))), ?_⟩
  change (_ : TS) _ [some v0, some v1, none, none, none, none, none, none] H
  try dsimp only [cxOf, Cx.nox, Cx.blk]
  obtain ⟨a, b, rfl, rfl, hsrc, k⟩ := h
  walk_at "w"
  intro p1 H1 n1 e1 h1
  walk_at "w"
  refine ⟨a, 8, rfl, rfl, by decide, by decide, hsrc.ex e1, fun r1 H2 r10 r18 q2 f2 => ?_⟩
  have g1 : H2 p1 = some (.lst (vI [0, 1, 2, 0, 3, 1, 4, 2])) := f2 p1 _ (hsrc.ne n1) h1
  have b1 := gI_lit (ns := [0, 1, 2, 0, 3, 1, 4, 2]) (lo := 0) (hi := 4) (by decide) r10 r18
  have F2 : Fr a H H2 := (Fr.of e1).trans f2
  walk_at "w"
  obtain ⟨m1, hm1⟩ := Int.eq_ofNat_of_zero_le b1.1
  rw [hm1]
  rw [hm1] at b1
  refine ⟨a, m1, 0, 3, rfl, rfl, rfl, rfl, by omega, by decide, by decide, q2, fun ph hs H3 n3 f3 q3 h3 hl3 hr3 => ?_⟩
  have hpa : ph ≠ a := q2.ne n3
  have F3 : Fr a H H3 := F2.trans f3
  have hs4 : hs.length ≤ 4 := by omega
  have hs0 : ∀ n ∈ hs, 0 ≤ n := hr3.2.1
  have hs8 : ∀ n ∈ hs, n ≤ 8 := fun n hn => by have := hr3.2.2 n hn; omega
  walk_at "w"
  refine w_cut (M := fun σ' H' => ∃ low : Int, σ' = [some (.ref a), some (.bl b), some (.ref ph), some (.int low), none, none, none, none] ∧ H' = H3 ∧ 0 ≤ low ∧ low ≤ 8 ∧ (hs ≠ [] → gI hs (hs.length - 1) = low)) ?_ ?_
  · walk_at "w"
    by_cases c : 0 < (hs.length : Int)
    · walk_at "w"
      have hm := gI_mem (ns := hs) (r := -1 + hs.length) (by omega) (by omega)
      exact ⟨_, rfl, rfl, hs0 _ hm, hs8 _ hm, fun _ => by rw [show (hs.length : Int) - 1 = -1 + hs.length by omega]⟩
    · walk_at "w"
      exact ⟨_, rfl, rfl, Int.le_refl _, by decide, fun h => absurd (List.length_pos_iff.mpr h) (by omega)⟩
  rintro σ' H' ⟨low, rfl, rfl, lo0, lo8, hlow⟩
  have V0 : Val hs [] 0 := ⟨hs0, fun n hn => by simp at hn, hr3.1, fun i hi => by simp at hi, Int.le_refl _, fun _ => rfl, fun _ h => absurd rfl h, fun h => absurd rfl h, ⟨by decide, by decide, by omega, by simp⟩⟩
  refine w_cut (M := fun σ' H' => σ' = [some (.ref a), some (.bl b), some (.ref ph), some (.int low), none, none, none, none] ∧ Fr a H H' ∧ SrcAt H' a ∧ H' ph = some (.lst (vI hs))) ?_ ?_
  · cases b with
    | true =>
      walk_at "w"
      exact ⟨rfl, F3, q3, h3⟩
    | false =>
      walk_at "w"
      refine ⟨a, 7, rfl, rfl, by decide, by decide, q3, fun r2 H4 _ _ q4 f4 => ?_⟩
      have h4 := f4 ph _ hpa h3
      walk_at "w"
      refine w_ite (fun _ => ?_) (fun _ => ?_)
      · walk_at "w"
        intro p5 H5 e5 s5
        walk_at "w"
        intro p6 H6 n6 e6 h6
        walk_at "w"
        intro p7 H7 n7 e7 h7
        exact k _ _ hs [] 0 (F3.trans (f4.trans (Fr.of ((e5.trans e6).trans e7)))) (q4.ex ((e5.trans e6).trans e7)) (dp_of_raw (st_of h7) (ex_t e7 (ex_t e6 s5)) (ex_t e7 (st_of h6))) ⟨V0, hs4, by simp, fun n hn => by have := hs8 n hn; omega, fun n hn => by simp at hn, by decide⟩ (fun h => nomatch h)
      · walk_at "w"
        exact ⟨rfl, F3.trans f4, q4, h4⟩
  rintro σ' H4 ⟨rfl, F4, q4, h4⟩
  walk_at "w"
  intro p5 H5 n5 e5 h5
  walk_at "w"
  refine ⟨a, 8, rfl, rfl, by decide, by decide, q4.ex e5, fun r2 H6 r20 r28 q6 f6 => ?_⟩
  have g6 : H6 p5 = some (.lst (vI [1, 2, 1, 3, 2, 1, 4, 3])) := f6 p5 _ (q4.ne n5) h5
  have b6 := gI_lit (ns := [1, 2, 1, 3, 2, 1, 4, 3]) (lo := 1) (hi := 4) (by decide) r20 r28
  have h6 := f6 ph _ hpa (e5 _ _ h4)
  have F6 : Fr a H H6 := F4.trans ((Fr.of e5).trans f6)
  walk_at "w"
  obtain ⟨m2, hm2⟩ := Int.eq_ofNat_of_zero_le (show 0 ≤ gI [1, 2, 1, 3, 2, 1, 4, 3] r2 by omega)
  rw [hm2]
  rw [hm2] at b6
  refine ⟨a, m2, low, 3, rfl, rfl, rfl, rfl, by omega, by decide, by decide, q6, fun pl ls H7 n7 f7 q7 h7 hl7 hr7 => ?_⟩
  have hla : pl ≠ a := q6.ne n7
  have F7 : Fr a H H7 := F6.trans f7
  have g7 := f7 ph _ hpa h6
  have hl0 : 0 < ls.length := by omega
  have ls0 : ∀ n ∈ ls, low ≤ n := hr7.2.1
  have ls8 : ∀ n ∈ ls, n ≤ 16 := fun n hn => by have := hr7.2.2 n hn; omega
  walk_at "w"
  intro p8 H8 n8 e8 h8
  walk_at "w"
  refine ⟨a, 8, rfl, rfl, by decide, by decide, q7.ex e8, fun r3 H9 r30 r38 q9 f9 => ?_⟩
  have g9 : H9 p8 = some (.lst (vI [1, 2, 1, 0, 3, m2, 2, 1])) := f9 p8 _ (q7.ne n8) h8
  have b9 : 0 ≤ gI [1, 2, 1, 0, 3, (m2 : Int), 2, 1] r3 ∧ gI [1, 2, 1, 0, 3, (m2 : Int), 2, 1] r3 ≤ 4 := gI_lit (by simp; omega) r30 r38
  have h9 := f9 ph _ hpa (e8 _ _ g7)
  have l9 := f9 pl _ hla (e8 _ _ h7)
  have F9 : Fr a H H9 := F7.trans ((Fr.of e8).trans f9)
  walk_at "w"
  generalize gI [1, 2, 1, 0, 3, (m2 : Int), 2, 1] r3 = more at *
  have hlast : gI ls 0 ≤ gI ls (-1 + ls.length) := by
    have := rising_le hr7.1 (ls.length - 1) 0 (by omega)
    rw [show (-1 + (ls.length : Int)) = ((0 : Nat) : Int) + ((ls.length - 1 : Nat) : Int) by omega]
    exact this
  have hf := gI_mem (ns := ls) (r := 0) (Int.le_refl _) (by omega)
  have hla2 := gI_mem (ns := ls) (r := -1 + ls.length) (by omega) (by omega)
  have z1 := ls0 _ hf
  have z2 := ls8 _ hla2
  have z3 := hr7.2.2 _ hla2
  generalize hfe : gI ls 0 = fst at *
  generalize hle : gI ls (-1 + ls.length) = lst at *
  refine w_cut (M := fun σ' H' => ∃ r : Int, σ' = [some (.ref a), some (.bl b), some (.ref ph), some (.int low), some (.int m2), some (.ref pl), some (.int more), some (.int r)] ∧ H' = H9 ∧ lst - fst ≤ r ∧ r ≤ 12 ∧ 0 ≤ r ∧ (b = true → 0 < r)) ?_ ?_
  · cases b with
    | true =>
      walk_at "w"
      by_cases c : lst - fst + more = 0
      · walk_at "w"
        exact ⟨_, rfl, rfl, by omega, by decide, by decide, fun _ => by decide⟩
      · walk_at "w"
        exact ⟨_, rfl, rfl, by omega, by omega, by omega, fun _ => by omega⟩
    | false =>
      walk_at "w"
      exact ⟨_, rfl, rfl, by omega, by omega, by omega, fun h => nomatch h⟩
  rintro σ' H' ⟨r, rfl, rfl, y1, y2, y3, y4⟩
  walk_at "w"
  intro p10 H10 e10 s10
  walk_at "w"
  intro p11 H11 e11 s11
  walk_at "w"
  intro p12 H12 n12 e12 h12
  have ee := (e10.trans e11).trans e12
  refine k _ _ hs ls r (F9.trans (Fr.of ee)) (q9.ex ee) (dp_of_raw (st_of h12) (ex_t e12 (ex_t e11 s10)) (ex_t e12 s11)) ⟨⟨hs0, fun n hn => by have := ls0 n hn; omega, hr3.1, hr7.1, y3, fun h => ?_, fun hne _ => ?_, fun _ => ?_, ⟨by omega, by omega, by omega, by omega⟩⟩, hs4, by omega, fun n hn => by have := hs8 n hn; omega, fun n hn => by have := ls8 n hn; omega, y2⟩ (fun hb => ⟨List.length_pos_iff.mp hl0, y4 hb⟩)
  · subst h; simp at hl0
  · rw [hlow hne, hfe]; exact z1
  · rw [show (ls.length : Int) - 1 = -1 + ls.length by omega, hle, hfe]; omega

end
section
abbrev N__law_is_integer : List Str := ["thing"]
theorem sc__law_is_integer : FnScope N__law_is_integer ["thing"] (defScope s__law_is_integer) := ⟨rfl, rfl, rfl, by decide +kernel, rfl, by decide +kernel, by decide +kernel⟩
theorem ok__law_is_integer {P : Program} {w : World} {K : PySem.W.Frag} {mg : Str → Option Value} {base : Heap} (E : Env P K mg) : Fn P w K mg base CX0 1 "_law_is_integer" (sp1 fun v H Q _ => ∃ d, Dp K H v d ∧ RetD K (.bool (dIsInt d)) H Q) := by
  obtain ⟨fd, F⟩ := E.dd__law_is_integer
  refine Fn.mk0 F E.g__law_is_integer sc__law_is_integer sp1_len (fun _ _ _ _ _ _ us hl => match us, hl with | [_], _ => rfl) (fun cdv A outer s H vs Q X hr h => ?_)
  have nd := sc__law_is_integer.nd
  obtain ⟨v0, rfl, h⟩ := h
  refine ⟨_, (pss_one (ps_ret (pe_and (pe_callB (kIsi K) (by rfl) E.f_isinstance (by decide +kernel) (pa_cons (pv 0) (pa_cons (pe_bltn (v := .ty "int") (by rfl) E.f_int (by decide +kernel) rfl) pa_nil))) (pe_one (pe_not (pe_callB (kIsi K) (by rfl) E.f_isinstance (by decide +kernel) (pa_cons (pv 0) (pa_cons (pe_bltn (v := .ty "bool") (by rfl) E.f_bool (by decide +kernel) rfl) pa_nil)))))))), ?_⟩
  change (_ : TS) _ [some v0] H
  try dsimp only [cxOf, Cx.nox, Cx.blk]
  obtain ⟨d, hd, k⟩ := h
  cases d with
  | dict x => exact (dp_nodict hd).elim
  | int i => cases hd; walk_at "w"; exact k.bl (by walk_at "ex")
  | _ => cases hd <;> (walk_at "w"; exact k.bl (by walk_at "ex"))
abbrev N__law_end : List Str := ["raw"]
theorem sc__law_end : FnScope N__law_end ["raw"] (defScope s__law_end) := ⟨rfl, rfl, rfl, by decide +kernel, rfl, by decide +kernel, by decide +kernel⟩
theorem ok__law_end {P : Program} {w : World} {K : PySem.W.Frag} {mg : Str → Option Value} {base : Heap} (E : Env P K mg) : Fn P w K mg base CX0 1 "_law_end" (sp1 fun v H Q _ => ∃ h l r, Dp K H v (dRaw h l r) ∧ RetD K (dOpt (endOf l r)) H Q) := by
  obtain ⟨fd, F⟩ := E.dd__law_end
  refine Fn.mk0 F E.g__law_end sc__law_end sp1_len (fun _ _ _ _ _ _ us hl => match us, hl with | [_], _ => rfl) (fun cdv A outer s H vs Q X hr h => ?_)
  have nd := sc__law_end.nd
  obtain ⟨v0, rfl, h⟩ := h
  refine ⟨_, (pss_cons (ps_if (PW.pt (pw_or (pt_cmpR (kEq K hr) (pe_callB (kLen K) (by rfl) E.f_len (by decide +kernel) (pa_cons (pe_ix (kIx K) (pv 0) (pe_int) (fun _ _ => rfl)) pa_nil)) (pe_int) (nomark _)) (pw_or1 (pt_cmpR op_gt (pe_ix (kIx K) (pv 0) (pe_int) (fun _ _ => rfl)) (pe_int) (nomark _)))))
   (pss_one (ps_ret (pe_non)))
   pss_nil)
  (pss_one (ps_ret (pe_ix (kIx K) (pe_ix (kIx K) (pv 0) (pe_int) (fun _ _ => rfl)) (pe_un un_neg (pe_int)) (fun _ _ => rfl))))), ?_⟩
  change (_ : TS) _ [some v0] H
  try dsimp only [cxOf, Cx.nox, Cx.blk]
  obtain ⟨hd, l, r, hD, k⟩ := h
  obtain ⟨a, th, tl, rfl, s1, s2, s3⟩ := dp_raw hD
  walk_at "w"
  by_cases h1 : l = []
  · subst h1
    walk_at "w"
    exact k.non (by walk_at "ex")
  · have h2 : 0 < l.length := List.length_pos_iff.mpr h1
    walk_at "w"
    unfold endOf at k
    by_cases h3 : 0 < r
    · walk_at "w"
      rw [if_pos (.inr h3)] at k
      exact k.non (by walk_at "ex")
    · walk_at "w"
      rw [if_neg (by rintro (h | h) <;> contradiction)] at k
      rw [show (l.length : Int) - 1 = -1 + l.length by omega] at k
      exact k.int (by walk_at "ex")
abbrev N__law_at : List Str := ["raw", "place", "rest"]
theorem sc__law_at : FnScope N__law_at ["raw", "place"] (defScope s__law_at) := ⟨rfl, rfl, rfl, by decide +kernel, rfl, by decide +kernel, by decide +kernel⟩
theorem ok__law_at {P : Program} {w : World} {K : PySem.W.Frag} {mg : Str → Option Value} {base : Heap} (E : Env P K mg) : Fn P w K mg base CX0 2 "_law_at" (spValueAt K) := by
  obtain ⟨fd, F⟩ := E.dd__law_at
  refine Fn.mk0 F E.g__law_at sc__law_at sp2_len (fun _ _ _ _ _ _ us hl => match us, hl with | [_, _], _ => rfl) (fun cdv A outer s H vs Q X hr h => ?_)
  have nd := sc__law_at.nd
  obtain ⟨v0, v1, rfl, h⟩ := h
  refine ⟨_, (pss_cons (ps_if (pt_cmpR xIs (pv 1) (pe_non) (nomark _))
   (pss_one (ps_ret (pc (ok__law_end E) hr (by decide) pass0 rfl (pa_cons (pv 0) pa_nil))))
   pss_nil)
  (pss_cons (ps_if (pt_cmpR (kEq K hr) (pv 1) (pe_int) (nomark _))
   (pss_one (ps_ret (pe_int)))
   pss_nil)
  (pss_cons (ps_if (pt_cmpR op_le (pv 1) (pe_callB (kLen K) (by rfl) E.f_len (by decide +kernel) (pa_cons (pe_ix (kIx K) (pv 0) (pe_int) (fun _ _ => rfl)) pa_nil)) (nomark _))
   (pss_one (ps_ret (pe_ix (kIx K) (pe_ix (kIx K) (pv 0) (pe_int) (fun _ _ => rfl)) (pe_op xSub (pv 1) (pe_int)) (fun _ _ => rfl))))
   pss_nil)
  (pss_cons (ps_if (pt_cmpR (kEq K hr) (pe_callB (kLen K) (by rfl) E.f_len (by decide +kernel) (pa_cons (pe_ix (kIx K) (pv 0) (pe_int) (fun _ _ => rfl)) pa_nil)) (pe_int) (nomark _))
   (pss_one (ps_ret (pe_non)))
   pss_nil)
  (pss_cons (ps_set (i := 2) nd rfl (.inl rfl) (pe_op xSub (pe_op xSub (pv 1) (pe_callB (kLen K) (by rfl) E.f_len (by decide +kernel) (pa_cons (pe_ix (kIx K) (pv 0) (pe_int) (fun _ _ => rfl)) pa_nil))) (pe_int)))
  (pss_one (ps_ret (pe_op (kAdd K) (pe_ix (kIx K) (pe_ix (kIx K) (pv 0) (pe_int) (fun _ _ => rfl)) (pe_op xMod (pv 2) (pe_callB (kLen K) (by rfl) E.f_len (by decide +kernel) (pa_cons (pe_ix (kIx K) (pv 0) (pe_int) (fun _ _ => rfl)) pa_nil))) (fun _ _ => rfl)) (pe_op (kMul K) (pe_ix (kIx K) (pv 0) (pe_int) (fun _ _ => rfl)) (pe_op xDiv (pv 2) (pe_callB (kLen K) (by rfl) E.f_len (by decide +kernel) (pa_cons (pe_ix (kIx K) (pv 0) (pe_int) (fun _ _ => rfl)) pa_nil)))))))))))), ?_⟩
  change (_ : TS) _ [some v0, some v1, none] H
  try dsimp only [cxOf, Cx.nox, Cx.blk]
  obtain ⟨hd, l, r, p, hD, hp, hn, hr1, k⟩ := h
  obtain ⟨a, th, tl, rfl, s1, s2, s3⟩ := dp_raw hD
  obtain ⟨r1, r2, r3, r4⟩ := hr1
  cases p with
  | none =>
    obtain rfl := dp_toNon hp
    walk_at "w"
    exact ⟨hd, l, r, hD, k⟩
  | some p =>
    obtain rfl := dp_toInt hp
    have hn0 := hn p rfl
    walk_at "w"
    have k' : RetD K (dOpt (vat hd l r p)) H Q := k
    unfold vat at k'
    by_cases h0 : p = 0
    · walk_at "w"
      rw [if_pos h0] at k'
      exact k'.int (by walk_at "ex")
    · rw [if_neg h0] at k'
      walk_at "w"
      by_cases h1 : p ≤ hd.length
      · rw [if_pos h1] at k'
        walk_at "w"
        exact k'.int (by walk_at "ex")
      · rw [if_neg h1] at k'
        walk_at "w"
        by_cases h2 : l = []
        · rw [if_pos h2] at k'
          subst h2
          walk_at "w"
          exact k'.non (by walk_at "ex")
        · rw [if_neg h2] at k'
          have h3 : 0 < l.length := List.length_pos_iff.mpr h2
          have h4 : (p - hd.length - 1) % l.length < l.length := Int.emod_lt_of_pos _ (by omega)
          have h5 : 0 ≤ (p - hd.length - 1) % l.length := Int.emod_nonneg _ (by omega)
          walk_at "w"
          exact k'.int (by walk_at "ex")

end
section
def Rng3 (R : It → Hp → Prop) (vs : List V) (H1 : Hp) : Prop := ∃ i j c n, vs = [V.int i, V.int j, V.int c] ∧ RgC i j c n ∧ R (Itc i c n) H1
theorem i_r3 {H : Hp} {ta : TA} {σ : L2.St} {R : It → Hp → Prop} (h : ta σ H fun vs H1 => Rng3 R vs H1) : iRng3 ta σ H R := h
theorem i_x3 {H : Hp} {i j c : Int} {n : Nat} {R : It → Hp → Prop} (hc : RgC i j c n) (h : R (Itc i c n) H) : Rng3 R [V.int i, V.int j, V.int c] H := ⟨i, j, c, n, rfl, hc, h⟩
theorem w_cont {D : Ends} {σ : L2.St} {H : Hp} (h : D.ct σ H) : tCont D σ H := h
/-- the cut of the row as the law has it: from c on, size s -/
def lcut (row : List Int) (s : Nat) (r : Int) : Nat → Nat
  | 0 => 0
  | c + 1 => if s < c + 1 ∧ gI row ((c : Int) - s) = gI row c - r then lcut row s r c else c + 1
theorem lcut_le (row : List Int) (s : Nat) (r : Int) : ∀ c, lcut row s r c ≤ c
  | 0 => Nat.le_refl _
  | c + 1 => by
    unfold lcut
    split
    · exact Nat.le_succ_of_le (lcut_le row s r c)
    · exact Nat.le_refl _
theorem lcut_ge (row : List Int) (s : Nat) (r : Int) : ∀ c, s ≤ c → s ≤ lcut row s r c
  | 0, h => h
  | c + 1, h => by
    unfold lcut
    split
    · rename_i q
      exact lcut_ge row s r c (by omega)
    · exact h
noncomputable def lawF (h l : List Int) (r : Int) : List Int × List Int × Int :=
  if l = [] then (h, [], 0) else
    ((h ++ (shortLoop l r).1).take (lcut (h ++ (shortLoop l r).1) (shortLoop l r).1.length (shortLoop l r).2 (h ++ (shortLoop l r).1).length - (shortLoop l r).1.length),
     ((h ++ (shortLoop l r).1).drop (lcut (h ++ (shortLoop l r).1) (shortLoop l r).1.length (shortLoop l r).2 (h ++ (shortLoop l r).1).length - (shortLoop l r).1.length)).take (shortLoop l r).1.length,
     (shortLoop l r).2)
section
variable {K : PySem.W.Frag} {H : Hp} {Q : VK}
theorem r_lstE {a : Addr} {xs : List V} (h : SqE K H a xs) (q : ∀ p H1, H p = none → Ex H H1 → H1 p = some (.lst xs) → Q (.ref p) H1) : rLstU K [.ref a] H Q := h.elim (fun h => r_lstL h q) (fun h => r_lstT h q)
theorem r_tupE {a : Addr} {xs : List V} (h : SqE K H a xs) (q : ∀ p H1, Ex H H1 → SqT K H1 p xs → Q (.ref p) H1) : rTupU K [.ref a] H Q := h.elim (fun h => r_tupL h q) (fun h => r_tupT h q)
theorem r_slEto {a : Addr} {xs : List Int} {i : Int} (h : SqE K H a (vI xs)) (h0 : 0 ≤ i) (q : ∀ p H1, Ex H H1 → SqE K H1 p (vI (xs.take i.toNat)) → Q (.ref p) H1) : rSl K (.ref a) none (some i) H Q := h.elim (fun h => r_slLto h h0 fun p H1 _ e g => q p H1 e (.inl (sq_of g))) (fun h => r_slTto h h0 fun p H1 e g => q p H1 e (.inr g))
theorem r_slEfrom {a : Addr} {xs : List Int} {i : Int} (h : SqE K H a (vI xs)) (h0 : 0 ≤ i) (q : ∀ p H1, Ex H H1 → SqE K H1 p (vI (xs.drop i.toNat)) → Q (.ref p) H1) : rSl K (.ref a) (some i) none H Q := h.elim (fun h => r_slLfrom h h0 fun p H1 _ e g => q p H1 e (.inl (sq_of g))) (fun h => r_slTfrom h h0 fun p H1 e g => q p H1 e (.inr g))
end
local macro_rules | `(tactic| walk_at "w2") => `(tactic| first
  | ((with_reducible refine' r_lstE ?a ?q); (case a => walk_at "hp"))
  | ((with_reducible refine' r_tupE ?a ?q); (case a => walk_at "hp"))
  | ((with_reducible refine' r_slEto ?a ?b ?q); (case a => walk_at "hp"); (case b => walk_at "om")))
abbrev N__law_plain : List Str := ["head", "loop", "rise", "size", "many", "turns", "step", "row", "cut", "k"]
theorem sc__law_plain : FnScope N__law_plain ["head", "loop", "rise"] (defScope s__law_plain) := ⟨rfl, rfl, rfl, by decide +kernel, rfl, by decide +kernel, by decide +kernel⟩
theorem ok__law_plain {P : Program} {w : World} {K : PySem.W.Frag} {mg : Str → Option Value} {base : Heap} (E : Env P K mg) : Fn P w K mg base CX0 1 "_law_plain" (sp3 fun a b c H Q _ => ∃ b1 b2 h l r, Dp K H a (dSeqI b1 h) ∧ Dp K H b (dSeqI b2 l) ∧ Dp K H c (.int r) ∧ 0 ≤ r ∧ RSm h l r ∧ RetD K (dRaw (lawF h l r).1 (lawF h l r).2.1 (lawF h l r).2.2) H Q) := by
  obtain ⟨fd, F⟩ := E.dd__law_plain
  refine Fn.mk0 F E.g__law_plain sc__law_plain sp3_len (fun _ _ _ _ _ _ us hl => match us, hl with | [_, _, _], _ => rfl) (fun cdv A outer s H vs Q X hr h => ?_)
  have nd := sc__law_plain.nd
  obtain ⟨v0, v1, v2, rfl, h⟩ := h
  refine ⟨_, (pss_cons (ps_if (pt_cmpR (kEq K hr) (pe_callB (kLen K) (by rfl) E.f_len (by decide +kernel) (pa_cons (pv 1) pa_nil)) (pe_int) (nomark _))
   (pss_one (ps_ret (pe_tup (pa_cons (pe_callTy (kTup K) (by rfl) E.f_tuple (by decide +kernel) (pa_cons (pv 0) pa_nil)) (pa_cons (pe_tup pa_nil) (pa_cons (pe_int) pa_nil))))))
   pss_nil)
  (pss_cons (ps_set (i := 3) nd rfl (.inl rfl) (pe_callB (kLen K) (by rfl) E.f_len (by decide +kernel) (pa_cons (pv 1) pa_nil)))
  (pss_cut (ps_for PassesOwn.never rfl (pi_range3 (by rfl) E.f_range (pa_cons (pe_callB (kLen K) (by rfl) E.f_len (by decide +kernel) (pa_cons (pv 1) pa_nil)) (pa_cons (pe_int) (pa_cons (pe_un un_neg (pe_int)) pa_nil)))) (pg_name (i := 4) nd rfl (.inr rfl))
   (pss_cons (ps_set (i := 5) nd rfl (.inl rfl) (pe_op xDiv (pe_callB (kLen K) (by rfl) E.f_len (by decide +kernel) (pa_cons (pv 1) pa_nil)) (pv 4)))
  (pss_cons (ps_if (PW.pt (pw_or (pt_cmpR (kNe K hr) (pe_op (kMul K) (pv 5) (pv 4)) (pe_callB (kLen K) (by rfl) E.f_len (by decide +kernel) (pa_cons (pv 1) pa_nil)) (nomark _)) (pw_or1 (pt_cmpR (kNe K hr) (pe_op xMod (pe_callTy xInt (by rfl) E.f_int (by decide +kernel) (pa_cons (pv 2) pa_nil)) (pv 5)) (pe_int) (nomark _)))))
   (pss_one (ps_continue))
   pss_nil)
  (pss_cons (ps_set (i := 6) nd rfl (.inr rfl) (pe_op xDiv (pv 2) (pv 5)))
  (pss_one (ps_if (kTru K (pe_callB (kAll K rfl) (by rfl) E.f_all (by decide +kernel) (pa_cons (pe_lc (own := [("k", 9)]) (g := gName 9) (tt := tYes) rfl nd (pi_range1 (by rfl) E.f_range (pa_cons (pe_op xSub (pe_callB (kLen K) (by rfl) E.f_len (by decide +kernel) (pa_cons (pv 1) pa_nil)) (pv 4)) pa_nil)) (blkOk_by (N := N__law_plain) (sc := defScope s__law_plain) (by decide +kernel)) (fun _ _ _ _ _ => pg_name (i := 9) nd rfl (Or.inl rfl)) (fun _ _ _ _ _ => pts_nil) (fun _ _ _ _ _ => pe_cmpR (kEq K hr) (pe_ix (kIx K) (pv 1) (pe_op (kAdd K) (pv 9) (pv 4)) (fun _ _ => rfl)) (pe_op (kAdd K) (pe_ix (kIx K) (pv 1) (pv 9) (fun _ _ => rfl)) (pv 6)) (nomark _))) pa_nil)) (by intro _; rfl))
   (pss_one (ps_set (i := 3) nd rfl (.inl rfl) (pv 4)))
   pss_nil))))))
  (pss_cons (ps_set (i := 2) nd rfl (.inl rfl) (pe_op xDiv (pv 2) (pe_op xDiv (pe_callB (kLen K) (by rfl) E.f_len (by decide +kernel) (pa_cons (pv 1) pa_nil)) (pv 3))))
  (pss_cons (ps_set (i := 7) nd rfl (.inl rfl) (pe_op (kAdd K) (pe_callTy (kLst K) (by rfl) E.f_list (by decide +kernel) (pa_cons (pv 0) pa_nil)) (pe_callTy (kLst K) (by rfl) E.f_list (by decide +kernel) (pa_cons (pe_slice (kSl K) (pv 1) po_none (po_some (pv 3))) pa_nil))))
  (pss_cons (ps_set (i := 8) nd rfl (.inl rfl) (pe_callB (kLen K) (by rfl) E.f_len (by decide +kernel) (pa_cons (pv 7) pa_nil)))
  (pss_cons (ps_while PassesOwn.never (PW.pt (pw_and (pt_cmpR op_gt (pv 8) (pv 3) (nomark _)) (pw_and1 (pt_cmpR (kEq K hr) (pe_ix (kIx K) (pv 7) (pe_op xSub (pe_op xSub (pv 8) (pe_int)) (pv 3)) (fun _ _ => rfl)) (pe_op xSub (pe_ix (kIx K) (pv 7) (pe_op xSub (pv 8) (pe_int)) (fun _ _ => rfl)) (pv 2)) (nomark _)))))
   (pss_one (ps_set (i := 8) nd rfl (.inl rfl) (pe_op xSub (pv 8) (pe_int)))))
  (pss_one (ps_ret (pe_tup (pa_cons (pe_callTy (kTup K) (by rfl) E.f_tuple (by decide +kernel) (pa_cons (pe_slice (kSl K) (pv 7) po_none (po_some (pe_op xSub (pv 8) (pv 3)))) pa_nil)) (pa_cons (pe_callTy (kTup K) (by rfl) E.f_tuple (by decide +kernel) (pa_cons (pe_slice (kSl K) (pv 7) (po_some (pe_op xSub (pv 8) (pv 3))) (po_some (pv 8))) pa_nil)) (pa_cons (pv 2) pa_nil))))))))))))), ?_⟩
  change (_ : TS) _ [some v0, some v1, some v2, none, none, none, none, none, none, none] H
  try dsimp only [cxOf, Cx.nox, Cx.blk]
  obtain ⟨b1, b2, h, l, r, hh, hl, hri, hr0, ⟨r1, r2, r3, r4⟩, k⟩ := h
  obtain ⟨th, rfl, s1⟩ := dp_seqE hh
  obtain ⟨tl, rfl, s2⟩ := dp_seqE hl
  obtain rfl := dp_toInt hri
  unfold lawF at k
  walk_at "w"
  by_cases hn : l = []
  · subst hn
    rw [if_pos rfl] at k
    walk_at "w"
    intro p0 H0 e0 s0
    walk_at "w"
    intro p1 H1 n1 e1 h1
    walk_at "w"
    intro p2 H2 n2 e2 h2
    exact k _ _ ((e0.trans e1).trans e2) (dp_of_raw (st_of h2) (ex_t e2 (ex_t e1 s0)) (ex_t e2 (st_of h1)))
  · rw [if_neg hn] at k
    have hl0 : 0 < l.length := List.length_pos_iff.mpr hn
    walk_at "w"
    refine w_cut (M := fun σ' H' => ∃ (s : Nat) (a b c : Option V), σ' = [some (.ref th), some (.ref tl), some (.int r), some (.int s), a, b, c, none, none, none] ∧ Ex H H' ∧ 1 ≤ s ∧ s ≤ l.length ∧ (s = l.length ∨ slOk l r s) ∧ ∀ j, 1 ≤ j → j < s → ¬ slOk l r j) ?_ ?_
    · walk_at "w"
      refine i_r3 ?_
      walk_at "w"
      have hrg : RgC (l.length : Int) 0 (-1) l.length := by
        have := RgC.neg (i := (l.length : Int)) (j := 0) (by omega) (by omega) (by omega) (by omega)
        rwa [show ((l.length : Int) - 0).toNat = l.length by omega] at this
      refine i_x3 (n := l.length) hrg ?_
      refine for_rangeC (lo := l.length) (c := -1) (n := l.length) (Pv := fun i σ' H' => ∃ (s : Nat) (a b c : Option V), σ' = [some (.ref th), some (.ref tl), some (.int r), some (.int s), a, b, c, none, none, none] ∧ Ex H H' ∧ 1 ≤ s ∧ s ≤ l.length ∧ (s = l.length ∨ slOk l r s) ∧ ∀ j, l.length < j + i → j < s → ¬ slOk l r j)
        ⟨l.length, _, _, _, rfl, Ex.refl H, by omega, Nat.le_refl _, .inl rfl, fun j h1 h2 => by omega⟩ ?_ ?_
      · rintro i σ' H' hi ⟨s, a, b, c, rfl, e, hs1, hs2, hs3, hnot⟩
        obtain ⟨m, hm⟩ : ∃ m : Nat, m + i = l.length := ⟨l.length - i, by omega⟩
        have hm0 : 0 < m := by omega
        rw [show ((l.length : Int) + (i : Int) * -1) = (m : Int) by omega]
        have hq : 0 < (l.length : Int) / m := Int.le_ediv_of_mul_le (by omega) (by omega)
        have hq2 : (l.length : Int) / m ≤ l.length := Int.ediv_le_self _ (by omega)
        have hme : (l.length : Int) % m + m * ((l.length : Int) / m) = l.length := Int.emod_add_mul_ediv ..
        have hno : ¬ slOk l r m → ∀ j, l.length < j + (i + 1) → j < s → ¬ slOk l r j := fun hn j h1 h2 => by
          by_cases hj : j = m
          · rw [hj]; exact hn
          · exact hnot j (by omega) h2
        walk_at "w"
        by_cases c1 : (l.length : Int) % m = 0
        · have c1' : (l.length : Int) / m * m = l.length := by rw [Int.mul_comm]; omega
          walk_at "w"
          by_cases c2 : r % ((l.length : Int) / m) = 0
          · walk_at "w"
            refine lcJ_r0 (v := fun i => .bl (decide (gI l (i + m) = gI l i + r / ((l.length : Int) / m)))) (by omega) (fun x => [_, _, _, _, _, _, _, _, _, some x]) (fun x => rfl) (fun x => rfl) (fun j H1 Q' e1 hj hq => ?_) (fun p H2 np e2 hp => ?_)
            · walk_at "w"
              exact hq H1 (Ex.refl _)
            · rw [map_bl_range] at hp
              walk_at "w"
              refine r_all (sq_of hp) rfl ?_
              rw [all_range]
              walk_at "w"
              by_cases c3 : ∀ j : Nat, j < ((l.length : Int) - m).toNat → gI l (j + m) = gI l j + r / ((l.length : Int) / m)
              · walk_at "w"
                exact ⟨m, _, _, _, rfl, e.trans e2, hm0, by omega, .inr ⟨c1, c2, fun j hj => c3 j (by omega)⟩, fun j h1 h2 => by omega⟩
              · walk_at "w"
                refine ⟨s, _, _, _, rfl, e.trans e2, hs1, hs2, hs3, hno fun h => c3 fun j hj => ?_⟩
                exact h.2.2 j (by omega)
          · walk_at "w"
            refine w_cont ?_
            exact ⟨s, _, _, _, rfl, e, hs1, hs2, hs3, hno fun h => c2 h.2.1⟩
        · have c1' : ¬ ((l.length : Int) / m * m = l.length) := by rw [Int.mul_comm]; omega
          walk_at "w"
          refine w_cont ?_
          exact ⟨s, _, _, _, rfl, e, hs1, hs2, hs3, hno fun h => c1 h.1⟩
      · rintro σ' H' ⟨s, a, b, c, rfl, e, hs1, hs2, hs3, hnot⟩
        exact ⟨s, a, b, c, rfl, e, hs1, hs2, hs3, fun j h1 h2 => hnot j (by omega) h2⟩
    rintro σ' H1 ⟨s, a, b, c, rfl, e1, hs1, hs2, hs3, hnot⟩
    have hsl : shortLoop l r = (l.take s, r / ((l.length : Int) / s)) := by
      by_cases q : s = l.length
      · rw [shortLoop_none (fun j h1 h2 => hnot j h1 (by omega)), q, List.take_length, Int.ediv_self (by omega), Int.ediv_one]
      · exact shortLoop_some hs1 (by omega) (hs3.resolve_left q) hnot
    have hq : 0 < (l.length : Int) / s := Int.le_ediv_of_mul_le (by omega) (by omega)
    have hq2 : (l.length : Int) / s ≤ l.length := Int.ediv_le_self _ (by omega)
    have hlen : (l.take s).length = s := by rw [List.length_take]; omega
    rw [hsl] at k
    dsimp only at k
    rw [hlen] at k
    walk_at "w"
    intro p2 H2 n2 e2 h2
    walk_at "w"
    intro p3 H3 e3 s3
    walk_at "w"
    intro p4 H4 n4 e4 h4
    rw [Int.toNat_natCast] at h4
    refine r_addL (e4 _ _ (e3 _ _ h2)) h4 (by walk_at "sz") fun p5 H5 n5 e5 h5 => ?_
    rw [show vI h ++ vI (l.take s) = vI (h ++ l.take s) from List.map_append.symm] at h5
    have hrl : (h ++ l.take s).length = h.length + s := by rw [List.length_append, hlen]
    generalize hrow : h ++ l.take s = row at *
    generalize hr' : r / ((l.length : Int) / s) = r' at *
    walk_at "w"
    refine ⟨fun m σ' H' => σ' = [some (.ref th), some (.ref tl), some (.int r'), some (.int s), a, b, c, some (.ref p5), some (.int (m : Int)), none] ∧ H' = H5 ∧ s ≤ m ∧ m ≤ row.length ∧ lcut row s r' row.length = lcut row s r' m, ⟨row.length, rfl, rfl, by omega, Nat.le_refl _, rfl⟩, ?_⟩
    rintro m σ' H' ⟨rfl, rfl, hm1, hm2, hc⟩
    walk_at "w"
    cases m with
    | zero => omega
    | succ m =>
      have fin : lcut row s r' (m + 1) = m + 1 → tRet (tTup (tCons (tCB (rTupU K) (tCons (tSl (rSl K) (tVar 7) tNoPart (tPart (tOp rSubI (tVar 8) (tVar 3)))) tNil)) (tCons (tCB (rTupU K) (tCons (tSl (rSl K) (tVar 7) (tPart (tOp rSubI (tVar 8) (tVar 3))) (tPart (tVar 8))) tNil)) (tCons (tVar 2) tNil))))
          { nx := fun _ H' => Q .non H', rt := Q } [some (.ref th), some (.ref tl), some (.int r'), some (.int s), a, b, c, some (.ref p5), some (.int ((m + 1 : Nat) : Int)), none] H' := by
        intro hf
        walk_at "w"
        intro p6 H6 n6 e6 h6
        walk_at "w"
        intro p7 H7 e7 s7
        walk_at "w"
        intro p8 H8 n8 e8 h8
        walk_at "w"
        intro p9 H9 e9 s9
        walk_at "w"
        intro p10 H10 n10 e10 h10
        rw [hc, hf] at k
        rw [show (((m + 1 : Nat) : Int) - s).toNat = m + 1 - s by omega] at s7 s9
        rw [show (((m + 1 : Nat) : Int) - (((m + 1 : Nat) : Int) - s)).toNat = s by omega] at s9
        exact k _ _ (by walk_at "ex") (dp_of_raw (st_of h10) (by walk_at "hp") (by walk_at "hp"))
      by_cases c1 : (s : Int) < ((m + 1 : Nat) : Int)
      · walk_at "w"
        rw [show ((m + 1 : Nat) : Int) - 1 = (m : Int) by omega]
        by_cases c2 : gI row ((m : Int) - s) = gI row m - r'
        · walk_at "w"
          refine ⟨_, fun σ2 H2 h2 => ⟨m, Nat.lt_succ_self m, h2⟩, ?_⟩
          walk_at "w"
          rw [show ((m + 1 : Nat) : Int) - 1 = (m : Int) by omega]
          refine ⟨rfl, rfl, by omega, by omega, ?_⟩
          rw [hc]
          exact if_pos ⟨by omega, c2⟩
        · refine w_dF c2 ?_
          exact fin (if_neg fun q => c2 q.2)
      · refine w_dF c1 ?_
        with_reducible refine w_bF rfl ?_
        exact fin (if_neg fun q => c1 (by omega))

end
section
/-- the loop going on both ways -/
def extL (l : List Int) (r : Int) (i : Int) : Int := gI l (i % l.length) + r * (i / l.length)
def Per (g : Int → Int) (s : Nat) (d : Int) : Prop := ∀ i : Int, g (i + s) = g i + d
theorem Per.mulN {g : Int → Int} {s : Nat} {d : Int} (p : Per g s d) : ∀ (z : Nat) (i : Int), g (i + s * z) = g i + d * z
  | 0, i => by simp
  | z + 1, i => by
    rw [show i + (s : Int) * ((z + 1 : Nat) : Int) = (i + s * z) + s by rw [Int.natCast_add, Int.mul_add]; omega, p, p.mulN z i, Int.natCast_add, Int.mul_add]
    omega
theorem Per.mul {g : Int → Int} {s : Nat} {d : Int} (p : Per g s d) (z i : Int) : g (i + s * z) = g i + d * z := by
  rcases Int.le_total 0 z with h | h
  · obtain ⟨n, rfl⟩ := Int.eq_ofNat_of_zero_le h
    exact p.mulN n i
  · obtain ⟨n, hn⟩ := Int.eq_ofNat_of_zero_le (show 0 ≤ -z by omega)
    obtain rfl : z = -(n : Int) := by omega
    have := p.mulN n (i + s * -(n : Int))
    rw [show i + (s : Int) * -(n : Int) + s * n = i by rw [Int.mul_neg]; omega] at this
    rw [this, Int.mul_neg, Int.mul_neg]
    omega
theorem Per.ext {g g' : Int → Int} {s : Nat} {d : Int} (hs : 1 ≤ s) (p : Per g s d) (p' : Per g' s d) (h : ∀ k : Nat, k < s → g k = g' k) (i : Int) : g i = g' i := by
  have e : i % s + s * (i / s) = i := Int.emod_add_mul_ediv ..
  have h0 := Int.emod_nonneg i (show (s : Int) ≠ 0 by omega)
  have h1 := Int.emod_lt_of_pos i (show (0 : Int) < s by omega)
  obtain ⟨k, hk⟩ := Int.eq_ofNat_of_zero_le h0
  rw [← e, p.mul, p'.mul, hk, h k (by omega)]
theorem Per.shift {g : Int → Int} {s : Nat} {d : Int} (p : Per g s d) (m : Int) : Per (fun i => g (i + m)) s d := fun i => by
  show g (i + s + m) = g (i + m) + d
  rw [show i + (s : Int) + m = i + m + s by omega, p]
theorem Per.unshift {g : Int → Int} {s : Nat} {d : Int} (m : Int) (p : Per (fun i => g (i + m)) s d) : Per g s d := fun i => by
  have := p (i - m)
  simp only at this
  rwa [show i - m + (s : Int) + m = i + s by omega, show i - m + m = i by omega] at this
theorem Per.val {g : Int → Int} {s : Nat} {d : Int} (p : Per g s d) : g s - g 0 = d := by
  have := p 0
  rw [Int.zero_add] at this
  omega
theorem extL_per {l : List Int} {r : Int} (hl : l ≠ []) : Per (extL l r) l.length r := fun i => by
  have h0 : 0 < l.length := List.length_pos_iff.mpr hl
  unfold extL
  rw [Int.add_emod_right, Int.add_ediv_of_dvd_right (Int.dvd_refl _), Int.ediv_self (by omega), Int.mul_add]
  omega
theorem extL_small {l : List Int} {r : Int} {k : Nat} (h : k < l.length) : extL l r k = gI l k := by
  unfold extL
  rw [Int.emod_eq_of_lt (by omega) (by omega), Int.ediv_eq_zero_of_lt (by omega) (by omega)]
  omega
theorem bkV_ext {l : List Int} {r : Int} (hl : l ≠ []) (back : Int) : bkV l r back = extL l r (-1 - back) := by
  have h0 : 0 < l.length := List.length_pos_iff.mpr hl
  have e : back % l.length + l.length * (back / l.length) = back := Int.emod_add_mul_ediv ..
  have h1 := Int.emod_nonneg back (show (l.length : Int) ≠ 0 by omega)
  have h2 := Int.emod_lt_of_pos back (show (0 : Int) < l.length by omega)
  have e2 : -1 - back = (-1 - back % l.length + l.length) + l.length * (-(back / l.length) - 1) := by
    rw [Int.mul_sub, Int.mul_neg]
    omega
  unfold extL bkV
  generalize back % (l.length : Int) = t at *
  generalize back / (l.length : Int) = q at *
  rw [e2, Int.add_mul_emod_self_left, Int.add_mul_ediv_left _ _ (by omega), Int.emod_eq_of_lt (by omega) (by omega), Int.ediv_eq_zero_of_lt (by omega) (by omega), Int.zero_add, Int.mul_sub, Int.mul_add, Int.mul_neg]
  omega
/-- the value behind j others -/
def fV (h l : List Int) (r : Int) (j : Nat) : Int := if j < h.length then gI h j else extL l r ((j : Int) - h.length)
theorem vat_fV {h l : List Int} {r : Int} (hl : l ≠ []) (j : Nat) : vat h l r ((j : Int) + 1) = some (fV h l r j) := by
  unfold vat fV
  rw [if_neg (by omega), if_neg hl]
  by_cases c : j < h.length
  · rw [if_pos (by omega), if_pos c, show (j : Int) + 1 - 1 = j by omega]
  · rw [if_neg (by omega), if_neg c]
    unfold extL
    rw [show (j : Int) + 1 - h.length - 1 = j - h.length by omega]
theorem fV_head {h l : List Int} {r : Int} {j : Nat} (c : j < h.length) : fV h l r j = gI h j := if_pos c
theorem fV_loop {h l : List Int} {r : Int} {j : Nat} (c : h.length ≤ j) : fV h l r j = extL l r ((j : Int) - h.length) := if_neg (by omega)
theorem slOk_per {l : List Int} {r : Int} {m : Nat} (hl : l ≠ []) (hm : 1 ≤ m) (h : slOk l r m) : Per (extL l r) m (r / ((l.length : Int) / m)) := by
  obtain ⟨h1, h2, h3⟩ := h
  have h0 : 0 < l.length := List.length_pos_iff.mpr hl
  obtain ⟨q, hq⟩ : m ∣ l.length := Int.natCast_dvd_natCast.mp (Int.dvd_of_emod_eq_zero h1)
  have hqL : (l.length : Int) / m = q := by
    rw [hq, Int.natCast_mul, Int.mul_ediv_cancel_left _ (by omega)]
  rw [hqL] at h2 h3 ⊢
  have hq0 : 0 < q := by
    rcases Nat.eq_zero_or_pos q with e | e
    · rw [e, Nat.mul_zero] at hq; omega
    · exact e
  obtain ⟨d, hd⟩ := Int.dvd_of_emod_eq_zero h2
  have hdq : r / (q : Int) = d := by rw [hd, Int.mul_ediv_cancel_left _ (by omega)]
  rw [hdq] at h3 ⊢
  have run : ∀ (k u : Nat), u + m * k < l.length → gI l ((u + m * k : Nat) : Int) = gI l u + d * k := by
    intro k
    induction k with
    | zero => intro u _; simp
    | succ k ih =>
      intro u hu
      rw [Nat.mul_add, Nat.mul_one, ← Nat.add_assoc] at hu ⊢
      rw [Int.natCast_add, h3 (u + m * k) hu, ih u (by omega), Int.natCast_add, Int.mul_add]
      omega
  have P := extL_per (r := r) hl
  intro i
  have e : i % l.length + l.length * (i / l.length) = i := Int.emod_add_mul_ediv ..
  have g0 := Int.emod_nonneg i (show (l.length : Int) ≠ 0 by omega)
  have g1 := Int.emod_lt_of_pos i (show (0 : Int) < l.length by omega)
  obtain ⟨t, ht⟩ := Int.eq_ofNat_of_zero_le g0
  rw [ht] at e g1
  generalize i / l.length = z at e
  subst e
  rw [show (t : Int) + l.length * z + m = ((t + m : Nat) : Int) + l.length * z by omega, P.mul, P.mul, extL_small (k := t) (by omega)]
  by_cases c : t + m < l.length
  · rw [extL_small c, Int.natCast_add, h3 t c]
    omega
  · have hu : t + m = (t + m - l.length) + l.length := by omega
    obtain ⟨q', rfl⟩ : ∃ q', q = q' + 1 := ⟨q - 1, by omega⟩
    have hq' : l.length = m * q' + m := by rw [hq, Nat.mul_add, Nat.mul_one]
    rw [hu, Int.natCast_add, P, extL_small (by omega)]
    have := run q' (t + m - l.length) (by omega)
    rw [show t + m - l.length + m * q' = t by omega] at this
    rw [this, hd, Int.natCast_add, Int.add_mul, Int.mul_comm d]
    simp only [Int.natCast_one, Int.one_mul]
    generalize (q' : Int) * d = y
    omega
theorem per_slOk {l : List Int} {r d : Int} {m q : Nat} (hm : 1 ≤ m) (hq : 1 ≤ q) (hL : l.length = m * q) (hr : r = d * q) (p : Per (extL l r) m d) : slOk l r m ∧ r / ((l.length : Int) / m) = d := by
  have hqL : (l.length : Int) / m = q := by
    rw [hL, Int.natCast_mul, Int.mul_ediv_cancel_left _ (by omega)]
  have hrq : r / (q : Int) = d := by rw [hr, Int.mul_ediv_cancel _ (by omega)]
  refine ⟨⟨by rw [hL, Int.natCast_mul, Int.mul_emod_right], by rw [hqL, hr, Int.mul_emod_left], fun i hi => ?_⟩, by rw [hqL, hrq]⟩
  rw [hqL, hrq]
  have := p i
  rw [extL_small (by omega), ← Int.natCast_add, extL_small hi] at this
  exact this
theorem per_dvd {g : Int → Int} {s L : Nat} {d r : Int} (hs : 1 ≤ s) (p : Per g s d) (hmin : ∀ t, 1 ≤ t → t < s → ∀ d, ¬ Per g t d) (P : Per g L r) : L = s * (L / s) ∧ r = d * ((L / s : Nat) : Int) := by
  have e : s * (L / s) + L % s = L := Nat.div_add_mod ..
  have hlt := Nat.mod_lt L hs
  have hz : L % s = 0 := by
    rcases Nat.eq_zero_or_pos (L % s) with h | h
    · exact h
    · refine (hmin _ h hlt (r - d * ((L / s : Nat) : Int)) fun i => ?_).elim
      have h1 := P i
      have h2 := p.mulN (L / s) (i + ((L % s : Nat) : Int))
      rw [show i + ((L % s : Nat) : Int) + (s : Int) * ((L / s : Nat) : Int) = i + L by
        rw [← Int.natCast_mul]; omega] at h2
      omega
  refine ⟨by omega, ?_⟩
  have h1 := P 0
  have h2 := p.mulN (L / s) 0
  rw [show (0 : Int) + (s : Int) * ((L / s : Nat) : Int) = 0 + L by rw [← Int.natCast_mul]; omega] at h2
  omega
theorem least_nat {p : Nat → Prop} {n : Nat} (h : p n) : ∃ m, m ≤ n ∧ p m ∧ ∀ j, j < m → ¬ p j := by
  induction n using Nat.strongRecOn with
  | _ n ih =>
    by_cases q : ∃ j, j < n ∧ p j
    · obtain ⟨j, h1, h2⟩ := q
      obtain ⟨m, h3, h4⟩ := ih j h1 h2
      exact ⟨m, by omega, h4⟩
    · exact ⟨n, Nat.le_refl _, h, fun j h1 h2 => q ⟨j, h1, h2⟩⟩
theorem shortLoop_char {l : List Int} {r : Int} (hl : l ≠ []) : ∃ s : Nat, 1 ≤ s ∧ s ≤ l.length ∧ shortLoop l r = (l.take s, extL l r s - extL l r 0) ∧ Per (extL l r) s (extL l r s - extL l r 0) ∧ ∀ t, 1 ≤ t → t < s → ∀ d, ¬ Per (extL l r) t d := by
  have h0 : 0 < l.length := List.length_pos_iff.mpr hl
  have P := extL_per (r := r) hl
  obtain ⟨s, hs, ⟨hs1, d, p⟩, hmin⟩ := least_nat (p := fun s => 1 ≤ s ∧ ∃ d, Per (extL l r) s d) (n := l.length) ⟨h0, r, P⟩
  have hmin' : ∀ t, 1 ≤ t → t < s → ∀ d, ¬ Per (extL l r) t d := fun t h1 h2 d h => hmin t h2 ⟨h1, d, h⟩
  refine ⟨s, hs1, hs, ?_, by rw [p.val]; exact p, hmin'⟩
  rw [p.val]
  have hno : ∀ j, 1 ≤ j → j < s → ¬ slOk l r j := fun j h1 h2 h => hmin' j h1 h2 _ (slOk_per hl h1 h)
  obtain ⟨e1, e2⟩ := per_dvd hs1 p hmin' P
  have hq : 1 ≤ l.length / s := Nat.div_pos hs hs1
  obtain ⟨o1, o2⟩ := per_slOk hs1 hq e1 e2 p
  by_cases c : s < l.length
  · rw [shortLoop_some hs1 c o1 hno, o2]
  · obtain rfl : s = l.length := by omega
    rw [shortLoop_none hno, List.take_length, ← p.val, P.val]
theorem gI_take {l : List Int} {s k : Nat} (h : k < s) : gI (l.take s) k = gI l k := by
  unfold gI
  rw [Int.toNat_natCast, List.getD_eq_getElem?_getD, List.getD_eq_getElem?_getD, List.getElem?_take_of_lt h]
theorem extL_take {l : List Int} {r d : Int} {s : Nat} (h1 : 1 ≤ s) (hs : s ≤ l.length) (p : Per (extL l r) s d) (i : Int) : extL (l.take s) d i = extL l r i := by
  have hl : (l.take s).length = s := by rw [List.length_take]; omega
  have P := extL_per (l := l.take s) (r := d) (by intro e; rw [e] at hl; simp at hl; omega)
  rw [hl] at P
  refine P.ext h1 p (fun k hk => ?_) i
  rw [extL_small (by omega), extL_small (by omega), gI_take hk]
theorem cutH_eq {h l : List Int} {r : Int} : ∀ k, ∀ j, cutH h l r k ≤ j → j < k → gI h j = bkV l r ((h.length : Int) - (j + 1))
  | 0, j, _, h2 => by omega
  | k + 1, j, h1, h2 => by
    unfold cutH at h1
    split at h1
    · rename_i c
      by_cases e : j = k
      · subst e; exact c
      · exact cutH_eq k j h1 (by omega)
    · omega
theorem cutH_ne {h l : List Int} {r : Int} : ∀ k c, cutH h l r k = c + 1 → gI h c ≠ bkV l r ((h.length : Int) - (c + 1))
  | 0, c, e => by simp [cutH] at e
  | k + 1, c, e => by
    unfold cutH at e
    split at e
    · exact cutH_ne k c e
    · rename_i q
      obtain rfl : k = c := by omega
      exact q

end
section
/-- the least period and the least head, from the values alone -/
structure PFat (f : Nat → Int) (g : Int → Int) (c s : Nat) (pf : List Int × List Int × Int) : Prop where
  s1 : 1 ≤ s
  per : Per g s (g s - g 0)
  min : ∀ t, 1 ≤ t → t < s → ∀ d, ¬ Per g t d
  eq : ∀ j : Nat, c ≤ j → f j = g j
  ne : ∀ c', c = c' + 1 → f c' ≠ g c'
  pf : pf = ((List.range c).map f, (List.range s).map fun i : Nat => g ((c + i : Nat) : Int), g s - g 0)
theorem PFat.uniq {f : Nat → Int} {g : Int → Int} {c s c' s' : Nat} {p q : List Int × List Int × Int} (a : PFat f g c s p) (b : PFat f g c' s' q) : p = q := by
  have e1 : s = s' := by
    rcases Nat.lt_trichotomy s s' with h | h | h
    · exact (b.min _ a.s1 h _ a.per).elim
    · exact h
    · exact (a.min _ b.s1 h _ b.per).elim
  have key : ∀ {c c' s s' : Nat} {p q : List Int × List Int × Int}, PFat f g c s p → PFat f g c' s' q → ¬ c < c' := fun {c c' s s' p q} a b h => by
    obtain ⟨m, rfl⟩ : ∃ m, c' = m + 1 := ⟨c' - 1, by omega⟩
    exact b.ne m rfl (a.eq m (by omega))
  have e2 : c = c' := by have := key a b; have := key b a; omega
  rw [a.pf, b.pf, e1, e2]
theorem gI_map_range {f : Nat → Int} {n k : Nat} (h : k < n) : gI ((List.range n).map f) k = f k := by
  unfold gI
  rw [Int.toNat_natCast, List.getD_eq_getElem?_getD, List.getElem?_map, List.getElem?_range h]
  rfl
theorem ext_gI {a b : List Int} (hl : a.length = b.length) (h : ∀ k : Nat, k < a.length → gI a k = gI b k) : a = b := by
  refine List.ext_getElem hl fun k h1 h2 => ?_
  have := h k h1
  unfold gI at this
  rw [Int.toNat_natCast, List.getD_eq_getElem?_getD, List.getD_eq_getElem?_getD, List.getElem?_eq_getElem h1, List.getElem?_eq_getElem h2] at this
  exact this
theorem plainF_at {h l : List Int} {r : Int} (hl : l ≠ []) : ∃ c s, c ≤ h.length ∧ s ≤ l.length ∧ PFat (fV h l r) (fun i => extL l r (i - h.length)) c s (plainF h l r) := by
  obtain ⟨s, h1, h2, e, p, hmin⟩ := shortLoop_char (r := r) hl
  have hs : (l.take s).length = s := by rw [List.length_take]; omega
  have hls : l.take s ≠ [] := fun e => by rw [e] at hs; simp at hs; omega
  have E := extL_take h1 h2 p
  have pv : ∀ m : Int, extL l r (s - m) - extL l r (0 - m) = extL l r s - extL l r 0 := fun m => by
    have q1 := p (0 - m)
    rw [show (0 : Int) - m + s = s - m by omega] at q1
    omega
  refine ⟨cutH h (l.take s) (extL l r s - extL l r 0) h.length, s, cutH_le _ _ _ _, h2, h1, ?_, ?_, fun j hj => ?_, fun c' hc => ?_, ?_⟩
  · show Per _ _ (extL l r (s - h.length) - extL l r (0 - h.length))
    rw [pv]
    intro i
    have := p (i - h.length)
    rwa [show i - (h.length : Int) + s = i + s - h.length by omega] at this
  · intro t t1 t2 d q
    refine hmin t t1 t2 d (Per.unshift (-(h.length : Int)) ?_)
    intro i
    have := q i
    simp only [Int.sub_eq_add_neg] at this ⊢
    exact this
  · by_cases c : j < h.length
    · rw [fV_head c, cutH_eq _ j hj c, bkV_ext hls, E]
      congr 1
      omega
    · exact fV_loop (by omega)
  · have hle := cutH_le h (l.take s) (extL l r s - extL l r 0) h.length
    have := cutH_ne _ c' hc
    rw [bkV_ext hls, E] at this
    rw [fV_head (by omega)]
    intro q
    refine this (q.trans ?_)
    congr 1
    omega
  · unfold plainF
    rw [if_neg hl, e]
    dsimp only
    have hle := cutH_le h (l.take s) (extL l r s - extL l r 0) h.length
    generalize hcd : cutH h (l.take s) (extL l r s - extL l r 0) h.length = c at *
    have hc1 : ∀ j, c ≤ j → j < h.length → gI h j = extL l r ((j : Int) - h.length) := fun j a b => by
      have := cutH_eq h.length j (by rw [hcd]; exact a) b
      rw [this, bkV_ext hls, E]
      congr 1
      omega
    rw [pv, hs]
    refine congr (congrArg _ ?_) (congr (congrArg _ ?_) rfl)
    · refine ext_gI (by rw [List.length_take, List.length_map, List.length_range]; omega) fun k hk => ?_
      rw [List.length_take] at hk
      rw [gI_take (by omega), gI_map_range (by omega), fV_head (by omega)]
    · refine List.map_congr_left fun i _ => ?_
      rw [show (c : Int) + 1 + i = ((c + i : Nat) : Int) + 1 by omega, vat_fV hls]
      show fV h (l.take s) _ (c + i) = _
      by_cases q : c + i < h.length
      · rw [fV_head q, hc1 _ (by omega) q]
      · rw [fV_loop (by omega), E]

end
section
theorem gI_append {a b : List Int} {k : Nat} : gI (a ++ b) k = if k < a.length then gI a k else gI b ((k - a.length : Nat) : Int) := by
  unfold gI
  rw [Int.toNat_natCast, Int.toNat_natCast, List.getD_eq_getElem?_getD, List.getD_eq_getElem?_getD, List.getD_eq_getElem?_getD]
  split
  · rename_i h
    rw [List.getElem?_append_left h]
  · rename_i h
    rw [List.getElem?_append_right (by omega)]
theorem gI_drop {a : List Int} {m k : Nat} : gI (a.drop m) k = gI a ((m + k : Nat) : Int) := by
  unfold gI
  rw [Int.toNat_natCast, Int.toNat_natCast, List.getD_eq_getElem?_getD, List.getD_eq_getElem?_getD, List.getElem?_drop]
theorem lcut_cutH {h l' : List Int} {r' : Int} {row : List Int} {s : Nat} (hs : 1 ≤ s) (hl : l' ≠ []) (hp : Per (extL l' r') s r')
    (h1 : ∀ k : Nat, k < h.length → gI row k = gI h k) (h2 : ∀ k : Nat, k < s → gI row ((h.length + k : Nat) : Int) = extL l' r' k) :
    ∀ k, k ≤ h.length → (∀ j : Nat, k ≤ j → j < h.length → gI h j = extL l' r' ((j : Int) - h.length)) → lcut row s r' (k + s) = cutH h l' r' k + s
  | 0, _, _ => by
    obtain ⟨s, rfl⟩ : ∃ t, s = t + 1 := ⟨s - 1, by omega⟩
    rw [Nat.zero_add]
    unfold lcut cutH
    rw [if_neg (by omega), Nat.zero_add]
  | k + 1, hk, hj => by
    have hkk : gI row ((k + s : Nat) : Int) = extL l' r' ((k : Int) - h.length) + r' := by
      have := hp ((k : Int) - h.length)
      rw [← this]
      by_cases c : k + s < h.length
      · rw [h1 _ c, hj _ (by omega) c]
        congr 1
        omega
      · have := h2 (k + s - h.length) (by omega)
        rw [show h.length + (k + s - h.length) = k + s by omega] at this
        rw [this]
        congr 1
        omega
    have e1 : gI row (((k + s : Nat) : Int) - s) = gI h k := by
      rw [show ((k + s : Nat) : Int) - s = (k : Int) by omega, h1 k (by omega)]
    have e2 : bkV l' r' ((h.length : Int) - (k + 1)) = extL l' r' ((k : Int) - h.length) := by
      rw [bkV_ext hl]
      congr 1
      omega
    rw [show k + 1 + s = (k + s) + 1 by omega]
    unfold lcut cutH
    rw [e1, hkk, e2]
    by_cases c : gI h k = extL l' r' ((k : Int) - h.length)
    · rw [if_pos ⟨by omega, by omega⟩, if_pos c]
      refine lcut_cutH hs hl hp h1 h2 k (by omega) fun j a b => ?_
      by_cases q : j = k
      · subst q; exact c
      · exact hj j (by omega) b
    · rw [if_neg (fun q => c (by omega)), if_neg c]
      omega
theorem lawF_eq (h l : List Int) (r : Int) : lawF h l r = plainF h l r := by
  by_cases hl : l = []
  · unfold lawF plainF
    rw [if_pos hl, if_pos hl]
  obtain ⟨s, h1, h2, e, p, hmin⟩ := shortLoop_char (r := r) hl
  have hs : (l.take s).length = s := by rw [List.length_take]; omega
  have hls : l.take s ≠ [] := fun e => by rw [e] at hs; simp at hs; omega
  have E := extL_take h1 h2 p
  have p' : Per (extL (l.take s) (extL l r s - extL l r 0)) s (extL l r s - extL l r 0) := fun i => by rw [E, E, p]
  unfold lawF plainF
  rw [if_neg hl, if_neg hl, e]
  dsimp only
  rw [hs, List.length_append, hs]
  have r1 : ∀ k : Nat, k < h.length → gI (h ++ l.take s) k = gI h k := fun k hk => by rw [gI_append, if_pos hk]
  have r2 : ∀ k : Nat, k < s → gI (h ++ l.take s) ((h.length + k : Nat) : Int) = extL (l.take s) (extL l r s - extL l r 0) k := fun k hk => by
    rw [gI_append, if_neg (by omega), show h.length + k - h.length = k by omega, extL_small (by omega)]
  have e3 := lcut_cutH h1 hls p' r1 r2 h.length (Nat.le_refl _) (fun j a b => by omega)
  have hle := cutH_le h (l.take s) (extL l r s - extL l r 0) h.length
  rw [e3, Nat.add_sub_cancel]
  have hc1 := fun j (a : cutH h (l.take s) (extL l r s - extL l r 0) h.length ≤ j) (b : j < h.length) => cutH_eq h.length j a b
  generalize cutH h (l.take s) (extL l r s - extL l r 0) h.length = c at *
  refine congr (congrArg _ ?_) (congr (congrArg _ ?_) rfl)
  · rw [List.take_append_of_le_length hle]
  · refine ext_gI (by rw [List.length_take, List.length_drop, List.length_append, hs, List.length_map, List.length_range]; omega) fun k hk => ?_
    rw [List.length_take, List.length_drop, List.length_append, hs] at hk
    have hk : k < s := by omega
    rw [gI_take hk, gI_drop, gI_map_range (f := fun i : Nat => (vat h (l.take s) (extL l r s - extL l r 0) ((c : Int) + 1 + i)).getD 0) hk, show (c : Int) + 1 + k = ((c + k : Nat) : Int) + 1 by omega, vat_fV hls]
    show _ = fV h (l.take s) _ (c + k)
    by_cases q : c + k < h.length
    · rw [r1 _ q, fV_head q]
    · have := r2 (c + k - h.length) (by omega)
      rw [show h.length + (c + k - h.length) = c + k by omega] at this
      rw [this, fV_loop (by omega)]
      congr 1
      omega
theorem gI_nn {a : List Int} (h : allPos a) (i : Int) : 0 ≤ gI a i := by
  unfold gI
  rw [List.getD_eq_getElem?_getD]
  by_cases c : i.toNat < a.length
  · rw [List.getElem?_eq_getElem c]
    exact h _ (List.getElem_mem _)
  · rw [List.getElem?_eq_none (by omega)]
    exact Int.le_refl _
theorem extL_nn {l : List Int} {r i : Int} (h : allPos l) (hr : 0 ≤ r) (hi : 0 ≤ i) : 0 ≤ extL l r i :=
  Int.add_nonneg (gI_nn h _) (Int.mul_nonneg hr (Int.ediv_nonneg hi (by omega)))
theorem fV_nn {h l : List Int} {r : Int} (V : Val h l r) (j : Nat) : 0 ≤ fV h l r j := by
  unfold fV
  split
  · exact gI_nn V.p1 _
  · exact extL_nn V.p2 V.r0 (by omega)
theorem extL_up {h l : List Int} {r : Int} (V : Val h l r) (hl : l ≠ []) (i : Int) : extL l r i ≤ extL l r (i + 1) := by
  have h0 : 0 < l.length := List.length_pos_iff.mpr hl
  have P := extL_per (r := r) hl
  have e : i % l.length + l.length * (i / l.length) = i := Int.emod_add_mul_ediv ..
  have g0 := Int.emod_nonneg i (show (l.length : Int) ≠ 0 by omega)
  have g1 := Int.emod_lt_of_pos i (show (0 : Int) < l.length by omega)
  obtain ⟨t, ht⟩ := Int.eq_ofNat_of_zero_le g0
  rw [ht] at e g1
  generalize i / l.length = z at e
  subst e
  rw [show (t : Int) + l.length * z + 1 = ((t + 1 : Nat) : Int) + l.length * z by omega, P.mul, P.mul, extL_small (k := t) (by omega)]
  by_cases c : t + 1 < l.length
  · rw [extL_small c]
    have := V.r2 t c
    rw [show ((t + 1 : Nat) : Int) = (t : Int) + 1 by omega]
    omega
  · have := V.ll hl
    have q := P 0
    have q0 := extL_small (r := r) (l := l) (k := 0) h0
    rw [Int.zero_add] at q
    rw [show (l.length : Int) - 1 = t by omega] at this
    rw [show t + 1 = l.length by omega, q, show (0 : Int) = ((0 : Nat) : Int) from rfl, q0]
    show gI l t + r * z ≤ gI l 0 + r + r * z
    omega
theorem fV_up {h l : List Int} {r : Int} (V : Val h l r) (hl : l ≠ []) (j : Nat) : fV h l r j ≤ fV h l r (j + 1) := by
  by_cases c : j + 1 < h.length
  · rw [fV_head c, fV_head (by omega)]
    exact V.r1 j c
  · by_cases d : j < h.length
    · rw [fV_head d, fV_loop (by omega)]
      have := V.hl (by intro e; rw [e] at d; simp at d) hl
      rw [show ((j + 1 : Nat) : Int) - h.length = ((0 : Nat) : Int) by omega, extL_small (List.length_pos_iff.mpr hl)]
      rw [show (h.length : Int) - 1 = j by omega] at this
      exact this
    · rw [fV_loop (by omega), fV_loop (by omega)]
      have := extL_up V hl ((j : Int) - h.length)
      rwa [show (j : Int) - h.length + 1 = ((j + 1 : Nat) : Int) - h.length by omega] at this
theorem tell_gI {f : Nat → Int} {n cut k : Nat} (h : cut + k < n) : gI (((List.range n).map f).drop cut) k = f (cut + k) := by
  rw [gI_drop, gI_map_range h]
theorem tell_gT {f : Nat → Int} {n cut k : Nat} (h : k < cut) (h2 : k < n) : gI (((List.range n).map f).take cut) k = f k := by
  rw [gI_take h, gI_map_range h2]
theorem tell_plain {h l : List Int} {r : Int} (hl : l ≠ []) (more turns : Nat) (ht : 1 ≤ turns) :
    plainF (((List.range (h.length + more + l.length * turns)).map (fV h l r)).take (h.length + more)) (((List.range (h.length + more + l.length * turns)).map (fV h l r)).drop (h.length + more)) (r * turns) = plainF h l r := by
  have h0 : 0 < l.length := List.length_pos_iff.mpr hl
  have hL : 0 < l.length * turns := Nat.mul_pos h0 ht
  have e1 : (((List.range (h.length + more + l.length * turns)).map (fV h l r)).take (h.length + more)).length = h.length + more := by
    rw [List.length_take, List.length_map, List.length_range]; omega
  have e2 : (((List.range (h.length + more + l.length * turns)).map (fV h l r)).drop (h.length + more)).length = l.length * turns := by
    rw [List.length_drop, List.length_map, List.length_range]; omega
  have g1 : ∀ k, k < h.length + more → gI (((List.range (h.length + more + l.length * turns)).map (fV h l r)).take (h.length + more)) k = fV h l r k := fun k hk => tell_gT hk (by omega)
  have g2 : ∀ k, k < l.length * turns → gI (((List.range (h.length + more + l.length * turns)).map (fV h l r)).drop (h.length + more)) k = fV h l r (h.length + more + k) := fun k hk => tell_gI (by omega)
  generalize ((List.range (h.length + more + l.length * turns)).map (fV h l r)).take (h.length + more) = h2 at *
  generalize ((List.range (h.length + more + l.length * turns)).map (fV h l r)).drop (h.length + more) = l2 at *
  have hl2 : l2 ≠ [] := fun e => by rw [e] at e2; simp at e2; omega
  have P2 := extL_per (r := r * turns) hl2
  have P1 : Per (fun i => extL l r (i + more)) l2.length (r * turns) := Per.shift (fun i => by
    rw [e2, Int.natCast_mul, (extL_per hl).mulN]) more
  have ee := P2.ext (by omega) P1 fun k hk => by
    rw [extL_small hk, g2 k (by omega), fV_loop (by omega)]
    congr 1
    omega
  have fe : fV h2 l2 (r * turns) = fV h l r := funext fun j => by
    by_cases c : j < h2.length
    · rw [fV_head c, g1 j (by omega)]
    · rw [fV_loop (by omega), ee, fV_loop (by omega), e1]
      congr 1
      omega
  have ge : (fun i : Int => extL l2 (r * turns) (i - h2.length)) = fun i => extL l r (i - h.length) := funext fun i => by
    rw [ee, e1]
    congr 1
    omega
  obtain ⟨c, s, _, _, A⟩ := plainF_at (h := h) (r := r) hl
  obtain ⟨c2, s2, _, _, B⟩ := plainF_at (h := h2) (r := r * turns) hl2
  rw [fe, ge] at B
  exact B.uniq A
theorem tell_val {h l : List Int} {r : Int} (V : Val h l r) (hl : l ≠ []) (more turns : Nat) (ht : 1 ≤ turns) (z1 : h.length + more ≤ 50000) (z2 : l.length * turns ≤ 50000) (z3 : r * turns < 1152921504606846976) :
    Val (((List.range (h.length + more + l.length * turns)).map (fV h l r)).take (h.length + more)) (((List.range (h.length + more + l.length * turns)).map (fV h l r)).drop (h.length + more)) (r * turns) := by
  have h0 : 0 < l.length := List.length_pos_iff.mpr hl
  have hL : 0 < l.length * turns := Nat.mul_pos h0 ht
  have e1 : (((List.range (h.length + more + l.length * turns)).map (fV h l r)).take (h.length + more)).length = h.length + more := by
    rw [List.length_take, List.length_map, List.length_range]; omega
  have e2 : (((List.range (h.length + more + l.length * turns)).map (fV h l r)).drop (h.length + more)).length = l.length * turns := by
    rw [List.length_drop, List.length_map, List.length_range]; omega
  have g1 : ∀ k, k < h.length + more → gI (((List.range (h.length + more + l.length * turns)).map (fV h l r)).take (h.length + more)) k = fV h l r k := fun k hk => tell_gT hk (by omega)
  have g2 : ∀ k, k < l.length * turns → gI (((List.range (h.length + more + l.length * turns)).map (fV h l r)).drop (h.length + more)) k = fV h l r (h.length + more + k) := fun k hk => tell_gI (by omega)
  have ps : ∀ n ∈ (List.range (h.length + more + l.length * turns)).map (fV h l r), 0 ≤ n := fun n hn => by
    obtain ⟨k, _, rfl⟩ := List.mem_map.mp hn
    exact fV_nn V k
  have p1 : allPos (((List.range (h.length + more + l.length * turns)).map (fV h l r)).take (h.length + more)) := fun n hn => ps n (List.mem_of_mem_take hn)
  have p2 : allPos (((List.range (h.length + more + l.length * turns)).map (fV h l r)).drop (h.length + more)) := fun n hn => ps n (List.mem_of_mem_drop hn)
  generalize ((List.range (h.length + more + l.length * turns)).map (fV h l r)).take (h.length + more) = h2 at *
  generalize ((List.range (h.length + more + l.length * turns)).map (fV h l r)).drop (h.length + more) = l2 at *
  have up := fV_up V hl
  have rt : 0 ≤ r * turns := Int.mul_nonneg V.r0 (by omega)
  refine ⟨p1, p2, fun i hi => ?_, fun i hi => ?_, rt, fun e => ?_, fun hne _ => ?_, fun _ => ?_, ⟨by omega, z3, by omega, by omega⟩⟩
  · rw [g1 i (by omega), show (i : Int) + 1 = ((i + 1 : Nat) : Int) by omega, g1 (i + 1) (by omega)]
    exact up i
  · rw [g2 i (by omega), show (i : Int) + 1 = ((i + 1 : Nat) : Int) by omega, g2 (i + 1) (by omega)]
    exact up (h.length + more + i)
  · rw [e] at e2; simp at e2; omega
  · have hp : 0 < h2.length := List.length_pos_iff.mpr hne
    rw [e1, show ((h.length + more : Nat) : Int) - 1 = ((h.length + more - 1 : Nat) : Int) by omega, g1 _ (by omega)]
    have := g2 0 hL
    rw [show (0 : Int) = ((0 : Nat) : Int) from rfl, this]
    have := up (h.length + more - 1)
    rwa [show h.length + more - 1 + 1 = h.length + more + 0 by omega] at this
  · rw [e2, show ((l.length * turns : Nat) : Int) - 1 = ((l.length * turns - 1 : Nat) : Int) by omega, g2 _ (by omega)]
    have q := g2 0 hL
    rw [show (0 : Int) = ((0 : Nat) : Int) from rfl, q]
    have u := up (h.length + more + (l.length * turns - 1))
    have P := (extL_per (r := r) hl).mulN turns ((more : Nat) : Int)
    rw [fV_loop (j := h.length + more + (l.length * turns - 1) + 1) (by omega)] at u
    rw [fV_loop (j := h.length + more + 0) (by omega), show (((h.length + more + 0 : Nat) : Int) - h.length) = more by omega, ← P]
    refine Int.le_trans u (Int.le_of_eq ?_)
    congr 1
    rw [← Int.natCast_mul]
    omega
/-- the plain form's parts are small and no less than 0 -/
theorem plainF_ok {h l : List Int} {r : Int} (V : Val h l r) : allPos (plainF h l r).1 ∧ allPos (plainF h l r).2.1 ∧ 0 ≤ (plainF h l r).2.2 ∧ (plainF h l r).2.2 ≤ r ∧ (plainF h l r).1.length ≤ h.length ∧ (plainF h l r).2.1.length ≤ l.length := by
  by_cases hl : l = []
  · unfold plainF
    rw [if_pos hl]
    exact ⟨V.p1, fun n hn => by simp at hn, Int.le_refl _, V.r0, Nat.le_refl _, Nat.zero_le _⟩
  · obtain ⟨q1, q2⟩ := shortLoop_len l r
    obtain ⟨q3, q4⟩ := shortLoop_rise (l := l) V.r0
    have q5 := q2 hl
    have pl : allPos (shortLoop l r).1 := by
      rcases shortLoop_cases l r with e | ⟨m, _, _, _, e⟩
      · rw [e]; exact V.p2
      · rw [e]; exact fun n hn => V.p2 n (List.mem_of_mem_take hn)
    unfold plainF
    rw [if_neg hl]
    refine ⟨fun n hn => V.p1 n (List.mem_of_mem_take hn), fun n hn => ?_, q3, q4, by show (h.take _).length ≤ _; rw [List.length_take]; omega, by show (List.map _ _).length ≤ _; rw [List.length_map, List.length_range]; exact q1⟩
    obtain ⟨i, _, rfl⟩ := List.mem_map.mp hn
    generalize cutH h (shortLoop l r).1 (shortLoop l r).2 h.length = c
    show 0 ≤ (vat h _ _ ((c : Int) + 1 + i)).getD 0
    rw [show (c : Int) + 1 + i = ((c + i : Nat) : Int) + 1 by omega, vat_fV q5]
    show 0 ≤ fV h _ _ (c + i)
    unfold fV
    split
    · exact gI_nn V.p1 _
    · exact extL_nn pl q3 (by omega)

end
section
/-- two tables with the same values have one plain form -/
theorem plain_ext {h l h' l' : List Int} {r r' : Int} (hl : l ≠ []) (hl' : l' ≠ []) (e : ∀ j, fV h l r j = fV h' l' r' j) : plainF h l r = plainF h' l' r' := by
  have l0 : 0 < l.length := List.length_pos_iff.mpr hl
  have l1 : 0 < l'.length := List.length_pos_iff.mpr hl'
  have P := (extL_per (r := r) hl)
  have P' := (extL_per (r := r') hl')
  have fe : fV h l r = fV h' l' r' := funext e
  have big : ∀ j : Nat, h.length ≤ j → h'.length ≤ j → extL l r ((j : Int) - h.length) = extL l' r' ((j : Int) - h'.length) := fun j a b => by
    rw [← fV_loop a, ← fV_loop b, e]
  have Q : Per (fun i => extL l r (i - h.length)) (l.length * l'.length) (r * l'.length) := fun i => by
    show extL l r (i + ((l.length * l'.length : Nat) : Int) - h.length) = extL l r (i - h.length) + _
    rw [← P.mulN, Int.natCast_mul]
    congr 1
    omega
  have Q' : Per (fun i => extL l' r' (i - h'.length)) (l.length * l'.length) (r' * l.length) := fun i => by
    show extL l' r' (i + ((l.length * l'.length : Nat) : Int) - h'.length) = extL l' r' (i - h'.length) + _
    rw [← P'.mulN, Int.natCast_mul, Int.mul_comm (l.length : Int)]
    congr 1
    omega
  generalize hM : h.length + h'.length = M at *
  have sl : r * l'.length = r' * l.length := by
    have a := Q M
    have b := Q' M
    have c := big M (by omega) (by omega)
    have d := big (M + l.length * l'.length) (by omega) (by omega)
    simp only at a b
    rw [Int.natCast_add] at d
    omega
  rw [← sl] at Q'
  have ge : (fun i : Int => extL l r (i - h.length)) = fun i => extL l' r' (i - h'.length) := by
    have key := (Q.shift M).ext (Nat.mul_pos l0 l1) (Q'.shift M) fun k _ => by
      have := big (k + M) (by omega) (by omega)
      rw [Int.natCast_add] at this
      exact this
    refine funext fun i => ?_
    have this : extL l r (i - M + M - h.length) = extL l' r' (i - M + M - h'.length) := key (i - M)
    rwa [show i - (M : Int) + M = i by omega] at this
  obtain ⟨c, s, _, _, A⟩ := plainF_at (h := h) (r := r) hl
  obtain ⟨c2, s2, _, _, B⟩ := plainF_at (h := h') (r := r') hl'
  rw [← fe, ← ge] at B
  exact A.uniq B
/-- a row of numbers that goes on evenly makes a table -/
theorem val_of {f : Nat → Int} {xs : List Int} {c s : Nat} {d : Int} (h0 : ∀ j, 0 ≤ f j) (up : ∀ j, f j ≤ f (j + 1)) (hs : 1 ≤ s) (per : ∀ j, c ≤ j → f (j + s) = f j + d)
    (hx : xs.length = c + s) (hf : ∀ k : Nat, k < c + s → gI xs k = f k) (zc : c ≤ 50000) (zs : s ≤ 50000) (zd : d < 1152921504606846976) :
    Val (xs.take c) (xs.drop c) d ∧ xs.drop c ≠ [] ∧ ∀ j, fV (xs.take c) (xs.drop c) d j = f j := by
  have e1 : (xs.take c).length = c := by rw [List.length_take]; omega
  have e2 : (xs.drop c).length = s := by rw [List.length_drop]; omega
  have g1 : ∀ k : Nat, k < c → gI (xs.take c) k = f k := fun k hk => by rw [gI_take hk, hf k (by omega)]
  have g2 : ∀ k : Nat, k < s → gI (xs.drop c) k = f (c + k) := fun k hk => by rw [gI_drop, hf _ (by omega)]
  have ps : ∀ n ∈ xs, 0 ≤ n := fun n hn => by
    obtain ⟨k, hk, rfl⟩ := List.getElem_of_mem hn
    have := hf k (by omega)
    unfold gI at this
    rw [Int.toNat_natCast, List.getD_eq_getElem?_getD, List.getElem?_eq_getElem hk] at this
    have e : xs[k] = f k := this
    rw [e]
    exact h0 k
  have p1 : allPos (xs.take c) := fun n hn => ps n (List.mem_of_mem_take hn)
  have p2 : allPos (xs.drop c) := fun n hn => ps n (List.mem_of_mem_drop hn)
  generalize xs.take c = h at *
  generalize xs.drop c = l at *
  have hl : l ≠ [] := fun e => by rw [e] at e2; simp at e2; omega
  have d0 : 0 ≤ d := by
    have a := per c (Nat.le_refl _)
    have mono : ∀ k, f c ≤ f (c + k) := fun k => by
      induction k with
      | zero => exact Int.le_refl _
      | succ k ih => exact Int.le_trans ih (up (c + k))
    have := mono s
    omega
  refine ⟨⟨p1, p2, fun i hi => ?_, fun i hi => ?_, d0, fun e => absurd e hl, fun hne _ => ?_, fun _ => ?_, ⟨by omega, zd, by omega, by omega⟩⟩, hl, fun j => ?_⟩
  · rw [g1 i (by omega), show (i : Int) + 1 = ((i + 1 : Nat) : Int) by omega, g1 (i + 1) (by omega)]
    exact up i
  · rw [g2 i (by omega), show (i : Int) + 1 = ((i + 1 : Nat) : Int) by omega, g2 (i + 1) (by omega)]
    exact up (c + i)
  · have hp : 0 < h.length := List.length_pos_iff.mpr hne
    rw [e1, show (c : Int) - 1 = ((c - 1 : Nat) : Int) by omega, g1 _ (by omega)]
    have q := g2 0 hs
    rw [show (0 : Int) = ((0 : Nat) : Int) from rfl, q]
    have := up (c - 1)
    rwa [show c - 1 + 1 = c + 0 by omega] at this
  · rw [e2, show (s : Int) - 1 = ((s - 1 : Nat) : Int) by omega, g2 _ (by omega)]
    have q := g2 0 hs
    rw [show (0 : Int) = ((0 : Nat) : Int) from rfl, q]
    have u := up (c + (s - 1))
    rw [show c + (s - 1) + 1 = c + 0 + s by omega, per (c + 0) (by omega)] at u
    exact u
  · by_cases hj : j < c
    · rw [fV_head (by omega), g1 j hj]
    · rw [fV_loop (by omega), e1]
      have pn : ∀ z k, f (c + k + s * z) = f (c + k) + d * z := fun z k => by
        induction z with
        | zero => simp
        | succ z ih =>
          rw [Nat.mul_succ, show c + k + (s * z + s) = (c + k + s * z) + s by omega, per _ (by omega), ih, Int.natCast_add, Int.mul_add]
          omega
      have P := (extL_per (r := d) hl).mulN ((j - c) / s) ((((j - c) % s : Nat)) : Int)
      have hm : (j - c) % s + s * ((j - c) / s) = j - c := Nat.mod_add_div ..
      have hlt : (j - c) % s < s := Nat.mod_lt _ hs
      rw [e2, extL_small (by omega), g2 _ hlt, ← Int.natCast_mul, ← Int.natCast_add, hm] at P
      rw [show (j : Int) - c = ((j - c : Nat) : Int) by omega, P, ← pn]
      congr 1
      omega
/-- the value behind j others, or none -/
def TV (h l : List Int) (r : Int) (j : Nat) : Option Int := if l = [] then h[j]? else some (fV h l r j)
theorem gI_get {h : List Int} {j : Nat} (c : j < h.length) : h[j]? = some (gI h j) := by
  unfold gI
  rw [Int.toNat_natCast, List.getD_eq_getElem?_getD, List.getElem?_eq_getElem c]
  rfl
theorem vat_TV {h l : List Int} {r : Int} (j : Nat) : vat h l r ((j : Int) + 1) = TV h l r j := by
  unfold TV
  by_cases hl : l = []
  · subst hl
    rw [if_pos rfl]
    unfold vat
    rw [if_neg (by omega)]
    by_cases c : j < h.length
    · rw [if_pos (by omega), gI_get c, show (j : Int) + 1 - 1 = j by omega]
    · rw [if_neg (by omega), if_pos rfl, List.getElem?_eq_none (by omega)]
  · rw [if_neg hl, vat_fV hl]
theorem plainF_nil {h : List Int} {r : Int} : plainF h [] r = (h, [], 0) := by
  unfold plainF
  rw [if_pos rfl]
/-- the plain form is a table with the same values, and stays -/
theorem plainF_val {h l : List Int} {r : Int} (V : Val h l r) : Val (plainF h l r).1 (plainF h l r).2.1 (plainF h l r).2.2 ∧ (∀ j, TV (plainF h l r).1 (plainF h l r).2.1 (plainF h l r).2.2 j = TV h l r j) ∧
    plainF (plainF h l r).1 (plainF h l r).2.1 (plainF h l r).2.2 = plainF h l r ∧ (plainF h l r).1.length ≤ h.length ∧
    (l ≠ [] → (plainF h l r).2.1 ≠ [] ∧ ∃ q : Nat, l.length = (plainF h l r).2.1.length * q ∧ r = (plainF h l r).2.2 * q) := by
  by_cases hl : l = []
  · subst hl
    have r0 := V.e0 rfl
    subst r0
    rw [plainF_nil]
    exact ⟨V, fun j => rfl, plainF_nil, Nat.le_refl _, fun e => absurd rfl e⟩
  · obtain ⟨c, s, hc, hs, A⟩ := plainF_at (h := h) (r := r) hl
    obtain ⟨z1, z2, z3, z4⟩ := V.sm
    have l0 : 0 < l.length := List.length_pos_iff.mpr hl
    have fr : ∀ j, c ≤ j → fV h l r (j + s) = fV h l r j + ((fun i => extL l r (i - h.length)) s - (fun i => extL l r (i - h.length)) 0) := fun j hj => by
      have a := A.eq (j + s) (by omega)
      have b := A.eq j hj
      have p := A.per (j : Int)
      rw [Int.natCast_add] at a
      rw [a, b]
      exact p
    have hG : Per (fun i => extL l r (i - h.length)) l.length r := fun i => by
      have := extL_per (r := r) hl (i - h.length)
      show extL l r (i + l.length - h.length) = _
      rw [show i + (l.length : Int) - h.length = i - h.length + l.length by omega, this]
    obtain ⟨k1, k2⟩ := per_dvd A.s1 A.per A.min hG
    generalize hd : ((fun i => extL l r (i - h.length)) s - (fun i => extL l r (i - h.length)) 0) = d at *
    have d0 : 0 ≤ d := by
      have mono : ∀ k, fV h l r c ≤ fV h l r (c + k) := fun k => by
        induction k with
        | zero => exact Int.le_refl _
        | succ k ih => exact Int.le_trans ih (fV_up V hl (c + k))
      have a := mono s
      have b := fr c (Nat.le_refl _)
      omega
    have q1 : 1 ≤ l.length / s := by
      rcases Nat.eq_zero_or_pos (l.length / s) with e | e
      · rw [e, Nat.mul_zero] at k1; omega
      · exact e
    have dr : d ≤ r := by
      have := Int.mul_le_mul_of_nonneg_left (show (1 : Int) ≤ ((l.length / s : Nat) : Int) by omega) d0
      rw [Int.mul_one] at this
      exact Int.le_trans this (Int.le_of_eq k2.symm)
    have B := val_of (f := fV h l r) (xs := (List.range (c + s)).map (fV h l r)) (c := c) (s := s) (d := d) (fV_nn V) (fV_up V hl) A.s1 fr (by rw [List.length_map, List.length_range]) (fun k hk => gI_map_range hk) (by omega) (by omega) (by omega)
    have t1 : ((List.range (c + s)).map (fV h l r)).take c = (List.range c).map (fV h l r) := by
      rw [← List.map_take, List.take_range]
      congr 2
      omega
    have t2 : ((List.range (c + s)).map (fV h l r)).drop c = (List.range s).map fun i : Nat => (fun i => extL l r (i - h.length)) ((c + i : Nat) : Int) := by
      refine ext_gI (by rw [List.length_drop, List.length_map, List.length_map, List.length_range, List.length_range]; omega) fun k hk => ?_
      rw [List.length_drop, List.length_map, List.length_range] at hk
      rw [tell_gI (by omega), gI_map_range (by omega), A.eq _ (by omega)]
    rw [t1, t2] at B
    have pf := A.pf
    rw [hd] at pf
    obtain ⟨B1, B2, B3⟩ := B
    have e1 : (plainF h l r).1 = (List.range c).map (fV h l r) := by rw [pf]
    have e2 : (plainF h l r).2.1 = (List.range s).map fun i : Nat => (fun i => extL l r (i - h.length)) ((c + i : Nat) : Int) := by rw [pf]
    have e3 : (plainF h l r).2.2 = d := by rw [pf]
    rw [e1, e2, e3]
    refine ⟨B1, fun j => ?_, ?_, by rw [List.length_map, List.length_range]; exact hc, fun _ => ⟨B2, l.length / s, by rw [List.length_map, List.length_range]; exact k1, k2⟩⟩
    · unfold TV
      rw [if_neg B2, if_neg hl, B3]
    · exact plain_ext B2 hl B3
/-- the plain form with these values -/
structure Pl (f : Nat → Option Int) (h l : List Int) (r : Int) : Prop where
  val : Val h l r
  pf : plainF h l r = (h, l, r)
  tv : ∀ j, TV h l r j = f j
theorem Pl.of {h l : List Int} {r : Int} (V : Val h l r) : Pl (TV h l r) (plainF h l r).1 (plainF h l r).2.1 (plainF h l r).2.2 := by
  obtain ⟨a, b, c, _⟩ := plainF_val V
  exact ⟨a, c, b⟩
theorem Pl.uniq {f : Nat → Option Int} {h l h' l' : List Int} {r r' : Int} (a : Pl f h l r) (b : Pl f h' l' r') : h = h' ∧ l = l' ∧ r = r' := by
  have e : ∀ j, TV h l r j = TV h' l' r' j := fun j => (a.tv j).trans (b.tv j).symm
  have nn : ∀ {h l h' l' : List Int} {r r' : Int}, (∀ j, TV h l r j = TV h' l' r' j) → l = [] → l' ≠ [] → False := fun {h l h' l' r r'} e c d => by
    have := e h.length
    unfold TV at this
    rw [if_pos c, if_neg d, List.getElem?_eq_none (Nat.le_refl _)] at this
    cases this
  by_cases c : l = []
  · by_cases d : l' = []
    · subst c; subst d
      refine ⟨List.ext_getElem? fun i => ?_, rfl, (a.val.e0 rfl).trans (b.val.e0 rfl).symm⟩
      have := e i
      unfold TV at this
      rwa [if_pos rfl, if_pos rfl] at this
    · exact (nn e c d).elim
  · by_cases d : l' = []
    · exact (nn (fun j => (e j).symm) d c).elim
    · have := plain_ext c d fun j => by
        have := e j
        unfold TV at this
        rw [if_neg c, if_neg d] at this
        exact Option.some.inj this
      rw [a.pf, b.pf] at this
      cases this
      exact ⟨rfl, rfl, rfl⟩

end
section
local macro_rules | `(tactic| walk_at "hp") => `(tactic| first
  | with_reducible assumption
  | (with_reducible refine' ex_tab ?a ?b; (case a => with_reducible assumption); (case b => walk_at "hp")))
local macro_rules | `(tactic| walk_at "w2") => `(tactic| first
  | ((with_reducible refine' r_tabHead ?a ?b ?q); (case a => with_reducible assumption); (case b => walk_at "hp"))
  | ((with_reducible refine' r_tabLoop ?a ?b ?q); (case a => with_reducible assumption); (case b => walk_at "hp"))
  | ((with_reducible refine' r_tabRise ?a ?b ?q); (case a => with_reducible assumption); (case b => walk_at "hp")))
abbrev N__law_table : List Str := ["raw"]
theorem sc__law_table : FnScope N__law_table ["raw"] (defScope s__law_table) := ⟨rfl, rfl, rfl, by decide +kernel, rfl, by decide +kernel, by decide +kernel⟩
theorem ok__law_table {P : Program} {w : World} {K : PySem.W.Frag} {mg : Str → Option Value} {base : Heap} (E : Env P K mg) : Fn P w K mg base CX0 12 "_law_table" (sp1 fun v H Q _ => ∃ h l r, Dp K H v (dRaw h l r) ∧ Val h l r ∧ ∀ x H2, Ex H H2 → TabAt K H2 x (plainF h l r).1 (plainF h l r).2.1 (plainF h l r).2.2 → Q (.ref x) H2) := by
  obtain ⟨fd, F⟩ := E.dd__law_table
  refine Fn.mk0 F E.g__law_table sc__law_table sp1_len (fun _ _ _ _ _ _ us hl => match us, hl with | [_], _ => rfl) (fun cdv A outer s H vs Q X hr h => ?_)
  have nd := sc__law_table.nd
  obtain ⟨v0, rfl, h⟩ := h
  refine ⟨_, (pss_one (ps_ret (pmk (ok_Table3 E) hr (by decide) pass0 rfl (pa_cons (pe_ix (kIx K) (pv 0) (pe_int) (fun _ _ => rfl)) (pa_cons (pe_ix (kIx K) (pv 0) (pe_int) (fun _ _ => rfl)) (pa_cons (pe_ix (kIx K) (pv 0) (pe_int) (fun _ _ => rfl)) pa_nil)))))), ?_⟩
  change (_ : TS) _ [some v0] H
  try dsimp only [cxOf, Cx.nox, Cx.blk]
  obtain ⟨h, l, r, hD, W, k⟩ := h
  obtain ⟨a, th, tl, rfl, s1, s2, s3⟩ := dp_raw hD
  walk_at "w"
  exact mk_tab (b1 := true) (b2 := true) rfl (dp_of_ints s2) (dp_of_ints s3) (.int r) W k

end
section
def leO : Option Int → Option Int → Bool
  | _, none => true
  | none, some _ => false
  | some a, some b => decide (a ≤ b)
def topO (a b : Option Int) : Option Int := if leO a b = true then b else a
def lowO (a b : Option Int) : Option Int := if leO a b = true then a else b
def jnO (g : Bool) (a b : Option Int) : Option Int := if g = true then topO a b else lowO a b
abbrev N_at_most : List Str := ["one", "other"]
theorem sc_at_most : FnScope N_at_most ["one", "other"] (defScope s_at_most) := ⟨rfl, rfl, rfl, by decide +kernel, rfl, by decide +kernel, by decide +kernel⟩
theorem ok_at_most {P : Program} {w : World} {K : PySem.W.Frag} {mg : Str → Option Value} {base : Heap} (E : Env P K mg) : Fn P w K mg base CX0 1 "at_most" (sp2 fun a b H Q _ => ∃ o p, a = optV o ∧ b = optV p ∧ Q (.bl (leO o p)) H) := by
  obtain ⟨fd, F⟩ := E.dd_at_most
  refine Fn.mk0 F E.g_at_most sc_at_most sp2_len (fun _ _ _ _ _ _ us hl => match us, hl with | [_, _], _ => rfl) (fun cdv A outer s H vs Q X hr h => ?_)
  have nd := sc_at_most.nd
  obtain ⟨v0, v1, rfl, h⟩ := h
  refine ⟨_, (pss_one (ps_ret (pe_or (pe_cmpR xIs (pv 1) (pe_non) (nomark _)) (pe_one (pe_and (pe_cmpR xIsNot (pv 0) (pe_non) (nomark _)) (pe_one (pe_cmpR op_le (pv 0) (pv 1) (nomark _)))))))), ?_⟩
  change (_ : TS) _ [some v0, some v1] H
  try dsimp only [cxOf, Cx.nox, Cx.blk]
  obtain ⟨o, p, rfl, rfl, k⟩ := h
  cases p with
  | none =>
    simp only [optV]
    walk_at "w"
    cases o <;> exact k
  | some p =>
    cases o with
    | none => simp only [optV]; walk_at "w"; exact k
    | some o => simp only [optV]; walk_at "w"; exact k
abbrev N__law_le : List Str := ["one", "other"]
theorem sc__law_le : FnScope N__law_le ["one", "other"] (defScope s__law_le) := ⟨rfl, rfl, rfl, by decide +kernel, rfl, by decide +kernel, by decide +kernel⟩
theorem ok__law_le {P : Program} {w : World} {K : PySem.W.Frag} {mg : Str → Option Value} {base : Heap} (E : Env P K mg) : Fn P w K mg base CX0 1 "_law_le" (sp2 fun a b H Q _ => ∃ o p, a = optV o ∧ b = optV p ∧ Q (.bl (leO o p)) H) := by
  obtain ⟨fd, F⟩ := E.dd__law_le
  refine Fn.mk0 F E.g__law_le sc__law_le sp2_len (fun _ _ _ _ _ _ us hl => match us, hl with | [_, _], _ => rfl) (fun cdv A outer s H vs Q X hr h => ?_)
  have nd := sc__law_le.nd
  obtain ⟨v0, v1, rfl, h⟩ := h
  refine ⟨_, (pss_one (ps_ret (pe_or (pe_cmpR xIs (pv 1) (pe_non) (nomark _)) (pe_one (pe_and (pe_cmpR xIsNot (pv 0) (pe_non) (nomark _)) (pe_one (pe_cmpR op_le (pv 0) (pv 1) (nomark _)))))))), ?_⟩
  change (_ : TS) _ [some v0, some v1] H
  try dsimp only [cxOf, Cx.nox, Cx.blk]
  obtain ⟨o, p, rfl, rfl, k⟩ := h
  cases p with
  | none =>
    simp only [optV]
    walk_at "w"
    cases o <;> exact k
  | some p =>
    cases o with
    | none => simp only [optV]; walk_at "w"; exact k
    | some o => simp only [optV]; walk_at "w"; exact k
theorem lcm_div (i j : Nat) : ((i : Int) / (Int.gcd i j : Int)) * j = ((Nat.lcm i j : Nat) : Int) := by
  show ((i : Int) / ((Nat.gcd i j : Nat) : Int)) * j = _
  rw [← Int.natCast_ediv, ← Int.natCast_mul]
  congr 1
  unfold Nat.lcm
  exact (Nat.div_mul_right_comm (Nat.gcd_dvd_left i j) j)
abbrev N_common_multiple : List Str := ["one", "other"]
theorem sc_common_multiple : FnScope N_common_multiple ["one", "other"] (defScope s_common_multiple) := ⟨rfl, rfl, rfl, by decide +kernel, rfl, by decide +kernel, by decide +kernel⟩
theorem ok_common_multiple {P : Program} {w : World} {K : PySem.W.Frag} {mg : Str → Option Value} {base : Heap} (E : Env P K mg) : Fn P w K mg base CX0 2 "common_multiple" (sp2 fun a b H Q _ => ∃ i j : Nat, a = .int i ∧ b = .int j ∧ 0 < i ∧ i ≤ 50000 ∧ j ≤ 50000 ∧ Q (.int (Nat.lcm i j : Nat)) H) := by
  obtain ⟨fd, F⟩ := E.dd_common_multiple
  refine Fn.mk0 F E.g_common_multiple sc_common_multiple sp2_len (fun _ _ _ _ _ _ us hl => match us, hl with | [_, _], _ => rfl) (fun cdv A outer s H vs Q X hr h => ?_)
  have nd := sc_common_multiple.nd
  obtain ⟨v0, v1, rfl, h⟩ := h
  refine ⟨_, (pss_one (ps_ret (pe_op (kMul K) (pe_op xDiv (pv 0) (pc (ok_common_divisor E) hr (by decide) pass0 rfl (pa_cons (pv 0) (pa_cons (pv 1) pa_nil)))) (pv 1)))), ?_⟩
  change (_ : TS) _ [some v0, some v1] H
  try dsimp only [cxOf, Cx.nox, Cx.blk]
  obtain ⟨i, j, rfl, rfl, hi, zi, zj, k⟩ := h
  rw [← lcm_div] at k
  walk_at "w"
  refine ⟨_, _, rfl, rfl, by omega, by omega, ?_⟩
  have g0 : (0 : Int) < Int.gcd i j := by
    have := Int.gcd_pos_of_ne_zero_left (j : Int) (show (i : Int) ≠ 0 by omega)
    omega
  have g1 : (Int.gcd i j : Int) ≤ i := Int.le_of_dvd (by omega) (Int.gcd_dvd_left ..)
  have h1 : (i : Int) / (Int.gcd i j : Int) ≤ i := Int.ediv_le_self _ (by omega)
  have h2 : 0 ≤ (i : Int) / (Int.gcd i j : Int) := Int.ediv_nonneg (by omega) (by omega)
  walk_at "w"
  exact k
/-- the counts ahead of the first never -/
def cnts : List (Option Int) → List Int
  | some a :: r => a :: cnts r
  | _ => []
theorem cnts_snoc : ∀ {xs : List (Option Int)} {i : Nat} {a : Int}, (cnts (xs.take i)).length = i → xs[i]? = some (some a) → cnts (xs.take (i + 1)) = cnts (xs.take i) ++ [a] ∧ (cnts (xs.take (i + 1))).length = i + 1
  | [], _, _, _, e => by simp at e
  | none :: r, 0, a, _, e => by simp at e
  | some b :: r, 0, a, _, e => by
    simp at e
    subst e
    simp [cnts]
  | none :: r, i + 1, a, h, _ => by simp [cnts] at h
  | some b :: r, i + 1, a, h, e => by
    simp only [List.take_succ_cons, cnts, List.length_cons] at h
    have := cnts_snoc (xs := r) (i := i) (a := a) (by omega) (by simpa using e)
    simp only [List.take_succ_cons, cnts, List.length_cons, List.cons_append]
    exact ⟨congrArg _ this.1, by omega⟩
theorem cnts_stop : ∀ {xs : List (Option Int)} {i : Nat}, (cnts (xs.take i)).length = i → xs[i]? = some none → cnts xs = cnts (xs.take i)
  | [], _, _, e => by simp at e
  | none :: r, 0, _, _ => rfl
  | some b :: r, 0, _, e => by simp at e
  | none :: r, i + 1, h, _ => by simp [cnts] at h
  | some b :: r, i + 1, h, e => by
    simp only [List.take_succ_cons, cnts, List.length_cons] at h
    have := cnts_stop (xs := r) (i := i) (by omega) (by simpa using e)
    simp only [List.take_succ_cons, cnts]
    rw [this]

end
section
theorem fr_tab {K : PySem.W.Frag} {a x : Addr} {H H' : Hp} {h l : List Int} {r : Int} (f : Fr a H H') (s : SrcAt H a) (t : TabAt K H x h l r) : TabAt K H' x h l r := by
  obtain ⟨dx, th, tl, h1, h2, h3⟩ := t
  refine ⟨dx, th, tl, f x _ ?_ h1, fr_t f s h2, fr_t f s h3⟩
  rintro rfl
  obtain ⟨d, sd, c, q, _⟩ := s
  rw [h1] at q
  cases q
theorem valueAt_nn {h l : List Int} {r : Int} (ph : allPos h) (pl : allPos l) (hr : 0 ≤ r) (o : Option Int) : ∀ i, valueAt h l r o = some i → 0 ≤ i := by
  intro i e
  cases o with
  | none =>
    have e : endOf l r = some i := e
    unfold endOf at e
    split at e
    · cases e
    · cases e; exact gI_nn pl _
  | some p =>
    have e : vat h l r p = some i := e
    unfold vat at e
    split at e
    · cases e; exact Int.le_refl _
    · split at e
      · cases e; exact gI_nn ph _
      · split at e
        · cases e
        · rename_i c1 c2 _
          cases e
          exact Int.add_nonneg (gI_nn pl _) (Int.mul_nonneg hr (Int.ediv_nonneg (by omega) (by omega)))
theorem dp_toOpt {K : PySem.W.Frag} {H : Hp} {v : V} {o : Option Int} (h : Dp K H v (dOpt o)) : v = optV o := by
  cases o with
  | none => exact dp_toNon h
  | some i => exact dp_toInt h
theorem w_lstRg {K : PySem.W.Frag} {n : Int} {σ : L2.St} {H : Hp} {Q : VK} (ok : RgOk 0 n) (q : ∀ p H1, H p = none → Ex H H1 → H1 p = some (.lst (rgV 0 n)) → Q (.ref p) H1) : tLstRg (tRg1 (tC (.int n))) σ H Q := ⟨n, rfl, ok, fun p hp => q p _ hp (Ex.new hp) upd_same⟩
theorem src_fr {x y : Addr} {H H' : Hp} (n : x ≠ y) (f : Fr y H H') (q : SrcAt H x) : SrcAt H' x := by
  obtain ⟨d, s, c, w1, w2⟩ := q
  exact ⟨d, s, c, f _ _ n w1, w2⟩
theorem l_fr {K : PySem.W.Frag} {a x : Addr} {H0 H H' : Hp} {xs : List V} (f : Fr x H H') (s0 : SqL K H0 a xs) (n : H0 x = none) (s : SqL K H a xs) : SqL K H' a xs := by
  rcases s0 with s0 | s0
  · have hne : a ≠ x := by
      rintro rfl
      rcases s0 with q | ⟨o', q⟩ <;> rw [n] at q <;> cases q
    rcases s with s | s
    · rcases s with q | ⟨o', q⟩
      · exact .inl (.inl (f _ _ hne q))
      · exact .inl (.inr ⟨o', f _ _ hne q⟩)
    · exact .inr s
  · exact .inr s0

end
section
/-- the greater (lesser) one of two tables' values -/
def JV (g : Bool) (f1 f2 : Nat → Option Int) (j : Nat) : Option Int := jnO g (f1 j) (f2 j)
abbrev spJoinV (K : PySem.W.Frag) : Sp := sp4 fun a b c u H Q _ => ∃ (h1 l1 h2 l2 : List Int) (r1 r2 : Int) (g : Bool) (n : Nat), Dp K H a (dRaw h1 l1 r1) ∧ Dp K H b (dRaw h2 l2 r2) ∧ c = .bl g ∧ u = .int n ∧ n ≤ 60000 ∧ RSm h1 l1 r1 ∧ RSm h2 l2 r2 ∧
  ∀ p H', H p = none → Ex H H' → H' p = some (.lst ((List.range n).map fun j => optV (JV g (TV h1 l1 r1) (TV h2 l2 r2) j))) → Q (.ref p) H'

end
section
theorem topO_some (x y : Int) : topO (some x) (some y) = some (max x y) := by
  unfold topO leO
  by_cases h : x ≤ y
  · rw [if_pos (decide_eq_true h), Int.max_eq_right h]
  · rw [if_neg (by simpa using h), Int.max_eq_left (by omega)]
theorem lowO_some (x y : Int) : lowO (some x) (some y) = some (min x y) := by
  unfold lowO leO
  by_cases h : x ≤ y
  · rw [if_pos (decide_eq_true h), Int.min_eq_left h]
  · rw [if_neg (by simpa using h), Int.min_eq_right (by omega)]
theorem topO_none (x : Option Int) : topO x none = none ∧ topO none x = none := by cases x <;> exact ⟨rfl, rfl⟩
theorem lowO_none (x : Option Int) : lowO x none = x ∧ lowO none x = x := by cases x <;> exact ⟨rfl, rfl⟩
theorem jnO_some (g : Bool) (x y : Int) : jnO g (some x) (some y) = some (if g = true then max x y else min x y) := by
  unfold jnO
  cases g
  · exact lowO_some x y
  · exact topO_some x y
theorem leO_some {x y : Int} : leO (some x) (some y) = true ↔ x ≤ y := by unfold leO; exact decide_eq_true_iff
/-- values that do not fall and are no less than 0 -/
structure Gd (f : Nat → Option Int) : Prop where
  up : ∀ j, leO (f j) (f (j + 1)) = true
  nn : ∀ j v, f j = some v → 0 ≤ v
theorem jnO_mono {g : Bool} {a b c d : Option Int} (h1 : leO a c = true) (h2 : leO b d = true) : leO (jnO g a b) (jnO g c d) = true := by
  cases a with
  | none =>
    cases c with
    | some c => cases h1
    | none =>
      cases b with
      | none =>
        cases d with
        | some d => cases h2
        | none => cases g <;> rfl
      | some b =>
        cases d with
        | none => cases g <;> rfl
        | some d =>
          cases g
          · exact h2
          · rfl
  | some a =>
    cases b with
    | none =>
      cases d with
      | some d => cases h2
      | none =>
        cases c with
        | none => cases g <;> rfl
        | some c => cases g; exact h1; rfl
    | some b =>
      rw [jnO_some]
      cases c with
      | none =>
        cases d with
        | none => cases g <;> rfl
        | some d =>
          cases g
          · rw [leO_some] at h2
            show leO _ (some d) = true
            rw [leO_some, if_neg (by decide)]
            omega
          · rfl
      | some c =>
        rw [leO_some] at h1
        cases d with
        | none =>
          cases g
          · show leO _ (some c) = true
            rw [leO_some, if_neg (by decide)]
            omega
          · rfl
        | some d =>
          rw [leO_some] at h2
          rw [jnO_some, leO_some]
          cases g
          · rw [if_neg (by decide), if_neg (by decide)]; omega
          · rw [if_pos rfl, if_pos rfl]; omega
theorem jnO_val {g : Bool} {a b : Option Int} {v : Int} (h : jnO g a b = some v) : a = some v ∨ b = some v := by
  unfold jnO topO lowO at h
  cases g
  · rw [if_neg (by decide)] at h
    split at h
    · exact .inl h
    · exact .inr h
  · rw [if_pos rfl] at h
    split at h
    · exact .inr h
    · exact .inl h
theorem Gd.join {f1 f2 : Nat → Option Int} (g : Bool) (a : Gd f1) (b : Gd f2) : Gd (JV g f1 f2) :=
  ⟨fun j => jnO_mono (a.up j) (b.up j), fun j v h => (jnO_val h).elim (a.nn j v) (b.nn j v)⟩
theorem Gd.of {h l : List Int} {r : Int} (V : Val h l r) : Gd (TV h l r) := by
  by_cases hl : l = []
  · subst hl
    refine ⟨fun j => ?_, fun j v e => ?_⟩
    · unfold TV
      rw [if_pos rfl, if_pos rfl]
      by_cases c : j + 1 < h.length
      · rw [gI_get c, gI_get (show j < h.length by omega), leO_some]
        exact V.r1 j c
      · rw [List.getElem?_eq_none (show h.length ≤ j + 1 by omega)]
        cases h[j]? <;> rfl
    · unfold TV at e
      rw [if_pos rfl] at e
      exact V.p1 v (List.mem_of_getElem? e)
  · refine ⟨fun j => ?_, fun j v e => ?_⟩
    · unfold TV
      rw [if_neg hl, if_neg hl, leO_some]
      exact fV_up V hl j
    · unfold TV at e
      rw [if_neg hl] at e
      cases e
      exact fV_nn V j
theorem gd_none {f : Nat → Option Int} (a : Gd f) {n : Nat} (h : f n = none) : ∀ j, n ≤ j → f j = none := fun j hj => by
  obtain ⟨k, rfl⟩ := Nat.exists_eq_add_of_le hj
  clear hj
  induction k with
  | zero => exact h
  | succ k ih =>
    have := a.up (n + k)
    rw [ih] at this
    show f (n + k + 1) = none
    cases e : f (n + k + 1) with
    | none => rfl
    | some v => rw [e] at this; cases this
theorem cnts_get : ∀ {xs : List (Option Int)} {j : Nat}, (∀ i, xs[i]? = some none → ∀ k, i ≤ k → k < xs.length → xs[k]? = some none) → (cnts xs)[j]? = (xs[j]?).join
  | [], j, _ => by simp [cnts]
  | none :: r, j, h => by
    simp only [cnts]
    have := h 0 rfl j (Nat.zero_le _)
    by_cases c : j < (none :: r).length
    · rw [this c]; rfl
    · rw [List.getElem?_eq_none (l := none :: r) (by omega)]; rfl
  | some a :: r, 0, _ => by simp [cnts]
  | some a :: r, j + 1, h => by
    simp only [cnts, List.getElem?_cons_succ]
    exact cnts_get fun i hi k hik hk => by
      have := h (i + 1) (by simpa using hi) (k + 1) (by omega) (by simp; omega)
      simpa using this
theorem cnts_len (xs : List (Option Int)) : (cnts xs).length ≤ xs.length := by
  induction xs with
  | nil => exact Nat.le_refl _
  | cons o r ih =>
    cases o with
    | none => exact Nat.zero_le _
    | some a => exact Nat.succ_le_succ ih
/-- values that end make a table -/
theorem val_end {f : Nat → Option Int} (G : Gd f) {n : Nat} (hn : f n = none) (z : n ≤ 49999) : Val (cnts ((List.range (n + 1)).map f)) [] 0 ∧ (∀ j, TV (cnts ((List.range (n + 1)).map f)) [] 0 j = f j) ∧ (cnts ((List.range (n + 1)).map f)).length ≤ n := by
  have hg : ∀ j, (cnts ((List.range (n + 1)).map f))[j]? = f j := fun j => by
    rw [cnts_get fun i hi k hik hk => by
      rw [List.getElem?_map] at hi ⊢
      rw [List.length_map, List.length_range] at hk
      rw [List.getElem?_range (by omega)] at hi
      rw [List.getElem?_range hk]
      have e : f i = none := Option.some.inj hi
      exact congrArg some (gd_none G e k hik)]
    rw [List.getElem?_map]
    by_cases c : j < n + 1
    · rw [List.getElem?_range c]
      show Option.join (some (f j)) = f j
      cases f j <;> rfl
    · rw [List.getElem?_eq_none (by rw [List.length_range]; omega), gd_none G hn j (by omega)]
      rfl
  generalize cnts ((List.range (n + 1)).map f) = h at *
  have hl : h.length ≤ n := by
    have := hg n
    rw [hn] at this
    exact List.getElem?_eq_none_iff.mp this
  refine ⟨⟨fun v hv => ?_, fun v hv => by simp at hv, fun i hi => ?_, fun i hi => by simp at hi, Int.le_refl _, fun _ => rfl, fun _ q => absurd rfl q, fun q => absurd rfl q, ⟨by decide, by decide, by omega, by decide⟩⟩, fun j => ?_, hl⟩
  · obtain ⟨i, hi, rfl⟩ := List.getElem_of_mem hv
    have := hg i
    rw [List.getElem?_eq_getElem hi] at this
    exact G.nn i _ this.symm
  · have a := hg i
    have b := hg (i + 1)
    rw [gI_get (by omega)] at a
    rw [gI_get hi] at b
    have := G.up i
    rw [← a, ← b, leO_some] at this
    exact this
  · unfold TV
    rw [if_pos rfl]
    exact hg j
/-- values that go on evenly make a table -/
theorem val_on {f : Nat → Option Int} (G : Gd f) {c s : Nat} {d : Int} {xs : List Int} (hs : 1 ≤ s) (hc : ∀ j, f j ≠ none) (per : ∀ j, c ≤ j → f (j + s) = (f j).map (· + d))
    (hx : xs.map some = (List.range (c + s)).map f) (zc : c ≤ 50000) (zs : s ≤ 50000) (zd : d < 1152921504606846976) :
    Val (xs.take c) (xs.drop c) d ∧ xs.drop c ≠ [] ∧ xs.length = c + s ∧ ∀ j, TV (xs.take c) (xs.drop c) d j = f j := by
  have hl : xs.length = c + s := by
    have := congrArg List.length hx
    rwa [List.length_map, List.length_map, List.length_range] at this
  have hv : ∀ j, f j = some ((f j).getD 0) := fun j => by
    cases e : f j with
    | none => exact absurd e (hc j)
    | some v => rfl
  obtain ⟨A, B, C⟩ := val_of (f := fun j => (f j).getD 0) (xs := xs) (c := c) (s := s) (d := d) (fun j => G.nn j _ (hv j)) (fun j => by
    have := G.up j
    rw [hv j, hv (j + 1), leO_some] at this
    exact this) hs (fun j hj => by
    have := per j hj
    rw [hv (j + s), hv j] at this
    exact Option.some.inj this) hl (fun k hk => by
    have := congrArg (fun l => l[k]?) hx
    simp only [List.getElem?_map] at this
    rw [List.getElem?_range hk, gI_get (by omega)] at this
    have e : some (gI xs k) = f k := Option.some.inj this
    rw [hv k] at e
    exact Option.some.inj e) zc zs zd
  refine ⟨A, B, hl, fun j => ?_⟩
  unfold TV
  rw [if_neg B, C, hv j]
  rfl

end
section
def slp (l : List Int) (r : Int) (m : Nat) : Int := r * ((m : Int) / l.length)
/-- by how much the flatter one of two tables is greater -/
def lkV (h1 l1 : List Int) (r1 : Int) (h2 l2 : List Int) (r2 : Int) (m : Nat) (j : Nat) : Int :=
  if slp l1 r1 m > slp l2 r2 m then fV h2 l2 r2 j - fV h1 l1 r1 j else fV h1 l1 r1 j - fV h2 l2 r2 j
/-- the least number of rounds behind which the steeper one is ahead -/
structure Steps (lk : Nat → Int) (S m : Nat) (ap : Int) (s : Nat) : Prop where
  z : ap = 0 → s = 0
  up : ap ≠ 0 → ∀ k, k < m → lk (S + k) ≤ s * ap
  lo : s = 0 ∨ ∃ k, k < m ∧ ((s : Int) - 1) * ap < lk (S + k)
theorem ceil_ok {x ap : Int} (hx : 0 < x) (ha : 0 < ap) : x ≤ (x + ap - 1) / ap * ap ∧ ((x + ap - 1) / ap - 1) * ap < x ∧ 1 ≤ (x + ap - 1) / ap := by
  have e := Int.emod_add_mul_ediv (x + ap - 1) ap
  have h0 := Int.emod_nonneg (x + ap - 1) (show ap ≠ 0 by omega)
  have h1 := Int.emod_lt_of_pos (x + ap - 1) ha
  have h2 : 1 ≤ (x + ap - 1) / ap := Int.le_ediv_of_mul_le ha (by omega)
  generalize (x + ap - 1) / ap = q at *
  rw [Int.mul_comm] at e
  refine ⟨by omega, ?_, h2⟩
  rw [Int.sub_mul]
  omega
theorem steps_go {lk : Nat → Int} {S i : Nat} {ap : Int} {s : Nat} (ha : 0 < ap) (up : ∀ k, k < i → lk (S + k) ≤ s * ap) (lo : s = 0 ∨ ∃ k, k < i ∧ ((s : Int) - 1) * ap < lk (S + k)) (hx : 0 < lk (S + i)) :
    ∃ s' : Nat, (s' : Int) = max (s : Int) ((lk (S + i) + ap - 1) / ap) ∧ (∀ k, k < i + 1 → lk (S + k) ≤ s' * ap) ∧ (s' = 0 ∨ ∃ k, k < i + 1 ∧ ((s' : Int) - 1) * ap < lk (S + k)) := by
  obtain ⟨c1, c2, c3⟩ := ceil_ok hx ha
  generalize (lk (S + i) + ap - 1) / ap = q at *
  rcases Int.le_total q s with h | h
  · refine ⟨s, (Int.max_eq_left h).symm, fun k hk => ?_, lo.imp id fun ⟨k, a, b⟩ => ⟨k, by omega, b⟩⟩
    by_cases e : k = i
    · subst e
      exact Int.le_trans c1 (Int.mul_le_mul_of_nonneg_right h (by omega))
    · exact up k (by omega)
  · refine ⟨q.toNat, by rw [Int.toNat_of_nonneg (by omega), Int.max_eq_right h], fun k hk => ?_, .inr ⟨i, by omega, by rw [Int.toNat_of_nonneg (by omega)]; exact c2⟩⟩
    rw [Int.toNat_of_nonneg (by omega)]
    by_cases e : k = i
    · subst e; exact c1
    · exact Int.le_trans (up k (by omega)) (Int.mul_le_mul_of_nonneg_right h (by omega))
theorem steps_stay {lk : Nat → Int} {S i : Nat} {ap : Int} {s : Nat} (ha : 0 < ap) (up : ∀ k, k < i → lk (S + k) ≤ s * ap) (lo : s = 0 ∨ ∃ k, k < i ∧ ((s : Int) - 1) * ap < lk (S + k)) (hx : ¬ 0 < lk (S + i)) :
    (∀ k, k < i + 1 → lk (S + k) ≤ s * ap) ∧ (s = 0 ∨ ∃ k, k < i + 1 ∧ ((s : Int) - 1) * ap < lk (S + k)) := by
  refine ⟨fun k hk => ?_, lo.imp id fun ⟨k, a, b⟩ => ⟨k, by omega, b⟩⟩
  by_cases e : k = i
  · subst e
    have := Int.mul_nonneg (show (0 : Int) ≤ s by omega) (show 0 ≤ ap by omega)
    omega
  · exact up k (by omega)
theorem slp_le {l : List Int} {r : Int} {m : Nat} (r0 : 0 ≤ r) (r1 : r ≤ 1000000000000) (hm : m ≤ 50000) : 0 ≤ slp l r m ∧ slp l r m ≤ 50000000000000000 := by
  unfold slp
  have a : 0 ≤ (m : Int) / l.length := Int.ediv_nonneg (by omega) (by omega)
  have b : (m : Int) / l.length ≤ m := Int.ediv_le_self _ (by omega)
  refine ⟨Int.mul_nonneg r0 a, ?_⟩
  have := Int.mul_le_mul r1 (show (m : Int) / l.length ≤ 50000 by omega) a (by omega)
  omega

end
section
theorem slp_mul {l : List Int} {r : Int} {m q : Nat} (hl : l ≠ []) (d : l.length ∣ m) : slp l r (m * q) = slp l r m * q := by
  have l0 : 0 < l.length := List.length_pos_iff.mpr hl
  obtain ⟨p, rfl⟩ := d
  unfold slp
  have e1 : ((l.length * p * q : Nat) : Int) / l.length = ((p * q : Nat) : Int) := by rw [Nat.mul_assoc, Int.natCast_mul, Int.mul_ediv_cancel_left _ (by omega)]
  have e2 : ((l.length * p : Nat) : Int) / l.length = (p : Int) := by rw [Int.natCast_mul, Int.mul_ediv_cancel_left _ (by omega)]
  rw [e1, e2, Int.natCast_mul, Int.mul_assoc]
theorem fV_per {h l : List Int} {r : Int} {m : Nat} (hl : l ≠ []) (d : l.length ∣ m) {j : Nat} (hj : h.length ≤ j) : fV h l r (j + m) = fV h l r j + slp l r m := by
  have l0 : 0 < l.length := List.length_pos_iff.mpr hl
  obtain ⟨p, rfl⟩ := d
  have P := (extL_per (r := r) hl).mulN p ((j : Int) - h.length)
  rw [fV_loop (by omega), fV_loop hj]
  unfold slp
  rw [Int.natCast_mul, Int.mul_ediv_cancel_left _ (by omega), ← P]
  congr 1
  rw [Int.natCast_add, Int.natCast_mul]
  omega
theorem fV_perN {h l : List Int} {r : Int} {m : Nat} (hl : l ≠ []) (d : l.length ∣ m) {j : Nat} (hj : h.length ≤ j) : ∀ t : Nat, fV h l r (j + m * t) = fV h l r j + slp l r m * t
  | 0 => by simp
  | t + 1 => by
    rw [Nat.mul_succ, show j + (m * t + m) = (j + m * t) + m by omega, fV_per hl d (by omega), fV_perN hl d hj t, Int.natCast_add, Int.mul_add]
    omega
section
variable {P : Nat}
/-- a pace of growth: by a in P places -/
def Slo (P : Nat) (f : Nat → Option Int) (a : Int) : Prop := ∃ c, ∀ j, c ≤ j → ∃ v, f j = some v ∧ f (j + P) = some (v + a)
theorem Slo.uniq {f : Nat → Option Int} {a b : Int} (x : Slo P f a) (y : Slo P f b) : a = b := by
  obtain ⟨c, hc⟩ := x
  obtain ⟨d, hd⟩ := y
  obtain ⟨u, h1, h2⟩ := hc (c + d) (by omega)
  obtain ⟨v, h3, h4⟩ := hd (c + d) (by omega)
  rw [h1] at h3
  cases h3
  rw [h2] at h4
  have := Option.some.inj h4
  omega
theorem Slo.tab {h l : List Int} {r : Int} (hl : l ≠ []) (d : l.length ∣ P) : Slo P (TV h l r) (slp l r P) := ⟨h.length, fun j hj => ⟨fV h l r j, by unfold TV; rw [if_neg hl], by unfold TV; rw [if_neg hl, fV_per hl d hj]⟩⟩
/-- from N on the steeper one is not less -/
def Sr (P N : Nat) (f g : Nat → Option Int) : Prop := ∀ a b, Slo P f a → Slo P g b → b < a → ∀ j, N ≤ j → ∀ u v, f j = some u → g j = some v → v ≤ u
/-- ended at N, or going on for ever -/
def Knd (P N : Nat) (f : Nat → Option Int) : Prop := (∀ j, N ≤ j → f j = none) ∨ ((∃ a, Slo P f a) ∧ ∀ j, f j ≠ none)
theorem jn_none {g : Bool} {a b : Option Int} (h : jnO g a b ≠ none) : g = true → a ≠ none ∧ b ≠ none := fun e => by
  subst e
  cases a with
  | none => exact absurd (topO_none b).2 h
  | some a =>
    cases b with
    | none => exact absurd (topO_none (some a)).1 h
    | some b => exact ⟨fun e => (by cases e), fun e => (by cases e)⟩
theorem jn_ex {g : Bool} {f1 f2 : Nat → Option Int} {N : Nat} (G1 : Gd f1) (G2 : Gd f2) (K1 : Knd P N f1) (K2 : Knd P N f2) (s12 : Sr P N f1 f2) (s21 : Sr P N f2 f1) :
    Knd P N (JV g f1 f2) ∧ ∀ a, Slo P (JV g f1 f2) a → ∀ j, N ≤ j → ∀ u, JV g f1 f2 j = some u → (f1 j = some u ∧ Slo P f1 a) ∨ (f2 j = some u ∧ Slo P f2 a) := by
  rcases K1 with E1 | ⟨⟨a1, S1⟩, n1⟩
  · rcases K2 with E2 | ⟨⟨a2, S2⟩, n2⟩
    · have e : ∀ j, N ≤ j → JV g f1 f2 j = none := fun j hj => by unfold JV; rw [E1 j hj, E2 j hj]; cases g <;> rfl
      exact ⟨.inl e, fun a _ j hj u h => by rw [e j hj] at h; cases h⟩
    · cases g with
      | true =>
        have e : ∀ j, N ≤ j → JV true f1 f2 j = none := fun j hj => by unfold JV; rw [E1 j hj]; exact (topO_none _).2
        exact ⟨.inl e, fun a _ j hj u h => by rw [e j hj] at h; cases h⟩
      | false =>
        have e : ∀ j, N ≤ j → JV false f1 f2 j = f2 j := fun j hj => by unfold JV; rw [E1 j hj]; exact (lowO_none _).2
        have sl : Slo P (JV false f1 f2) a2 := by
          obtain ⟨c, hc⟩ := S2
          exact ⟨c + N, fun j hj => by rw [e j (by omega), e (j + P) (by omega)]; exact hc j (by omega)⟩
        refine ⟨.inr ⟨⟨a2, sl⟩, fun j h => ?_⟩, fun a h j hj u hu => .inr ⟨by rw [← e j hj]; exact hu, (h.uniq sl) ▸ S2⟩⟩
        have : JV false f1 f2 (j + N) = none := gd_none (G1.join false G2) h (j + N) (by omega)
        rw [e _ (by omega)] at this
        exact n2 _ this
  · rcases K2 with E2 | ⟨⟨a2, S2⟩, n2⟩
    · cases g with
      | true =>
        have e : ∀ j, N ≤ j → JV true f1 f2 j = none := fun j hj => by unfold JV; rw [E2 j hj]; exact (topO_none _).1
        exact ⟨.inl e, fun a _ j hj u h => by rw [e j hj] at h; cases h⟩
      | false =>
        have e : ∀ j, N ≤ j → JV false f1 f2 j = f1 j := fun j hj => by unfold JV; rw [E2 j hj]; exact (lowO_none _).1
        have sl : Slo P (JV false f1 f2) a1 := by
          obtain ⟨c, hc⟩ := S1
          exact ⟨c + N, fun j hj => by rw [e j (by omega), e (j + P) (by omega)]; exact hc j (by omega)⟩
        refine ⟨.inr ⟨⟨a1, sl⟩, fun j h => ?_⟩, fun a h j hj u hu => .inl ⟨by rw [← e j hj]; exact hu, (h.uniq sl) ▸ S1⟩⟩
        have : JV false f1 f2 (j + N) = none := gd_none (G1.join false G2) h (j + N) (by omega)
        rw [e _ (by omega)] at this
        exact n1 _ this
    · have hv1 : ∀ j, ∃ v, f1 j = some v := fun j => by
        cases e : f1 j with
        | none => exact absurd e (n1 j)
        | some v => exact ⟨v, rfl⟩
      have hv2 : ∀ j, ∃ v, f2 j = some v := fun j => by
        cases e : f2 j with
        | none => exact absurd e (n2 j)
        | some v => exact ⟨v, rfl⟩
      have hJ : ∀ j, ∃ u v, f1 j = some u ∧ f2 j = some v ∧ JV g f1 f2 j = some (if g = true then max u v else min u v) := fun j => by
        obtain ⟨u, hu⟩ := hv1 j
        obtain ⟨v, hv⟩ := hv2 j
        exact ⟨u, v, hu, hv, by unfold JV; rw [hu, hv]; exact jnO_some g u v⟩
      have hne : ∀ j, JV g f1 f2 j ≠ none := fun j h => by
        obtain ⟨u, v, _, _, e⟩ := hJ j
        rw [e] at h
        cases h
      have one : ∀ {a : Int}, Slo P f1 a → (∀ j, N ≤ j → JV g f1 f2 j = f1 j) → Slo P (JV g f1 f2) a := fun {a} S e => by
        obtain ⟨c, hc⟩ := S
        exact ⟨c + N, fun j hj => by rw [e j (by omega), e (j + P) (by omega)]; exact hc j (by omega)⟩
      have two : ∀ {a : Int}, Slo P f2 a → (∀ j, N ≤ j → JV g f1 f2 j = f2 j) → Slo P (JV g f1 f2) a := fun {a} S e => by
        obtain ⟨c, hc⟩ := S
        exact ⟨c + N, fun j hj => by rw [e j (by omega), e (j + P) (by omega)]; exact hc j (by omega)⟩
      rcases Int.lt_trichotomy a1 a2 with h | h | h
      · have ge : ∀ j, N ≤ j → ∀ u v, f1 j = some u → f2 j = some v → u ≤ v := fun j hj u v hu hv => s21 a2 a1 S2 S1 h j hj v u hv hu
        cases g with
        | true =>
          have e : ∀ j, N ≤ j → JV true f1 f2 j = f2 j := fun j hj => by
            obtain ⟨u, v, hu, hv, hj'⟩ := hJ j
            rw [hj', hv, if_pos rfl, Int.max_eq_right (ge j hj u v hu hv)]
          exact ⟨.inr ⟨⟨a2, two S2 e⟩, hne⟩, fun a hs j hj u hu => .inr ⟨by rw [← e j hj]; exact hu, (hs.uniq (two S2 e)) ▸ S2⟩⟩
        | false =>
          have e : ∀ j, N ≤ j → JV false f1 f2 j = f1 j := fun j hj => by
            obtain ⟨u, v, hu, hv, hj'⟩ := hJ j
            rw [hj', hu, if_neg (by decide), Int.min_eq_left (ge j hj u v hu hv)]
          exact ⟨.inr ⟨⟨a1, one S1 e⟩, hne⟩, fun a hs j hj u hu => .inl ⟨by rw [← e j hj]; exact hu, (hs.uniq (one S1 e)) ▸ S1⟩⟩
      · subst h
        have sl : Slo P (JV g f1 f2) a1 := by
          obtain ⟨c, hc⟩ := S1
          obtain ⟨d, hd⟩ := S2
          refine ⟨c + d, fun j hj => ?_⟩
          obtain ⟨u, h1, h2⟩ := hc j (by omega)
          obtain ⟨v, h3, h4⟩ := hd j (by omega)
          refine ⟨if g = true then max u v else min u v, by unfold JV; rw [h1, h3]; exact jnO_some g u v, ?_⟩
          unfold JV
          rw [h2, h4, jnO_some]
          cases g
          · rw [if_neg (by decide), if_neg (by decide)]; congr 1; omega
          · rw [if_pos rfl, if_pos rfl]; congr 1; omega
        refine ⟨.inr ⟨⟨a1, sl⟩, hne⟩, fun a hs j hj u hu => ?_⟩
        rw [hs.uniq sl]
        exact (jnO_val hu).imp (fun e => ⟨e, S1⟩) fun e => ⟨e, S2⟩
      · have ge : ∀ j, N ≤ j → ∀ u v, f1 j = some u → f2 j = some v → v ≤ u := fun j hj u v hu hv => s12 a1 a2 S1 S2 h j hj u v hu hv
        cases g with
        | true =>
          have e : ∀ j, N ≤ j → JV true f1 f2 j = f1 j := fun j hj => by
            obtain ⟨u, v, hu, hv, hj'⟩ := hJ j
            rw [hj', hu, if_pos rfl, Int.max_eq_left (ge j hj u v hu hv)]
          exact ⟨.inr ⟨⟨a1, one S1 e⟩, hne⟩, fun a hs j hj u hu => .inl ⟨by rw [← e j hj]; exact hu, (hs.uniq (one S1 e)) ▸ S1⟩⟩
        | false =>
          have e : ∀ j, N ≤ j → JV false f1 f2 j = f2 j := fun j hj => by
            obtain ⟨u, v, hu, hv, hj'⟩ := hJ j
            rw [hj', hv, if_neg (by decide), Int.min_eq_right (ge j hj u v hu hv)]
          exact ⟨.inr ⟨⟨a2, two S2 e⟩, hne⟩, fun a hs j hj u hu => .inr ⟨by rw [← e j hj]; exact hu, (hs.uniq (two S2 e)) ▸ S2⟩⟩
/-- what is put together is sorted against a third one -/
theorem Sr.joinL {g : Bool} {f1 f2 f3 : Nat → Option Int} {N : Nat} (G1 : Gd f1) (G2 : Gd f2) (K1 : Knd P N f1) (K2 : Knd P N f2) (s12 : Sr P N f1 f2) (s21 : Sr P N f2 f1) (s13 : Sr P N f1 f3) (s23 : Sr P N f2 f3) : Sr P N (JV g f1 f2) f3 := by
  intro a b ha hb hab j hj u v hu hv
  rcases (jn_ex G1 G2 K1 K2 s12 s21).2 a ha j hj u hu with ⟨e, s⟩ | ⟨e, s⟩
  · exact s13 a b s hb hab j hj u v e hv
  · exact s23 a b s hb hab j hj u v e hv
theorem Sr.joinR {g : Bool} {f1 f2 f3 : Nat → Option Int} {N : Nat} (G1 : Gd f1) (G2 : Gd f2) (K1 : Knd P N f1) (K2 : Knd P N f2) (s12 : Sr P N f1 f2) (s21 : Sr P N f2 f1) (s31 : Sr P N f3 f1) (s32 : Sr P N f3 f2) : Sr P N f3 (JV g f1 f2) := by
  intro a b ha hb hab j hj u v hu hv
  rcases (jn_ex G1 G2 K1 K2 s12 s21).2 b hb j hj v hv with ⟨e, s⟩ | ⟨e, s⟩
  · exact s31 a b ha s hab j hj u v hu e
  · exact s32 a b ha s hab j hj u v hu e
theorem lkV_swap {h1 l1 h2 l2 : List Int} {r1 r2 : Int} {m : Nat} (h : slp l1 r1 m ≠ slp l2 r2 m) : lkV h1 l1 r1 h2 l2 r2 m = lkV h2 l2 r2 h1 l1 r1 m := by
  funext j
  unfold lkV
  by_cases c : slp l1 r1 m > slp l2 r2 m
  · rw [if_pos c, if_neg (by omega)]
  · rw [if_neg c, if_pos (by omega)]
/-- with enough rounds the flatter one is no more greater -/
theorem join_one {N : Nat} {h1 l1 h2 l2 : List Int} {r1 r2 : Int} {S m s : Nat} (hl1 : l1 ≠ []) (hl2 : l2 ≠ []) (z1 : h1.length ≤ S) (z2 : h2.length ≤ S) (zS : S ≤ N + 2 * P) (d1 : l1.length ∣ m) (d2 : l2.length ∣ m) (dm : m ∣ P)
    (hP : 0 < P) (s12 : Sr P N (TV h1 l1 r1) (TV h2 l2 r2)) (c : slp l1 r1 m > slp l2 r2 m) (st : Steps (lkV h1 l1 r1 h2 l2 r2 m) S m ((slp l1 r1 m - slp l2 r2 m).natAbs : Int) s) :
    S + s * m ≤ N + 2 * P ∧ ∀ j, S + s * m ≤ j → fV h2 l2 r2 j ≤ fV h1 l1 r1 j := by
  obtain ⟨q, hq⟩ := dm
  have m0 : 0 < m := Nat.pos_of_ne_zero fun e => by rw [e, Nat.zero_mul] at hq; omega
  have q0 : 0 < q := Nat.pos_of_ne_zero fun e => by rw [e, Nat.mul_zero] at hq; omega
  have m12 : m ≤ P := by
    rw [hq]
    exact Nat.le_mul_of_pos_right m q0
  have dv1 : l1.length ∣ P := hq ▸ Nat.dvd_trans d1 (Nat.dvd_mul_right m q)
  have dv2 : l2.length ∣ P := hq ▸ Nat.dvd_trans d2 (Nat.dvd_mul_right m q)
  obtain ⟨z, up, lo⟩ := st
  have eap : ((slp l1 r1 m - slp l2 r2 m).natAbs : Int) = slp l1 r1 m - slp l2 r2 m := by omega
  have lk : ∀ j, lkV h1 l1 r1 h2 l2 r2 m j = fV h2 l2 r2 j - fV h1 l1 r1 j := fun j => by unfold lkV; rw [if_pos c]
  have lkP : ∀ j t, S ≤ j → lkV h1 l1 r1 h2 l2 r2 m (j + m * t) = lkV h1 l1 r1 h2 l2 r2 m j - (slp l1 r1 m - slp l2 r2 m) * t := fun j t hj => by
    rw [lk, lk, fV_perN hl1 d1 (by omega), fV_perN hl2 d2 (by omega), Int.sub_mul]
    omega
  have big : ∀ j, N ≤ j → fV h2 l2 r2 j ≤ fV h1 l1 r1 j := fun j hj => by
    refine s12 _ _ (Slo.tab hl1 dv1) (Slo.tab hl2 dv2) ?_ j hj _ _ (by unfold TV; rw [if_neg hl1]) (by unfold TV; rw [if_neg hl2])
    rw [hq, slp_mul hl1 d1, slp_mul hl2 d2]
    exact Int.mul_lt_mul_of_pos_right c (by omega)
  rw [eap] at up lo
  refine ⟨?_, fun j hj => ?_⟩
  · rcases lo with e | ⟨k, hk, hlt⟩
    · rw [e]; omega
    · by_cases e : s = 0
      · rw [e]; omega
      · have := lkP (S + k) (s - 1) (by omega)
        rw [show ((s - 1 : Nat) : Int) = (s : Int) - 1 by omega, Int.mul_comm] at this
        have hb : S + k + m * (s - 1) < N := by
          rcases Nat.lt_or_ge (S + k + m * (s - 1)) N with h | h
          · exact h
          · have := big _ h
            have := lk (S + k + m * (s - 1))
            omega
        obtain ⟨t, rfl⟩ : ∃ t, s = t + 1 := ⟨s - 1, by omega⟩
        rw [show t + 1 - 1 = t by omega] at hb
        rw [Nat.add_mul, Nat.mul_comm t m]
        omega
  · have hk : (j - S) % m < m := Nat.mod_lt _ m0
    have hm : (j - S) % m + m * ((j - S) / m) = j - S := Nat.mod_add_div ..
    have ht : s ≤ (j - S) / m := (Nat.le_div_iff_mul_le m0).mpr (by omega)
    have e := lkP (S + (j - S) % m) ((j - S) / m) (by omega)
    rw [show S + (j - S) % m + m * ((j - S) / m) = j by omega, lk] at e
    have u := up (by omega) ((j - S) % m) hk
    have w := Int.mul_le_mul_of_nonneg_left (show (s : Int) ≤ (((j - S) / m : Nat) : Int) by omega) (show 0 ≤ slp l1 r1 m - slp l2 r2 m by omega)
    rw [Int.mul_comm] at u
    omega
/-- from where on two tables put together go on evenly -/
theorem join_main {N : Nat} {h1 l1 h2 l2 : List Int} {r1 r2 : Int} {S m s : Nat} (g : Bool) (hl1 : l1 ≠ []) (hl2 : l2 ≠ []) (z1 : h1.length ≤ S) (z2 : h2.length ≤ S) (zS : S ≤ N + 2 * P) (d1 : l1.length ∣ m) (d2 : l2.length ∣ m) (dm : m ∣ P)
    (hP : 0 < P) (s12 : Sr P N (TV h1 l1 r1) (TV h2 l2 r2)) (s21 : Sr P N (TV h2 l2 r2) (TV h1 l1 r1)) (st : Steps (lkV h1 l1 r1 h2 l2 r2 m) S m ((slp l1 r1 m - slp l2 r2 m).natAbs : Int) s) :
    S + s * m ≤ N + 2 * P ∧ (∀ j, S + s * m ≤ j → JV g (TV h1 l1 r1) (TV h2 l2 r2) (j + m) = (JV g (TV h1 l1 r1) (TV h2 l2 r2) j).map (· + (if g = true then max (slp l1 r1 m) (slp l2 r2 m) else min (slp l1 r1 m) (slp l2 r2 m)))) ∧ ∀ j, JV g (TV h1 l1 r1) (TV h2 l2 r2) j ≠ none := by
  have J : ∀ j, JV g (TV h1 l1 r1) (TV h2 l2 r2) j = some (if g = true then max (fV h1 l1 r1 j) (fV h2 l2 r2 j) else min (fV h1 l1 r1 j) (fV h2 l2 r2 j)) := fun j => by
    unfold JV TV
    rw [if_neg hl1, if_neg hl2]
    exact jnO_some g _ _
  refine and_assoc.mp ⟨?_, fun j h => by rw [J] at h; cases h⟩
  rcases Int.lt_trichotomy (slp l1 r1 m) (slp l2 r2 m) with c | c | c
  · rw [lkV_swap (by omega), show (slp l1 r1 m - slp l2 r2 m).natAbs = (slp l2 r2 m - slp l1 r1 m).natAbs by omega] at st
    obtain ⟨a, b⟩ := join_one hl2 hl1 z2 z1 zS d2 d1 dm hP s21 c st
    refine ⟨a, fun j hj => ?_⟩
    have p := b j hj
    have q := b (j + m) (by omega)
    rw [J, J, fV_per hl1 d1 (by omega), fV_per hl2 d2 (by omega)]
    show some _ = some _
    congr 1
    rw [fV_per hl1 d1 (by omega), fV_per hl2 d2 (by omega)] at q
    dsimp only
    cases g
    · rw [if_neg (by decide), if_neg (by decide), if_neg (by decide)]; omega
    · rw [if_pos rfl, if_pos rfl, if_pos rfl]; omega
  · have s0 := st.z (by rw [c, Int.sub_self]; rfl)
    subst s0
    refine ⟨by omega, fun j hj => ?_⟩
    rw [J, J, fV_per hl1 d1 (by omega), fV_per hl2 d2 (by omega)]
    show some _ = some _
    congr 1
    dsimp only
    cases g
    · rw [if_neg (by decide), if_neg (by decide), if_neg (by decide)]; omega
    · rw [if_pos rfl, if_pos rfl, if_pos rfl]; omega
  · obtain ⟨a, b⟩ := join_one hl1 hl2 z1 z2 zS d1 d2 dm hP s12 c st
    refine ⟨a, fun j hj => ?_⟩
    have p := b j hj
    have q := b (j + m) (by omega)
    rw [J, J, fV_per hl1 d1 (by omega), fV_per hl2 d2 (by omega)]
    rw [fV_per hl1 d1 (by omega), fV_per hl2 d2 (by omega)] at q
    show some _ = some _
    congr 1
    dsimp only
    cases g
    · rw [if_neg (by decide), if_neg (by decide), if_neg (by decide)]; omega
    · rw [if_pos rfl, if_pos rfl, if_pos rfl]; omega
end

end
section
theorem len0 (l : List Int) : decide ((l.length : Int) = 0) = decide (l = []) := by
  cases l with
  | nil => rfl
  | cons x y =>
    have a : ¬ (((x :: y).length : Int) = 0) := by rw [List.length_cons]; omega
    have b : ¬ (x :: y = []) := fun h => by cases h
    rw [decide_eq_false a, decide_eq_false b]
theorem dp_two {K : PySem.W.Frag} {H : Hp} {ys : List V} {b1 b2 : Bool} (h : DpAll K H ys [.bool b1, .bool b2]) : ys = [.bl b1, .bl b2] := by
  cases h with
  | cons a r =>
    cases r with
    | cons b r =>
      cases r
      obtain rfl := dp_toBl a
      obtain rfl := dp_toBl b
      rfl
theorem dp_two_i {K : PySem.W.Frag} {H : Hp} {ys : List V} {b1 b2 : Int} (h : DpAll K H ys [.int b1, .int b2]) : ys = [.int b1, .int b2] := by
  cases h with
  | cons a r =>
    cases r with
    | cons b r =>
      cases r
      obtain rfl := dp_toInt a
      obtain rfl := dp_toInt b
      rfl
theorem tv_nil {h l : List Int} {r : Int} {j : Nat} (c : l = []) (hj : h.length ≤ j) : TV h l r j = none := by
  unfold TV
  rw [if_pos c, List.getElem?_eq_none hj]
theorem tv_some {h l : List Int} {r : Int} {j : Nat} (c : l ≠ []) : TV h l r j = some (fV h l r j) := by
  unfold TV
  rw [if_neg c]
theorem slp_self {l : List Int} {r : Int} (c : l ≠ []) : slp l r l.length = r := by
  have l0 : 0 < l.length := List.length_pos_iff.mpr c
  unfold slp
  rw [Int.ediv_self (by omega), Int.mul_one]
theorem slp_12 {l : List Int} {r : Int} : r * ((12 / l.length : Nat) : Int) = slp l r 12 := by
  unfold slp
  rw [Int.natCast_ediv]

end
section
theorem gI_map {l : List Int} {f : Int → Int} {i : Nat} (h : i < l.length) : gI (l.map f) i = f (gI l i) := by
  unfold gI
  rw [Int.toNat_natCast, List.getD_eq_getElem?_getD, List.getD_eq_getElem?_getD, List.getElem?_map, List.getElem?_eq_getElem h]
  rfl
theorem val_add {h l : List Int} {r r' m : Int} (V : Val h l r) (m0 : 0 ≤ m) (r0 : 0 ≤ r') (r1 : r' < 1152921504606846976) (e0 : l = [] → r' = 0) (ll : l ≠ [] → gI l (l.length - 1) ≤ gI l 0 + r') : Val h (l.map (· + m)) r' := by
  obtain ⟨z1, z2, z3, z4⟩ := V.sm
  have g0 : l ≠ [] → gI (l.map (· + m)) 0 = gI l 0 + m := fun c => gI_map (i := 0) (List.length_pos_iff.mpr c)
  refine ⟨V.p1, fun n hn => ?_, V.r1, fun i hi => ?_, r0, fun e => e0 (List.map_eq_nil_iff.mp e), fun c d => ?_, fun d => ?_, ⟨by omega, r1, z3, by rw [List.length_map]; exact z4⟩⟩
  · obtain ⟨k, hk, rfl⟩ := List.mem_map.mp hn
    have := V.p2 k hk
    omega
  · rw [List.length_map] at hi
    have := V.r2 i hi
    rw [show (i : Int) + 1 = ((i + 1 : Nat) : Int) by omega] at this ⊢
    rw [gI_map hi, gI_map (by omega)]
    omega
  · have c' : l ≠ [] := fun e => d (by rw [e]; rfl)
    rw [g0 c']
    have := V.hl c c'
    omega
  · have c' : l ≠ [] := fun e => d (by rw [e]; rfl)
    have l0 : 0 < l.length := List.length_pos_iff.mpr c'
    have := ll c'
    rw [g0 c', List.length_map, show (l.length : Int) - 1 = ((l.length - 1 : Nat) : Int) by omega, gI_map (by omega)]
    rw [show (l.length : Int) - 1 = ((l.length - 1 : Nat) : Int) by omega] at this
    omega
theorem val_half {h l : List Int} {r : Int} (V : Val h l r) (hl : l ≠ []) (rb : r + 1 < 1152921504606846976) : Val (h.map (· / 2)) l (r + 1) := by
  obtain ⟨z1, z2, z3, z4⟩ := V.sm
  have r0 := V.r0
  refine ⟨fun n hn => ?_, V.p2, fun i hi => ?_, V.r2, by omega, fun e => absurd e hl, fun c d => ?_, fun d => by have := V.ll d; omega, ⟨by omega, rb, by rw [List.length_map]; exact z3, z4⟩⟩
  · obtain ⟨k, hk, rfl⟩ := List.mem_map.mp hn
    have := V.p1 k hk
    omega
  · rw [List.length_map] at hi
    have := V.r1 i hi
    rw [show (i : Int) + 1 = ((i + 1 : Nat) : Int) by omega] at this ⊢
    rw [gI_map hi, gI_map (by omega)]
    omega
  · have c' : h ≠ [] := fun e => c (by rw [e]; rfl)
    have l0 : 0 < h.length := List.length_pos_iff.mpr c'
    have := V.hl c' d
    rw [List.length_map, show (h.length : Int) - 1 = ((h.length - 1 : Nat) : Int) by omega, gI_map (by omega)]
    rw [show (h.length : Int) - 1 = ((h.length - 1 : Nat) : Int) by omega] at this
    have := gI_nn V.p1 ((h.length - 1 : Nat) : Int)
    omega
def addV (m : Int) : V → V
  | .int n => .int (n + m)
  | x => x
def halfV : V → V
  | .int n => .int (n / 2)
  | x => x
theorem map_addV (l : List Int) (m : Int) : (vI l).map (addV m) = vI (l.map (· + m)) := by
  show (l.map V.int).map (addV m) = (l.map (· + m)).map V.int
  rw [List.map_map, List.map_map]
  rfl
theorem map_halfV (l : List Int) : (vI l).map halfV = vI (l.map (· / 2)) := by
  show (l.map V.int).map halfV = (l.map (· / 2)).map V.int
  rw [List.map_map, List.map_map]
  rfl

end
section
/-- the least place at which the first one is greater -/
def Lst (f g : Nat → Option Int) (o : Option Int) : Prop := (o = none ∧ ∀ j, leO (f j) (g j) = true) ∨ ∃ n : Nat, o = some ((n : Int) + 1) ∧ leO (f n) (g n) = false ∧ ∀ j, j < n → leO (f j) (g j) = true
theorem Lst.uniq {f g : Nat → Option Int} {o o' : Option Int} (a : Lst f g o) (b : Lst f g o') : o = o' := by
  rcases a with ⟨rfl, a⟩ | ⟨n, rfl, a1, a2⟩
  · rcases b with ⟨rfl, _⟩ | ⟨n, rfl, b1, _⟩
    · rfl
    · rw [a n] at b1; cases b1
  · rcases b with ⟨rfl, b⟩ | ⟨m, rfl, b1, b2⟩
    · rw [b n] at a1; cases a1
    · rcases Nat.lt_trichotomy n m with h | h | h
      · rw [b2 n h] at a1; cases a1
      · rw [h]
      · rw [a2 m h] at b1; cases b1
theorem Lst.nn {f g : Nat → Option Int} {o : Option Int} (a : Lst f g o) : ∀ i, o = some i → 0 ≤ i := fun i e => by
  rcases a with ⟨rfl, _⟩ | ⟨n, rfl, _⟩
  · cases e
  · cases e; omega
/-- small tables -/
structure Sm (h l : List Int) (r : Int) : Prop where
  val : Val h l r
  zh : h.length ≤ 100
  zl : l.length ≤ 4
  br : r ≤ 1000000
theorem Sm.plain {h l : List Int} {r : Int} (s : Sm h l r) : Sm (plainF h l r).1 (plainF h l r).2.1 (plainF h l r).2.2 := by
  obtain ⟨a, _, _, b, _⟩ := plainF_val s.val
  obtain ⟨_, _, _, c, _, d⟩ := plainF_ok s.val
  have := s.zh
  have := s.zl
  have := s.br
  exact ⟨a, by omega, by omega, by omega⟩
theorem above_ended {h1 l1 h2 l2 : List Int} {r1 r2 : Int} {S m : Nat} (z1 : h1.length ≤ S) (z2 : h2.length ≤ S) (m0 : 1 ≤ m) (c : l1 = [] ∨ l2 = []) (hw : ∀ j, j < S + m → leO (TV h1 l1 r1 j) (TV h2 l2 r2 j) = true) : ∀ j, leO (TV h1 l1 r1 j) (TV h2 l2 r2 j) = true := by
  intro j
  by_cases hj : j < S
  · exact hw j (by omega)
  · by_cases c2 : l2 = []
    · rw [tv_nil c2 (by omega)]
      cases TV h1 l1 r1 j <;> rfl
    · have c1 : l1 = [] := c.resolve_right c2
      have := hw S (by omega)
      rw [tv_nil c1 z1, tv_some c2] at this
      cases this
theorem above_le {h1 l1 h2 l2 : List Int} {r1 r2 : Int} {S m : Nat} (c1 : l1 ≠ []) (c2 : l2 ≠ []) (z1 : h1.length ≤ S) (z2 : h2.length ≤ S) (m0 : 1 ≤ m) (d1 : l1.length ∣ m) (d2 : l2.length ∣ m) (hw : ∀ j, j < S + m → leO (TV h1 l1 r1 j) (TV h2 l2 r2 j) = true)
    (hc : slp l1 r1 m - slp l2 r2 m ≤ 0) : ∀ j, leO (TV h1 l1 r1 j) (TV h2 l2 r2 j) = true := by
  intro j
  by_cases hj : j < S
  · exact hw j (by omega)
  · obtain ⟨t, q, ht, hq⟩ : ∃ t q, t < m ∧ j = (S + t) + m * q := ⟨(j - S) % m, (j - S) / m, Nat.mod_lt _ m0, by have := Nat.mod_add_div (j - S) m; omega⟩
    have := hw (S + t) (by omega)
    rw [tv_some c1, tv_some c2, leO_some] at this ⊢
    rw [hq, fV_perN c1 d1 (by omega), fV_perN c2 d2 (by omega)]
    have := Int.mul_le_mul_of_nonneg_right (show slp l1 r1 m ≤ slp l2 r2 m by omega) (show (0 : Int) ≤ (q : Int) by omega)
    omega
/-- where round k first goes above -/
def seenV (h1 l1 : List Int) (r1 : Int) (h2 l2 : List Int) (r2 : Int) (S m : Nat) (k : Nat) : Int := (S : Int) + 1 + k + ((fV h2 l2 r2 (S + k) - fV h1 l1 r1 (S + k)) / (slp l1 r1 m - slp l2 r2 m) + 1) * m
theorem above_gt {h1 l1 h2 l2 : List Int} {r1 r2 : Int} {S m : Nat} {v : Int} (c1 : l1 ≠ []) (c2 : l2 ≠ []) (z1 : h1.length ≤ S) (z2 : h2.length ≤ S) (m0 : 1 ≤ m) (d1 : l1.length ∣ m) (d2 : l2.length ∣ m) (hw : ∀ j, j < S + m → leO (TV h1 l1 r1 j) (TV h2 l2 r2 j) = true)
    (hc : 0 < slp l1 r1 m - slp l2 r2 m) (lo : ∀ k, k < m → v ≤ seenV h1 l1 r1 h2 l2 r2 S m k) (ex : ∃ k, k < m ∧ v = seenV h1 l1 r1 h2 l2 r2 S m k) : Lst (TV h1 l1 r1) (TV h2 l2 r2) (some v) := by
  have dif : ∀ t q : Nat, fV h1 l1 r1 ((S + t) + m * q) - fV h2 l2 r2 ((S + t) + m * q) = (slp l1 r1 m - slp l2 r2 m) * q - (fV h2 l2 r2 (S + t) - fV h1 l1 r1 (S + t)) := fun t q => by
    rw [fV_perN c1 d1 (by omega), fV_perN c2 d2 (by omega), Int.sub_mul]
    omega
  have nn : ∀ t, t < m → 0 ≤ fV h2 l2 r2 (S + t) - fV h1 l1 r1 (S + t) := fun t ht => by
    have := hw (S + t) (by omega)
    rw [tv_some c1, tv_some c2, leO_some] at this
    omega
  unfold seenV at lo ex
  generalize slp l1 r1 m - slp l2 r2 m = cl at *
  obtain ⟨k, hk, rfl⟩ := ex
  have hd := nn k hk
  have e := Int.emod_add_mul_ediv (fV h2 l2 r2 (S + k) - fV h1 l1 r1 (S + k)) cl
  have e0 := Int.emod_nonneg (fV h2 l2 r2 (S + k) - fV h1 l1 r1 (S + k)) (show cl ≠ 0 by omega)
  have e1 := Int.emod_lt_of_pos (fV h2 l2 r2 (S + k) - fV h1 l1 r1 (S + k)) hc
  have q0 := Int.ediv_nonneg hd (show 0 ≤ cl by omega)
  obtain ⟨q, hq⟩ := Int.eq_ofNat_of_zero_le q0
  rw [hq] at e lo
  have hp : ((S : Int) + 1 + k + ((fV h2 l2 r2 (S + k) - fV h1 l1 r1 (S + k)) / cl + 1) * m) = ((((S + k) + m * (q + 1) : Nat) : Int)) + 1 := by
    rw [hq, Int.natCast_add, Int.natCast_add, Int.natCast_mul, Int.mul_comm, show ((q + 1 : Nat) : Int) = (q : Int) + 1 from rfl]
    omega
  rw [hp]
  refine .inr ⟨_, rfl, ?_, fun j hj => ?_⟩
  · have := dif k (q + 1)
    rw [tv_some c1, tv_some c2, Bool.eq_false_iff]
    intro h
    rw [leO_some] at h
    rw [Int.natCast_add, Int.mul_add] at this
    omega
  · by_cases hj2 : j < S + m
    · exact hw j hj2
    · obtain ⟨t, p, ht, hp2⟩ : ∃ t q, t < m ∧ j = (S + t) + m * q := ⟨(j - S) % m, (j - S) / m, Nat.mod_lt _ m0, by have := Nat.mod_add_div (j - S) m; omega⟩
      rw [tv_some c1, tv_some c2, leO_some]
      have w1 := lo t ht
      have w2 := dif t p
      rw [← hp2] at w2
      have f := Int.emod_add_mul_ediv (fV h2 l2 r2 (S + t) - fV h1 l1 r1 (S + t)) cl
      have f0 := Int.emod_nonneg (fV h2 l2 r2 (S + t) - fV h1 l1 r1 (S + t)) (show cl ≠ 0 by omega)
      rcases Int.lt_or_le ((fV h2 l2 r2 (S + t) - fV h1 l1 r1 (S + t)) / cl) (p : Int) with g | g
      · exfalso
        have g2 := Int.mul_le_mul_of_nonneg_right (show (fV h2 l2 r2 (S + t) - fV h1 l1 r1 (S + t)) / cl + 1 ≤ (p : Int) by omega) (show (0 : Int) ≤ (m : Int) by omega)
        have hj3 : (j : Int) < ((S + k + m * (q + 1) : Nat) : Int) := by omega
        have hj4 : (j : Int) = (S : Int) + t + (p : Int) * m := by
          rw [hp2, Int.natCast_add, Int.natCast_add, Int.natCast_mul, Int.mul_comm]
        have hj5 : ((S + k + m * (q + 1) : Nat) : Int) = (S : Int) + k + ((q : Int) + 1) * m := by
          rw [Int.natCast_add, Int.natCast_add, Int.natCast_mul, Int.mul_comm]
          rfl
        omega
      · have g2 := Int.mul_le_mul_of_nonneg_left g (show 0 ≤ cl by omega)
        omega

end
section
theorem tmul_none (l : Addr) (items : Array Value) (n : Nat) (dd : Option Addr) (sl : Array (Option Value)) (x : Int) (u : Tok) (c0 : (decide (x < -(2 ^ 63)) || decide (x ≥ 2 ^ 63)) = false) (c1 : (items.isEmpty || x == 1) = false) (c2 : (decide (x ≤ 0) || items.isEmpty) = true) :
    Meets (Builtin.«tuple.__mul__» ⟨[.ref l, .int x u], []⟩) (fun _ R s => s.heap.get? l = some { cls := .type "tuple", dict := dd, data := .seq items n, slots := sl } ∧
      R (.ok (.ret (Value.ref s.heap.objs.size))) { s with heap := s.heap.push { cls := Value.type "tuple", data := Data.seq #[] }, toks := s.toks }) :=
  .of_wp fun prog w A R s h => by
    obtain ⟨hp, g, d, tk, os⟩ := s
    obtain ⟨hl, h⟩ := h
    have f1 := AutoSeq1.idx_int
    wp_walk using wpAny_loadPart' hl
    refine wpAny_ite_false (decide_eq_false (by rw [c0]; exact Bool.false_ne_true)) ?_
    wp_walk using wpAny_loadPart' hl
    repeat (first
      | (refine wpAny_ite_false (decide_eq_false (by rw [c1]; exact Bool.false_ne_true)) ?_; wp_walk using wpAny_loadPart' hl)
      | (refine wpAny_ite_true (decide_eq_true c2) ?_; wp_walk using wpAny_loadPart' hl))
    exact ⟨_, rfl, h⟩
theorem tmul_one (l : Addr) (items : Array Value) (n : Nat) (dd : Option Addr) (sl : Array (Option Value)) (x : Int) (u : Tok) (c0 : (decide (x < -(2 ^ 63)) || decide (x ≥ 2 ^ 63)) = false) (c1 : (items.isEmpty || x == 1) = true) :
    Meets (Builtin.«tuple.__mul__» ⟨[.ref l, .int x u], []⟩) (fun _ R s => s.heap.get? l = some { cls := .type "tuple", dict := dd, data := .seq items n, slots := sl } ∧ R (.ok (.ret (Value.ref l))) s) :=
  .of_wp fun prog w A R s h => by
    obtain ⟨hp, g, d, tk, os⟩ := s
    obtain ⟨hl, h⟩ := h
    have f1 := AutoSeq1.idx_int
    wp_walk using wpAny_loadPart' hl
    refine wpAny_ite_false (decide_eq_false (by rw [c0]; exact Bool.false_ne_true)) ?_
    wp_walk using wpAny_loadPart' hl
    exact ⟨_, rfl, h⟩
/-- a tuple none or one time -/
def rRepS (K : PySem.W.Frag) : R2 := fun x y H Q => ∃ l k xs, x = .ref l ∧ y = .int k ∧ SqT K H l xs ∧ xs ≠ [] ∧ -1000 ≤ k ∧ ((k = 1 ∧ Q (.ref l) H) ∨ (k ≤ 0 ∧ ∀ p, H p = none → Q (.ref p) (upd H p (.tup []))))
section
variable {X : Cx}
theorem op_repS : OpR X (binaryOp .Mult) (rRepS X.K) := by
  intro pins s σ H x y v u Q I rx ry h
  obtain ⟨l, k, xs, rfl, rfl, hT, hne, h0, q⟩ := h
  cases rx
  obtain ⟨t, rfl⟩ := ry
  obtain ⟨its, r, ⟨⟨cls, dd, data, sl⟩, ho, hc, n, hd⟩, hs⟩ := I.tuple hT
  simp only at hc hd
  subst hc hd
  have hle : its.length = xs.length := r.length.symm
  have hn : its ≠ [] := fun e => hne (by
    rw [e] at hle
    exact List.eq_nil_of_length_eq_zero hle.symm)
  have hi : its.toArray.isEmpty = false := by
    cases its with
    | nil => exact absurd rfl hn
    | cons a b => rfl
  have c0 : (decide (k < -(2 ^ 63)) || decide (k ≥ 2 ^ 63)) = false := by
    rw [decide_eq_false (by omega), decide_eq_false (by rcases q with q | q <;> omega)] <;> rfl
  rcases q with ⟨k1, q⟩ | ⟨k0, q⟩
  · have c1 : (its.toArray.isEmpty || k == 1) = true := by
      rw [hi, Bool.false_or, k1]
      rfl
    refine wpAny_binaryOp_repeat_ref (T := "tuple") (U := "int") (by decide) ⟨_, ho, rfl⟩ (fun s' => typeIs_int s' k t) noFill_tuple_mul F.fills_int_mul F.slot_int_rmul repeat_tuple F.slot_int_index.lookup
      (call_meets F.slot_int_rmul (typeIs_int s k t) F.entry_int_rmul (F.args_int_rmul_2 _ _) (int_rmul_tuple k t l its.toArray n dd sl)
        ⟨ho, rfl, ⟨_, ho, rfl⟩, call_meets F.slot_tuple_mul ⟨_, ho, rfl⟩ F.entry_tuple_mul (F.args_tuple_mul_2 _ _) (tmul_one l its.toArray n dd sl k t c0 c1) ⟨ho, ?_⟩⟩)
    exact ⟨.ref l, H, I, rfl, q⟩
  · have c1 : (its.toArray.isEmpty || k == 1) = false := by
      rw [hi, Bool.false_or]
      exact beq_eq_false_iff_ne.mpr (by omega)
    have c2 : (decide (k ≤ 0) || its.toArray.isEmpty) = true := by
      rw [decide_eq_true k0]
      rfl
    refine wpAny_binaryOp_repeat_ref (T := "tuple") (U := "int") (by decide) ⟨_, ho, rfl⟩ (fun s' => typeIs_int s' k t) noFill_tuple_mul F.fills_int_mul F.slot_int_rmul repeat_tuple F.slot_int_index.lookup
      (call_meets F.slot_int_rmul (typeIs_int s k t) F.entry_int_rmul (F.args_int_rmul_2 _ _) (int_rmul_tuple k t l its.toArray n dd sl)
        ⟨ho, rfl, ⟨_, ho, rfl⟩, call_meets F.slot_tuple_mul ⟨_, ho, rfl⟩ F.entry_tuple_mul (F.args_tuple_mul_2 _ _) (tmul_none l its.toArray n dd sl k t c0 c1 c2) ⟨ho, ?_⟩⟩)
    refine ⟨.ref s.heap.objs.size, _, I.laid (t' := s.toks) (o := .tup []) (fun b ob q => Heap.get?_push_of_some _ q) (Nat.le_refl _) ?_, rfl, q _ (I.hok.fresh (Nat.le_refl _))⟩
    exact ⟨by decide, [], .nil, IsTup.new _ _⟩
end
def rMulS (K : PySem.W.Frag) : R2 := fun x y H Q => rMul K x y H Q ∨ rRepS K x y H Q
theorem kMulS {X : Cx} {K : PySem.W.Frag} (h : X.K = K := by rfl) : OpR X (binaryOp .Mult) (rMulS K) := by subst h; exact xMul.or op_repS
theorem rep_sing {α : Type} (a : α) : ∀ n : Nat, (List.replicate n [a]).flatten = List.replicate n a
  | 0 => rfl
  | n + 1 => by rw [List.replicate_succ, List.flatten_cons, rep_sing a n, List.replicate_succ]; rfl
theorem r_rep0 {K : PySem.W.Frag} {H : Hp} {Q : VK} {l : Addr} {k : Int} (s : SqT K H l [.int 0]) (h0 : 0 ≤ k) (h1 : k ≤ 1000) (q : ∀ p H', Ex H H' → SqT K H' p (vI (List.replicate k.toNat 0)) → Q (.ref p) H') : rMulS K (.ref l) (.int k) H Q := by
  by_cases c : k = 0
  · subst c
    exact .inr ⟨l, 0, _, rfl, rfl, s, by simp, by decide, .inr ⟨Int.le_refl _, fun p hp => q p _ (Ex.new hp) (st_of upd_same)⟩⟩
  · by_cases c1 : k = 1
    · subst c1
      exact .inr ⟨l, 1, _, rfl, rfl, s, by simp, by decide, .inl ⟨rfl, q l H (Ex.refl _) s⟩⟩
    · refine .inl (.inr (.inr ⟨l, k, _, rfl, rfl, s, by simp, by omega, h1, by decide, fun p hp => q p _ (Ex.new hp) ?_⟩))
      rw [rep_sing]
      have : vI (List.replicate k.toNat 0) = List.replicate k.toNat (V.int 0) := List.map_replicate ..
      rw [this]
      exact st_of upd_same

end
section
/-- the shift by k -/
def shH (k : Int) : List Int := if 0 ≤ k then [] else List.replicate (-k - 1).toNat 0
def shL (k : Int) : List Int := if 0 ≤ k then [1 + k] else [0]
theorem gI_rep (m : Nat) (i : Int) : gI (List.replicate m 0) i = 0 := by
  unfold gI
  rw [List.getD_eq_getElem?_getD, List.getElem?_replicate]
  split <;> rfl
theorem sh_raw {k : Int} (h0 : -5 ≤ k) (h1 : k ≤ 5) : RawOk (shH k) (shL k) 1 := by
  by_cases c : 0 ≤ k
  · have e1 : shH k = [] := if_pos c
    have e2 : shL k = [1 + k] := if_pos c
    rw [e1, e2]
    refine ⟨⟨fun n hn => (by simp at hn), fun n hn => ?_, fun i hi => (by simp at hi), fun i hi => (by simp at hi), by decide, fun e => (by simp at e), fun e => absurd rfl e, fun _ => ?_, ⟨by decide, by decide, by decide, show 1 ≤ 50000 by decide⟩⟩, by decide, show 1 ≤ 4 by decide, fun n hn => (by simp at hn), fun n hn => ?_, by decide⟩
    · have : n = 1 + k := by simpa using hn
      omega
    · show gI [1 + k] 0 ≤ gI [1 + k] 0 + 1
      omega
    · have : n = 1 + k := by simpa using hn
      omega
  · have e1 : shH k = List.replicate (-k - 1).toNat 0 := if_neg c
    have e2 : shL k = [0] := if_neg c
    rw [e1, e2]
    generalize hm : (-k - 1).toNat = m
    have zm : m ≤ 4 := by omega
    have zl : (List.replicate m (0 : Int)).length = m := List.length_replicate ..
    have z : ∀ n ∈ List.replicate m (0 : Int), n = 0 := fun n hn => List.eq_of_mem_replicate hn
    refine ⟨⟨fun n hn => by rw [z n hn]; decide, fun n hn => ?_, fun i hi => ?_, fun i hi => (by simp at hi), by decide, fun e => (by simp at e), fun _ _ => ?_, fun _ => (by decide), ⟨by decide, by decide, by omega, by decide⟩⟩, by omega, by decide, fun n hn => by rw [z n hn]; decide, fun n hn => ?_, by decide⟩
    · have : n = 0 := by simpa using hn
      omega
    · rw [gI_rep, gI_rep]
      exact Int.le_refl _
    · rw [gI_rep]
      decide
    · have : n = 0 := by simpa using hn
      omega
abbrev N_Table_shift : List Str := ["k"]
theorem sc_Table_shift : FnScope N_Table_shift ["k"] (defScope s_Table_shift) := ⟨rfl, rfl, rfl, by decide +kernel, rfl, by decide +kernel, by decide +kernel⟩
theorem fx_Table_shift {P : Program} {w : World} {K : PySem.W.Frag} {mg : Str → Option Value} {base : Heap} (E : Env P K mg) : ∃ fd, FunD K "shift" "Table.shift" (defArgs s_Table_shift) (defBody s_Table_shift) (defScope s_Table_shift) (d_Table_shift.dvs K) [] (d_Table_shift.adr K) fd ∧ FnOk P w K mg base CX0 12 (d_Table_shift.adr K) fd ["k"] (sp1 fun v H Q _ => ∃ k : Int, v = .int k ∧ -5 ≤ k ∧ k ≤ 5 ∧ ∀ x H2, Ex H H2 → TabAt K H2 x (plainF (shH k) (shL k) 1).1 (plainF (shH k) (shL k) 1).2.1 (plainF (shH k) (shL k) 1).2.2 → Q (.ref x) H2) := by
  obtain ⟨fd, F⟩ := E.dd_Table_shift
  refine ⟨fd, F, fnok0 F sc_Table_shift sp1_len (fun cdv A outer s H vs Q X hr h => ?_)⟩
  have nd := sc_Table_shift.nd
  obtain ⟨v0, rfl, h⟩ := h
  refine ⟨_, (pss_cons (ps_if (PW.pt (pw_or (pt_not (kTru K (pc (ok_is_integer E) hr (by decide) pass0 rfl (pa_cons (pv 0) pa_nil)) (by intro _; rfl))) (pw_or1 (pt_cmpR op_gt (pe_callB xAbs (by rfl) E.f_abs (by decide +kernel) (pa_cons (pv 0) pa_nil)) ((E.k_MOST_SHIFT).elim fun t e => pe_glob (v := .int 5000) (by rfl) e ⟨t, rfl⟩) (nomark _)))))
   (pss_one (ps_never))
   pss_nil)
  (pss_cons (ps_if (pt_cmpR op_ge (pv 0) (pe_int) (nomark _))
   (pss_one (ps_ret (pmk (ok_Table3 E) hr (by decide) pass0 rfl (pa_cons (pe_tup pa_nil) (pa_cons (pe_tup (pa_cons (pe_op (kAdd K) (pe_int) (pv 0)) pa_nil)) (pa_cons (pe_int) pa_nil))))))
   pss_nil)
  (pss_one (ps_ret (pmk (ok_Table3 E) hr (by decide) pass0 rfl (pa_cons (pe_op (kMulS (K := K)) (pe_tup (pa_cons (pe_int) pa_nil)) (pe_op xSub (pe_un un_neg (pv 0)) (pe_int))) (pa_cons (pe_tup (pa_cons (pe_int) pa_nil)) (pa_cons (pe_int) pa_nil)))))))), ?_⟩
  change (_ : TS) _ [some v0] H
  try dsimp only [cxOf, Cx.nox, Cx.blk]
  obtain ⟨k, rfl, h0, h1, q⟩ := h
  have W := (sh_raw h0 h1).val
  walk_at "w"
  refine ⟨_, .int k, fun v H1 e1 d1 => ?_⟩
  obtain rfl := dp_toBl d1
  walk_at "w"
  by_cases c : 0 ≤ k
  · have e1 : shH k = [] := if_pos c
    have e2 : shL k = [1 + k] := if_pos c
    rw [e1, e2] at q W
    walk_at "w"
    intro p2 H2 n2 x2 g2
    walk_at "w"
    intro p3 H3 n3 x3 g3
    walk_at "w"
    exact mk_tab (b1 := true) (b2 := true) rfl (dp_of_ints (ns := []) (ex_t x3 (st_of g2))) (dp_of_ints (ns := [1 + k]) (st_of g3)) (.int 1) W fun x H4 x4 t => q x H4 (by walk_at "ex") t
  · have e1 : shH k = List.replicate (-k - 1).toNat 0 := if_neg c
    have e2 : shL k = [0] := if_neg c
    rw [e1, e2] at q W
    walk_at "w"
    intro p2 H2 n2 x2 g2
    walk_at "w"
    refine r_rep0 (st_of g2) (by omega) (by omega) fun p3 H3 x3 g3 => ?_
    walk_at "w"
    intro p4 H4 n4 x4 g4
    walk_at "w"
    exact mk_tab (b1 := true) (b2 := true) rfl (dp_of_ints (ex_t x4 g3)) (dp_of_ints (ns := [0]) (st_of g4)) (.int 1) W fun x H5 x5 t => q x H5 (by walk_at "ex") t
theorem ok_Table_shift {P : Program} {w : World} {K : PySem.W.Frag} {mg : Str → Option Value} {base : Heap} (E : Env P K mg) : Stm P w K mg base 12 (He.ga K "Table") "shift" (sp1 fun v H Q _ => ∃ k : Int, v = .int k ∧ -5 ≤ k ∧ k ≤ 5 ∧ ∀ x H2, Ex H H2 → TabAt K H2 x (plainF (shH k) (shL k) 1).1 (plainF (shH k) (shL k) 1).2.1 (plainF (shH k) (shL k) 1).2.2 → Q (.ref x) H2) := by
  obtain ⟨fd, F, k⟩ := fx_Table_shift (P := P) (w := w) (base := base) E
  exact ⟨_, _, fd, _, E.st_Table_shift, k, F.bindsN (fun _ _ _ _ _ _ us hl => match us, hl with | [_], _ => rfl)⟩

end
section
theorem tFlds_no {th tl : Addr} {r : Int} {m : Str} (h1 : ¬ m = "head") (h2 : ¬ m = "loop") (h3 : ¬ m = "rise") : (tFlds th tl r).lookup m = none := by
  unfold tFlds
  rw [lookup_putF, if_neg h3, lookup_putF, if_neg h2, lookup_putF, if_neg h1]
  rfl

end
section
/-- tables that may be compared -/
structure SmP (h l : List Int) (r : Int) : Prop where
  val : Val h l r
  zh : h.length ≤ 20000
  zl : l.length ≤ 600
  br : r ≤ 1000000
abbrev spAbove (K : PySem.W.Frag) : Sp := sp2 fun a b H Q _ => ∃ (h1 l1 h2 l2 : List Int) (r1 r2 : Int), Dp K H a (dRaw h1 l1 r1) ∧ Dp K H b (dRaw h2 l2 r2) ∧ SmP h1 l1 r1 ∧ SmP h2 l2 r2 ∧ l1.length * l2.length ≤ 20000 ∧ ∀ o H', Ex H H' → Lst (TV h1 l1 r1) (TV h2 l2 r2) o → Q (optV o) H'
theorem vat1 {h l : List Int} {r : Int} (i : Nat) : valueAt h l r (some (1 + (i : Int))) = TV h l r i := by
  rw [show (1 : Int) + i = i + 1 by omega]
  exact vat_TV i
theorem vatS {h l : List Int} {r : Int} (S i : Nat) (c : l ≠ []) : valueAt h l r (some ((S : Int) + 1 + i)) = some (fV h l r (S + i)) := by
  rw [show (S : Int) + 1 + i = ((S + i : Nat) : Int) + 1 by omega]
  exact vat_fV c _
abbrev N_least_above : List Str := ["first", "second", "longest", "many", "place", "climb", "found", "lack", "seen"]
theorem sc_least_above : FnScope N_least_above ["first", "second"] (defScope s_least_above) := ⟨rfl, rfl, rfl, by decide +kernel, rfl, by decide +kernel, by decide +kernel⟩
theorem ok_least_above {P : Program} {w : World} {K : PySem.W.Frag} {mg : Str → Option Value} {base : Heap} (E : Env P K mg) : Fn P w K mg base CX0 3 "least_above" (spAbove K) := by
  obtain ⟨fd, F⟩ := E.dd_least_above
  refine Fn.mk0 F E.g_least_above sc_least_above sp2_len (fun _ _ _ _ _ _ us hl => match us, hl with | [_, _], _ => rfl) (fun cdv A outer s H vs Q X hr h => ?_)
  have nd := sc_least_above.nd
  obtain ⟨v0, v1, rfl, h⟩ := h
  refine ⟨_, (pss_cons (ps_set (i := 2) nd rfl (.inl rfl) (pe_callB (xMax2 rfl) (by rfl) E.f_max (by decide +kernel) (pa_cons (pe_callB (kLen K) (by rfl) E.f_len (by decide +kernel) (pa_cons (pe_ix (kIx K) (pv 0) (pe_int) (fun _ _ => rfl)) pa_nil)) (pa_cons (pe_callB (kLen K) (by rfl) E.f_len (by decide +kernel) (pa_cons (pe_ix (kIx K) (pv 1) (pe_int) (fun _ _ => rfl)) pa_nil)) pa_nil))))
  (pss_cut (ps_if (PW.pt (pw_and (pt_cmpR op_gt (pe_callB (kLen K) (by rfl) E.f_len (by decide +kernel) (pa_cons (pe_ix (kIx K) (pv 0) (pe_int) (fun _ _ => rfl)) pa_nil)) (pe_int) (nomark _)) (pw_and1 (pt_cmpR op_gt (pe_callB (kLen K) (by rfl) E.f_len (by decide +kernel) (pa_cons (pe_ix (kIx K) (pv 1) (pe_int) (fun _ _ => rfl)) pa_nil)) (pe_int) (nomark _)))))
   (pss_one (ps_set (i := 3) nd rfl (.inl rfl) (pc (ok_common_multiple E) hr (by decide) pass0 rfl (pa_cons (pe_callB (kLen K) (by rfl) E.f_len (by decide +kernel) (pa_cons (pe_ix (kIx K) (pv 0) (pe_int) (fun _ _ => rfl)) pa_nil)) (pa_cons (pe_callB (kLen K) (by rfl) E.f_len (by decide +kernel) (pa_cons (pe_ix (kIx K) (pv 1) (pe_int) (fun _ _ => rfl)) pa_nil)) pa_nil)))))
   (pss_one (ps_set (i := 3) nd rfl (.inl rfl) (pe_callB (xMax3 rfl) (by rfl) E.f_max (by decide +kernel) (pa_cons (pe_callB (kLen K) (by rfl) E.f_len (by decide +kernel) (pa_cons (pe_ix (kIx K) (pv 0) (pe_int) (fun _ _ => rfl)) pa_nil)) (pa_cons (pe_callB (kLen K) (by rfl) E.f_len (by decide +kernel) (pa_cons (pe_ix (kIx K) (pv 1) (pe_int) (fun _ _ => rfl)) pa_nil)) (pa_cons (pe_int) pa_nil)))))))
  (pss_cons (ps_for PassesOwn.never rfl (pi_range2 (by rfl) E.f_range (pa_cons (pe_int) (pa_cons (pe_op (kAdd K) (pe_op (kAdd K) (pv 2) (pv 3)) (pe_int)) pa_nil))) (pg_name (i := 4) nd rfl (.inl rfl))
   (pss_one (ps_if (pt_not (kTru K (pc (ok_at_most E) hr (by decide) pass0 rfl (pa_cons (pc (ok_value_at E) hr (by decide) pass0 rfl (pa_cons (pv 0) (pa_cons (pv 4) pa_nil))) (pa_cons (pc (ok_value_at E) hr (by decide) pass0 rfl (pa_cons (pv 1) (pa_cons (pv 4) pa_nil))) pa_nil))) (by intro _; rfl)))
   (pss_one (ps_ret (pv 4)))
   pss_nil)))
  (pss_cons (ps_if (PW.pt (pw_or (pt_cmpR (kEq K hr) (pe_callB (kLen K) (by rfl) E.f_len (by decide +kernel) (pa_cons (pe_ix (kIx K) (pv 0) (pe_int) (fun _ _ => rfl)) pa_nil)) (pe_int) (nomark _)) (pw_or1 (pt_cmpR (kEq K hr) (pe_callB (kLen K) (by rfl) E.f_len (by decide +kernel) (pa_cons (pe_ix (kIx K) (pv 1) (pe_int) (fun _ _ => rfl)) pa_nil)) (pe_int) (nomark _)))))
   (pss_one (ps_ret (pe_non)))
   pss_nil)
  (pss_cons (ps_set (i := 5) nd rfl (.inl rfl) (pe_op xSub (pe_op (kMul K) (pe_ix (kIx K) (pv 0) (pe_int) (fun _ _ => rfl)) (pe_op xDiv (pv 3) (pe_callB (kLen K) (by rfl) E.f_len (by decide +kernel) (pa_cons (pe_ix (kIx K) (pv 0) (pe_int) (fun _ _ => rfl)) pa_nil)))) (pe_op (kMul K) (pe_ix (kIx K) (pv 1) (pe_int) (fun _ _ => rfl)) (pe_op xDiv (pv 3) (pe_callB (kLen K) (by rfl) E.f_len (by decide +kernel) (pa_cons (pe_ix (kIx K) (pv 1) (pe_int) (fun _ _ => rfl)) pa_nil))))))
  (pss_cons (ps_if (pt_cmpR op_le (pv 5) (pe_int) (nomark _))
   (pss_one (ps_ret (pe_non)))
   pss_nil)
  (pss_cons (ps_set (i := 6) nd rfl (.inl rfl) (pe_non))
  (pss_cons (ps_for PassesOwn.never rfl (pi_range2 (by rfl) E.f_range (pa_cons (pe_op (kAdd K) (pv 2) (pe_int)) (pa_cons (pe_op (kAdd K) (pe_op (kAdd K) (pv 2) (pv 3)) (pe_int)) pa_nil))) (pg_name (i := 4) nd rfl (.inl rfl))
   (pss_cons (ps_set (i := 7) nd rfl (.inl rfl) (pe_op xSub (pc (ok_value_at E) hr (by decide) pass0 rfl (pa_cons (pv 1) (pa_cons (pv 4) pa_nil))) (pc (ok_value_at E) hr (by decide) pass0 rfl (pa_cons (pv 0) (pa_cons (pv 4) pa_nil)))))
  (pss_cons (ps_set (i := 8) nd rfl (.inl rfl) (pe_op (kAdd K) (pv 4) (pe_op (kMul K) (pe_op (kAdd K) (pe_op xDiv (pv 7) (pv 5)) (pe_int)) (pv 3))))
  (pss_one (ps_set (i := 6) nd rfl (.inl rfl) (pe_ifExp (pt_cmpR xIs (pv 6) (pe_non) (nomark _)) (pv 8) (pe_callB (xMin2 rfl) (by rfl) E.f_min (by decide +kernel) (pa_cons (pv 6) (pa_cons (pv 8) pa_nil)))))))))
  (pss_one (ps_ret (pv 6))))))))))), ?_⟩
  change (_ : TS) _ [some v0, some v1, none, none, none, none, none, none, none] H
  try dsimp only [cxOf, Cx.nox, Cx.blk]
  obtain ⟨h1, l1, h2, l2, r1, r2, d1, d2, A1, A2, AZ, k⟩ := h
  obtain ⟨a1, th1, tl1, rfl, s1, s2, s3⟩ := dp_raw d1
  obtain ⟨a2, th2, tl2, rfl, t1, t2, t3⟩ := dp_raw d2
  have zh1 := A1.zh
  have zh2 := A2.zh
  have zl1 := A1.zl
  have zl2 := A2.zl
  have r10 := A1.val.r0
  have r20 := A2.val.r0
  have rr1 := A1.br
  have rr2 := A2.br
  walk_at "w"
  obtain ⟨S, hS⟩ : ∃ S : Nat, (S : Int) = max (h1.length : Int) h2.length := ⟨max h1.length h2.length, by omega⟩
  rw [← hS]
  have S1 : h1.length ≤ S := by omega
  have S2 : h2.length ≤ S := by omega
  have S3 : S ≤ 20000 := by omega
  refine w_cut (M := fun σ' H' => ∃ m : Nat, σ' = [some (.ref a1), some (.ref a2), some (.int S), some (.int m), none, none, none, none, none] ∧ H' = H ∧ 1 ≤ m ∧ m ≤ 20000 ∧ (l1 ≠ [] → l2 ≠ [] → l1.length ∣ m ∧ l2.length ∣ m)) ?_ ?_
  · walk_at "w"
    by_cases c1 : l1 = []
    · subst c1
      walk_at "w"
      refine r_max3 ?_
      walk_at "w"
      obtain ⟨m, hm⟩ : ∃ m : Nat, (m : Int) = max (max (([] : List Int).length : Int) l2.length) 1 := ⟨max l2.length 1, by simp only [List.length_nil]; omega⟩
      rw [← hm]
      simp only [List.length_nil] at hm
      exact ⟨m, rfl, rfl, by omega, by omega, fun e => absurd rfl e⟩
    · have l10 : 0 < l1.length := List.length_pos_iff.mpr c1
      walk_at "w"
      by_cases c2 : l2 = []
      · subst c2
        walk_at "w"
        refine r_max3 ?_
        walk_at "w"
        obtain ⟨m, hm⟩ : ∃ m : Nat, (m : Int) = max (max (l1.length : Int) (([] : List Int).length : Int)) 1 := ⟨l1.length, by simp only [List.length_nil]; omega⟩
        rw [← hm]
        simp only [List.length_nil] at hm
        exact ⟨m, rfl, rfl, by omega, by omega, fun _ e => absurd rfl e⟩
      · have l20 : 0 < l2.length := List.length_pos_iff.mpr c2
        walk_at "w"
        refine ⟨l1.length, l2.length, rfl, rfl, l10, by omega, by omega, ?_⟩
        walk_at "w"
        have m0 : 0 < Nat.lcm l1.length l2.length := Nat.lcm_pos l10 l20
        have m1 : Nat.lcm l1.length l2.length ≤ l1.length * l2.length := Nat.le_of_dvd (Nat.mul_pos l10 l20) (Nat.lcm_dvd_mul ..)
        exact ⟨_, rfl, rfl, m0, by omega, fun _ _ => ⟨Nat.dvd_lcm_left .., Nat.dvd_lcm_right ..⟩⟩
  rintro σ' H' ⟨m, rfl, rfl, m0, m16, dv⟩
  walk_at "w"
  refine for_range (lo := 1) (Pv := fun i σ' H2 => ∃ x, σ' = [some (.ref a1), some (.ref a2), some (.int S), some (.int m), x, none, none, none, none] ∧ Ex H' H2 ∧ ∀ j, j < i → leO (TV h1 l1 r1 j) (TV h2 l2 r2 j) = true) ⟨_, rfl, Ex.refl _, fun j hj => by omega⟩ ?_ ?_
  · rintro i σ' H2 hi ⟨x, rfl, e, hw⟩
    walk_at "w"
    refine ⟨h1, l1, r1, some (1 + (i : Int)), dp_of_raw (ex_t e s1) (ex_t e s2) (ex_t e s3), dp_of_opt (p := some (1 + (i : Int))), fun m hm => by cases hm; omega, A1.val.sm, fun v H3 e3 q3 => ?_⟩
    rw [vat1] at q3
    obtain rfl := dp_toOpt q3
    walk_at "w"
    have e' := e.trans e3
    refine ⟨h2, l2, r2, some (1 + (i : Int)), dp_of_raw (ex_t e' t1) (ex_t e' t2) (ex_t e' t3), dp_of_opt (p := some (1 + (i : Int))), fun m hm => by cases hm; omega, A2.val.sm, fun v H4 e4 q4 => ?_⟩
    rw [vat1] at q4
    obtain rfl := dp_toOpt q4
    walk_at "w"
    refine ⟨_, _, rfl, rfl, ?_⟩
    walk_at "w"
    cases hb : leO (TV h1 l1 r1 i) (TV h2 l2 r2 i) with
    | true =>
      walk_at "w"
      refine ⟨_, rfl, e'.trans e4, fun j hj => ?_⟩
      by_cases c : j = i
      · rw [c]; exact hb
      · exact hw j (by omega)
    | false =>
      walk_at "w"
      refine k (some (1 + (i : Int))) _ (e'.trans e4) (.inr ⟨i, by rw [show (1 : Int) + i = i + 1 by omega], hb, hw⟩)
  rintro σ' H2 ⟨x, rfl, e, hw⟩
  have hw2 : ∀ j, j < S + m → leO (TV h1 l1 r1 j) (TV h2 l2 r2 j) = true := fun j hj => hw j (by omega)
  clear hw
  have U1 := ex_t e s1
  have U2 := ex_t e s2
  have U3 := ex_t e s3
  have V1 := ex_t e t1
  have V2 := ex_t e t2
  have V3 := ex_t e t3
  walk_at "w"
  by_cases c1 : l1 = []
  · have hall := above_ended S1 S2 m0 (.inl c1) hw2
    subst c1
    walk_at "w"
    exact k none _ e (.inl ⟨rfl, hall⟩)
  · have l10 : 0 < l1.length := List.length_pos_iff.mpr c1
    walk_at "w"
    by_cases c2 : l2 = []
    · have hall := above_ended S1 S2 m0 (.inr c2) hw2
      subst c2
      walk_at "w"
      exact k none _ e (.inl ⟨rfl, hall⟩)
    · have l20 : 0 < l2.length := List.length_pos_iff.mpr c2
      obtain ⟨v1, v2⟩ := dv c1 c2
      have q1 := slp_le (l := l1) r10 (show r1 ≤ 1000000000000 by omega) (show m ≤ 50000 by omega)
      have q2 := slp_le (l := l2) r20 (show r2 ≤ 1000000000000 by omega) (show m ≤ 50000 by omega)
      walk_at "w"
      rw [show r1 * ((m : Int) / l1.length) = slp l1 r1 m from rfl, show r2 * ((m : Int) / l2.length) = slp l2 r2 m from rfl]
      by_cases hc : slp l1 r1 m - slp l2 r2 m ≤ 0
      · walk_at "w"
        exact k none _ e (.inl ⟨rfl, above_le c1 c2 S1 S2 m0 v1 v2 hw2 hc⟩)
      · walk_at "w"
        refine for_range (lo := (S : Int) + 1) (Pv := fun i σ' H3 => ∃ (o : Option Int) (x y z : Option V), σ' = [some (.ref a1), some (.ref a2), some (.int S), some (.int m), x, some (.int (slp l1 r1 m - slp l2 r2 m)), some (optV o), y, z] ∧ Ex H2 H3 ∧ ((i = 0 ∧ o = none) ∨ ∃ v, o = some v ∧ (∀ k, k < i → v ≤ seenV h1 l1 r1 h2 l2 r2 S m k) ∧ ∃ k, k < i ∧ v = seenV h1 l1 r1 h2 l2 r2 S m k))
          ⟨none, _, _, _, rfl, Ex.refl _, .inl ⟨rfl, rfl⟩⟩ ?_ ?_
        · rintro i σ' H3 hi ⟨o, x, y, z, rfl, e3, ho⟩
          walk_at "w"
          refine ⟨h2, l2, r2, some ((S : Int) + 1 + (i : Int)), dp_of_raw (ex_t e3 V1) (ex_t e3 V2) (ex_t e3 V3), dp_of_opt (p := some _), fun n hn => by cases hn; omega, A2.val.sm, fun v H4 e4 q4 => ?_⟩
          rw [vatS S i c2] at q4
          obtain rfl := dp_toOpt q4
          walk_at "w"
          have e' := e3.trans e4
          refine ⟨h1, l1, r1, some ((S : Int) + 1 + (i : Int)), dp_of_raw (ex_t e' U1) (ex_t e' U2) (ex_t e' U3), dp_of_opt (p := some _), fun n hn => by cases hn; omega, A1.val.sm, fun v H5 e5 q5 => ?_⟩
          rw [vatS S i c1] at q5
          obtain rfl := dp_toOpt q5
          simp only [optV]
          walk_at "w"
          rw [show ((S : Int) + 1 + i + ((fV h2 l2 r2 (S + i) - fV h1 l1 r1 (S + i)) / (slp l1 r1 m - slp l2 r2 m) + 1) * m) = seenV h1 l1 r1 h2 l2 r2 S m i from rfl]
          rcases ho with ⟨rfl, rfl⟩ | ⟨v, rfl, hv1, k0, hk0, hv2⟩
          · simp only [optV]
            walk_at "w"
            refine ⟨some _, _, _, _, rfl, e'.trans e5, .inr ⟨_, rfl, fun k hk => ?_, 0, by omega, rfl⟩⟩
            have : k = 0 := by omega
            subst this
            exact Int.le_refl _
          · simp only [optV]
            walk_at "w"
            refine ⟨some _, _, _, _, rfl, e'.trans e5, .inr ⟨_, rfl, fun k hk => ?_, ?_⟩⟩
            · by_cases c : k = i
              · rw [c]; omega
              · have := hv1 k (by omega); omega
            · rcases Int.le_total v (seenV h1 l1 r1 h2 l2 r2 S m i) with g | g
              · exact ⟨k0, by omega, by rw [Int.min_eq_left g]; exact hv2⟩
              · exact ⟨i, by omega, by rw [Int.min_eq_right g]⟩
        · rintro σ' H3 ⟨o, x, y, z, rfl, e3, ho⟩
          rw [show ((S : Int) + m + 1 - ((S : Int) + 1)).toNat = m by omega] at ho
          walk_at "w"
          rcases ho with ⟨z0, _⟩ | ⟨v, rfl, hv1, k0, hk0, hv2⟩
          · omega
          · exact k (some v) _ (e.trans e3) (above_gt c1 c2 S1 S2 m0 v1 v2 hw2 (by omega) hv1 ⟨k0, hk0, hv2⟩)

end
section
theorem bn_first_second : ((("first" : Str) = "second")) = False := eq_false (by decide +kernel)
theorem bn_first_place : ((("first" : Str) = "place")) = False := eq_false (by decide +kernel)
theorem bn_first_sides : ((("first" : Str) = "sides")) = False := eq_false (by decide +kernel)
theorem bn_first_holds : ((("first" : Str) = "holds")) = False := eq_false (by decide +kernel)
theorem bn_second_first : ((("second" : Str) = "first")) = False := eq_false (by decide +kernel)
theorem bn_second_place : ((("second" : Str) = "place")) = False := eq_false (by decide +kernel)
theorem bn_second_sides : ((("second" : Str) = "sides")) = False := eq_false (by decide +kernel)
theorem bn_second_holds : ((("second" : Str) = "holds")) = False := eq_false (by decide +kernel)
theorem bn_place_first : ((("place" : Str) = "first")) = False := eq_false (by decide +kernel)
theorem bn_place_second : ((("place" : Str) = "second")) = False := eq_false (by decide +kernel)
theorem bn_place_sides : ((("place" : Str) = "sides")) = False := eq_false (by decide +kernel)
theorem bn_place_holds : ((("place" : Str) = "holds")) = False := eq_false (by decide +kernel)
theorem bn_sides_first : ((("sides" : Str) = "first")) = False := eq_false (by decide +kernel)
theorem bn_sides_second : ((("sides" : Str) = "second")) = False := eq_false (by decide +kernel)
theorem bn_sides_place : ((("sides" : Str) = "place")) = False := eq_false (by decide +kernel)
theorem bn_sides_holds : ((("sides" : Str) = "holds")) = False := eq_false (by decide +kernel)
theorem bn_holds_first : ((("holds" : Str) = "first")) = False := eq_false (by decide +kernel)
theorem bn_holds_second : ((("holds" : Str) = "second")) = False := eq_false (by decide +kernel)
theorem bn_holds_place : ((("holds" : Str) = "place")) = False := eq_false (by decide +kernel)
theorem bn_holds_sides : ((("holds" : Str) = "sides")) = False := eq_false (by decide +kernel)
theorem bnR (a : Str) : (a = a) = True := eq_self a
local macro_rules | `(tactic| walk_at "hp") => `(tactic| first
  | with_reducible assumption
  | (with_reducible refine' ex_tab ?a ?b; (case a => with_reducible assumption); (case b => walk_at "hp")))
local macro_rules | `(tactic| walk_at "lk") => `(tactic| first | (simp only [lookup_putF, bn_first_second, bn_first_place, bn_first_sides, bn_first_holds, bn_second_first, bn_second_place, bn_second_sides, bn_second_holds, bn_place_first, bn_place_second, bn_place_sides, bn_place_holds, bn_sides_first, bn_sides_second, bn_sides_place, bn_sides_holds, bn_holds_first, bn_holds_second, bn_holds_place, bn_holds_sides, bnR, if_true, if_false]; done) | (simp only [lookup_putF, bn_first_second, bn_first_place, bn_first_sides, bn_first_holds, bn_second_first, bn_second_place, bn_second_sides, bn_second_holds, bn_place_first, bn_place_second, bn_place_sides, bn_place_holds, bn_sides_first, bn_sides_second, bn_sides_place, bn_sides_holds, bn_holds_first, bn_holds_second, bn_holds_place, bn_holds_sides, bnR, if_true, if_false]; rfl))
theorem sq_updi {K : PySem.W.Frag} {H : Hp} {p a C dx : Addr} {fs : List (Str × V)} {o : HO} {xs : List V} (hp : H p = some (.ins C dx fs)) (s : SqT K H a xs) : SqT K (upd H p o) a xs := by
  have key : ∀ u, H a = some u → (∃ o', u = .frz o' (.tup xs)) ∨ u = .tup xs → a ≠ p := by
    rintro u hu hc rfl
    rw [hp] at hu
    cases hu
    rcases hc with ⟨_, hc⟩ | hc <;> cases hc
  rcases s with (s | ⟨o', s⟩) | s
  · exact .inl (.inl (by rw [upd_ne (key _ s (.inr rfl))]; exact s))
  · exact .inl (.inr ⟨o', by rw [upd_ne (key _ s (.inl ⟨o', rfl⟩))]; exact s⟩)
  · exact .inr s
theorem tab_updi {K : PySem.W.Frag} {H : Hp} {p x C dx : Addr} {fs : List (Str × V)} {o : HO} {h l : List Int} {r : Int} (hp : H p = some (.ins C dx fs)) (ne : x ≠ p) (t : TabAt K H x h l r) : TabAt K (upd H p o) x h l r := by
  obtain ⟨d, th, tl, h1, h2, h3⟩ := t
  exact ⟨d, th, tl, by rw [upd_ne ne]; exact h1, sq_updi hp h2, sq_updi hp h3⟩
abbrev spVer (K : PySem.W.Frag) : Sp := sp2 fun x v H Q _ => ∃ p C dx fs, x = .ref p ∧ H p = some (.ins C dx fs) ∧ Cls K C ∧ NoAttr K C "holds" ∧ fs.length < 1000 ∧ Q .non (upd H p (.ins C dx (putF "holds" v fs)))
abbrev N_Verdict_init : List Str := ["self", "holds"]
theorem sc_Verdict_init : FnScope N_Verdict_init ["self", "holds"] (defScope s_Verdict_init) := ⟨rfl, rfl, rfl, by decide +kernel, rfl, by decide +kernel, by decide +kernel⟩
theorem fx_Verdict_init {P : Program} {w : World} {K : PySem.W.Frag} {mg : Str → Option Value} {base : Heap} (E : Env P K mg) : ∃ fd, FunD K "__init__" "Verdict.__init__" (defArgs s_Verdict_init) (defBody s_Verdict_init) (defScope s_Verdict_init) (d_Verdict_init.dvs K) [] (d_Verdict_init.adr K) fd ∧ FnOk P w K mg base CX0 1 (d_Verdict_init.adr K) fd ["self", "holds"] (spVer K) := by
  obtain ⟨fd, F⟩ := E.dd_Verdict_init
  refine ⟨fd, F, fnok0 F sc_Verdict_init sp2_len (fun cdv A outer s H vs Q X hr h => ?_)⟩
  have nd := sc_Verdict_init.nd
  obtain ⟨v0, v1, rfl, h⟩ := h
  refine ⟨_, (pss_one (kFldS K (ps_fld (pv 0) (pv 1) rfl))), ?_⟩
  change (_ : TS) _ [some v0, some v1] H
  try dsimp only [cxOf, Cx.nox, Cx.blk]
  obtain ⟨p, C, dx, fs, rfl, hp, hc, hn, hl, k⟩ := h
  walk_at "w"
  refine r_putF hp hc hn hl ?_
  walk_at "w"
  exact k
abbrev spVerB (K : PySem.W.Frag) : Sp := sp1 fun x H Q _ => ∃ p C dx fs b, x = .ref p ∧ H p = some (.ins C dx fs) ∧ Cls K C ∧ NoAttr K C "holds" ∧ fs.lookup ("holds" : Str) = some (.bl b) ∧ Q (.bl b) H
/-- what below tells -/
def BelAt (K : PySem.W.Frag) (H : Hp) (x f s : Addr) (o v1 v2 : Option Int) : Prop := ∃ dx fs sd, H x = some (.ins (He.ga K "Below") dx fs) ∧ fs.lookup ("first" : Str) = some (.ref f) ∧ fs.lookup ("second" : Str) = some (.ref s) ∧ fs.lookup ("place" : Str) = some (optV o) ∧ fs.lookup ("sides" : Str) = some sd ∧
  fs.lookup ("holds" : Str) = some (.bl (decide (o = none))) ∧ ((o = none ∧ sd = .non) ∨ (o ≠ none ∧ ∃ t, sd = .ref t ∧ SqT K H t [optV v1, optV v2]))
theorem ex_bel {K : PySem.W.Frag} {H H' : Hp} {x f s : Addr} {o v1 v2 : Option Int} (e : Ex H H') (b : BelAt K H x f s o v1 v2) : BelAt K H' x f s o v1 v2 := by
  obtain ⟨dx, fs, sd, h1, h2, h3, h4, h5, h6, h7⟩ := b
  refine ⟨dx, fs, sd, e _ _ h1, h2, h3, h4, h5, h6, h7.imp id fun ⟨a, t, b, c⟩ => ⟨a, t, b, ex_t e c⟩⟩
abbrev spBel (K : PySem.W.Frag) : Sp := sp3 fun x a b H Q _ => ∃ (p f s dx : Addr) (h1 l1 h2 l2 : List Int) (r1 r2 : Int), x = .ref p ∧ a = .ref f ∧ b = .ref s ∧ H p = some (.ins (He.ga K "Below") dx []) ∧ TabAt K H f h1 l1 r1 ∧ TabAt K H s h2 l2 r2 ∧ SmP h1 l1 r1 ∧ SmP h2 l2 r2 ∧ l1.length * l2.length ≤ 20000 ∧
  ∀ H' o, Lst (TV h1 l1 r1) (TV h2 l2 r2) o → BelAt K H' p f s o (valueAt h1 l1 r1 o) (valueAt h2 l2 r2 o) → (∀ a u, a ≠ p → H a = some u → H' a = some u) → Q .non H'
abbrev N_Below_init : List Str := ["self", "first", "second", "__class__"]
abbrev pre_Below_init : List Stmt := (defBody s_Below_init).dropLast
theorem sc_Below_init : NdefX.NScope N_Below_init ["self", "first", "second"] ["__class__"] (defScope s_Below_init) := NdefX.nscope_by (by decide +kernel)
theorem fx_Below_init {P : Program} {w : World} {K : PySem.W.Frag} {mg : Str → Option Value} {base : Heap} (E : Env P K mg) : ∃ fd, FunS K "__init__" "Below.__init__" (defArgs s_Below_init) (defBody s_Below_init) (defScope s_Below_init) (d_Below_init.adr K) fd (cellOf K (d_Below_init.adr K)) (codeOf K (d_Below_init.adr K)) ∧ FnOk P w K mg base CX0 4 (d_Below_init.adr K) fd ["self", "first", "second"] (spBel K) := by
  obtain ⟨fd, F⟩ := E.dd_Below_init
  obtain ⟨fd2, FF2, F2⟩ := fx_Verdict_init (P := P) (w := w) (base := base) E
  refine ⟨fd, F, fnsup (pre := pre_Below_init) (k2 := 1) F E.sup_Below (F2.raw (FF2.bindsN (ps := ["self", "holds"]) (fun _ _ _ _ _ _ us hl => match us, hl with | [_, _], _ => rfl)) .nil) (by decide) rfl sc_Below_init (by decide +kernel) rfl rfl rfl sp3_len (fun A outer s H vs Q X hr h => ?_)⟩
  have nd := sc_Below_init.nd
  obtain ⟨v0, v1, v2, rfl, h⟩ := h
  refine ⟨_, _, (pss_cons (kFldS K (ps_fld (pv 0) (pv 1) rfl))
  (pss_cons (kFldS K (ps_fld (pv 0) (pv 2) rfl))
  (pss_cons (kFldS K (ps_fld (pv 0) (pc (ok_least_above E) hr (by decide) pass0 rfl (pa_cons (pmt0 (ok_Table_raw E) hr (by decide) pass0 (pv 1)) (pa_cons (pmt0 (ok_Table_raw E) hr (by decide) pass0 (pv 2)) pa_nil))) rfl))
  (pss_cons (kFldS K (ps_fld (pv 0) (pe_non) rfl))
  (pss_one (ps_if (pt_cmpR xIsNot (kFld K (pv 0) rfl) (pe_non) (nomark _))
   (pss_one (kFldS K (ps_fld (pv 0) (pe_tup (pa_cons (pcl (ok_Table_call E) hr (by decide) (pv 1) (pa_cons (kFld K (pv 0) rfl) pa_nil)) (pa_cons (pcl (ok_Table_call E) hr (by decide) (pv 2) (pa_cons (kFld K (pv 0) rfl) pa_nil)) pa_nil))) rfl)))
   pss_nil)))))), pe_cmpR xIs (kFld K (pv 0) rfl) (pe_non) (nomark _), ?_⟩
  change (_ : TS) _ [some v0, some v1, some v2, some (.ref (He.ga K "Below"))] H
  try dsimp only [cxOf, NdefX.ncx, Cx.nox, Cx.blk]
  obtain ⟨p, f, s', dx, h1, l1, h2, l2, r1, r2, rfl, rfl, rfl, hp, tf, ts, A1, A2, AZ, k⟩ := h
  have tne : ∀ {x : Addr} {h l : List Int} {r : Int}, TabAt K H x h l r → x ≠ p := by
    rintro x h l r ⟨d, th, tl, e, _⟩ rfl
    rw [hp] at e
    have e2 := Option.some.inj e
    injection e2 with _ _ e3
    have := tFlds_head th tl r
    rw [← e3] at this
    cases this
  have nf := tne tf
  have ns := tne ts
  clear tne
  have stp : ∀ {H2 : Hp} {fs : List (Str × V)} (o : HO), H2 p = some (.ins (He.ga K "Below") dx fs) → TabAt K H2 f h1 l1 r1 → TabAt K H2 s' h2 l2 r2 → ∃ H3, upd H2 p o = H3 ∧ H3 p = some o ∧ TabAt K H3 f h1 l1 r1 ∧ TabAt K H3 s' h2 l2 r2 ∧ ∀ a u, a ≠ p → H2 a = some u → H3 a = some u :=
    fun {H2 fs} o hp t1 t2 => ⟨_, rfl, upd_same, tab_updi hp nf t1, tab_updi hp ns t2, fun a u ne e => by rw [upd_ne ne]; exact e⟩
  have len : ∀ {f : Str} {y : V} {fs : List (Str × V)} {n : Nat}, fs.length ≤ n → (putF f y fs).length ≤ n + 1 := fun h => Nat.le_trans (putF_len _ _ _) (Nat.succ_le_succ h)
  walk_at "w"
  refine r_putF hp E.c_Below E.na_Below_first (by decide) ?_
  obtain ⟨H1, e1, g1, t1, u1, k1⟩ := stp (.ins (He.ga K "Below") dx (putF "first" (.ref f) [])) hp tf ts
  have z1 : (putF ("first" : Str) (V.ref f) []).length ≤ 1 := putF_len _ _ _
  rw [e1]
  clear e1 hp tf ts
  walk_at "w"
  refine r_putF g1 E.c_Below E.na_Below_second (by omega) ?_
  have z2 := len (f := "second") (y := .ref s') z1
  obtain ⟨H2, e2, g2, t2, u2, k2⟩ := stp (.ins (He.ga K "Below") dx (putF "second" (.ref s') (putF "first" (.ref f) []))) g1 t1 u1
  rw [e2]
  clear e2 g1 t1 u1
  walk_at "w"
  obtain ⟨dx1, th1, tl1, i1, _⟩ := id t2
  refine r_meth i1 (tFlds_no (by decide) (by decide) (by decide)) ?_
  walk_at "w"
  refine w_callM1 ⟨f, h1, l1, r1, rfl, t2, fun v1 Ha ea da => ?_⟩
  walk_at "w"
  obtain ⟨dx2, th2, tl2, i2, _⟩ := id (ex_tab ea u2)
  refine r_meth i2 (tFlds_no (by decide) (by decide) (by decide)) ?_
  walk_at "w"
  refine w_callM1 ⟨s', h2, l2, r2, rfl, ex_tab ea u2, fun v2 Hb eb db => ?_⟩
  walk_at "w"
  refine ⟨h1, l1, h2, l2, r1, r2, dp_ex eb da, db, A1, A2, AZ, fun o Hc ec lo => ?_⟩
  have ee := (ea.trans eb).trans ec
  have g3 := ee _ _ g2
  have t3 := ex_tab ee t2
  have u3 := ex_tab ee u2
  clear g2 t2 u2 i1 i2 da db
  walk_at "w"
  refine r_putF g3 E.c_Below E.na_Below_place (by omega) ?_
  have z3 := len (f := "place") (y := optV o) z2
  obtain ⟨H4, e4, g4, t4, u4, k4⟩ := stp (.ins (He.ga K "Below") dx (putF "place" (optV o) (putF "second" (.ref s') (putF "first" (.ref f) [])))) g3 t3 u3
  rw [e4]
  clear e4 g3 t3 u3
  walk_at "w"
  refine r_putF g4 E.c_Below E.na_Below_sides (by omega) ?_
  have z4 := len (f := "sides") (y := .non) z3
  obtain ⟨H5, e5, g5, t5, u5, k5⟩ := stp (.ins (He.ga K "Below") dx (putF "sides" .non (putF "place" (optV o) (putF "second" (.ref s') (putF "first" (.ref f) []))))) g4 t4 u4
  rw [e5]
  clear e5 g4 t4 u4
  have kk : ∀ a u, a ≠ p → H a = some u → H5 a = some u := fun a u ne e => k5 a u ne (k4 a u ne (ee _ _ (k2 a u ne (k1 a u ne e))))
  clear k1 k2 k4 k5
  walk_at "w"
  refine r_getF g5 E.c_Below E.na_Below_place (v := optV o) (by walk_at "lk") ?_
  walk_at "w"
  cases o with
  | none =>
    simp only [optV] at g5 z3 z4 ⊢
    walk_at "w"
    refine ⟨p, dx, _, rfl, g5, ?_⟩
    walk_at "w"
    refine r_getF g5 E.c_Below E.na_Below_place (v := .non) (by walk_at "lk") ?_
    walk_at "w"
    refine ⟨p, _, dx, _, rfl, g5, E.c_Below, E.na_Below_holds, by omega, ?_⟩
    refine k _ none lo ⟨dx, _, .non, upd_same, by walk_at "lk", by walk_at "lk", by walk_at "lk", by walk_at "lk", by walk_at "lk", .inl ⟨rfl, rfl⟩⟩ fun a u ne e => ?_
    rw [upd_ne ne]
    exact kk a u ne e
  | some n =>
    have n0 := lo.nn
    simp only [optV] at g5 z3 z4 ⊢
    walk_at "w"
    obtain ⟨dx1, _, _, i1, _⟩ := id t5
    refine r_getF g5 E.c_Below E.na_Below_place (v := .int n) (by walk_at "lk") ?_
    walk_at "w"
    refine r_callO1 i1 ?_
    refine ⟨f, h1, l1, r1, some n, rfl, t5, rfl, n0, A1.val.sm, fun w Hd ed dd => ?_⟩
    obtain rfl := dp_toOpt dd
    walk_at "w"
    refine r_getF (ed _ _ g5) E.c_Below E.na_Below_place (v := .int n) (by walk_at "lk") ?_
    walk_at "w"
    obtain ⟨dx2, _, _, i2, _⟩ := id (ex_tab ed u5)
    refine r_callO1 i2 ?_
    refine ⟨s', h2, l2, r2, some n, rfl, ex_tab ed u5, rfl, n0, A2.val.sm, fun w Hg ee2 de => ?_⟩
    obtain rfl := dp_toOpt de
    walk_at "w"
    intro pt Hf nt ef hf
    have e5f := (ed.trans ee2).trans ef
    have g6 := e5f _ _ g5
    have st : SqT K Hf pt [optV (valueAt h1 l1 r1 (some n)), optV (valueAt h2 l2 r2 (some n))] := st_of hf
    walk_at "w"
    refine r_putF g6 E.c_Below E.na_Below_sides (by omega) ?_
    have z5 := len (f := "sides") (y := .ref pt) z4
    have st2 := sq_updi (o := .ins (He.ga K "Below") dx (putF "sides" (.ref pt) (putF "sides" .non (putF "place" (.int n) (putF "second" (.ref s') (putF "first" (.ref f) [])))))) g6 st
    walk_at "w"
    refine ⟨p, dx, _, rfl, upd_same, ?_⟩
    walk_at "w"
    refine r_getF upd_same E.c_Below E.na_Below_place (v := .int n) (by walk_at "lk") ?_
    walk_at "w"
    refine ⟨p, _, dx, _, rfl, upd_same, E.c_Below, E.na_Below_holds, by omega, ?_⟩
    refine k _ (some n) lo ⟨dx, _, .ref pt, upd_same, by walk_at "lk", by walk_at "lk", by walk_at "lk", by walk_at "lk", by walk_at "lk", .inr ⟨by simp, pt, rfl, sq_updi upd_same st2⟩⟩ fun a u ne e => ?_
    rw [upd_ne ne, upd_ne ne]
    exact e5f _ _ (kk a u ne e)

end
section
local macro_rules | `(tactic| walk_at "hp") => `(tactic| first
  | with_reducible assumption
  | (with_reducible refine' ex_tab ?a ?b; (case a => with_reducible assumption); (case b => walk_at "hp")))
/-- Below(..) made -/
theorem mk_bel {K : PySem.W.Frag} {H : Hp} {Q : VK} {f s : Addr} {h1 l1 h2 l2 : List Int} {r1 r2 : Int} (tf : TabAt K H f h1 l1 r1) (ts : TabAt K H s h2 l2 r2) (A1 : SmP h1 l1 r1) (A2 : SmP h2 l2 r2) (AZ : l1.length * l2.length ≤ 20000)
    (q : ∀ x H2 o, Ex H H2 → Lst (TV h1 l1 r1) (TV h2 l2 r2) o → BelAt K H2 x f s o (valueAt h1 l1 r1 o) (valueAt h2 l2 r2 o) → Q (.ref x) H2) : MakeI (He.ga K "Below") (spBel K) [] E0 [.ref f, .ref s] H Q := by
  intro x dx nx ndx ne
  have ex : Ex H (upd (upd H dx (.own x)) x (.ins (He.ga K "Below") dx [])) := fun b o e => by
    rw [upd_ne (ne_of_none e nx), upd_ne (ne_of_none e ndx)]
    exact e
  refine ⟨_, _, _, rfl, x, f, s, dx, h1, l1, h2, l2, r1, r2, rfl, rfl, rfl, upd_same, ex_tab ex tf, ex_tab ex ts, A1, A2, AZ, fun H' o lo b k => ⟨rfl, q x H' o (fun b' o' e => ?_) lo b⟩⟩
  exact k b' o' (ne_of_none e nx) (ex b' o' e)
theorem ok_Below2 {P : Program} {w : World} {K : PySem.W.Frag} {mg : Str → Option Value} {base : Heap} (E : Env P K mg) : Mkc P w K mg base CX0 4 "Below" (He.ga K "Below") (spBel K) [] := by
  obtain ⟨fd, F, k⟩ := fx_Below_init (P := P) (w := w) (base := base) E
  exact ⟨_, fd, _, [], E.mk_Below, k, E.g_Below, F.bindsN (fun _ _ _ _ _ _ us hl => match us, hl with | [_, _, _], _ => rfl), .nil⟩
abbrev N_below : List Str := ["first", "second"]
theorem sc_below : FnScope N_below ["first", "second"] (defScope s_below) := ⟨rfl, rfl, rfl, by decide +kernel, rfl, by decide +kernel, by decide +kernel⟩
theorem ok_below {P : Program} {w : World} {K : PySem.W.Frag} {mg : Str → Option Value} {base : Heap} (E : Env P K mg) : Fn P w K mg base CX0 6 "below" (sp2 fun a b H Q _ => ∃ (f s : Addr) (h1 l1 h2 l2 : List Int) (r1 r2 : Int), a = .ref f ∧ b = .ref s ∧ TabAt K H f h1 l1 r1 ∧ TabAt K H s h2 l2 r2 ∧ SmP h1 l1 r1 ∧ SmP h2 l2 r2 ∧ l1.length * l2.length ≤ 20000 ∧ ∀ x H2 o, Ex H H2 → Lst (TV h1 l1 r1) (TV h2 l2 r2) o → BelAt K H2 x f s o (valueAt h1 l1 r1 o) (valueAt h2 l2 r2 o) → Q (.ref x) H2) := by
  obtain ⟨fd, F⟩ := E.dd_below
  refine Fn.mk0 F E.g_below sc_below sp2_len (fun _ _ _ _ _ _ us hl => match us, hl with | [_, _], _ => rfl) (fun cdv A outer s H vs Q X hr h => ?_)
  have nd := sc_below.nd
  obtain ⟨v0, v1, rfl, h⟩ := h
  refine ⟨_, (pss_one (ps_ret (pmk (ok_Below2 E) hr (by decide) pass0 rfl (pa_cons (pv 0) (pa_cons (pv 1) pa_nil))))), ?_⟩
  change (_ : TS) _ [some v0, some v1] H
  try dsimp only [cxOf, Cx.nox, Cx.blk]
  obtain ⟨f, s', h1, l1, h2, l2, r1, r2, rfl, rfl, tf, ts, A1, A2, AZ, k⟩ := h
  walk_at "w"
  exact mk_bel tf ts A1 A2 AZ k

end
section
/-- the sign of two values -/
def sgO (a b : Option Int) : Int := if a = b then 0 else if leO a b = true then -1 else 1
theorem sgO_some {x y : Int} : sgO (some x) (some y) = if x = y then 0 else if x < y then -1 else 1 := by
  unfold sgO
  by_cases c : x = y
  · rw [if_pos (by rw [c]), if_pos c]
  · rw [if_neg (by simpa using c), if_neg c]
    by_cases d : x < y
    · rw [if_pos (leO_some.mpr (by omega)), if_pos d]
    · rw [if_neg (by rw [leO_some]; omega), if_neg d]
theorem sgO_swap (a b : Option Int) : sgO b a = - sgO a b := by
  cases a with
  | none =>
    cases b with
    | none => rfl
    | some y => simp [sgO, leO]
  | some x =>
    cases b with
    | none => simp [sgO, leO]
    | some y =>
      rw [sgO_some, sgO_some]
      by_cases c : x = y
      · rw [if_pos c, if_pos c.symm]
        rfl
      · rw [if_neg c, if_neg (fun h => c h.symm)]
        by_cases d : x < y
        · rw [if_pos d, if_neg (by omega)]
          rfl
        · rw [if_neg d, if_pos (by omega)]
theorem sgO_val (a b : Option Int) : sgO a b = 0 ∨ sgO a b = -1 ∨ sgO a b = 1 := by
  unfold sgO
  split
  · exact .inl rfl
  · split
    · exact .inr (.inl rfl)
    · exact .inr (.inr rfl)
/-- a row from C on with a round of m -/
def Evp (f : Nat → Int) (C m : Nat) : Prop := ∀ j, C ≤ j → f (j + m) = f j
section
variable {f : Nat → Int} {C m : Nat}
theorem Evp.mul (h : Evp f C m) : ∀ k j, C ≤ j → f (j + m * k) = f j
  | 0, _, _ => rfl
  | k + 1, j, hj => by rw [Nat.mul_succ, ← Nat.add_assoc, h (j + m * k) (by omega), h.mul k j hj]
theorem Evp.le (h : Evp f C m) {D : Nat} (hd : C ≤ D) : Evp f D m := fun j hj => h j (by omega)
theorem Evp.gcd : ∀ {a b : Nat}, Evp f C a → Evp f C b → Evp f C (Nat.gcd a b) := fun {a b} => by
  induction a, b using Nat.gcd.induction with
  | H0 n => intro _ h; rw [Nat.gcd_zero_left]; exact h
  | H1 m n hm ih =>
    intro h1 h2
    rw [Nat.gcd_rec]
    refine ih ?_ h1
    intro j hj
    have e := h1.mul (n / m) (j + n % m) (by omega)
    rw [show j + n % m + m * (n / m) = j + n by have := Nat.mod_add_div n m; omega, h2 j hj] at e
    exact e.symm
end
/-- the fewest: a head of c, a round of s -/
structure Can (f : Nat → Int) (c s : Nat) : Prop where
  s1 : 1 ≤ s
  per : Evp f c s
  min : ∀ t C, 1 ≤ t → t < s → ¬ Evp f C t
  ne : ∀ c', c = c' + 1 → f (c' + s) ≠ f c'
theorem Can.uniq {f : Nat → Int} {c s c' s' : Nat} (a : Can f c s) (b : Can f c' s') : c = c' ∧ s = s' := by
  have e1 : s = s' := by
    rcases Nat.lt_trichotomy s s' with h | h | h
    · exact (b.min s c a.s1 h a.per).elim
    · exact h
    · exact (a.min s' c' b.s1 h b.per).elim
  have key : ∀ {c c' s : Nat}, Can f c s → Can f c' s → ¬ c < c' := fun {c c' s} a b h => by
    obtain ⟨m, rfl⟩ : ∃ m, c' = m + 1 := ⟨c' - 1, by omega⟩
    exact b.ne m rfl (a.per m (by omega))
  subst e1
  have := key a b
  have := key b a
  exact ⟨by omega, rfl⟩
theorem Can.neg {f : Nat → Int} {c s : Nat} (a : Can f c s) : Can (fun j => - f j) c s :=
  ⟨a.s1, fun j hj => by show - f (j + s) = - f j; rw [a.per j hj], fun t C t1 ts h => a.min t C t1 ts fun j hj => by have : - f (j + t) = - f j := h j hj; omega,
    fun c' e h => a.ne c' e (by have : - f (c' + s) = - f c' := h; omega)⟩
/-- the cut, going back -/
def cutF (f : Nat → Int) (s : Nat) : Nat → Nat
  | 0 => 0
  | c + 1 => if f (c + s) = f c then cutF f s c else c + 1
theorem cutF_le (f : Nat → Int) (s : Nat) : ∀ c, cutF f s c ≤ c
  | 0 => Nat.le_refl 0
  | c + 1 => by
    unfold cutF
    split
    · exact Nat.le_succ_of_le (cutF_le f s c)
    · exact Nat.le_refl _
theorem cutF_can {f : Nat → Int} {s : Nat} (s1 : 1 ≤ s) (min : ∀ t C, 1 ≤ t → t < s → ¬ Evp f C t) : ∀ {c : Nat}, Evp f c s → Can f (cutF f s c) s
  | 0, h => ⟨s1, h, min, fun c' e => nomatch e⟩
  | c + 1, h => by
    unfold cutF
    by_cases d : f (c + s) = f c
    · rw [if_pos d]
      refine cutF_can s1 min fun j hj => ?_
      by_cases e : j = c
      · rw [e]; exact d
      · exact h j (by omega)
    · rw [if_neg d]
      exact ⟨s1, h, min, fun c' e => by cases e; exact d⟩
/-- what a round is made of: s is the least part of m that goes round -/
structure Rnd (f : Nat → Int) (C m s : Nat) : Prop where
  s1 : 1 ≤ s
  dvd : s ∣ m
  eq : ∀ k, s ≤ k → k < m → f (C + k) = f (C + (k - s))
  min : ∀ t, 1 ≤ t → t < s → t ∣ m → ¬ ∀ k, t ≤ k → k < m → f (C + k) = f (C + (k - t))
theorem Rnd.evp {f : Nat → Int} {C m s : Nat} (h : Rnd f C m s) (m1 : 1 ≤ m) (P : Evp f C m) : Evp f C s := by
  intro j hj
  obtain ⟨q, rfl⟩ := h.dvd
  have s1 := h.s1
  -- bring j into the first round
  obtain ⟨a, r, hr, e⟩ : ∃ a r, r < s * q ∧ j = C + r + s * q * a := ⟨(j - C) / (s * q), (j - C) % (s * q), Nat.mod_lt _ m1, by have := Nat.mod_add_div (j - C) (s * q); omega⟩
  have e1 : f j = f (C + r) := by rw [e]; exact P.mul a (C + r) (by omega)
  have e2 : f (j + s) = f (C + (r + s)) := by
    rw [e, show C + r + s * q * a + s = (C + (r + s)) + s * q * a by omega]
    exact P.mul a _ (by omega)
  rw [e1, e2]
  by_cases c : r + s < s * q
  · have := h.eq (r + s) (by omega) c
    rwa [Nat.add_sub_cancel] at this
  · -- over the end: r + s = m + r', r' < s, and r = r' + m - s
    have e3 : f (C + (r + s)) = f (C + (r + s - s * q)) := by
      have := P (C + (r + s - s * q)) (by omega)
      rw [← this]
      congr 1
      omega
    rw [e3]
    -- going back by s from r: all the same
    have back : ∀ k, r < s * q → s * k ≤ r → f (C + (r - s * k)) = f (C + r) := fun k => by
      induction k with
      | zero => intro _ _; rw [Nat.mul_zero, Nat.sub_zero]
      | succ k ih =>
        intro h1 h2
        rw [Nat.mul_succ] at h2
        have a1 := ih h1 (by omega)
        have a2 := h.eq (r - s * k) (by omega) (by omega)
        rw [Nat.mul_succ, ← Nat.sub_sub, ← a2, a1]
    obtain ⟨q', rfl⟩ : ∃ q', q = q' + 1 := ⟨q - 1, by
      rcases Nat.eq_zero_or_pos q with z | z
      · rw [z, Nat.mul_zero] at m1; omega
      · omega⟩
    rw [Nat.mul_succ] at hr c ⊢
    have := back q' (by rw [Nat.mul_succ]; exact hr) (by omega)
    rw [← this]
    congr 1
    omega
theorem Rnd.least {f : Nat → Int} {C m s : Nat} (h : Rnd f C m s) (m1 : 1 ≤ m) (P : Evp f C m) : ∀ t D, 1 ≤ t → t < s → ¬ Evp f D t := by
  intro t D t1 ts H
  have G := (H.le (Nat.le_max_left D C)).gcd (P.le (Nat.le_max_right D C))
  have g1 : 1 ≤ Nat.gcd t m := Nat.gcd_pos_of_pos_left _ t1
  have g2 : Nat.gcd t m ≤ t := Nat.gcd_le_left _ t1
  refine h.min (Nat.gcd t m) g1 (by omega) (Nat.gcd_dvd_right t m) fun k k1 k2 => ?_
  generalize Nat.gcd t m = g at *
  have a := P.mul (max D C) (C + (k - g)) (by omega)
  have b := P.mul (max D C) (C + k) (by omega)
  have big : max D C ≤ m * max D C := Nat.le_mul_of_pos_left _ m1
  have c := G (C + (k - g) + m * max D C) (by omega)
  rw [show C + (k - g) + m * max D C + g = C + k + m * max D C by omega] at c
  rw [← a, ← b, c]
/-- the program's signs are the fewest -/
theorem Rnd.can {f : Nat → Int} {C m s : Nat} (h : Rnd f C m s) (m1 : 1 ≤ m) (P : Evp f C m) : Can f (cutF f s C) s := cutF_can h.s1 (h.least m1 P) (h.evp m1 P)
/-- the law's sizes -/
def Win (f : Nat → Int) (U m : Nat) : Prop := ∀ k, U - 24 + m ≤ k → k < U → f k = f (k - m)
theorem Can.dvd {f : Nat → Int} {c s D m : Nat} (a : Can f c s) (P : Evp f D m) (m1 : 1 ≤ m) : s ∣ m := by
  have G := (a.per.le (Nat.le_max_left c D)).gcd (P.le (Nat.le_max_right c D))
  have g1 : 1 ≤ Nat.gcd s m := Nat.gcd_pos_of_pos_left _ a.s1
  have g2 : Nat.gcd s m ≤ s := Nat.gcd_le_left _ a.s1
  have e : Nat.gcd s m = s := by
    rcases Nat.lt_or_ge (Nat.gcd s m) s with h | h
    · exact (a.min _ _ g1 h G).elim
    · omega
  rw [← e]
  exact Nat.gcd_dvd_right s m
theorem Win.evp {f : Nat → Int} {U m : Nat} (h : Win f U m) (u : 24 ≤ U) (m1 : 1 ≤ m) (m12 : m ≤ 12) (P : Evp f (U - 24) 12) : Evp f (U - 24) m := by
  intro j hj
  -- k in the window, alike to j + m by twelves
  obtain ⟨k, q, hk1, hk2, e⟩ : ∃ k q : Nat, U - 24 + m ≤ k ∧ k < U - 24 + m + 12 ∧ j + m = k + 12 * q := ⟨U - 24 + m + (j - (U - 24)) % 12, (j - (U - 24)) / 12, by omega, by omega, by omega⟩
  have a := h k hk1 (by omega)
  have b := P.mul q k (by omega)
  have c := P.mul q (k - m) (by omega)
  rw [e, b, a, ← c]
  congr 1
  omega
theorem Can.win {f : Nat → Int} {c s U : Nat} (a : Can f c s) (u : 24 ≤ U) (P : Evp f (U - 24) 12) (pc : Evp f (U - 24) s) : ∀ m, 1 ≤ m → m ≤ 12 → (Win f U m ↔ s ∣ m) := by
  intro m m1 m12
  refine ⟨fun h => a.dvd (h.evp u m1 m12 P) m1, fun ⟨q, hq⟩ k k1 k2 => ?_⟩
  subst hq
  have := pc.mul q (k - s * q) (by omega)
  rw [show k - s * q + s * q = k by omega] at this
  exact this
/-- the size that the law finds -/
def szL (ok : Nat → Bool) : List Nat → Nat → Nat
  | [], z => z
  | m :: l, z => szL ok l (if ok m then m else z)
theorem szL_eq {s : Nat} (h : s ∣ 12) (s1 : 1 ≤ s) : szL (fun m => decide (s ∣ m)) [12, 8, 6, 4, 3, 2, 1] 24 = s := by
  have s12 := Nat.le_of_dvd (by decide) h
  have : s = 1 ∨ s = 2 ∨ s = 3 ∨ s = 4 ∨ s = 6 ∨ s = 12 := by
    have : s = 1 ∨ s = 2 ∨ s = 3 ∨ s = 4 ∨ s = 5 ∨ s = 6 ∨ s = 7 ∨ s = 8 ∨ s = 9 ∨ s = 10 ∨ s = 11 ∨ s = 12 := by omega
    rcases this with rfl | rfl | rfl | rfl | rfl | rfl | rfl | rfl | rfl | rfl | rfl | rfl <;> first | (exact absurd h (by decide)) | simp
  rcases this with rfl | rfl | rfl | rfl | rfl | rfl <;> decide

end
section
/-- how many places a round of both takes -/
def wdM (l1 l2 : List Int) : Nat := if l1 = [] ∨ l2 = [] then max (max l1.length l2.length) 1 else Nat.lcm l1.length l2.length
theorem wdM_ok {l1 l2 : List Int} (z1 : l1.length ≤ 600) (z2 : l2.length ≤ 600) (zz : l1.length * l2.length ≤ 20000) : 1 ≤ wdM l1 l2 ∧ wdM l1 l2 ≤ 20000 ∧ (l1 ≠ [] → l2 ≠ [] → l1.length ∣ wdM l1 l2 ∧ l2.length ∣ wdM l1 l2) := by
  unfold wdM
  by_cases c : l1 = [] ∨ l2 = []
  · rw [if_pos c]
    exact ⟨by omega, by omega, fun a b => (c.elim a b).elim⟩
  · rw [if_neg c]
    obtain ⟨c1, c2⟩ := not_or.mp c
    have l10 : 0 < l1.length := List.length_pos_iff.mpr c1
    have l20 : 0 < l2.length := List.length_pos_iff.mpr c2
    have m0 : 0 < Nat.lcm l1.length l2.length := Nat.lcm_pos l10 l20
    have m1 : Nat.lcm l1.length l2.length ≤ l1.length * l2.length := Nat.le_of_dvd (Nat.mul_pos l10 l20) (Nat.lcm_dvd_mul ..)
    exact ⟨m0, by omega, fun _ _ => ⟨Nat.dvd_lcm_left .., Nat.dvd_lcm_right ..⟩⟩
abbrev N_window : List Str := ["first", "second", "longest"]
theorem sc_window : FnScope N_window ["first", "second"] (defScope s_window) := ⟨rfl, rfl, rfl, by decide +kernel, rfl, by decide +kernel, by decide +kernel⟩
theorem ok_window {P : Program} {w : World} {K : PySem.W.Frag} {mg : Str → Option Value} {base : Heap} (E : Env P K mg) : Fn P w K mg base CX0 3 "window" (sp2 fun a b H Q _ => ∃ (h1 l1 h2 l2 : List Int) (r1 r2 : Int), Dp K H a (dRaw h1 l1 r1) ∧ Dp K H b (dRaw h2 l2 r2) ∧ l1.length ≤ 600 ∧ l2.length ≤ 600 ∧ ∀ p H', Ex H H' → SqT K H' p [.int (max (h1.length : Int) h2.length), .int (wdM l1 l2 : Nat)] → Q (.ref p) H') := by
  obtain ⟨fd, F⟩ := E.dd_window
  refine Fn.mk0 F E.g_window sc_window sp2_len (fun _ _ _ _ _ _ us hl => match us, hl with | [_, _], _ => rfl) (fun cdv A outer s H vs Q X hr h => ?_)
  have nd := sc_window.nd
  obtain ⟨v0, v1, rfl, h⟩ := h
  refine ⟨_, (pss_cons (ps_set (i := 2) nd rfl (.inl rfl) (pe_callB (xMax2 rfl) (by rfl) E.f_max (by decide +kernel) (pa_cons (pe_callB (kLen K) (by rfl) E.f_len (by decide +kernel) (pa_cons (pe_ix (kIx K) (pv 0) (pe_int) (fun _ _ => rfl)) pa_nil)) (pa_cons (pe_callB (kLen K) (by rfl) E.f_len (by decide +kernel) (pa_cons (pe_ix (kIx K) (pv 1) (pe_int) (fun _ _ => rfl)) pa_nil)) pa_nil))))
  (pss_cons (ps_if (PW.pt (pw_or (pt_cmpR (kEq K hr) (pe_callB (kLen K) (by rfl) E.f_len (by decide +kernel) (pa_cons (pe_ix (kIx K) (pv 0) (pe_int) (fun _ _ => rfl)) pa_nil)) (pe_int) (nomark _)) (pw_or1 (pt_cmpR (kEq K hr) (pe_callB (kLen K) (by rfl) E.f_len (by decide +kernel) (pa_cons (pe_ix (kIx K) (pv 1) (pe_int) (fun _ _ => rfl)) pa_nil)) (pe_int) (nomark _)))))
   (pss_one (ps_ret (pe_tup (pa_cons (pv 2) (pa_cons (pe_callB (xMax3 rfl) (by rfl) E.f_max (by decide +kernel) (pa_cons (pe_callB (kLen K) (by rfl) E.f_len (by decide +kernel) (pa_cons (pe_ix (kIx K) (pv 0) (pe_int) (fun _ _ => rfl)) pa_nil)) (pa_cons (pe_callB (kLen K) (by rfl) E.f_len (by decide +kernel) (pa_cons (pe_ix (kIx K) (pv 1) (pe_int) (fun _ _ => rfl)) pa_nil)) (pa_cons (pe_int) pa_nil)))) pa_nil)))))
   pss_nil)
  (pss_one (ps_ret (pe_tup (pa_cons (pv 2) (pa_cons (pc (ok_common_multiple E) hr (by decide) pass0 rfl (pa_cons (pe_callB (kLen K) (by rfl) E.f_len (by decide +kernel) (pa_cons (pe_ix (kIx K) (pv 0) (pe_int) (fun _ _ => rfl)) pa_nil)) (pa_cons (pe_callB (kLen K) (by rfl) E.f_len (by decide +kernel) (pa_cons (pe_ix (kIx K) (pv 1) (pe_int) (fun _ _ => rfl)) pa_nil)) pa_nil))) pa_nil))))))), ?_⟩
  change (_ : TS) _ [some v0, some v1, none] H
  try dsimp only [cxOf, Cx.nox, Cx.blk]
  obtain ⟨h1, l1, h2, l2, r1, r2, d1, d2, zl1, zl2, k⟩ := h
  obtain ⟨a1, th1, tl1, rfl, s1, s2, s3⟩ := dp_raw d1
  obtain ⟨a2, th2, tl2, rfl, t1, t2, t3⟩ := dp_raw d2
  walk_at "w"
  by_cases c1 : l1 = []
  · subst c1
    walk_at "w"
    refine r_max3 ?_
    walk_at "w"
    intro p H' n e g
    refine k p H' e (st_of ?_)
    rw [show ((wdM [] l2 : Nat) : Int) = max (max (([] : List Int).length : Int) (l2.length : Int)) 1 by unfold wdM; rw [if_pos (.inl rfl)]; omega]
    exact g
  · have l10 : 0 < l1.length := List.length_pos_iff.mpr c1
    walk_at "w"
    by_cases c2 : l2 = []
    · subst c2
      walk_at "w"
      refine r_max3 ?_
      walk_at "w"
      intro p H' n e g
      refine k p H' e (st_of ?_)
      rw [show ((wdM l1 [] : Nat) : Int) = max (max (l1.length : Int) (([] : List Int).length : Int)) 1 by unfold wdM; rw [if_pos (.inr rfl)]; omega]
      exact g
    · have l20 : 0 < l2.length := List.length_pos_iff.mpr c2
      walk_at "w"
      refine ⟨l1.length, l2.length, rfl, rfl, l10, by omega, by omega, ?_⟩
      walk_at "w"
      intro p H' n e g
      refine k p H' e (st_of ?_)
      rw [show wdM l1 l2 = Nat.lcm l1.length l2.length by unfold wdM; rw [if_neg (not_or.mpr ⟨c1, c2⟩)]]
      exact g
abbrev N_climb_of : List Str := ["first", "second", "many"]
theorem sc_climb_of : FnScope N_climb_of ["first", "second", "many"] (defScope s_climb_of) := ⟨rfl, rfl, rfl, by decide +kernel, rfl, by decide +kernel, by decide +kernel⟩
theorem ok_climb_of {P : Program} {w : World} {K : PySem.W.Frag} {mg : Str → Option Value} {base : Heap} (E : Env P K mg) : Fn P w K mg base CX0 1 "climb_of" (sp3 fun a b c H Q _ => ∃ (h1 l1 h2 l2 : List Int) (r1 r2 : Int) (m : Nat), Dp K H a (dRaw h1 l1 r1) ∧ Dp K H b (dRaw h2 l2 r2) ∧ c = .int m ∧ SmP h1 l1 r1 ∧ SmP h2 l2 r2 ∧ m ≤ 20000 ∧ l1 ≠ [] ∧ l2 ≠ [] ∧ Q (.int (slp l1 r1 m - slp l2 r2 m)) H) := by
  obtain ⟨fd, F⟩ := E.dd_climb_of
  refine Fn.mk0 F E.g_climb_of sc_climb_of sp3_len (fun _ _ _ _ _ _ us hl => match us, hl with | [_, _, _], _ => rfl) (fun cdv A outer s H vs Q X hr h => ?_)
  have nd := sc_climb_of.nd
  obtain ⟨v0, v1, v2, rfl, h⟩ := h
  refine ⟨_, (pss_one (ps_ret (pe_op xSub (pe_op (kMul K) (pe_ix (kIx K) (pv 0) (pe_int) (fun _ _ => rfl)) (pe_op xDiv (pv 2) (pe_callB (kLen K) (by rfl) E.f_len (by decide +kernel) (pa_cons (pe_ix (kIx K) (pv 0) (pe_int) (fun _ _ => rfl)) pa_nil)))) (pe_op (kMul K) (pe_ix (kIx K) (pv 1) (pe_int) (fun _ _ => rfl)) (pe_op xDiv (pv 2) (pe_callB (kLen K) (by rfl) E.f_len (by decide +kernel) (pa_cons (pe_ix (kIx K) (pv 1) (pe_int) (fun _ _ => rfl)) pa_nil))))))), ?_⟩
  change (_ : TS) _ [some v0, some v1, some v2] H
  try dsimp only [cxOf, Cx.nox, Cx.blk]
  obtain ⟨h1, l1, h2, l2, r1, r2, m, d1, d2, rfl, A1, A2, m2, c1, c2, k⟩ := h
  obtain ⟨a1, th1, tl1, rfl, s1, s2, s3⟩ := dp_raw d1
  obtain ⟨a2, th2, tl2, rfl, t1, t2, t3⟩ := dp_raw d2
  have zl1 := A1.zl
  have zl2 := A2.zl
  have r10 := A1.val.r0
  have r20 := A2.val.r0
  have rr1 := A1.br
  have rr2 := A2.br
  have l10 : 0 < l1.length := List.length_pos_iff.mpr c1
  have l20 : 0 < l2.length := List.length_pos_iff.mpr c2
  walk_at "w"
  exact k

abbrev N_sign_of : List Str := ["one", "other"]
theorem sc_sign_of : FnScope N_sign_of ["one", "other"] (defScope s_sign_of) := ⟨rfl, rfl, rfl, by decide +kernel, rfl, by decide +kernel, by decide +kernel⟩
theorem ok_sign_of {P : Program} {w : World} {K : PySem.W.Frag} {mg : Str → Option Value} {base : Heap} (E : Env P K mg) : Fn P w K mg base CX0 2 "sign_of" (sp2 fun a b H Q _ => ∃ o p, a = optV o ∧ b = optV p ∧ Q (.int (sgO o p)) H) := by
  obtain ⟨fd, F⟩ := E.dd_sign_of
  refine Fn.mk0 F E.g_sign_of sc_sign_of sp2_len (fun _ _ _ _ _ _ us hl => match us, hl with | [_, _], _ => rfl) (fun cdv A outer s H vs Q X hr h => ?_)
  have nd := sc_sign_of.nd
  obtain ⟨v0, v1, rfl, h⟩ := h
  refine ⟨_, (pss_cons (ps_if (pt_cmpR (kEq K hr) (pv 0) (pv 1) (nomark _))
   (pss_one (ps_ret (pe_int)))
   pss_nil)
  (pss_one (ps_ret (pe_ifExp (kTru K (pc (ok_at_most E) hr (by decide) pass0 rfl (pa_cons (pv 0) (pa_cons (pv 1) pa_nil))) (by intro _; rfl)) (pe_un un_neg (pe_int)) (pe_int))))), ?_⟩
  change (_ : TS) _ [some v0, some v1] H
  try dsimp only [cxOf, Cx.nox, Cx.blk]
  obtain ⟨o, p, rfl, rfl, k⟩ := h
  walk_at "w"
  unfold sgO at k
  by_cases c : o = p
  · rw [if_pos c] at k
    rw [decide_eq_true c]
    walk_at "w"
    exact k
  · rw [if_neg c] at k
    rw [decide_eq_false c]
    walk_at "w"
    refine ⟨o, p, rfl, rfl, ?_⟩
    walk_at "w"
    cases d : leO o p with
    | true =>
      rw [d, if_pos rfl] at k
      walk_at "w"
      exact k
    | false =>
      rw [d, if_neg Bool.false_ne_true] at k
      walk_at "w"
      exact k
abbrev sgT (h1 l1 : List Int) (r1 : Int) (h2 l2 : List Int) (r2 : Int) (j : Nat) : Int := sgO (TV h1 l1 r1 j) (TV h2 l2 r2 j)
abbrev N_sign_at : List Str := ["first", "second", "place"]
theorem sc_sign_at : FnScope N_sign_at ["first", "second", "place"] (defScope s_sign_at) := ⟨rfl, rfl, rfl, by decide +kernel, rfl, by decide +kernel, by decide +kernel⟩
theorem ok_sign_at {P : Program} {w : World} {K : PySem.W.Frag} {mg : Str → Option Value} {base : Heap} (E : Env P K mg) : Fn P w K mg base CX0 3 "sign_at" (sp3 fun a b c H Q _ => ∃ (h1 l1 h2 l2 : List Int) (r1 r2 : Int) (j : Nat), Dp K H a (dRaw h1 l1 r1) ∧ Dp K H b (dRaw h2 l2 r2) ∧ c = .int ((j : Int) + 1) ∧ RSm h1 l1 r1 ∧ RSm h2 l2 r2 ∧ ∀ H', Ex H H' → Q (.int (sgT h1 l1 r1 h2 l2 r2 j)) H') := by
  obtain ⟨fd, F⟩ := E.dd_sign_at
  refine Fn.mk0 F E.g_sign_at sc_sign_at sp3_len (fun _ _ _ _ _ _ us hl => match us, hl with | [_, _, _], _ => rfl) (fun cdv A outer s H vs Q X hr h => ?_)
  have nd := sc_sign_at.nd
  obtain ⟨v0, v1, v2, rfl, h⟩ := h
  refine ⟨_, (pss_one (ps_ret (pc (ok_sign_of E) hr (by decide) pass0 rfl (pa_cons (pc (ok_value_at E) hr (by decide) pass0 rfl (pa_cons (pv 0) (pa_cons (pv 2) pa_nil))) (pa_cons (pc (ok_value_at E) hr (by decide) pass0 rfl (pa_cons (pv 1) (pa_cons (pv 2) pa_nil))) pa_nil))))), ?_⟩
  change (_ : TS) _ [some v0, some v1, some v2] H
  try dsimp only [cxOf, Cx.nox, Cx.blk]
  obtain ⟨h1, l1, h2, l2, r1, r2, j, d1, d2, rfl, A1, A2, k⟩ := h
  walk_at "w"
  refine ⟨h1, l1, r1, some ((j : Int) + 1), d1, .int _, fun n e => by cases e; omega, A1, fun v H1 e1 q1 => ?_⟩
  rw [show valueAt h1 l1 r1 (some ((j : Int) + 1)) = TV h1 l1 r1 j from vat_TV j] at q1
  obtain rfl := dp_toOpt q1
  walk_at "w"
  refine ⟨h2, l2, r2, some ((j : Int) + 1), dp_ex e1 d2, .int _, fun n e => by cases e; omega, A2, fun v H2 e2 q2 => ?_⟩
  rw [show valueAt h2 l2 r2 (some ((j : Int) + 1)) = TV h2 l2 r2 j from vat_TV j] at q2
  obtain rfl := dp_toOpt q2
  walk_at "w"
  exact ⟨_, _, rfl, rfl, k _ (e1.trans e2)⟩
/-- the last place of a class that has not the sign that stands for good -/
def lastO (d climb m p : Int) : Int := if (if climb < 0 then -d else d) > 0 then 0 else p + -(if climb < 0 then -d else d) / (climb.natAbs : Int) * m
/-- tables of small parts -/
structure SmS (h l : List Int) (r : Int) : Prop where
  val : Val h l r
  zh : h.length ≤ 4
  zl : l.length ≤ 4
  br : r ≤ 12
  bd : ∀ j : Nat, fV h l r j ≤ 6000 + 12 * (j : Int)
abbrev N_last_other : List Str := ["first", "second", "place", "many", "climb", "apart"]
theorem sc_last_other : FnScope N_last_other ["first", "second", "place", "many", "climb"] (defScope s_last_other) := ⟨rfl, rfl, rfl, by decide +kernel, rfl, by decide +kernel, by decide +kernel⟩
theorem ok_last_other {P : Program} {w : World} {K : PySem.W.Frag} {mg : Str → Option Value} {base : Heap} (E : Env P K mg) : Fn P w K mg base CX0 3 "last_other" (sp5 fun a b c d e H Q _ => ∃ (h1 l1 h2 l2 : List Int) (r1 r2 : Int) (j m : Nat) (climb : Int), Dp K H a (dRaw h1 l1 r1) ∧ Dp K H b (dRaw h2 l2 r2) ∧ c = .int ((j : Int) + 1) ∧ d = .int m ∧ e = .int climb ∧ SmS h1 l1 r1 ∧ SmS h2 l2 r2 ∧ l1 ≠ [] ∧ l2 ≠ [] ∧ j ≤ 40 ∧ m ≤ 16 ∧ climb ≠ 0 ∧ -1000 ≤ climb ∧ climb ≤ 1000 ∧ ∀ H', Ex H H' → Q (.int (lastO (fV h1 l1 r1 j - fV h2 l2 r2 j) climb m (j + 1))) H') := by
  obtain ⟨fd, F⟩ := E.dd_last_other
  refine Fn.mk0 F E.g_last_other sc_last_other sp5_len (fun _ _ _ _ _ _ us hl => match us, hl with | [_, _, _, _, _], _ => rfl) (fun cdv A outer s H vs Q X hr h => ?_)
  have nd := sc_last_other.nd
  obtain ⟨v0, v1, v2, v3, v4, rfl, h⟩ := h
  refine ⟨_, (pss_cons (ps_set (i := 5) nd rfl (.inl rfl) (pe_op xSub (pc (ok_value_at E) hr (by decide) pass0 rfl (pa_cons (pv 0) (pa_cons (pv 2) pa_nil))) (pc (ok_value_at E) hr (by decide) pass0 rfl (pa_cons (pv 1) (pa_cons (pv 2) pa_nil)))))
  (pss_cons (ps_if (pt_cmpR op_lt (pv 4) (pe_int) (nomark _))
   (pss_one (ps_set (i := 5) nd rfl (.inl rfl) (pe_un un_neg (pv 5))))
   pss_nil)
  (pss_cons (ps_if (pt_cmpR op_gt (pv 5) (pe_int) (nomark _))
   (pss_one (ps_ret (pe_int)))
   pss_nil)
  (pss_one (ps_ret (pe_op (kAdd K) (pv 2) (pe_op (kMul K) (pe_op xDiv (pe_un un_neg (pv 5)) (pe_callB xAbs (by rfl) E.f_abs (by decide +kernel) (pa_cons (pv 4) pa_nil))) (pv 3)))))))), ?_⟩
  change (_ : TS) _ [some v0, some v1, some v2, some v3, some v4, none] H
  try dsimp only [cxOf, Cx.nox, Cx.blk]
  obtain ⟨h1, l1, h2, l2, r1, r2, j, m, climb, d1, d2, rfl, rfl, rfl, A1, A2, n1, n2, j40, m16, c0, c1, c2, k⟩ := h
  walk_at "w"
  refine ⟨h1, l1, r1, some ((j : Int) + 1), d1, .int _, fun n e => by cases e; omega, A1.val.sm, fun v H1 e1 q1 => ?_⟩
  rw [show valueAt h1 l1 r1 (some ((j : Int) + 1)) = some (fV h1 l1 r1 j) from vat_fV n1 j] at q1
  obtain rfl := dp_toOpt q1
  walk_at "w"
  refine ⟨h2, l2, r2, some ((j : Int) + 1), dp_ex e1 d2, .int _, fun n e => by cases e; omega, A2.val.sm, fun v H2 e2 q2 => ?_⟩
  rw [show valueAt h2 l2 r2 (some ((j : Int) + 1)) = some (fV h2 l2 r2 j) from vat_fV n2 j] at q2
  obtain rfl := dp_toOpt q2
  have f10 := fV_nn A1.val j
  have f20 := fV_nn A2.val j
  have f11 := A1.bd j
  have f21 := A2.bd j
  have kk := k _ (e1.trans e2)
  unfold lastO at kk
  generalize fV h1 l1 r1 j = x at *
  generalize fV h2 l2 r2 j = y at *
  simp only [optV]
  walk_at "w"
  by_cases cl : climb < 0
  · rw [if_pos cl] at kk
    walk_at "w"
    by_cases cp : 0 < -(x - y)
    · rw [if_pos cp] at kk
      walk_at "w"
      exact kk
    · rw [if_neg cp] at kk
      walk_at "w"
      exact kk
  · rw [if_neg cl] at kk
    walk_at "w"
    by_cases cp : 0 < x - y
    · rw [if_pos cp] at kk
      walk_at "w"
      exact kk
    · rw [if_neg cp] at kk
      walk_at "w"
      exact kk

end
section
def sdI (d : Int) : Int := if d = 0 then 0 else if d < 0 then -1 else 1
theorem sd_neg {d : Int} (h : d < 0) : sdI d = -1 := by
  unfold sdI
  rw [if_neg (by omega), if_pos h]
theorem sd_pos {d : Int} (h : 0 < d) : sdI d = 1 := by
  unfold sdI
  rw [if_neg (by omega), if_neg (by omega)]
section
variable {h1 l1 h2 l2 : List Int} {r1 r2 : Int} {S m : Nat}
theorem tv_fVs {h l : List Int} {r : Int} (hl : l ≠ []) (j : Nat) : TV h l r j = some (fV h l r j) := by
  unfold TV
  rw [if_neg hl]
theorem sgT_sd (n1 : l1 ≠ []) (n2 : l2 ≠ []) (j : Nat) : sgT h1 l1 r1 h2 l2 r2 j = sdI (fV h1 l1 r1 j - fV h2 l2 r2 j) := by
  show sgO _ _ = _
  rw [tv_fVs n1, tv_fVs n2, sgO_some]
  unfold sdI
  repeat' split
  all_goals omega
theorem D_perN (n1 : l1 ≠ []) (n2 : l2 ≠ []) (d1 : l1.length ∣ m) (d2 : l2.length ∣ m) (S1 : h1.length ≤ S) (S2 : h2.length ≤ S) {j : Nat} (hj : S ≤ j) (t : Nat) :
    fV h1 l1 r1 (j + m * t) - fV h2 l2 r2 (j + m * t) = (fV h1 l1 r1 j - fV h2 l2 r2 j) + (slp l1 r1 m - slp l2 r2 m) * t := by
  rw [fV_perN n1 d1 (by omega), fV_perN n2 d2 (by omega), Int.sub_mul]
  omega
theorem evp_zero (n1 : l1 ≠ []) (n2 : l2 ≠ []) (d1 : l1.length ∣ m) (d2 : l2.length ∣ m) (S1 : h1.length ≤ S) (S2 : h2.length ≤ S) (c : slp l1 r1 m - slp l2 r2 m = 0) : Evp (sgT h1 l1 r1 h2 l2 r2) S m := by
  intro j hj
  have := D_perN (r1 := r1) (r2 := r2) n1 n2 d1 d2 S1 S2 hj 1
  rw [Nat.mul_one, c] at this
  rw [sgT_sd n1 n2, sgT_sd n1 n2, this]
  congr 1
  omega
theorem lastO_ok {d c : Int} {m j t : Nat} (c0 : c ≠ 0) (h : lastO d c m ((j : Int) + 1) ≤ (j : Int) + (m : Int) * t) : sdI (d + c * t) = sdI c := by
  unfold lastO at h
  have key : ∀ e g : Int, 0 < g → (if e > 0 then (0 : Int) else (j : Int) + 1 + -e / g * m) ≤ (j : Int) + (m : Int) * t → 0 < e + g * t := fun e g g0 h => by
    have tn : 0 ≤ g * (t : Int) := Int.mul_nonneg (by omega) (by omega)
    by_cases c : e > 0
    · omega
    · rw [if_neg c] at h
      have lt : -e / g < (t : Int) := by
        rcases (by omega : -e / g < (t : Int) ∨ (t : Int) ≤ -e / g) with q | q
        · exact q
        · have := Int.mul_le_mul_of_nonneg_right q (show (0 : Int) ≤ (m : Int) by omega)
          rw [Int.mul_comm (m : Int)] at h
          omega
      have a := Int.lt_ediv_add_one_mul_self (-e) g0
      have b : (-e / g + 1) * g ≤ (t : Int) * g := Int.mul_le_mul_of_nonneg_right (by omega) (by omega)
      rw [Int.mul_comm (t : Int)] at b
      omega
  rcases Int.lt_or_gt_of_ne c0 with n | p
  · rw [if_pos n] at h
    have := key (-d) (-c) (by omega) (by rw [show ((c.natAbs : Nat) : Int) = -c by omega] at h; exact h)
    rw [Int.neg_mul] at this
    rw [sd_neg n, sd_neg (by omega)]
  · rw [if_neg (show ¬ c < 0 by omega)] at h
    have := key d c p (by rw [show ((c.natAbs : Nat) : Int) = c by omega] at h; exact h)
    rw [sd_pos p, sd_pos this]
theorem evp_last (n1 : l1 ≠ []) (n2 : l2 ≠ []) (d1 : l1.length ∣ m) (d2 : l2.length ∣ m) (m1 : 1 ≤ m) (S1 : h1.length ≤ S) (S2 : h2.length ≤ S) (c : slp l1 r1 m - slp l2 r2 m ≠ 0) {L : Nat} (SL : S ≤ L)
    (h : ∀ j : Nat, S ≤ j → j < S + m → lastO (fV h1 l1 r1 j - fV h2 l2 r2 j) (slp l1 r1 m - slp l2 r2 m) m ((j : Int) + 1) ≤ L) : (∀ j, L ≤ j → sgT h1 l1 r1 h2 l2 r2 j = sdI (slp l1 r1 m - slp l2 r2 m)) ∧ Evp (sgT h1 l1 r1 h2 l2 r2) L 1 := by
  have key : ∀ j, L ≤ j → sgT h1 l1 r1 h2 l2 r2 j = sdI (slp l1 r1 m - slp l2 r2 m) := fun j hj => by
    obtain ⟨i, t, i1, i2, e⟩ : ∃ i t, S ≤ i ∧ i < S + m ∧ j = i + m * t := ⟨S + (j - S) % m, (j - S) / m, by omega, by have := Nat.mod_lt (j - S) m1; omega, by have := Nat.mod_add_div (j - S) m; omega⟩
    have hl := h i i1 i2
    rw [sgT_sd n1 n2, e, D_perN n1 n2 d1 d2 S1 S2 i1 t]
    refine lastO_ok (m := m) (j := i) c (Int.le_trans hl ?_)
    have : ((j : Nat) : Int) = (i : Int) + (m : Int) * t := by rw [e, Int.natCast_add, Int.natCast_mul]
    omega
  exact ⟨key, fun j hj => by rw [key j hj, key (j + 1) (by omega)]⟩
theorem evp_end (e : l1 = [] ∨ l2 = []) (S1 : h1.length ≤ S) (S2 : h2.length ≤ S) : Evp (sgT h1 l1 r1 h2 l2 r2) S 1 := by
  have key : ∀ {h : List Int} {r : Int} {j : Nat}, h.length ≤ j → TV h [] r j = none := fun {h r j} hj => by
    unfold TV
    rw [if_pos rfl]
    exact List.getElem?_eq_none hj
  have shape : ∀ j, S ≤ j → sgT h1 l1 r1 h2 l2 r2 j = if l1 = [] then (if l2 = [] then 0 else 1) else -1 := fun j hj => by
    show sgO _ _ = _
    by_cases c1 : l1 = []
    · subst c1
      rw [if_pos rfl, key (by omega)]
      by_cases c2 : l2 = []
      · subst c2
        rw [if_pos rfl, key (by omega)]
        rfl
      · rw [if_neg c2, tv_fVs c2]
        simp [sgO, leO]
    · rw [if_neg c1]
      obtain rfl := e.resolve_left c1
      rw [key (by omega), tv_fVs c1]
      simp [sgO, leO]
  intro j hj
  rw [shape j hj, shape (j + 1) (by omega)]
theorem lastO_le {d c : Int} {m : Nat} {p B : Int} (c0 : c ≠ 0) (p0 : 0 ≤ p) (hB : -B ≤ d ∧ d ≤ B) (b0 : 0 ≤ B) : lastO d c m p ≤ p + B / (c.natAbs : Int) * m ∧ 0 ≤ lastO d c m p := by
  have g0 : (0 : Int) < (c.natAbs : Int) := by omega
  have q0 : 0 ≤ B / (c.natAbs : Int) := Int.ediv_nonneg b0 (by omega)
  have m0 : 0 ≤ B / (c.natAbs : Int) * (m : Int) := Int.mul_nonneg q0 (by omega)
  unfold lastO
  generalize he : (if c < 0 then -d else d) = e
  have e1 : -B ≤ e ∧ e ≤ B := by rw [← he]; split <;> omega
  by_cases h : e > 0
  · rw [if_pos h]
    omega
  · rw [if_neg h]
    have a : -e / (c.natAbs : Int) ≤ B / (c.natAbs : Int) := Int.ediv_le_ediv g0 (by omega)
    have a0 : 0 ≤ -e / (c.natAbs : Int) := Int.ediv_nonneg (by omega) (by omega)
    have b := Int.mul_le_mul_of_nonneg_right a (show (0 : Int) ≤ (m : Int) by omega)
    have b2 := Int.mul_nonneg a0 (show (0 : Int) ≤ (m : Int) by omega)
    omega
end

end
section
abbrev N_settling : List Str := ["first", "second", "longest", "many", "climb", "last", "place"]
theorem sc_settling : FnScope N_settling ["first", "second"] (defScope s_settling) := ⟨rfl, rfl, rfl, by decide +kernel, rfl, by decide +kernel, by decide +kernel⟩
theorem ok_settling {P : Program} {w : World} {K : PySem.W.Frag} {mg : Str → Option Value} {base : Heap} (E : Env P K mg) : Fn P w K mg base CX0 4 "settling" (sp2 fun a b H Q _ => ∃ (h1 l1 h2 l2 : List Int) (r1 r2 : Int) (B : Nat), Dp K H a (dRaw h1 l1 r1) ∧ Dp K H b (dRaw h2 l2 r2) ∧ SmS h1 l1 r1 ∧ SmS h2 l2 r2 ∧ B ≤ 10000 ∧ (∀ j : Nat, j ≤ 20 → -(B : Int) ≤ fV h1 l1 r1 j - fV h2 l2 r2 j ∧ fV h1 l1 r1 j - fV h2 l2 r2 j ≤ B) ∧ ∀ p (C m : Nat) H', Ex H H' → SqT K H' p [.int C, .int m] → Evp (sgT h1 l1 r1 h2 l2 r2) C m → 1 ≤ m → m ≤ 16 → C ≤ 20 + 16 * B → Q (.ref p) H') := by
  obtain ⟨fd, F⟩ := E.dd_settling
  refine Fn.mk0 F E.g_settling sc_settling sp2_len (fun _ _ _ _ _ _ us hl => match us, hl with | [_, _], _ => rfl) (fun cdv A outer s H vs Q X hr h => ?_)
  have nd := sc_settling.nd
  obtain ⟨v0, v1, rfl, h⟩ := h
  refine ⟨_, (pss_cons (ps_asg (pc (ok_window E) hr (by decide) pass0 rfl (pa_cons (pv 0) (pa_cons (pv 1) pa_nil))) (kGtup K rfl (pgs_cons (pg_name (i := 2) nd rfl (.inl rfl)) (pgs_cons (pg_name (i := 3) nd rfl (.inl rfl)) (pgs_nil)))))
  (pss_cons (ps_if (PW.pt (pw_or (pt_cmpR (kEq K hr) (pe_callB (kLen K) (by rfl) E.f_len (by decide +kernel) (pa_cons (pe_ix (kIx K) (pv 0) (pe_int) (fun _ _ => rfl)) pa_nil)) (pe_int) (nomark _)) (pw_or1 (pt_cmpR (kEq K hr) (pe_callB (kLen K) (by rfl) E.f_len (by decide +kernel) (pa_cons (pe_ix (kIx K) (pv 1) (pe_int) (fun _ _ => rfl)) pa_nil)) (pe_int) (nomark _)))))
   (pss_one (ps_ret (pe_tup (pa_cons (pv 2) (pa_cons (pe_int) pa_nil)))))
   pss_nil)
  (pss_cons (ps_set (i := 4) nd rfl (.inl rfl) (pc (ok_climb_of E) hr (by decide) pass0 rfl (pa_cons (pv 0) (pa_cons (pv 1) (pa_cons (pv 3) pa_nil)))))
  (pss_cons (ps_if (pt_cmpR (kEq K hr) (pv 4) (pe_int) (nomark _))
   (pss_one (ps_ret (pe_tup (pa_cons (pv 2) (pa_cons (pv 3) pa_nil)))))
   pss_nil)
  (pss_cons (ps_set (i := 5) nd rfl (.inl rfl) (pv 2))
  (pss_cons (ps_for PassesOwn.never rfl (pi_range2 (by rfl) E.f_range (pa_cons (pe_op (kAdd K) (pv 2) (pe_int)) (pa_cons (pe_op (kAdd K) (pe_op (kAdd K) (pv 2) (pv 3)) (pe_int)) pa_nil))) (pg_name (i := 6) nd rfl (.inl rfl))
   (pss_one (ps_set (i := 5) nd rfl (.inl rfl) (pe_callB (xMax2 rfl) (by rfl) E.f_max (by decide +kernel) (pa_cons (pv 5) (pa_cons (pc (ok_last_other E) hr (by decide) pass0 rfl (pa_cons (pv 0) (pa_cons (pv 1) (pa_cons (pv 6) (pa_cons (pv 3) (pa_cons (pv 4) pa_nil)))))) pa_nil))))))
  (pss_one (ps_ret (pe_tup (pa_cons (pv 5) (pa_cons (pe_int) pa_nil))))))))))), ?_⟩
  change (_ : TS) _ [some v0, some v1, none, none, none, none, none] H
  try dsimp only [cxOf, Cx.nox, Cx.blk]
  obtain ⟨h1, l1, h2, l2, r1, r2, B, d1, d2, A1, A2, B1, hB, k⟩ := h
  have zh1 := A1.zh
  have zh2 := A2.zh
  have zl1 := A1.zl
  have zl2 := A2.zl
  have ll : l1.length * l2.length ≤ 4 * 4 := Nat.mul_le_mul zl1 zl2
  obtain ⟨m1, _, dv⟩ := wdM_ok (l1 := l1) (l2 := l2) (by omega) (by omega) (by omega)
  have m16 : wdM l1 l2 ≤ 16 := by
    unfold wdM
    split
    · omega
    · rename_i c
      obtain ⟨c1, c2⟩ := not_or.mp c
      have := Nat.le_of_dvd (Nat.mul_pos (List.length_pos_iff.mpr c1) (List.length_pos_iff.mpr c2)) (Nat.lcm_dvd_mul l1.length l2.length)
      omega
  walk_at "w"
  refine ⟨h1, l1, h2, l2, r1, r2, d1, d2, by omega, by omega, fun pw H1 e1 sw => ?_⟩
  generalize hm : wdM l1 l2 = m at *
  obtain ⟨S, hS⟩ : ∃ S : Nat, (S : Int) = max (h1.length : Int) h2.length := ⟨max h1.length h2.length, by omega⟩
  rw [← hS] at sw
  have S1 : h1.length ≤ S := by omega
  have S2 : h2.length ≤ S := by omega
  have S4 : S ≤ 4 := by omega
  obtain ⟨a1, th1, tl1, rfl, s1, s2, s3⟩ := dp_raw (dp_ex e1 d1)
  obtain ⟨a2, th2, tl2, rfl, t1, t2, t3⟩ := dp_raw (dp_ex e1 d2)
  have d1' := dp_ex e1 d1
  have d2' := dp_ex e1 d2
  walk_at "w"
  have endd : l1 = [] ∨ l2 = [] → ∀ p H', Ex H H' → SqT K H' p [.int S, .int 1] → Q (.ref p) H' := fun e p H' x y => k p S 1 H' x y (evp_end e S1 S2) (Nat.le_refl 1) (by decide) (by omega)
  by_cases c1 : l1 = []
  · subst c1
    walk_at "w"
    intro p H2 _ e2 g2
    exact endd (.inl rfl) p H2 (e1.trans e2) (st_of g2)
  · have l10 : 0 < l1.length := List.length_pos_iff.mpr c1
    walk_at "w"
    by_cases c2 : l2 = []
    · subst c2
      walk_at "w"
      intro p H2 _ e2 g2
      exact endd (.inr rfl) p H2 (e1.trans e2) (st_of g2)
    · have l20 : 0 < l2.length := List.length_pos_iff.mpr c2
      obtain ⟨dv1, dv2⟩ := dv c1 c2
      have sl : ∀ {l : List Int} {r : Int}, 0 < l.length → 0 ≤ r → r ≤ 12 → 0 ≤ slp l r m ∧ slp l r m ≤ 192 := fun {l r} l0 r0 r12 => by
        unfold slp
        have q0 : 0 ≤ (m : Int) / l.length := Int.ediv_nonneg (by omega) (by omega)
        have q1 : (m : Int) / l.length ≤ m := Int.ediv_le_self _ (by omega)
        have a := Int.mul_le_mul_of_nonneg_right r12 q0
        have b := Int.mul_nonneg r0 q0
        omega
      obtain ⟨x1, x2⟩ := sl l10 A1.val.r0 A1.br
      obtain ⟨x3, x4⟩ := sl l20 A2.val.r0 A2.br
      walk_at "w"
      refine ⟨h1, l1, h2, l2, r1, r2, m, d1', d2', rfl, ⟨A1.val, by omega, by omega, by have := A1.br; omega⟩, ⟨A2.val, by omega, by omega, by have := A2.br; omega⟩, by omega, c1, c2, ?_⟩
      generalize hc : slp l1 r1 m - slp l2 r2 m = c at *
      walk_at "w"
      by_cases c0 : c = 0
      · walk_at "w"
        intro p H2 _ e2 g2
        exact k p S m H2 (e1.trans e2) (st_of g2) (evp_zero c1 c2 dv1 dv2 S1 S2 (hc.trans c0)) m1 m16 (by omega)
      · walk_at "w"
        rw [show ((S : Int) + (m : Nat) + 1 - ((S : Nat) + 1)).toNat = m by omega]
        refine for_range (lo := (S : Int) + 1) (Pv := fun i σ' H' => ∃ (L : Nat) (z : Option V), σ' = [some (.ref a1), some (.ref a2), some (.int S), some (.int m), some (.int c), some (.int L), z] ∧ Ex H1 H' ∧ S ≤ L ∧ L ≤ 20 + 16 * B ∧ ∀ j : Nat, S ≤ j → j < S + i → lastO (fV h1 l1 r1 j - fV h2 l2 r2 j) c m ((j : Int) + 1) ≤ L) ⟨S, _, rfl, Ex.refl _, Nat.le_refl _, by omega, fun j a b => by omega⟩ ?_ ?_
        · rintro i σ' H2 hi ⟨L, z, rfl, e2, SL, LB, hL⟩
          walk_at "w"
          rw [show (S : Int) + 1 + (i : Int) = ((S + i : Nat) : Int) + 1 by omega]
          refine ⟨h1, l1, h2, l2, r1, r2, S + i, m, c, dp_ex e2 d1', dp_ex e2 d2', rfl, rfl, rfl, A1, A2, c1, c2, by omega, m16, c0, by omega, by omega, fun H3 e3 => ?_⟩
          obtain ⟨b1, b2⟩ := lastO_le (d := fV h1 l1 r1 (S + i) - fV h2 l2 r2 (S + i)) (c := c) (m := m) (p := ((S + i : Nat) : Int) + 1) (B := B) c0 (by omega) (hB (S + i) (by omega)) (by omega)
          have b3 : (B : Int) / (c.natAbs : Int) * m ≤ B * 16 := by
            have q0 : 0 ≤ (B : Int) / (c.natAbs : Int) := Int.ediv_nonneg (by omega) (by omega)
            have q1 : (B : Int) / (c.natAbs : Int) ≤ B := Int.ediv_le_self _ (by omega)
            have a := Int.mul_le_mul_of_nonneg_left (show (m : Int) ≤ 16 by omega) q0
            omega
          obtain ⟨v, hv⟩ := Int.eq_ofNat_of_zero_le b2
          rw [hv] at b1
          rw [hv]
          walk_at "w"
          refine ⟨max L v, _, by rw [show ((max L v : Nat) : Int) = max (L : Int) v by omega], e2.trans e3, by omega, by omega, fun j j1 j2 => ?_⟩
          by_cases cj : j = S + i
          · subst cj
            rw [hv]
            omega
          · have := hL j j1 (by omega)
            omega
        · rintro σ' H2 ⟨L, z, rfl, e2, SL, LB, hL⟩
          walk_at "w"
          intro p H3 _ e3 g3
          obtain ⟨_, ev⟩ := evp_last (r1 := r1) (r2 := r2) c1 c2 dv1 dv2 m1 S1 S2 (by rw [hc]; exact c0) SL fun j a b => by rw [hc]; exact hL j a b
          exact k p L 1 H3 ((e1.trans e2).trans e3) (st_of g3) ev (Nat.le_refl 1) (by decide) LB
abbrev N_shortest_round : List Str := ["signs", "many", "place"]
theorem sc_shortest_round : FnScope N_shortest_round ["signs"] (defScope s_shortest_round) := ⟨rfl, rfl, rfl, by decide +kernel, rfl, by decide +kernel, by decide +kernel⟩
theorem ok_shortest_round {P : Program} {w : World} {K : PySem.W.Frag} {mg : Str → Option Value} {base : Heap} (E : Env P K mg) : Fn P w K mg base CX0 1 "shortest_round" (sp1 fun v H Q _ => ∃ (p : Addr) (f : Nat → Int) (C m : Nat), v = .ref p ∧ SqL K H p (vI ((List.range m).map fun i => f (C + i))) ∧ 1 ≤ m ∧ m ≤ 16 ∧ ∀ q s H', Ex H H' → Rnd f C m s → SqL K H' q (vI ((List.range s).map fun i => f (C + i))) → Q (.ref q) H') := by
  obtain ⟨fd, F⟩ := E.dd_shortest_round
  refine Fn.mk0 F E.g_shortest_round sc_shortest_round sp1_len (fun _ _ _ _ _ _ us hl => match us, hl with | [_], _ => rfl) (fun cdv A outer s H vs Q X hr h => ?_)
  have nd := sc_shortest_round.nd
  obtain ⟨v0, rfl, h⟩ := h
  refine ⟨_, (pss_cons (ps_for PassesOwn.never rfl (pi_range2 (by rfl) E.f_range (pa_cons (pe_int) (pa_cons (pe_callB (kLen K) (by rfl) E.f_len (by decide +kernel) (pa_cons (pv 0) pa_nil)) pa_nil))) (pg_name (i := 1) nd rfl (.inr rfl))
   (pss_one (ps_if (PW.pt (pw_and (pt_cmpR (kEq K hr) (pe_op xMod (pe_callB (kLen K) (by rfl) E.f_len (by decide +kernel) (pa_cons (pv 0) pa_nil)) (pv 1)) (pe_int) (nomark _)) (pw_and1 (kTru K (pe_callB (kAll K rfl) (by rfl) E.f_all (by decide +kernel) (pa_cons (pe_lc (own := [("place", 2)]) (g := gName 2) (tt := tYes) rfl nd (pi_range2 (by rfl) E.f_range (pa_cons (pv 1) (pa_cons (pe_callB (kLen K) (by rfl) E.f_len (by decide +kernel) (pa_cons (pv 0) pa_nil)) pa_nil))) (blkOk_by (N := N_shortest_round) (sc := defScope s_shortest_round) (by decide +kernel)) (fun _ _ _ _ _ => pg_name (i := 2) nd rfl (Or.inl rfl)) (fun _ _ _ _ _ => pts_nil) (fun _ _ _ _ _ => pe_cmpR (kEq K hr) (pe_ix (kIx K) (pv 0) (pv 2) (fun _ _ => rfl)) (pe_ix (kIx K) (pv 0) (pe_op xSub (pv 2) (pv 1)) (fun _ _ => rfl)) (nomark _))) pa_nil)) (by intro _; rfl)))))
   (pss_one (ps_ret (pe_slice (kSl K) (pv 0) po_none (po_some (pv 1)))))
   pss_nil)))
  (pss_one (ps_ret (pv 0)))), ?_⟩
  change (_ : TS) _ [some v0, none, none] H
  try dsimp only [cxOf, Cx.nox, Cx.blk]
  obtain ⟨p, f, C, m, rfl, hs, m1, m16, k⟩ := h
  obtain ⟨l, hl⟩ : ∃ l, l = (List.range m).map fun i => f (C + i) := ⟨_, rfl⟩
  have zl : l.length = m := by rw [hl, List.length_map, List.length_range]
  have gl : ∀ k, k < m → gI l k = f (C + k) := fun k hk => by rw [hl]; exact gI_map_range (f := fun i => f (C + i)) hk
  rw [← hl] at hs
  have ok : ∀ t : Nat, (∀ k, t ≤ k → k < m → gI l k = gI l ((k - t : Nat) : Int)) ↔ ∀ k, t ≤ k → k < m → f (C + k) = f (C + (k - t)) := fun t => by
    refine forall_congr' fun k => forall_congr' fun h1 => forall_congr' fun h2 => ?_
    rw [gl k h2, gl (k - t) (by omega)]
  walk_at "w"
  rw [zl]
  walk_at "w"
  refine for_range (lo := 1) (Pv := fun i σ' H' => ∃ a b, σ' = [some (.ref p), a, b] ∧ Ex H H' ∧ ∀ t : Nat, 1 ≤ t → t < 1 + i → t ∣ m → ¬ ∀ k, t ≤ k → k < m → gI l k = gI l ((k - t : Nat) : Int)) ⟨_, _, rfl, Ex.refl H, fun j h1 h2 => by omega⟩ ?_ ?_
  · rintro i σ' H' hi ⟨a, b, rfl, e, hnot⟩
    obtain ⟨t, ht⟩ : ∃ t : Nat, t = 1 + i := ⟨_, rfl⟩
    rw [show (1 + (i : Int)) = (t : Int) by omega]
    have hno : ¬ (t ∣ m ∧ ∀ k, t ≤ k → k < m → gI l k = gI l ((k - t : Nat) : Int)) → ∀ u : Nat, 1 ≤ u → u < 1 + (i + 1) → u ∣ m → ¬ ∀ k, u ≤ k → k < m → gI l k = gI l ((k - u : Nat) : Int) := fun hn u h1 h2 h3 h4 => by
      by_cases hj : u = t
      · subst hj; exact hn ⟨h3, h4⟩
      · exact hnot u h1 (by omega) h3 h4
    have hs' := ex_l e hs
    walk_at "w"
    rw [zl]
    by_cases c1 : (m : Int) % t = 0
    · have dv : t ∣ m := Int.natCast_dvd_natCast.mp (Int.dvd_of_emod_eq_zero c1)
      walk_at "w"
      rw [zl]
      walk_at "w"
      rw [show ((m : Int) - (t : Nat)).toNat = m - t by omega]
      refine lcJ_range (lo := (t : Int)) (n := m - t) (v := fun j => .bl (decide (gI l ((t : Int) + j) = gI l ((t : Int) + j - t)))) (by omega) (fun y => [_, _, some y]) (fun _ => rfl) (fun _ => rfl) (fun j H1 Q' e1 hj hq => ?_) (fun q H2 n2 e2 g2 => ?_)
      · walk_at "w"
        exact hq H1 (Ex.refl _)
      · rw [map_bl_range] at g2
        walk_at "w"
        refine r_all (sq_of g2) rfl ?_
        rw [all_range]
        walk_at "w"
        have eqv : (∀ j : Nat, j < m - t → gI l ((t : Int) + j) = gI l ((t : Int) + j - t)) ↔ ∀ k, t ≤ k → k < m → gI l k = gI l ((k - t : Nat) : Int) := by
          refine ⟨fun h k h1 h2 => ?_, fun h j hj => ?_⟩
          · have := h (k - t) (by omega)
            rwa [show (t : Int) + ((k - t : Nat) : Int) = (k : Int) by omega, show (k : Int) - t = ((k - t : Nat) : Int) by omega] at this
          · have := h (t + j) (by omega) (by omega)
            rwa [show ((t + j : Nat) : Int) = (t : Int) + j by omega, show ((t + j - t : Nat) : Int) = (t : Int) + j - t by omega] at this
        by_cases c3 : ∀ j : Nat, j < m - t → gI l ((t : Int) + j) = gI l ((t : Int) + j - t)
        · walk_at "w"
          intro q3 H3 n3 e3 g3
          have c4 := eqv.mp c3
          refine k q3 t H3 ((e.trans e2).trans e3) ⟨by omega, dv, (ok t).mp c4, fun u u1 u2 u3 h => hnot u u1 (by omega) u3 ((ok u).mpr h)⟩ ?_
          rw [show (List.range t).map (fun i => f (C + i)) = l.take t by rw [hl, ← List.map_take, List.take_range, Nat.min_eq_left (by omega)]]
          exact sq_of g3
        · walk_at "w"
          exact ⟨_, _, rfl, e.trans e2, hno fun h => c3 (eqv.mpr h.2)⟩
    · walk_at "w"
      exact ⟨_, _, rfl, e, hno fun h => c1 (Int.emod_eq_zero_of_dvd (Int.natCast_dvd_natCast.mpr h.1))⟩
  · rintro σ' H' ⟨a, b, rfl, e, hnot⟩
    walk_at "w"
    refine k p m H' e ⟨m1, Nat.dvd_refl m, fun k h1 h2 => by omega, fun t t1 t2 t3 h => hnot t t1 (by omega) t3 ((ok t).mpr h)⟩ ?_
    rw [← hl]
    exact ex_l e hs

end
section
theorem cut_last {xs : List V} {n : Nat} (h : xs.length = n + 1) : cutV xs (some (-1)) none = xs.drop n ∧ cutV xs none (some (-1)) = xs.take n := by
  have a : HT.sIx xs.length 0 (some (-1)) = n := by
    unfold HT.sIx
    rw [h]
    simp
    omega
  have b : HT.sIx xs.length xs.length (some (-1)) = n := by
    unfold HT.sIx
    rw [h]
    simp
    omega
  have c : HT.sIx xs.length xs.length none = n + 1 := by rw [← h]; rfl
  have d : HT.sIx xs.length 0 none = 0 := rfl
  refine ⟨?_, ?_⟩
  · unfold cutV
    rw [a, c, List.take_of_length_le (by rw [List.length_drop]; omega)]
  · unfold cutV
    rw [d, b, List.drop_zero, Nat.sub_zero]
theorem rot {f : Nat → Int} {c s : Nat} (s1 : 1 ≤ s) (e : f (c + s) = f c) : ((List.range s).map fun i => f (c + 1 + i)).drop (s - 1) ++ ((List.range s).map fun i => f (c + 1 + i)).take (s - 1) = (List.range s).map fun i => f (c + i) := by
  refine List.ext_getElem (by simp <;> omega) fun k h1 h2 => ?_
  simp only [List.length_map, List.length_range] at h2
  simp only [List.getElem_append, List.length_drop, List.length_map, List.length_range, List.getElem_drop, List.getElem_map, List.getElem_range, List.getElem_take]
  split
  · rename_i h
    have : k = 0 := by omega
    subst this
    rw [show c + 1 + (s - 1 + 0) = c + s by omega, e]
    rfl
  · congr 1
    omega
theorem kn_hl : ¬ (("head" : Str) = "loop") := by decide +kernel
def siF (a b : V) : List (Str × V) := putF "loop" b (putF "head" a [])
section
variable {a b : V}
theorem siF_he : (siF a b).lookup ("head" : Str) = some a := by
  unfold siF
  rw [lookup_putF, if_neg kn_hl, lookup_putF, if_pos rfl]
theorem siF_lo : (siF a b).lookup ("loop" : Str) = some b := by
  unfold siF
  rw [lookup_putF, if_pos rfl]
theorem siF_no {m : Str} (h1 : ¬ m = "head") (h2 : ¬ m = "loop") : (siF a b).lookup m = none := by
  unfold siF
  rw [lookup_putF, if_neg h2, lookup_putF, if_neg h1]
  rfl
end
/-- sides stand at x -/
def SidAt (K : PySem.W.Frag) (H : Hp) (x : Addr) (hs ls : List Int) : Prop := ∃ dx vh vl, H x = some (.ins (He.ga K "Sides") dx (siF vh vl)) ∧ Dp K H vh (dInts hs) ∧ Dp K H vl (dInts ls)
theorem ex_sid {K : PySem.W.Frag} {H H' : Hp} {x : Addr} {hs ls : List Int} (e : Ex H H') (t : SidAt K H x hs ls) : SidAt K H' x hs ls := by
  obtain ⟨dx, vh, vl, h1, h2, h3⟩ := t
  exact ⟨dx, vh, vl, e _ _ h1, dp_ex e h2, dp_ex e h3⟩
theorem tex_fri {H H' : Hp} {p C dx : Addr} {fs : List (Str × V)} (hp : H p = some (.ins C dx fs)) (f : Fr p H H') : TEx H H' := fun b xs q => by
  have hb : b ≠ p := by
    rintro rfl
    rcases q with q | ⟨o', q⟩ <;> rw [hp] at q <;> cases q
  rcases q with q | ⟨o', q⟩
  · exact .inl (f b _ hb q)
  · exact .inr ⟨o', f b _ hb q⟩
theorem sqL_fri {K : PySem.W.Frag} {H H' : Hp} {p a C dx : Addr} {fs : List (Str × V)} {xs : List V} (hp : H p = some (.ins C dx fs)) (f : Fr p H H') (s : SqL K H a xs) : SqL K H' a xs := by
  have key : ∀ u, H a = some u → (∃ o', u = .frz o' (.lst xs)) ∨ u = .lst xs → a ≠ p := by
    rintro u hu hc rfl
    rw [hp] at hu
    cases hu
    rcases hc with ⟨_, hc⟩ | hc <;> cases hc
  rcases s with (s | ⟨o', s⟩) | s
  · exact .inl (.inl (f _ _ (key _ s (.inr rfl)) s))
  · exact .inl (.inr ⟨o', f _ _ (key _ s (.inl ⟨o', rfl⟩)) s⟩)
  · exact .inr s
abbrev spSides (K : PySem.W.Frag) : Sp := sp3 fun x a b H Q X => ∃ (p dx f s : Addr) (h1 l1 h2 l2 : List Int) (r1 r2 : Int) (B : Nat), x = .ref p ∧ a = .ref f ∧ b = .ref s ∧ H p = some (.ins (He.ga K "Sides") dx []) ∧ TabAt K H f h1 l1 r1 ∧ TabAt K H s h2 l2 r2 ∧ SmS h1 l1 r1 ∧ SmS h2 l2 r2 ∧ B ≤ 10000 ∧
  (∀ j : Nat, j ≤ 20 → -(B : Int) ≤ fV h1 l1 r1 j - fV h2 l2 r2 j ∧ fV h1 l1 r1 j - fV h2 l2 r2 j ≤ B) ∧
  ∀ c s, Can (sgT h1 l1 r1 h2 l2 r2) c s → s ≤ 16 → c ≤ 20 + 16 * B → (c ≤ 5000 → ∀ H', SidAt K H' p ((List.range c).map (sgT h1 l1 r1 h2 l2 r2)) ((List.range s).map fun i => sgT h1 l1 r1 h2 l2 r2 (c + i)) → Fr p H H' → Q .non H') ∧ (5000 < c → ∀ dd H', Ex H H' → H' dd = some (.xd [("word", .str "place")]) → X (.ref (He.ga K "TooMany")) (some dd) H')
abbrev N_TooMany_init : List Str := ["self", "word", "__class__"]
abbrev rest_TooMany_init : List Stmt := (defBody s_TooMany_init).drop 1
theorem sc_TooMany_init : NdefX.NScope N_TooMany_init ["self", "word"] ["__class__"] (defScope s_TooMany_init) := NdefX.nscope_by (by decide +kernel)
theorem fx_TooMany_init {P : Program} {w : World} {K : PySem.W.Frag} {mg : Str → Option Value} {base : Heap} (E : Env P K mg) : ∃ fd, FunS K "__init__" "TooMany.__init__" (defArgs s_TooMany_init) (defBody s_TooMany_init) (defScope s_TooMany_init) (d_TooMany_init.adr K) fd (cellOf K (d_TooMany_init.adr K)) (codeOf K (d_TooMany_init.adr K)) ∧ FnOk P w K mg base CX0 1 (d_TooMany_init.adr K) fd ["self", "word"] (spXS K (He.ga K "TooMany") "word") := by
  obtain ⟨fd, F⟩ := E.dd_TooMany_init
  refine ⟨fd, F, XS.fnsupx (rest := rest_TooMany_init) (k := 0) F E.supx_TooMany rfl sc_TooMany_init (by decide +kernel) rfl rfl rfl sp2_len (fun A outer s H vs Q X hr h => ?_)⟩
  have nd := sc_TooMany_init.nd
  obtain ⟨v0, v1, rfl, x, C, w, rfl, rfl, hw, hx, T, U, hf, k⟩ := h
  have js_len : ∀ {y : Str}, y.length ≤ 100000 → y.length ≤ sizeLine := fun q => sz_of q
  refine ⟨_, _, x, C, pe_joined (.cons pe_str (.cons (pe_fmt (pv 1)) (.nil))), pss_one (ps_ost (pv 0) (pv 1)), rfl, hx, T, U, ?_⟩
  have lc0 : ("too many: " : Str).length = 10 := by decide +kernel
  have lce : (Str.empty).length = 0 := by decide +kernel
  refine w_js (w_c ⟨_, rfl, ?_, ?_⟩)
  · exact js_len (by simp only [sapp_len, lce, lc0]; omega)
  refine w_js (w_fmtV rfl (js_len (by omega)) ⟨_, rfl, ?_, ?_⟩)
  · exact js_len (by simp only [sapp_len, lce, lc0]; omega)
  refine w_js0 ⟨rfl, hx, ?_⟩
  exact ⟨.str w, rfl, .ref x, rfl, x, C, rfl, T, hf, .inl ⟨hx, fun dx n1 n2 => k dx n1 n2⟩⟩
theorem ok_X_TooMany {P : Program} {w : World} {K : PySem.W.Frag} {mg : Str → Option Value} {base : Heap} (E : Env P K mg) : Xcl P w K mg base 1 "TooMany" (He.ga K "TooMany") (spXS K (He.ga K "TooMany") "word") := by
  obtain ⟨fd, F, k⟩ := fx_TooMany_init (P := P) (w := w) (base := base) E
  exact ⟨_, fd, _, E.ox_TooMany, E.xi_TooMany, E.xt_TooMany, k, E.g_TooMany, F.bindsN (fun _ _ _ _ _ _ us hl => match us, hl with | [_, _], _ => rfl)⟩
abbrev N_WrongThing_init : List Str := ["self", "thing", "__class__"]
abbrev rest_WrongThing_init : List Stmt := (defBody s_WrongThing_init).drop 1
theorem sc_WrongThing_init : NdefX.NScope N_WrongThing_init ["self", "thing"] ["__class__"] (defScope s_WrongThing_init) := NdefX.nscope_by (by decide +kernel)
theorem fx_WrongThing_init {P : Program} {w : World} {K : PySem.W.Frag} {mg : Str → Option Value} {base : Heap} (E : Env P K mg) : ∃ fd, FunS K "__init__" "WrongThing.__init__" (defArgs s_WrongThing_init) (defBody s_WrongThing_init) (defScope s_WrongThing_init) (d_WrongThing_init.adr K) fd (cellOf K (d_WrongThing_init.adr K)) (codeOf K (d_WrongThing_init.adr K)) ∧ FnOk P w K mg base CX0 1 (d_WrongThing_init.adr K) fd ["self", "thing"] (spXI K (He.ga K "WrongThing") "thing") := by
  obtain ⟨fd, F⟩ := E.dd_WrongThing_init
  refine ⟨fd, F, XS.fnsupx (rest := rest_WrongThing_init) (k := 0) F E.supx_WrongThing rfl sc_WrongThing_init (by decide +kernel) rfl rfl rfl sp2_len (fun A outer s H vs Q X hr h => ?_)⟩
  have nd := sc_WrongThing_init.nd
  obtain ⟨v0, v1, rfl, x, C, rfl, hx, T, U, hf, k⟩ := h
  refine ⟨_, _, x, C, pe_str, pss_one (ps_ost (pv 0) (pv 1)), rfl, hx, T, U, ?_⟩
  refine w_c ⟨rfl, hx, ?_⟩
  exact ⟨v1, rfl, .ref x, rfl, x, C, rfl, T, hf, .inl ⟨hx, fun dx n1 n2 => k dx n1 n2⟩⟩
theorem ok_X_BadCount {P : Program} {w : World} {K : PySem.W.Frag} {mg : Str → Option Value} {base : Heap} (E : Env P K mg) : Xcl P w K mg base 1 "BadCount" (He.ga K "BadCount") (spXI K (He.ga K "WrongThing") "thing") := by
  obtain ⟨fd, F, k⟩ := fx_WrongThing_init (P := P) (w := w) (base := base) E
  exact ⟨_, fd, _, E.ox_BadCount, E.xi_BadCount, E.xt_BadCount, k, E.g_BadCount, F.bindsN (fun _ _ _ _ _ _ us hl => match us, hl with | [_, _], _ => rfl)⟩
abbrev N_Sides_init : List Str := ["self", "first", "second", "one", "other", "cut", "many", "loop", "place"]
theorem sc_Sides_init : FnScope N_Sides_init ["self", "first", "second"] (defScope s_Sides_init) := ⟨rfl, rfl, rfl, by decide +kernel, rfl, by decide +kernel, by decide +kernel⟩
theorem fx_Sides_init {P : Program} {w : World} {K : PySem.W.Frag} {mg : Str → Option Value} {base : Heap} (E : Env P K mg) : ∃ fd, FunD K "__init__" "Sides.__init__" (defArgs s_Sides_init) (defBody s_Sides_init) (defScope s_Sides_init) (d_Sides_init.dvs K) [] (d_Sides_init.adr K) fd ∧ FnOk P w K mg base (L2.CX P w) 5 (d_Sides_init.adr K) fd ["self", "first", "second"] (spSides K) := by
  obtain ⟨fd, F⟩ := E.dd_Sides_init
  refine ⟨fd, F, fnokX F sc_Sides_init sp3_len (fun cdv A outer s H vs Q X hr h tk => ?_)⟩
  have nd := sc_Sides_init.nd
  obtain ⟨v0, v1, v2, rfl, h⟩ := h
  refine ⟨_, (pss_cons (ps_asg (pe_tup (pa_cons (pmt0 (ok_Table_raw E) hr (by decide) pass0 (pv 1)) (pa_cons (pmt0 (ok_Table_raw E) hr (by decide) pass0 (pv 2)) pa_nil))) (kGtup K rfl (pgs_cons (pg_name (i := 3) nd rfl (.inr rfl)) (pgs_cons (pg_name (i := 4) nd rfl (.inr rfl)) (pgs_nil)))))
  (pss_cons (ps_asg (pc (ok_settling E) hr (by decide) pass0 rfl (pa_cons (pv 3) (pa_cons (pv 4) pa_nil))) (kGtup K rfl (pgs_cons (pg_name (i := 5) nd rfl (.inr rfl)) (pgs_cons (pg_name (i := 6) nd rfl (.inl rfl)) (pgs_nil)))))
  (pss_cons (ps_set (i := 7) nd rfl (.inl rfl) (pc (ok_shortest_round E) hr (by decide) pass0 rfl (pa_cons (pe_lc (own := [("place", 8)]) (g := gName 8) (tt := tYes) rfl nd (pi_range1 (by rfl) E.f_range (pa_cons (pv 6) pa_nil)) (blkOk_by (N := N_Sides_init) (sc := defScope s_Sides_init) (by decide +kernel)) (fun _ _ _ _ _ => pg_name (i := 8) nd rfl (Or.inl rfl)) (fun _ _ _ _ _ => pts_nil) (fun _ _ _ _ _ => pc (ok_sign_at E) hr (by decide) pass0 rfl (pa_cons (pv 3) (pa_cons (pv 4) (pa_cons (pe_op (kAdd K) (pe_op (kAdd K) (pv 5) (pe_int)) (pv 8)) pa_nil))))) pa_nil)))
  (pss_cut (ps_while (passes_of rfl) (PW.pt (pw_and (pt_cmpR op_gt (pv 5) (pe_int) (nomark _)) (pw_and1 (pt_cmpR (kEq K hr) (pc (ok_sign_at E) hr (by decide) pass0 rfl (pa_cons (pv 3) (pa_cons (pv 4) (pa_cons (pv 5) pa_nil)))) (pe_ix (kIx K) (pv 7) (pe_un un_neg (pe_int)) (fun _ _ => rfl)) (nomark _)))))
   (pss_cons (ps_set (i := 7) nd rfl (.inl rfl) (pe_op (kAdd K) (pe_slice (kSl K) (pv 7) (po_some (pe_un un_neg (pe_int))) po_none) (pe_slice (kSl K) (pv 7) po_none (po_some (pe_un un_neg (pe_int))))))
  (pss_one (ps_aug (i := 5) nd rfl (.inr rfl) (pe_int) ip_sub))))
  (pss_cons (ps_if (pt_cmpR op_gt (pv 5) ((E.k_MOST_PLACES).elim fun t e => pe_glob (v := .int 5000) (by rfl) e ⟨t, rfl⟩) (nomark _))
   (pss_one (praise (ok_X_TooMany E) hr (by decide) rfl tk rfl (pa_cons (pe_str) pa_nil)))
   pss_nil)
  (pss_cons (kFldS K (ps_fld (pv 0) (pe_callTy (kTup K) (by rfl) E.f_tuple (by decide +kernel) (pa_cons (pe_lc (own := [("place", 8)]) (g := gName 8) (tt := tYes) rfl nd (pi_range1 (by rfl) E.f_range (pa_cons (pv 5) pa_nil)) (blkOk_by (N := N_Sides_init) (sc := defScope s_Sides_init) (by decide +kernel)) (fun _ _ _ _ _ => pg_name (i := 8) nd rfl (Or.inl rfl)) (fun _ _ _ _ _ => pts_nil) (fun _ _ _ _ _ => pc (ok_sign_at E) hr (by decide) pass0 rfl (pa_cons (pv 3) (pa_cons (pv 4) (pa_cons (pe_op (kAdd K) (pv 8) (pe_int)) pa_nil))))) pa_nil)) rfl))
  (pss_one (kFldS K (ps_fld (pv 0) (pe_callTy (kTup K) (by rfl) E.f_tuple (by decide +kernel) (pa_cons (pv 7) pa_nil)) rfl))))))))), ?_⟩
  change (_ : TS) _ [some v0, some v1, some v2, none, none, none, none, none, none] H
  try dsimp only [cxOf, Cx.nox, Cx.blk]
  obtain ⟨p, dx, f, s, h1, l1, h2, l2, r1, r2, B, rfl, rfl, rfl, hp, T1, T2, A1, A2, B1, hB, k⟩ := h
  have m5000 : (5000 : Int) ≤ 5000 := Int.le_refl _
  walk_at "w"
  obtain ⟨dx1, th1, tl1, i1, _⟩ := id T1
  refine r_meth i1 (tFlds_no (by decide) (by decide) (by decide)) ?_
  walk_at "w"
  refine w_callM1 ⟨f, h1, l1, r1, rfl, T1, fun v1 Ha ea da => ?_⟩
  walk_at "w"
  obtain ⟨dx2, th2, tl2, i2, _⟩ := id (ex_tab ea T2)
  refine r_meth i2 (tFlds_no (by decide) (by decide) (by decide)) ?_
  walk_at "w"
  refine w_callM1 ⟨s, h2, l2, r2, rfl, ex_tab ea T2, fun v2 Hb eb db => ?_⟩
  have da := dp_ex eb da
  have hpb := (ea.trans eb) _ _ hp
  have exb := ea.trans eb
  clear T1 T2 i1 i2
  walk_at "w"
  intro pz Hc nc ec gc
  walk_at "w"
  refine ⟨h1, l1, h2, l2, r1, r2, B, dp_ex ec da, dp_ex ec db, A1, A2, B1, hB, fun q C m Hd ed sq EV m1 m16 CB => ?_⟩
  have da := dp_ex (ec.trans ed) da
  have db := dp_ex (ec.trans ed) db
  have exd := (exb.trans ec).trans ed
  obtain ⟨g, hg⟩ : ∃ g, g = sgT h1 l1 r1 h2 l2 r2 := ⟨_, rfl⟩
  rw [← hg] at EV k
  clear ec gc
  walk_at "w"
  refine lcJ_r0 (n := m) (v := fun j => .int (g (C + j))) (by omega) (fun y => [_, _, _, _, _, _, _, none, some y]) (fun _ => rfl) (fun _ => rfl) (fun j H6 Q' e6 hj hq => ?_) (fun pl H6 n6 e6 g6 => ?_)
  · walk_at "w"
    refine ⟨h1, l1, h2, l2, r1, r2, C + j, dp_ex e6 da, dp_ex e6 db, by rw [show (C : Int) + 1 + (j : Int) = ((C + j : Nat) : Int) + 1 by omega], A1.val.sm, A2.val.sm, fun H7 e7 => ?_⟩
    rw [← hg]
    exact hq H7 e7
  walk_at "w"
  rw [show (List.range m).map (fun j => V.int (g (C + j))) = vI ((List.range m).map fun i => g (C + i)) from (List.map_map ..).symm] at g6
  refine ⟨pl, g, C, m, rfl, sq_of g6, m1, m16, fun q sz H7 e7 RN sl7 => ?_⟩
  have ex7 := (exd.trans e6).trans e7
  have da := dp_ex (e6.trans e7) da
  have db := dp_ex (e6.trans e7) db
  have s1 := RN.s1
  have sm := Nat.le_of_dvd m1 RN.dvd
  have CAN := RN.can m1 EV
  have CL := cutF_le g sz C
  have PER := RN.evp m1 EV
  clear n6 g6 e6
  walk_at "w"
  refine w_cut (M := fun σ' H' => ∃ (c : Nat) (ql : Addr), σ' = [some (.ref p), some (.ref f), some (.ref s), some v1, some v2, some (.int c), some (.int m), some (.ref ql), none] ∧ Ex H7 H' ∧ cutF g sz C = c ∧ SqL K H' ql (vI ((List.range sz).map fun i => g (c + i)))) ?_ ?_
  · refine ⟨fun n σ' H' => ∃ ql, σ' = [some (.ref p), some (.ref f), some (.ref s), some v1, some v2, some (.int n), some (.int m), some (.ref ql), none] ∧ Ex H7 H' ∧ n ≤ C ∧ cutF g sz C = cutF g sz n ∧ SqL K H' ql (vI ((List.range sz).map fun i => g (n + i))), ⟨C, q, rfl, Ex.refl _, Nat.le_refl _, rfl, sl7⟩, ?_⟩
    rintro n σ' H' ⟨ql, rfl, e, nC, hc, sl⟩
    have da := dp_ex e da
    have db := dp_ex e db
    walk_at "w"
    cases n with
    | zero =>
      walk_at "w"
      exact ⟨0, ql, rfl, e, hc, sl⟩
    | succ n =>
      have n0 : (0 : Int) < ((n + 1 : Nat) : Int) := by omega
      walk_at "w"
      refine ⟨h1, l1, h2, l2, r1, r2, n, da, db, by rw [Int.natCast_add]; rfl, A1.val.sm, A2.val.sm, fun H8 e8 => ?_⟩
      rw [← hg]
      have sl8 := ex_l e8 sl
      have zl : ((List.range sz).map fun i => g (n + 1 + i)).length = sz := by rw [List.length_map, List.length_range]
      walk_at "w"
      have gl : gI ((List.range sz).map fun i => g (n + 1 + i)) (-1 + (((List.range sz).map fun i => g (n + 1 + i)).length : Int)) = g (n + sz) := by
        rw [zl, show (-1 : Int) + (sz : Nat) = ((sz - 1 : Nat) : Int) by omega, gI_map_range (f := fun i => g (n + 1 + i)) (by omega)]
        congr 1
        omega
      rw [gl]
      by_cases c : g n = g (n + sz)
      · walk_at "w"
        refine ⟨_, fun σ2 H2 h2 => ⟨n, Nat.lt_succ_self n, h2⟩, ?_⟩
        have zv : (vI ((List.range sz).map fun i => g (n + 1 + i))).length = (sz - 1) + 1 := by
          show (List.map _ _).length = _
          rw [List.length_map, zl]
          omega
        walk_at "w"
        refine r_slL sl8 fun p1 I1 m1' i1 k1 => ?_
        rw [(cut_last zv).1] at k1
        walk_at "w"
        refine r_slL (ex_l i1 sl8) fun p2 I2 m2' i2 k2 => ?_
        rw [(cut_last zv).2] at k2
        refine r_addL (i2 _ _ k1) k2 (sz_of (by rw [List.length_drop, List.length_take, zv]; omega)) fun p3 I3 m3' i3 k3 => ?_
        have ev : (vI ((List.range sz).map fun i => g (n + 1 + i))).drop (sz - 1) ++ (vI ((List.range sz).map fun i => g (n + 1 + i))).take (sz - 1) = vI ((List.range sz).map fun i => g (n + i)) := by
          show (List.map V.int _).drop _ ++ (List.map V.int _).take _ = List.map V.int _
          rw [← List.map_drop, ← List.map_take, ← List.map_append, rot s1 c.symm]
        rw [ev] at k3
        walk_at "w"
        refine ⟨_, rfl, ?_⟩
        walk_at "w"
        refine ⟨_, _, rfl, rfl, ?_⟩
        have en : ((n + 1 : Nat) : Int) - 1 = (n : Int) := by omega
        refine ⟨p3, congrArg (fun z => [some (V.ref p), some (V.ref f), some (V.ref s), some v1, some v2, some (V.int z), some (V.int m), some (V.ref p3), none]) en, (((e.trans e8).trans i1).trans i2).trans i3, by omega, ?_, sq_of k3⟩
        rw [hc]
        exact if_pos c.symm
      · walk_at "w"
        refine ⟨n + 1, ql, rfl, e.trans e8, ?_, sl8⟩
        rw [hc]
        exact if_neg fun q => c q.symm
  rintro σ' H8 ⟨c, ql, rfl, e8, hc, sl⟩
  rw [hc] at CAN CL
  obtain ⟨kA, kB⟩ := k c sz CAN (by omega) (by omega)
  have da := dp_ex e8 da
  have db := dp_ex e8 db
  have hp8 := (ex7.trans e8) _ _ hp
  have E8 := ex7.trans e8
  clear sl7 e8 ex7
  walk_at "w"
  by_cases h5 : (5000 : Int) < (c : Nat)
  · walk_at "w"
    refine w_raise ?_
    walk_at "w"
    refine r_mkOS E.ox_TooMany E.xs_TooMany E.nf_TooMany_word (by decide +kernel) fun dd H' n e g => ?_
    exact kB (by omega) dd H' (E8.trans e) g
  · walk_at "w"
    refine lcJ_r0 (n := c) (v := fun j => .int (g j)) (by omega) (fun y => [_, _, _, _, _, _, _, _, some y]) (fun _ => rfl) (fun _ => rfl) (fun j H6 Q' e6 hj hq => ?_) (fun pl H9 n9 e9 g9 => ?_)
    · walk_at "w"
      refine ⟨h1, l1, h2, l2, r1, r2, j, dp_ex e6 da, dp_ex e6 db, rfl, A1.val.sm, A2.val.sm, fun H7 e7 => ?_⟩
      rw [← hg]
      exact hq H7 e7
    · rw [show (List.range c).map (fun j => V.int (g j)) = vI ((List.range c).map g) from (List.map_map ..).symm] at g9
      walk_at "w"
      intro th G0 a0 st0
      walk_at "w"
      have hpG := a0 _ _ (e9 _ _ hp8)
      have slG := ex_l (e9.trans a0) sl
      refine r_putF hpG E.c_Sides E.na_Sides_head (by decide) ?_
      have F1 : Fr p G0 (upd G0 p (.ins (He.ga K "Sides") dx (putF "head" (.ref th) []))) := Fr.upd
      have hp1 : upd G0 p (.ins (He.ga K "Sides") dx (putF "head" (.ref th) [])) p = some (.ins (He.ga K "Sides") dx (putF "head" (.ref th) [])) := upd_same
      generalize upd G0 p (.ins (He.ga K "Sides") dx (putF "head" (.ref th) [])) = G1 at *
      have st1 := tex_t (tex_fri hpG F1) st0
      have sl1 := sqL_fri hpG F1 slG
      walk_at "w"
      intro tl G2 a2 st2
      have hp2 := a2 _ _ hp1
      walk_at "w"
      refine r_putF hp2 E.c_Sides E.na_Sides_loop (Nat.lt_of_le_of_lt (putF_len _ _ _) (by decide)) ?_
      have F2 : Fr p G2 (upd G2 p (.ins (He.ga K "Sides") dx (putF "loop" (.ref tl) (putF "head" (.ref th) [])))) := Fr.upd
      have hp3 : upd G2 p (.ins (He.ga K "Sides") dx (putF "loop" (.ref tl) (putF "head" (.ref th) []))) p = some (.ins (He.ga K "Sides") dx (putF "loop" (.ref tl) (putF "head" (.ref th) []))) := upd_same
      generalize upd G2 p (.ins (He.ga K "Sides") dx (putF "loop" (.ref tl) (putF "head" (.ref th) []))) = G3 at *
      have st3 := tex_t (tex_fri hp2 F2) (ex_t a2 st1)
      have st4 := tex_t (tex_fri hp2 F2) st2
      walk_at "w"
      refine kA (by omega) G3 ⟨dx, .ref th, .ref tl, hp3, dp_of_ints st3, dp_of_ints st4⟩ ?_
      exact ((((Fr.of E8).trans (Fr.of (e9.trans a0))).trans F1).trans (Fr.of a2)).trans F2

end
section
/-! instances that are called, where exceptions are let out -/
structure CliX (P : Program) (w : World) (K : PySem.W.Frag) (mg : Str → Option Value) (base : Heap) (k : Nat) (C : Addr) (sp : Sp) : Prop where
  ex : ∃ (g : Addr) (fd : FuncData) (ps : List Str), StX.CallO K C g ∧ FnOk P w K mg base (L2.CX P w) k g fd ps sp ∧ Binds K fd ps []
section
variable {X : Cx} {k j : Nat} {C : Addr} {sp : Sp} {pos : Pos} {fe e : Expr} {es : List Expr} {tf : TE} {t : TA} {W : WX}
def tCallON (C : Addr) (sp : Sp) (tf : TE) (t : TA) : TE := fun σ H Q => tf σ H fun y H1 => ∃ a, y = V.ref a ∧ t σ H1 fun vs H2 => (∃ dx fs, H2 a = some (.ins C dx fs)) ∧ sp (V.ref a :: vs) H2 Q E0
theorem pclX (c : CliX X.prog X.w X.K X.mg X.base k C sp) (hr : Room j X.A) (hk : k ≤ j) (hf : PE X fe tf) (ha : PA X (e :: es) t)
    (ht : eval (.Call fe (e :: es) [] pos) X.env = (do callWith pos (← eval fe X.env) [] (backTo pos (starEach (e :: es) X.env)) (backToKw pos (keywordEach [] X.env))) := by rfl)
    (he : starEach (e :: es) X.env = (false, eval e X.env) :: starEach es X.env := by rfl) (hpl : (backTo pos (starEach es X.env)).any (·.1) = false := by rfl) : PE X (.Call fe (e :: es) [] pos) (tCallON C sp tf t) := by
  obtain ⟨g, fd, ps, co, F, hb⟩ := c.ex
  refine ⟨fun pins s σ H Q I h => ?_⟩
  refine Call_ (thn (hf.run pins s σ H _ I h) fun u s1 ⟨y, H1, I1, ry, a, ey, q⟩ => ?_) ht
  subst ey
  obtain rfl : u = Value.ref a := ry
  refine StX.callO_with (thn (ha.run pos pins s1 σ H1 _ I1 q) fun us s2 ⟨vs, H2, I2, r, hi, q2⟩ => ?_) he hpl
  obtain ⟨ox, od, J, hd⟩ := StX.insC_at (X := X) I2 (.inr hi)
  refine ⟨⟨C, ox, od, J, hd⟩, ?_⟩
  have r2 : Vals (V.ref a :: vs) (Value.ref a :: us) := .cons rfl r
  have hl : (Value.ref a :: us).length = ps.length := by rw [← r2.length]; exact F.len _ _ _ _ q2
  have b := hb s2 (Value.ref a :: us) I2.kIn (by rw [List.append_nil]; exact hl)
  rw [List.append_nil] at b
  refine wpAny_call (PySem.W.kco_code I2.kIn J hd co.at_ co.fn co.fi (codeAny_mono (F.run X.A X.stack s2 H2 ⟨Value.ref a :: us, []⟩ (Value.ref a :: us) (V.ref a :: vs) Q E0 (hr.mono hk) I2.env0 b r2 q2) fun r s' hq => ?_))
  cases r with
  | error e => exact passN _ _ _ _ _ _ I2 hq
  | ok fl =>
    cases fl with
    | ret u =>
      obtain ⟨v, H', I3, rv, q3⟩ := I2.after hq
      exact ⟨v, H', I3, rv, q3⟩
    | next => exact False.elim hq
    | brk => exact False.elim hq
    | cont => exact False.elim hq
theorem w_callON {σ : L2.St} {H : Hp} {Q : VK} (h : tf σ H fun y H1 => ∃ a, y = V.ref a ∧ t σ H1 fun vs H2 => (∃ dx fs, H2 a = some (.ins C dx fs)) ∧ sp (V.ref a :: vs) H2 Q E0) : tCallON C sp tf t σ H Q := h
def tCallOS (C : Addr) (sp : Sp) (W : WX) (tf : TE) (t : TA) : TE := fun σ H Q => tf σ H fun y H1 => ∃ a, y = V.ref a ∧ t σ H1 fun vs H2 => (∃ dx fs, H2 a = some (.ins C dx fs)) ∧ sp (V.ref a :: vs) H2 Q (WE W σ)
theorem pclS (c : CliX X.prog X.w X.K X.mg X.base k C sp) (hr : Room j X.A) (hk : k ≤ j) (tk : Takes X W) (hf : PE X fe tf) (ha : PA X (e :: es) t)
    (ht : eval (.Call fe (e :: es) [] pos) X.env = (do callWith pos (← eval fe X.env) [] (backTo pos (starEach (e :: es) X.env)) (backToKw pos (keywordEach [] X.env))) := by rfl)
    (he : starEach (e :: es) X.env = (false, eval e X.env) :: starEach es X.env := by rfl) (hpl : (backTo pos (starEach es X.env)).any (·.1) = false := by rfl) : PE X (.Call fe (e :: es) [] pos) (tCallOS C sp W tf t) := by
  obtain ⟨g, fd, ps, co, F, hb⟩ := c.ex
  refine ⟨fun pins s σ H Q I h => ?_⟩
  refine Call_ (thn (hf.run pins s σ H _ I h) fun u s1 ⟨y, H1, I1, ry, a, ey, q⟩ => ?_) ht
  subst ey
  obtain rfl : u = Value.ref a := ry
  refine StX.callO_with (thn (ha.run pos pins s1 σ H1 _ I1 q) fun us s2 ⟨vs, H2, I2, r, hi, q2⟩ => ?_) he hpl
  obtain ⟨ox, od, J, hd⟩ := StX.insC_at (X := X) I2 (.inr hi)
  refine ⟨⟨C, ox, od, J, hd⟩, ?_⟩
  have r2 : Vals (V.ref a :: vs) (Value.ref a :: us) := .cons rfl r
  have hl : (Value.ref a :: us).length = ps.length := by rw [← r2.length]; exact F.len _ _ _ _ q2
  have b := hb s2 (Value.ref a :: us) I2.kIn (by rw [List.append_nil]; exact hl)
  rw [List.append_nil] at b
  refine wpAny_call (PySem.W.kco_code I2.kIn J hd co.at_ co.fn co.fi (codeAny_mono (F.run X.A X.stack s2 H2 ⟨Value.ref a :: us, []⟩ (Value.ref a :: us) (V.ref a :: vs) Q (WE W σ) (hr.mono hk) I2.env0 b r2 q2) fun r s' hq => ?_))
  cases r with
  | error e => exact passAt tk σ pins H2 s2 e s' I2 hq
  | ok fl =>
    cases fl with
    | ret u =>
      obtain ⟨v, H', I3, rv, q3⟩ := I2.after hq
      exact ⟨v, H', I3, rv, q3⟩
    | next => exact False.elim hq
    | brk => exact False.elim hq
    | cont => exact False.elim hq
theorem w_callOS {σ : L2.St} {H : Hp} {Q : VK} (h : tf σ H fun y H1 => ∃ a, y = V.ref a ∧ t σ H1 fun vs H2 => (∃ dx fs, H2 a = some (.ins C dx fs)) ∧ sp (V.ref a :: vs) H2 Q (WE W σ)) : tCallOS C sp W tf t σ H Q := h
end

end
section
section
variable {P : Program} {K : PySem.W.Frag} {mg : Str → Option Value} {H : Hp} {x : Addr} {hs ls : List Int} {Q : VK}
theorem sid_mine (t : SidAt K H x hs ls) : ∃ dx fs, H x = some (.ins (He.ga K "Sides") dx fs) := by
  obtain ⟨dx, _, _, h1, _⟩ := t
  exact ⟨dx, _, h1⟩
theorem r_sidHead (E : Env P K mg) (t : SidAt K H x hs ls) (q : ∀ th, SqT K H th (vI hs) → Q (.ref th) H) : GetF K "head" (.ref x) H Q := by
  obtain ⟨dx, vh, vl, h1, h2, h3⟩ := t
  obtain ⟨a, rfl, s⟩ := dp_ints h2
  exact r_getF h1 E.c_Sides E.na_Sides_head siF_he (q a s)
theorem r_sidLoop (E : Env P K mg) (t : SidAt K H x hs ls) (q : ∀ th, SqT K H th (vI ls) → Q (.ref th) H) : GetF K "loop" (.ref x) H Q := by
  obtain ⟨dx, vh, vl, h1, h2, h3⟩ := t
  obtain ⟨a, rfl, s⟩ := dp_ints h3
  exact r_getF h1 E.c_Sides E.na_Sides_loop siF_lo (q a s)
end
abbrev N_Sides_eq : List Str := ["self", "other"]
theorem sc_Sides_eq : FnScope N_Sides_eq ["self", "other"] (defScope s_Sides_eq) := ⟨rfl, rfl, rfl, by decide +kernel, rfl, by decide +kernel, by decide +kernel⟩
theorem fx_Sides_eq {P : Program} {w : World} {K : PySem.W.Frag} {mg : Str → Option Value} {base : Heap} (E : Env P K mg) : ∃ fd, FunD K "__eq__" "Sides.__eq__" (defArgs s_Sides_eq) (defBody s_Sides_eq) (defScope s_Sides_eq) (d_Sides_eq.dvs K) [] (d_Sides_eq.adr K) fd ∧ FnOk P w K mg base CX0 1 (d_Sides_eq.adr K) fd ["self", "other"] (sp2 fun x y H Q _ => ∃ p hs ls, x = .ref p ∧ SidAt K H p hs ls ∧ ((∃ q hs' ls', y = .ref q ∧ SidAt K H q hs' ls' ∧ RetD K (.bool (decide (hs = hs' ∧ ls = ls'))) H Q) ∨ (∃ n ∈ ["tuple", "list", "int", "NoneType", "str", "bool"], TyX K H y (.type n) ∧ RetD K (.bool false) H Q))) := by
  obtain ⟨fd, F⟩ := E.dd_Sides_eq
  refine ⟨fd, F, fnok0 F sc_Sides_eq sp2_len (fun cdv A outer s H vs Q X hr h => ?_)⟩
  have nd := sc_Sides_eq.nd
  obtain ⟨v0, v1, rfl, h⟩ := h
  refine ⟨_, (pss_one (ps_ret (pe_and (pe_callB (kIsi K) (by rfl) E.f_isinstance (by decide +kernel) (pa_cons (pv 1) (pa_cons (pe_glob (v := .ref (He.ga K "Sides")) (by rfl) E.g_Sides rfl) pa_nil))) (pe_and (pe_cmpR (kEq K hr) (kFld K (pv 0) rfl) (kFld K (pv 1) rfl) (nomark _)) (pe_one (pe_cmpR (kEq K hr) (kFld K (pv 0) rfl) (kFld K (pv 1) rfl) (nomark _))))))), ?_⟩
  change (_ : TS) _ [some v0, some v1] H
  try dsimp only [cxOf, Cx.nox, Cx.blk]
  obtain ⟨p, hs, ls, rfl, ht, h2⟩ := h
  rcases h2 with ⟨q, hs', ls', rfl, hu, k⟩ | ⟨n, hn, ty, k⟩
  · walk_at "w"
    refine r_isiC (insB_ok E.ins_Sides E.c_Sides (sid_mine hu).choose_spec.choose_spec) E.kit_Sides_self ?_
    walk_at "w"
    refine r_sidHead E ht fun th s1 => ?_
    walk_at "w"
    refine r_sidHead E hu fun th' s2 => ?_
    walk_at "w"
    by_cases c1 : hs = hs'
    · walk_at "w"
      refine r_sidLoop E ht fun tl s3 => ?_
      walk_at "w"
      refine r_sidLoop E hu fun tl' s4 => ?_
      walk_at "w"
      rw [show decide (hs = hs' ∧ ls = ls') = decide (ls = ls') by simp [c1]] at k
      exact k.bl (Ex.refl _)
    · walk_at "w"
      rw [show decide (hs = hs' ∧ ls = ls') = false by simp [c1]] at k
      exact k.bl (Ex.refl _)
  · walk_at "w"
    refine r_isiC (b := false) ty ?_ ?_
    · simp at hn
      rcases hn with rfl | rfl | rfl | rfl | rfl | rfl
      · exact E.kit_Sides_tuple
      · exact E.kit_Sides_list
      · exact E.kit_Sides_int
      · exact E.kit_Sides_NoneType
      · exact E.kit_Sides_str
      · exact E.kit_Sides_bool
    walk_at "w"
    exact k.bl (Ex.refl _)
theorem ok_Sides_eq {P : Program} {w : World} {K : PySem.W.Frag} {mg : Str → Option Value} {base : Heap} (E : Env P K mg) : EqOf P w K mg base 1 (He.ga K "Sides") (sp2 fun x y H Q _ => ∃ p hs ls, x = .ref p ∧ SidAt K H p hs ls ∧ ((∃ q hs' ls', y = .ref q ∧ SidAt K H q hs' ls' ∧ RetD K (.bool (decide (hs = hs' ∧ ls = ls'))) H Q) ∨ (∃ n ∈ ["tuple", "list", "int", "NoneType", "str", "bool"], TyX K H y (.type n) ∧ RetD K (.bool false) H Q))) := by
  obtain ⟨fd, F, k⟩ := fx_Sides_eq (P := P) (w := w) (base := base) E
  exact ⟨_, fd, _, E.m_Sides_eq.at_, E.m_Sides_eq.fn, k, F.bindsN (fun _ _ _ _ _ _ us hl => match us, hl with | [_, _], _ => rfl)⟩
/-- the sign at place i -/
def sAt (hs ls : List Int) (i : Nat) : Int := match i with
  | 0 => 0
  | j + 1 => if j < hs.length then gI hs j else gI ls (((j : Int) - hs.length) % ls.length)
abbrev spSC (K : PySem.W.Frag) : Sp := sp2 fun x n H Q X => ∃ p hs ls, x = .ref p ∧ SidAt K H p hs ls ∧ ls ≠ [] ∧ hs.length ≤ 50000 ∧ ls.length ≤ 50000 ∧ ((∃ i : Nat, n = .int i ∧ ∀ H', Ex H H' → Q (.int (sAt hs ls i)) H') ∨ (∃ d, Dp K H n d ∧ dIsCount d = false ∧ ∀ dd H', Ex H H' → H' dd = some (.xd [("thing", n)]) → X (.ref (He.ga K "BadCount")) (some dd) H'))
abbrev N_Sides_call : List Str := ["self", "n"]
theorem sc_Sides_call : FnScope N_Sides_call ["self", "n"] (defScope s_Sides_call) := ⟨rfl, rfl, rfl, by decide +kernel, rfl, by decide +kernel, by decide +kernel⟩
theorem fx_Sides_call {P : Program} {w : World} {K : PySem.W.Frag} {mg : Str → Option Value} {base : Heap} (E : Env P K mg) : ∃ fd, FunD K "__call__" "Sides.__call__" (defArgs s_Sides_call) (defBody s_Sides_call) (defScope s_Sides_call) (d_Sides_call.dvs K) [] (d_Sides_call.adr K) fd ∧ FnOk P w K mg base (L2.CX P w) 3 (d_Sides_call.adr K) fd ["self", "n"] (spSC K) := by
  obtain ⟨fd, F⟩ := E.dd_Sides_call
  refine ⟨fd, F, fnokX F sc_Sides_call sp2_len (fun cdv A outer s H vs Q X hr h tk => ?_)⟩
  have nd := sc_Sides_call.nd
  obtain ⟨v0, v1, rfl, h⟩ := h
  refine ⟨_, (pss_cons (ps_if (pt_not (kTru K (pc (ok_is_count E) hr (by decide) pass0 rfl (pa_cons (pv 1) pa_nil)) (by intro _; rfl)))
   (pss_one (praise (ok_X_BadCount E) hr (by decide) rfl tk rfl (pa_cons (pv 1) pa_nil)))
   pss_nil)
  (pss_cons (ps_if (pt_cmpR (kEq K hr) (pv 1) (pe_int) (nomark _))
   (pss_one (ps_ret (pe_int)))
   pss_nil)
  (pss_cons (ps_if (pt_cmpR op_le (pv 1) (pe_callB (kLen K) (by rfl) E.f_len (by decide +kernel) (pa_cons (kFld K (pv 0) rfl) pa_nil)) (nomark _))
   (pss_one (ps_ret (pe_ix (kIx K) (kFld K (pv 0) rfl) (pe_op xSub (pv 1) (pe_int)) (fun _ _ => rfl))))
   pss_nil)
  (pss_one (ps_ret (pe_ix (kIx K) (kFld K (pv 0) rfl) (pe_op xMod (pe_op xSub (pe_op xSub (pv 1) (pe_callB (kLen K) (by rfl) E.f_len (by decide +kernel) (pa_cons (kFld K (pv 0) rfl) pa_nil))) (pe_int)) (pe_callB (kLen K) (by rfl) E.f_len (by decide +kernel) (pa_cons (kFld K (pv 0) rfl) pa_nil))) (fun _ _ => rfl))))))), ?_⟩
  change (_ : TS) _ [some v0, some v1] H
  try dsimp only [cxOf, Cx.nox, Cx.blk]
  obtain ⟨p, hs, ls, rfl, ht, ne, z1, z2, h2⟩ := h
  have l0 : 0 < ls.length := List.length_pos_iff.mpr ne
  rcases h2 with ⟨i, rfl, k⟩ | ⟨d, dv, dn, k⟩
  · walk_at "w"
    have hi : (0 : Int) ≤ (i : Int) := by omega
    refine ⟨.int i, .int _, fun v H1 e1 q1 => ?_⟩
    rw [show dIsCount (.int (i : Int)) = true from decide_eq_true hi] at q1
    obtain rfl := dp_toBl q1
    have ht := ex_sid e1 ht
    walk_at "w"
    cases i with
    | zero =>
      walk_at "w"
      exact k _ e1
    | succ j =>
      have j0 : ¬ ((j + 1 : Nat) : Int) = 0 := by omega
      walk_at "w"
      refine r_sidHead E ht fun th s1 => ?_
      walk_at "w"
      have kk : Q (.int (if j < hs.length then gI hs j else gI ls (((j : Int) - hs.length) % ls.length))) H1 := k _ e1
      by_cases c : j < hs.length
      · rw [if_pos c] at kk
        have c1 : ((j + 1 : Nat) : Int) ≤ (hs.length : Nat) := by omega
        walk_at "w"
        refine r_sidHead E ht fun th2 s2 => ?_
        walk_at "w"
        rw [show ((j + 1 : Nat) : Int) - 1 = (j : Int) by omega]
        exact kk
      · rw [if_neg c] at kk
        have c1 : ¬ ((j + 1 : Nat) : Int) ≤ (hs.length : Nat) := by omega
        walk_at "w"
        refine r_sidLoop E ht fun tl s2 => ?_
        walk_at "w"
        refine r_sidHead E ht fun th2 s3 => ?_
        walk_at "w"
        refine r_sidLoop E ht fun tl2 s4 => ?_
        walk_at "w"
        rw [show ((j + 1 : Nat) : Int) - (hs.length : Nat) - 1 = (j : Int) - (hs.length : Nat) by omega]
        exact r_ixT s2 (atI_ints (Int.emod_nonneg _ (by omega)) (Int.emod_lt_of_pos _ (by omega))) kk
  · walk_at "w"
    refine ⟨d, dv, fun v H1 e1 q1 => ?_⟩
    rw [dn] at q1
    obtain rfl := dp_toBl q1
    walk_at "w"
    refine w_raise ?_
    walk_at "w"
    refine r_mkO E.ox_BadCount E.xs_BadCount E.nf_BadCount_thing fun dd H' n e g => ?_
    exact k dd H' (e1.trans e) g
theorem ok_Sides_call {P : Program} {w : World} {K : PySem.W.Frag} {mg : Str → Option Value} {base : Heap} (E : Env P K mg) : CliX P w K mg base 3 (He.ga K "Sides") (spSC K) := by
  obtain ⟨fd, F, k⟩ := fx_Sides_call (P := P) (w := w) (base := base) E
  exact ⟨_, fd, _, E.call_Sides, k, F.bindsN (fun _ _ _ _ _ _ us hl => match us, hl with | [_, _], _ => rfl)⟩
def dSet (hs ls : List Int) : PyData := if 1 < ls.length then .none else .tuple [.int (gI ls 0), .int (hs.length + 1)]
abbrev N_Sides_settled : List Str := ["self"]
theorem sc_Sides_settled : FnScope N_Sides_settled ["self"] (defScope s_Sides_settled) := ⟨rfl, rfl, rfl, by decide +kernel, rfl, by decide +kernel, by decide +kernel⟩
theorem fx_Sides_settled {P : Program} {w : World} {K : PySem.W.Frag} {mg : Str → Option Value} {base : Heap} (E : Env P K mg) : ∃ fd, FunD K "settled" "Sides.settled" (defArgs s_Sides_settled) (defBody s_Sides_settled) (defScope s_Sides_settled) (d_Sides_settled.dvs K) [] (d_Sides_settled.adr K) fd ∧ FnOk P w K mg base CX0 1 (d_Sides_settled.adr K) fd ["self"] (sp1 fun x H Q _ => ∃ p hs ls, x = .ref p ∧ SidAt K H p hs ls ∧ ls ≠ [] ∧ RetD K (dSet hs ls) H Q) := by
  obtain ⟨fd, F⟩ := E.dd_Sides_settled
  refine ⟨fd, F, fnok0 F sc_Sides_settled sp1_len (fun cdv A outer s H vs Q X hr h => ?_)⟩
  have nd := sc_Sides_settled.nd
  obtain ⟨v0, rfl, h⟩ := h
  refine ⟨_, (pss_cons (ps_if (pt_cmpR op_gt (pe_callB (kLen K) (by rfl) E.f_len (by decide +kernel) (pa_cons (kFld K (pv 0) rfl) pa_nil)) (pe_int) (nomark _))
   (pss_one (ps_ret (pe_non)))
   pss_nil)
  (pss_one (ps_ret (pe_tup (pa_cons (pe_ix (kIx K) (kFld K (pv 0) rfl) (pe_int) (fun _ _ => rfl)) (pa_cons (pe_op (kAdd K) (pe_callB (kLen K) (by rfl) E.f_len (by decide +kernel) (pa_cons (kFld K (pv 0) rfl) pa_nil)) (pe_int)) pa_nil)))))), ?_⟩
  change (_ : TS) _ [some v0] H
  try dsimp only [cxOf, Cx.nox, Cx.blk]
  obtain ⟨p, hs, ls, rfl, ht, ne, k⟩ := h
  have l0 : 0 < ls.length := List.length_pos_iff.mpr ne
  walk_at "w"
  refine r_sidLoop E ht fun tl s2 => ?_
  walk_at "w"
  unfold dSet at k
  by_cases c : 1 < ls.length
  · rw [if_pos c] at k
    walk_at "w"
    exact k _ _ (Ex.refl _) .non
  · rw [if_neg c] at k
    walk_at "w"
    refine r_sidLoop E ht fun tl s3 => ?_
    walk_at "w"
    refine r_sidHead E ht fun th s4 => ?_
    walk_at "w"
    intro pt H1 n1 e1 g1
    exact k _ _ e1 (.tup (st_of g1) (.cons (.int _) (.cons (.int _) .nil)))
theorem ok_Sides_settled {P : Program} {w : World} {K : PySem.W.Frag} {mg : Str → Option Value} {base : Heap} (E : Env P K mg) : Prp P w K mg base 1 (He.ga K "Sides") "settled" (sp1 fun x H Q _ => ∃ p hs ls, x = .ref p ∧ SidAt K H p hs ls ∧ ls ≠ [] ∧ RetD K (dSet hs ls) H Q) := by
  obtain ⟨fd, F, k⟩ := fx_Sides_settled (P := P) (w := w) (base := base) E
  exact ⟨_, _, fd, _, E.c_Sides, E.p_Sides_settled, k, F.bindsN (fun _ _ _ _ _ _ us hl => match us, hl with | [_], _ => rfl)⟩
theorem ok_Sides2 {P : Program} {w : World} {K : PySem.W.Frag} {mg : Str → Option Value} {base : Heap} (E : Env P K mg) : Mkc P w K mg base (L2.CX P w) 5 "Sides" (He.ga K "Sides") (spSides K) [] := by
  obtain ⟨fd, F, k⟩ := fx_Sides_init (P := P) (w := w) (base := base) E
  exact ⟨_, fd, _, [], E.mk_Sides, k, E.g_Sides, F.bindsN (fun _ _ _ _ _ _ us hl => match us, hl with | [_, _, _], _ => rfl), .nil⟩
theorem ex_make {H : Hp} {x dx C : Addr} (nx : H x = none) (ndx : H dx = none) : Ex H (upd (upd H dx (.own x)) x (.ins C dx [])) := fun b o e => by
  rw [upd_ne (ne_of_none e nx), upd_ne (ne_of_none e ndx)]
  exact e
abbrev spSds (K : PySem.W.Frag) : Sp := sp2 fun a b H Q X => ∃ (f s : Addr) (h1 l1 h2 l2 : List Int) (r1 r2 : Int) (B : Nat), a = .ref f ∧ b = .ref s ∧ TabAt K H f h1 l1 r1 ∧ TabAt K H s h2 l2 r2 ∧ SmS h1 l1 r1 ∧ SmS h2 l2 r2 ∧ B ≤ 10000 ∧
  (∀ j : Nat, j ≤ 20 → -(B : Int) ≤ fV h1 l1 r1 j - fV h2 l2 r2 j ∧ fV h1 l1 r1 j - fV h2 l2 r2 j ≤ B) ∧
  ∀ c s, Can (sgT h1 l1 r1 h2 l2 r2) c s → s ≤ 16 → c ≤ 20 + 16 * B → (c ≤ 5000 → ∀ p H', Ex H H' → SidAt K H' p ((List.range c).map (sgT h1 l1 r1 h2 l2 r2)) ((List.range s).map fun i => sgT h1 l1 r1 h2 l2 r2 (c + i)) → Q (.ref p) H') ∧ (5000 < c → ∀ dd H', Ex H H' → H' dd = some (.xd [("word", .str "place")]) → X (.ref (He.ga K "TooMany")) (some dd) H')
abbrev N_sides : List Str := ["first", "second"]
theorem sc_sides : FnScope N_sides ["first", "second"] (defScope s_sides) := ⟨rfl, rfl, rfl, by decide +kernel, rfl, by decide +kernel, by decide +kernel⟩
theorem ok_sides {P : Program} {w : World} {K : PySem.W.Frag} {mg : Str → Option Value} {base : Heap} (E : Env P K mg) : Fn P w K mg base (L2.CX P w) 7 "sides" (spSds K) := by
  obtain ⟨fd, F⟩ := E.dd_sides
  refine Fn.mkX F E.g_sides sc_sides sp2_len (fun _ _ _ _ _ _ us hl => match us, hl with | [_, _], _ => rfl) (fun cdv A outer s H vs Q X hr h tk => ?_)
  have nd := sc_sides.nd
  obtain ⟨v0, v1, rfl, h⟩ := h
  refine ⟨_, (pss_one (ps_ret (pmkS (ok_Sides2 E) hr (by decide) tk rfl (pa_cons (pv 0) (pa_cons (pv 1) pa_nil))))), ?_⟩
  change (_ : TS) _ [some v0, some v1] H
  try dsimp only [cxOf, Cx.nox, Cx.blk]
  obtain ⟨f, s, h1, l1, h2, l2, r1, r2, B, rfl, rfl, T1, T2, A1, A2, B1, hB, k⟩ := h
  walk_at "w"
  refine w_makeS ?_
  walk_at "w"
  intro x dx nx ndx ne
  have ex := ex_make nx ndx (C := He.ga K "Sides")
  refine ⟨_, _, _, rfl, x, dx, f, s, h1, l1, h2, l2, r1, r2, B, rfl, rfl, rfl, upd_same, ex_tab ex T1, ex_tab ex T2, A1, A2, B1, hB, fun c s can z1 z2 => ⟨fun c5 H' sid fr => ⟨rfl, (k c s can z1 z2).1 c5 x H' (fun b o e => fr b o (ne_of_none e nx) (ex b o e)) sid⟩, fun c5 dd H' e g => (k c s can z1 z2).2 c5 dd H' (ex.trans e) g⟩⟩
abbrev N__law_sign : List Str := ["first", "second", "place", "one", "other"]
theorem sc__law_sign : FnScope N__law_sign ["first", "second", "place"] (defScope s__law_sign) := ⟨rfl, rfl, rfl, by decide +kernel, rfl, by decide +kernel, by decide +kernel⟩
theorem ok__law_sign {P : Program} {w : World} {K : PySem.W.Frag} {mg : Str → Option Value} {base : Heap} (E : Env P K mg) : Fn P w K mg base CX0 3 "_law_sign" (sp3 fun a b c H Q _ => ∃ (h1 l1 h2 l2 : List Int) (r1 r2 : Int) (j : Nat), Dp K H a (dRaw h1 l1 r1) ∧ Dp K H b (dRaw h2 l2 r2) ∧ c = .int ((j : Int) + 1) ∧ RSm h1 l1 r1 ∧ RSm h2 l2 r2 ∧ ∀ H', Ex H H' → Q (.int (sgT h1 l1 r1 h2 l2 r2 j)) H') := by
  obtain ⟨fd, F⟩ := E.dd__law_sign
  refine Fn.mk0 F E.g__law_sign sc__law_sign sp3_len (fun _ _ _ _ _ _ us hl => match us, hl with | [_, _, _], _ => rfl) (fun cdv A outer s H vs Q X hr h => ?_)
  have nd := sc__law_sign.nd
  obtain ⟨v0, v1, v2, rfl, h⟩ := h
  refine ⟨_, (pss_cons (ps_par (i := 3) (j := 4) rfl nd rfl rfl (by decide) rfl rfl (pa_cons (pc (ok__law_at E) hr (by decide) pass0 rfl (pa_cons (pv 0) (pa_cons (pv 2) pa_nil))) (pa_cons (pc (ok__law_at E) hr (by decide) pass0 rfl (pa_cons (pv 1) (pa_cons (pv 2) pa_nil))) pa_nil)) rfl)
  (pss_cons (ps_if (pt_cmpR (kEq K hr) (pv 3) (pv 4) (nomark _))
   (pss_one (ps_ret (pe_int)))
   pss_nil)
  (pss_one (ps_ret (pe_ifExp (kTru K (pc (ok__law_le E) hr (by decide) pass0 rfl (pa_cons (pv 3) (pa_cons (pv 4) pa_nil))) (by intro _; rfl)) (pe_un un_neg (pe_int)) (pe_int)))))), ?_⟩
  change (_ : TS) _ [some v0, some v1, some v2, none, none] H
  try dsimp only [cxOf, Cx.nox, Cx.blk]
  obtain ⟨h1, l1, h2, l2, r1, r2, j, d1, d2, rfl, A1, A2, k⟩ := h
  walk_at "w"
  refine ⟨h1, l1, r1, some ((j : Int) + 1), d1, .int _, fun n e => by cases e; omega, A1, fun v H1 e1 q1 => ?_⟩
  rw [show valueAt h1 l1 r1 (some ((j : Int) + 1)) = TV h1 l1 r1 j from vat_TV j] at q1
  obtain rfl := dp_toOpt q1
  walk_at "w"
  refine ⟨h2, l2, r2, some ((j : Int) + 1), dp_ex e1 d2, .int _, fun n e => by cases e; omega, A2, fun v H2 e2 q2 => ?_⟩
  rw [show valueAt h2 l2 r2 (some ((j : Int) + 1)) = TV h2 l2 r2 j from vat_TV j] at q2
  obtain rfl := dp_toOpt q2
  have kk := k _ (e1.trans e2)
  unfold sgT sgO at kk
  generalize TV h1 l1 r1 j = o at *
  generalize TV h2 l2 r2 j = p at *
  walk_at "w"
  refine ⟨_, _, rfl, ?_⟩
  dsimp only [List.set]
  walk_at "w"
  by_cases c : o = p
  · rw [if_pos c] at kk
    rw [decide_eq_true c]
    walk_at "w"
    exact kk
  · rw [if_neg c] at kk
    rw [decide_eq_false c]
    walk_at "w"
    refine ⟨o, p, rfl, rfl, ?_⟩
    walk_at "w"
    cases d : leO o p with
    | true =>
      rw [d, if_pos rfl] at kk
      walk_at "w"
      exact kk
    | false =>
      rw [d, if_neg Bool.false_ne_true] at kk
      walk_at "w"
      exact kk

end
section
theorem Evp.down {f : Nat → Int} {D C m s : Nat} (P : Evp f D m) (m1 : 1 ≤ m) (A : Evp f C s) : Evp f D s := by
  intro j hj
  have a := P.mul C j hj
  have b := P.mul C (j + s) (by omega)
  have big : C ≤ m * C := Nat.le_mul_of_pos_left _ m1
  have c := A (j + m * C) (by omega)
  rw [show j + m * C + s = j + s + m * C by omega, b, a] at c
  exact c
theorem Evp.one {f : Nat → Int} {D : Nat} (P : Evp f D 1) (m : Nat) : Evp f D m := fun j hj => by
  have := P.mul m j hj
  rwa [Nat.one_mul] at this
theorem szL_snoc (ok : Nat → Bool) (m : Nat) : ∀ (l : List Nat) (z : Nat), szL ok (l ++ [m]) z = if ok m then m else szL ok l z
  | [], z => rfl
  | a :: l, z => szL_snoc ok m l _
abbrev szN : List Nat := [12, 8, 6, 4, 3, 2, 1]
abbrev spCS (K : PySem.W.Frag) : Sp := sp1 fun v H Q _ => ∃ (p : Addr) (f : Nat → Int) (U c s : Nat), v = .ref p ∧ SqL K H p (vI ((List.range U).map f)) ∧ 24 ≤ U ∧ U ≤ 90000 ∧ Evp f (U - 24) 12 ∧ Can f c s ∧ ∀ q a b H', Ex H H' → SqT K H' q [.ref a, .ref b] → SqT K H' a (vI ((List.range c).map f)) → SqT K H' b (vI ((List.range s).map fun i => f (c + i))) → Q (.ref q) H'
abbrev N__law_cut_signs : List Str := ["signs", "size", "many", "cut", "k"]
theorem sc__law_cut_signs : FnScope N__law_cut_signs ["signs"] (defScope s__law_cut_signs) := ⟨rfl, rfl, rfl, by decide +kernel, rfl, by decide +kernel, by decide +kernel⟩
theorem ok__law_cut_signs {P : Program} {w : World} {K : PySem.W.Frag} {mg : Str → Option Value} {base : Heap} (E : Env P K mg) : Fn P w K mg base CX0 1 "_law_cut_signs" (spCS K) := by
  obtain ⟨fd, F⟩ := E.dd__law_cut_signs
  refine Fn.mk0 F E.g__law_cut_signs sc__law_cut_signs sp1_len (fun _ _ _ _ _ _ us hl => match us, hl with | [_], _ => rfl) (fun cdv A outer s H vs Q X hr h => ?_)
  have nd := sc__law_cut_signs.nd
  obtain ⟨v0, rfl, h⟩ := h
  refine ⟨_, (pss_cons (ps_set (i := 1) nd rfl (.inl rfl) (pe_int))
  (pss_cons (ps_for PassesOwn.never rfl (kSeq K (pe_lst (pa_cons (pe_int) (pa_cons (pe_int) (pa_cons (pe_int) (pa_cons (pe_int) (pa_cons (pe_int) (pa_cons (pe_int) (pa_cons (pe_int) pa_nil))))))))) (pg_name (i := 2) nd rfl (.inr rfl))
   (pss_one (ps_if (kTru K (pe_callB (kAll K rfl) (by rfl) E.f_all (by decide +kernel) (pa_cons (pe_lc (own := [("k", 4)]) (g := gName 4) (tt := tYes) rfl nd (pi_range2 (by rfl) E.f_range (pa_cons (pe_op (kAdd K) (pe_op xSub (pe_callB (kLen K) (by rfl) E.f_len (by decide +kernel) (pa_cons (pv 0) pa_nil)) (pe_int)) (pv 2)) (pa_cons (pe_callB (kLen K) (by rfl) E.f_len (by decide +kernel) (pa_cons (pv 0) pa_nil)) pa_nil))) (blkOk_by (N := N__law_cut_signs) (sc := defScope s__law_cut_signs) (by decide +kernel)) (fun _ _ _ _ _ => pg_name (i := 4) nd rfl (Or.inl rfl)) (fun _ _ _ _ _ => pts_nil) (fun _ _ _ _ _ => pe_cmpR (kEq K hr) (pe_ix (kIx K) (pv 0) (pv 4) (fun _ _ => rfl)) (pe_ix (kIx K) (pv 0) (pe_op xSub (pv 4) (pv 2)) (fun _ _ => rfl)) (nomark _))) pa_nil)) (by intro _; rfl))
   (pss_one (ps_set (i := 1) nd rfl (.inl rfl) (pv 2)))
   pss_nil)))
  (pss_cons (ps_set (i := 3) nd rfl (.inl rfl) (pe_op xSub (pe_callB (kLen K) (by rfl) E.f_len (by decide +kernel) (pa_cons (pv 0) pa_nil)) (pv 1)))
  (pss_cut (ps_while PassesOwn.never (PW.pt (pw_and (pt_cmpR op_gt (pv 3) (pe_int) (nomark _)) (pw_and1 (pt_cmpR (kEq K hr) (pe_ix (kIx K) (pv 0) (pe_op xSub (pv 3) (pe_int)) (fun _ _ => rfl)) (pe_ix (kIx K) (pv 0) (pe_op (kAdd K) (pe_op xSub (pv 3) (pe_int)) (pv 1)) (fun _ _ => rfl)) (nomark _)))))
   (pss_one (ps_set (i := 3) nd rfl (.inl rfl) (pe_op xSub (pv 3) (pe_int)))))
  (pss_one (ps_ret (pe_tup (pa_cons (pe_callTy (kTup K) (by rfl) E.f_tuple (by decide +kernel) (pa_cons (pe_slice (kSl K) (pv 0) po_none (po_some (pv 3))) pa_nil)) (pa_cons (pe_callTy (kTup K) (by rfl) E.f_tuple (by decide +kernel) (pa_cons (pe_slice (kSl K) (pv 0) (po_some (pv 3)) (po_some (pe_op (kAdd K) (pv 3) (pv 1)))) pa_nil)) pa_nil))))))))), ?_⟩
  change (_ : TS) _ [some v0, none, none, none, none] H
  try dsimp only [cxOf, Cx.nox, Cx.blk]
  obtain ⟨p, f, U, c, s, rfl, hs, u1, u2, P12, CAN, k⟩ := h
  have s1 := CAN.s1
  have dv := CAN.dvd P12 (by decide)
  have s12 := Nat.le_of_dvd (by decide) dv
  have Ps := P12.down (by decide) CAN.per
  have W := CAN.win u1 P12 Ps
  have CC := cutF_can (c := U - s) s1 CAN.min (Ps.le (by omega))
  obtain ⟨cc, _⟩ := CC.uniq CAN
  have zl : ((List.range U).map f).length = U := by rw [List.length_map, List.length_range]
  have gl : ∀ k, k < U → gI ((List.range U).map f) k = f k := fun k hk => gI_map_range hk
  obtain ⟨l, hl⟩ : ∃ l, l = (List.range U).map f := ⟨_, rfl⟩
  rw [← hl] at hs zl gl
  walk_at "w"
  refine i_seqL ?_
  walk_at "w"
  intro pl H1 n1 e1 g1
  walk_at "w"
  refine for_list (xs := vI [12, 8, 6, 4, 3, 2, 1]) (Pv := fun i σ' H' => ∃ (x : Option V), σ' = [some (.ref p), some (.int (szL (fun m => decide (s ∣ m)) (szN.take i) 24 : Nat)), x, none, none] ∧ Ex H1 H') ⟨_, rfl, Ex.refl _⟩ (fun i σ' H' _ h => by obtain ⟨_, _, e⟩ := h; exact ex_l e (sq_of g1)) ?_ ?_
  · rintro i v σ' H' hv ⟨x, rfl, e⟩
    have i7 : i < 7 := (List.getElem?_eq_some_iff.mp hv).1
    obtain ⟨m, hm⟩ : ∃ m, szN[i]? = some m := ⟨_, List.getElem?_eq_getElem i7⟩
    have mm : m ∈ szN := List.mem_of_getElem? hm
    have m12 : 1 ≤ m ∧ m ≤ 12 := by
      simp only [List.mem_cons, List.not_mem_nil, or_false] at mm
      omega
    have ev : v = .int (m : Nat) := by
      have : (vI [12, 8, 6, 4, 3, 2, 1])[i]? = (szN[i]?).map fun m => V.int (m : Nat) := by
        rw [← List.getElem?_map]
        rfl
      rw [hv, hm] at this
      exact Option.some.inj this
    subst ev
    have st : szL (fun m => decide (s ∣ m)) (szN.take (i + 1)) 24 = if decide (s ∣ m) = true then m else szL (fun m => decide (s ∣ m)) (szN.take i) 24 := by
      rw [List.take_add_one, hm]
      exact szL_snoc _ m _ _
    have hs' := ex_l (e1.trans e) hs
    walk_at "w"
    rw [zl]
    walk_at "w"
    rw [show ((U : Int) - ((U : Int) - 24 + (m : Nat))).toNat = 24 - m by omega]
    refine lcJ_range (lo := (U : Int) - 24 + (m : Nat)) (n := 24 - m) (v := fun j => .bl (decide (gI l ((U : Int) - 24 + (m : Nat) + j) = gI l ((U : Int) - 24 + (m : Nat) + j - (m : Nat))))) (by omega) (fun y => [_, _, _, _, some y]) (fun _ => rfl) (fun _ => rfl) (fun j H2 Q' e2 hj hq => ?_) (fun q H2 n2 e2 g2 => ?_)
    · walk_at "w"
      exact hq H2 (Ex.refl _)
    · rw [map_bl_range] at g2
      walk_at "w"
      refine r_all (sq_of g2) rfl ?_
      rw [all_range]
      have eqv : (∀ j : Nat, j < 24 - m → gI l ((U : Int) - 24 + (m : Nat) + j) = gI l ((U : Int) - 24 + (m : Nat) + j - (m : Nat))) ↔ s ∣ m := by
        rw [← W m m12.1 m12.2]
        refine ⟨fun h k h1 h2 => ?_, fun h j hj => ?_⟩
        · have := h (k - (U - 24 + m)) (by omega)
          rw [show (U : Int) - 24 + (m : Nat) + ((k - (U - 24 + m) : Nat) : Int) = (k : Int) by omega, show (k : Int) - (m : Nat) = ((k - m : Nat) : Int) by omega, gl k h2, gl (k - m) (by omega)] at this
          exact this
        · have := h (U - 24 + m + j) (by omega) (by omega)
          rw [show (U : Int) - 24 + (m : Nat) + (j : Int) = ((U - 24 + m + j : Nat) : Int) by omega, show ((U - 24 + m + j : Nat) : Int) - (m : Nat) = ((U - 24 + m + j - m : Nat) : Int) by omega, gl _ (by omega), gl _ (by omega)]
          exact this
      by_cases c3 : s ∣ m
      · rw [decide_eq_true (eqv.mpr c3)]
        rw [if_pos (decide_eq_true c3)] at st
        walk_at "w"
        refine ⟨some (.int (m : Nat)), ?_, e.trans e2⟩
        rw [st]
      · rw [decide_eq_false (fun h => c3 (eqv.mp h))]
        rw [if_neg (by rw [decide_eq_false c3]; exact Bool.false_ne_true)] at st
        walk_at "w"
        refine ⟨some (.int (m : Nat)), ?_, e.trans e2⟩
        rw [st]
  · rintro σ' H' ⟨x, rfl, e⟩
    rw [show szN.take (vI [12, 8, 6, 4, 3, 2, 1]).length = szN from rfl, szL_eq dv s1]
    have hs' := ex_l (e1.trans e) hs
    walk_at "w"
    rw [zl, show ((U : Int) - (s : Nat)) = ((U - s : Nat) : Int) by omega]
    refine w_cut (M := fun σ' H'' => σ' = [some (.ref p), some (.int (s : Nat)), x, some (.int (c : Nat)), none] ∧ H'' = H') ?_ ?_
    · refine ⟨fun n σ' H'' => σ' = [some (.ref p), some (.int (s : Nat)), x, some (.int (n : Nat)), none] ∧ H'' = H' ∧ n ≤ U - s ∧ cutF f s (U - s) = cutF f s n, ⟨U - s, rfl, rfl, Nat.le_refl _, rfl⟩, ?_⟩
      rintro n σ' H'' ⟨rfl, rfl, nU, hc⟩
      rw [cc] at hc
      walk_at "w"
      cases n with
      | zero =>
        walk_at "w"
        rw [hc]
        exact ⟨rfl, rfl⟩
      | succ n =>
        have n0 : (0 : Int) < ((n + 1 : Nat) : Int) := by omega
        walk_at "w"
        rw [show ((n + 1 : Nat) : Int) - 1 = (n : Int) by omega, show (n : Int) + (s : Nat) = ((n + s : Nat) : Int) by omega, gl n (by omega), gl (n + s) (by omega)]
        by_cases d : f n = f (n + s)
        · walk_at "w"
          refine ⟨_, fun σ2 H2 h2 => ⟨n, Nat.lt_succ_self n, h2⟩, ?_⟩
          walk_at "w"
          rw [show ((n + 1 : Nat) : Int) - 1 = (n : Int) by omega]
          refine ⟨rfl, rfl, by omega, ?_⟩
          rw [cc, hc]
          exact if_pos d.symm
        · walk_at "w"
          have : c = n + 1 := by rw [hc]; exact if_neg fun q => d q.symm
          rw [this]
          exact ⟨rfl, rfl⟩
    rintro σ' H'' ⟨rfl, rfl⟩
    have cU : c ≤ U - s := by rw [← cc]; exact cutF_le _ _ _
    walk_at "w"
    intro p1 H2 n2 e2 g2
    walk_at "w"
    intro t1 H3 e3 st1
    have hs3 := ex_l (e2.trans e3) hs'
    walk_at "w"
    intro p2 H4 n4 e4 g4
    walk_at "w"
    intro t2 H5 e5 st2
    walk_at "w"
    intro q H6 n6 e6 g6
    rw [Int.toNat_natCast] at st1
    rw [show ((c : Int) + (s : Nat) - (c : Nat)).toNat = s by omega, Int.toNat_natCast] at st2
    refine k q t1 t2 H6 (((((e1.trans e).trans e2).trans e3).trans (e4.trans e5)).trans e6) (st_of g6) ?_ ?_
    · rw [show (List.range c).map f = l.take c by rw [hl, ← List.map_take, List.take_range, Nat.min_eq_left (by omega)]]
      exact ex_t ((e4.trans e5).trans e6) st1
    · rw [show (List.range s).map (fun i => f (c + i)) = (l.drop c).take s by
        rw [hl]
        refine List.ext_getElem (by simp; omega) fun k h1 h2 => ?_
        simp]
      exact ex_t e6 st2
abbrev spFA (K : PySem.W.Frag) : Sp := sp2 fun a b H Q _ => ∃ (h1 l1 h2 l2 : List Int) (r1 r2 : Int) (B : Nat), Dp K H a (dRaw h1 l1 r1) ∧ Dp K H b (dRaw h2 l2 r2) ∧ SmS h1 l1 r1 ∧ SmS h2 l2 r2 ∧ B ≤ 10000 ∧ (∀ j : Nat, j ≤ 20 → -(B : Int) ≤ fV h1 l1 r1 j - fV h2 l2 r2 j ∧ fV h1 l1 r1 j - fV h2 l2 r2 j ≤ B) ∧ ∀ (F : Nat) H', Ex H H' → Evp (sgT h1 l1 r1 h2 l2 r2) F 12 → F ≤ 100 + 12 * B → Q (.int F) H'
abbrev N__law_far_apart : List Str := ["raw", "other", "start", "climb", "apart", "n"]
theorem sc__law_far_apart : FnScope N__law_far_apart ["raw", "other"] (defScope s__law_far_apart) := ⟨rfl, rfl, rfl, by decide +kernel, rfl, by decide +kernel, by decide +kernel⟩
theorem ok__law_far_apart {P : Program} {w : World} {K : PySem.W.Frag} {mg : Str → Option Value} {base : Heap} (E : Env P K mg) : Fn P w K mg base CX0 3 "_law_far_apart" (spFA K) := by
  obtain ⟨fd, F⟩ := E.dd__law_far_apart
  refine Fn.mk0 F E.g__law_far_apart sc__law_far_apart sp2_len (fun _ _ _ _ _ _ us hl => match us, hl with | [_, _], _ => rfl) (fun cdv A outer s H vs Q X hr h => ?_)
  have nd := sc__law_far_apart.nd
  obtain ⟨v0, v1, rfl, h⟩ := h
  refine ⟨_, (pss_cons (ps_set (i := 2) nd rfl (.inl rfl) (pe_callB (xMax2 rfl) (by rfl) E.f_max (by decide +kernel) (pa_cons (pe_callB (kLen K) (by rfl) E.f_len (by decide +kernel) (pa_cons (pe_ix (kIx K) (pv 0) (pe_int) (fun _ _ => rfl)) pa_nil)) (pa_cons (pe_callB (kLen K) (by rfl) E.f_len (by decide +kernel) (pa_cons (pe_ix (kIx K) (pv 1) (pe_int) (fun _ _ => rfl)) pa_nil)) pa_nil))))
  (pss_cons (ps_if (PW.pt (pw_or (pt_cmpR (kEq K hr) (pe_callB (kLen K) (by rfl) E.f_len (by decide +kernel) (pa_cons (pe_ix (kIx K) (pv 0) (pe_int) (fun _ _ => rfl)) pa_nil)) (pe_int) (nomark _)) (pw_or1 (pt_cmpR (kEq K hr) (pe_callB (kLen K) (by rfl) E.f_len (by decide +kernel) (pa_cons (pe_ix (kIx K) (pv 1) (pe_int) (fun _ _ => rfl)) pa_nil)) (pe_int) (nomark _)))))
   (pss_one (ps_ret (pv 2)))
   pss_nil)
  (pss_cons (ps_set (i := 3) nd rfl (.inl rfl) (pe_op xSub (pe_op (kMul K) (pe_ix (kIx K) (pv 0) (pe_int) (fun _ _ => rfl)) (pe_op xDiv (pe_int) (pe_callB (kLen K) (by rfl) E.f_len (by decide +kernel) (pa_cons (pe_ix (kIx K) (pv 0) (pe_int) (fun _ _ => rfl)) pa_nil)))) (pe_op (kMul K) (pe_ix (kIx K) (pv 1) (pe_int) (fun _ _ => rfl)) (pe_op xDiv (pe_int) (pe_callB (kLen K) (by rfl) E.f_len (by decide +kernel) (pa_cons (pe_ix (kIx K) (pv 1) (pe_int) (fun _ _ => rfl)) pa_nil))))))
  (pss_cons (ps_set (i := 4) nd rfl (.inl rfl) (pe_callB (kMaxL K rfl) (by rfl) E.f_max (by decide +kernel) (pa_cons (pe_lc (own := [("n", 5)]) (g := gName 5) (tt := tYes) rfl nd (pi_range2 (by rfl) E.f_range (pa_cons (pe_op (kAdd K) (pv 2) (pe_int)) (pa_cons (pe_op (kAdd K) (pv 2) (pe_int)) pa_nil))) (blkOk_by (N := N__law_far_apart) (sc := defScope s__law_far_apart) (by decide +kernel)) (fun _ _ _ _ _ => pg_name (i := 5) nd rfl (Or.inl rfl)) (fun _ _ _ _ _ => pts_nil) (fun _ _ _ _ _ => pe_callB xAbs (by rfl) E.f_abs (by decide +kernel) (pa_cons (pe_op xSub (pc (ok__law_at E) hr (by decide) pass0 rfl (pa_cons (pv 0) (pa_cons (pv 5) pa_nil))) (pc (ok__law_at E) hr (by decide) pass0 rfl (pa_cons (pv 1) (pa_cons (pv 5) pa_nil)))) pa_nil))) pa_nil)))
  (pss_one (ps_ret (pe_ifExp (pt_cmpR (kEq K hr) (pv 3) (pe_int) (nomark _)) (pv 2) (pe_op (kAdd K) (pv 2) (pe_op (kMul K) (pe_int) (pe_op (kAdd K) (pe_op xDiv (pv 4) (pe_callB xAbs (by rfl) E.f_abs (by decide +kernel) (pa_cons (pv 3) pa_nil))) (pe_int))))))))))), ?_⟩
  change (_ : TS) _ [some v0, some v1, none, none, none, none] H
  try dsimp only [cxOf, Cx.nox, Cx.blk]
  obtain ⟨h1, l1, h2, l2, r1, r2, B, d1, d2, A1, A2, B1, hB, k⟩ := h
  have zh1 := A1.zh
  have zh2 := A2.zh
  have zl1 := A1.zl
  have zl2 := A2.zl
  obtain ⟨S, hS⟩ : ∃ S : Nat, (S : Int) = max (h1.length : Int) h2.length := ⟨max h1.length h2.length, by omega⟩
  have S1 : h1.length ≤ S := by omega
  have S2 : h2.length ≤ S := by omega
  have S4 : S ≤ 4 := by omega
  obtain ⟨a1, th1, tl1, rfl, s1, s2, s3⟩ := dp_raw d1
  obtain ⟨a2, th2, tl2, rfl, t1, t2, t3⟩ := dp_raw d2
  walk_at "w"
  rw [← hS]
  by_cases c1 : l1 = []
  · subst c1
    walk_at "w"
    exact k S H (Ex.refl _) ((evp_end (.inl rfl) S1 S2).one 12) (by omega)
  · have l10 : 0 < l1.length := List.length_pos_iff.mpr c1
    walk_at "w"
    by_cases c2 : l2 = []
    · subst c2
      walk_at "w"
      exact k S H (Ex.refl _) ((evp_end (.inr rfl) S1 S2).one 12) (by omega)
    · have l20 : 0 < l2.length := List.length_pos_iff.mpr c2
      have qb : ∀ {l : List Int}, 0 < l.length → 0 ≤ (12 : Int) / (l.length : Nat) ∧ (12 : Int) / (l.length : Nat) ≤ 12 := fun {l} h => ⟨Int.ediv_nonneg (by decide) (by omega), Int.ediv_le_self _ (by decide)⟩
      obtain ⟨qa1, qa2⟩ := qb l10
      obtain ⟨qc1, qc2⟩ := qb l20
      have ra := A1.val.r0
      have rb := A1.br
      have rc := A2.val.r0
      have rd := A2.br
      walk_at "w"
      have hc1 : slp l1 r1 12 = r1 * (12 / (l1.length : Nat)) := rfl
      have hc2 : slp l2 r2 12 = r2 * (12 / (l2.length : Nat)) := rfl
      have sb1 : 0 ≤ slp l1 r1 12 ∧ slp l1 r1 12 ≤ 144 := by
        rw [hc1]
        have a := Int.mul_le_mul_of_nonneg_right rb qa1
        have b := Int.mul_nonneg ra qa1
        omega
      have sb2 : 0 ≤ slp l2 r2 12 ∧ slp l2 r2 12 ≤ 144 := by
        rw [hc2]
        have a := Int.mul_le_mul_of_nonneg_right rd qc1
        have b := Int.mul_nonneg rc qc1
        omega
      have dv : ∀ {l : List Int}, 0 < l.length → l.length ≤ 4 → l.length ∣ 12 := fun {l} a b => by
        have : l.length = 1 ∨ l.length = 2 ∨ l.length = 3 ∨ l.length = 4 := by omega
        rcases this with e | e | e | e <;> rw [e] <;> decide
      have dv1 := dv l10 zl1
      have dv2 := dv l20 zl2
      rw [← hc1, ← hc2]
      obtain ⟨c, hc⟩ : ∃ c, c = slp l1 r1 12 - slp l2 r2 12 := ⟨_, rfl⟩
      rw [← hc]
      walk_at "w"
      rw [show ((S : Int) + 13 - ((S : Int) + 1)).toNat = 12 by omega]
      refine lcJ_range (lo := (S : Int) + 1) (n := 12) (v := fun j => .int ((fV h1 l1 r1 (S + j) - fV h2 l2 r2 (S + j)).natAbs : Nat)) (by omega) (fun y => [_, _, _, _, none, some y]) (fun _ => rfl) (fun _ => rfl) (fun j H2 Q' e2 hj hq => ?_) (fun q H2 n2 e2 g2 => ?_)
      · walk_at "w"
        refine ⟨h1, l1, r1, some ((S : Int) + 1 + (j : Int)), dp_ex e2 d1, .int _, fun n e => by cases e; omega, A1.val.sm, fun v H3 e3 q3 => ?_⟩
        rw [vatS S j c1] at q3
        obtain rfl := dp_toOpt q3
        walk_at "w"
        refine ⟨h2, l2, r2, some ((S : Int) + 1 + (j : Int)), dp_ex (e2.trans e3) d2, .int _, fun n e => by cases e; omega, A2.val.sm, fun v H4 e4 q4 => ?_⟩
        rw [vatS S j c2] at q4
        obtain rfl := dp_toOpt q4
        simp only [optV]
        walk_at "w"
        exact hq _ (e3.trans e4)
      · rw [show (List.range 12).map (fun j => V.int ((fV h1 l1 r1 (S + j) - fV h2 l2 r2 (S + j)).natAbs : Nat)) = vI ((List.range 12).map fun j => (((fV h1 l1 r1 (S + j) - fV h2 l2 r2 (S + j)).natAbs : Nat) : Int)) from (List.map_map ..).symm] at g2
        walk_at "w"
        refine r_maxL (sq_of g2) (by rw [List.length_map, List.length_range]; decide) fun mx hm hx => ?_
        have mB : 0 ≤ mx ∧ mx ≤ B := by
          obtain ⟨j, hj, rfl⟩ := List.mem_map.mp hm
          have := hB (S + j) (by have := List.mem_range.mp hj; omega)
          omega
        have dB : ∀ j, j < 12 → -mx ≤ fV h1 l1 r1 (S + j) - fV h2 l2 r2 (S + j) ∧ fV h1 l1 r1 (S + j) - fV h2 l2 r2 (S + j) ≤ mx := fun j hj => by
          have := hx _ (List.mem_map.mpr ⟨j, List.mem_range.mpr hj, rfl⟩)
          omega
        by_cases c0 : c = 0
        · walk_at "w"
          exact k S H2 e2 (evp_zero c1 c2 dv1 dv2 S1 S2 (by omega)) (by omega)
        · have na : (0 : Int) < (c.natAbs : Nat) := by omega
          have q0 : 0 ≤ mx / (c.natAbs : Int) := Int.ediv_nonneg mB.1 (by omega)
          have q1 : mx / (c.natAbs : Int) ≤ mx := Int.ediv_le_self _ mB.1
          walk_at "w"
          obtain ⟨q', hq'⟩ := Int.eq_ofNat_of_zero_le q0
          rw [hq', show (S : Int) + 12 * ((q' : Int) + 1) = ((S + 12 * (q' + 1) : Nat) : Int) by omega]
          refine k _ H2 e2 ((evp_last (r1 := r1) (r2 := r2) c1 c2 dv1 dv2 (by decide) S1 S2 (by omega) (L := S + 12 * (q' + 1)) (by omega) fun j a b => ?_).2.one 12) (by omega)
          rw [← hc]
          have d' := dB (j - S) (by omega)
          rw [show S + (j - S) = j by omega] at d'
          have := (lastO_le (d := fV h1 l1 r1 j - fV h2 l2 r2 j) (c := c) (m := 12) (p := (j : Int) + 1) (B := mx) c0 (by omega) d' mB.1).1
          rw [hq'] at this
          show lastO _ _ ((12 : Nat) : Int) _ ≤ _
          omega

end
section
theorem plain_one (v r : Int) : plainF [] [v] r = ([], [v], r) := by
  obtain ⟨c, s, hc, hs, A⟩ := plainF_at (h := []) (l := [v]) (r := r) (List.cons_ne_nil _ _)
  have s1 := A.s1
  obtain rfl : c = 0 := by simpa using hc
  obtain rfl : s = 1 := by
    have : s ≤ 1 := hs
    omega
  rw [A.pf]
  have e0 : extL [v] r (0 - (([] : List Int).length : Int)) = v := by
    show gI [v] ((0 - 0) % 1) + r * ((0 - 0) / 1) = v
    simp [gI]
  have e1 : extL [v] r ((1 : Nat) - (([] : List Int).length : Int)) = v + r := by
    show gI [v] ((1 - 0) % 1) + r * ((1 - 0) / 1) = v + r
    simp [gI]
  refine Prod.ext rfl (Prod.ext ?_ ?_)
  · show [extL [v] r (((0 + 0 : Nat) : Int) - (([] : List Int).length : Int))] = [v]
    exact congrArg (· :: []) e0
  · show extL [v] r ((1 : Nat) - (([] : List Int).length : Int)) - extL [v] r (0 - (([] : List Int).length : Int)) = r
    rw [e0, e1]
    omega
theorem val_one {v r : Int} (v0 : 0 ≤ v) (r0 : 0 ≤ r) (rr : r ≤ 1000) : Val [] [v] r := by
  refine ⟨fun n h => absurd h List.not_mem_nil, fun n h => by rw [List.mem_singleton.mp h]; exact v0, fun i hi => absurd hi (by simp), fun i hi => absurd hi (by simp), r0, (fun e => nomatch e), fun e => absurd rfl e, fun _ => ?_, ?_⟩
  · show gI [v] (((1 : Nat) : Int) - 1) ≤ gI [v] 0 + r
    rw [show (((1 : Nat) : Int) - 1) = 0 from rfl]
    omega
  · exact ⟨by omega, by omega, by decide, show 1 ≤ 50000 by decide⟩
theorem tv_one {v r : Int} (j : Nat) : fV [] [v] r j = v + r * j := by
  rw [fV_loop (Nat.zero_le _)]
  show gI [v] (((j : Int) - 0) % 1) + r * (((j : Int) - 0) / 1) = _
  simp [gI]
/-- the edge: a shift by 0 and a constant -/
theorem edge_sg (v : Int) (j : Nat) : sgT [] [1] 1 [] [v] 0 j = sdI (1 + j - v) := by
  rw [sgT_sd (List.cons_ne_nil _ _) (List.cons_ne_nil _ _), tv_one, tv_one]
  congr 1
  omega
theorem edge_can {n : Nat} (h : 1 ≤ n) : Can (sgT [] [1] 1 [] [(n : Int)] 0) n 1 := by
  refine ⟨Nat.le_refl 1, fun j hj => ?_, fun t C t1 t2 => by omega, fun c' e => ?_⟩
  · rw [edge_sg, edge_sg, sd_pos (by omega), sd_pos (by omega)]
  · rw [edge_sg, edge_sg, sd_pos (by omega)]
    unfold sdI
    rw [if_pos (by omega)]
    decide
theorem edge_sm {v : Int} (v0 : 0 ≤ v) (v6 : v ≤ 6000) {r : Int} (r0 : 0 ≤ r) (r1 : r ≤ 1) : SmS [] [v] r := by
  refine ⟨val_one v0 r0 (by omega), by decide, show 1 ≤ 4 by decide, by omega, fun j => ?_⟩
  rw [tv_one]
  have := Int.mul_le_mul_of_nonneg_right r1 (show (0 : Int) ≤ (j : Int) by omega)
  omega
theorem r_eqSS {K : PySem.W.Frag} {x y : Str} {H : Hp} {Q : VK} (h : Q (.bl (decide (x = y))) H) : rEqU K (.str x) (.str y) H Q := .inl ⟨rfl, by
  rw [show decide (V.str x = V.str y) = decide (x = y) from decide_eq_decide.mpr ⟨V.str.inj, congrArg _⟩]
  exact h⟩
abbrev N__law_refused : List Str := ["call", "first", "second", "error"]
theorem sc__law_refused : FnScope N__law_refused ["call", "first", "second"] (defScope s__law_refused) := ⟨rfl, rfl, rfl, by decide +kernel, rfl, by decide +kernel, by decide +kernel⟩
theorem ok__law_refused {P : Program} {w : World} {K : PySem.W.Frag} {mg : Str → Option Value} {base : Heap} (E : Env P K mg) : Fn P w K mg base CX0 8 "_law_refused" (sp3 fun a b c H Q _ => (∃ (f s : Addr) (h1 l1 h2 l2 : List Int) (r1 r2 : Int) (B n : Nat), a = .str "sides" ∧ b = .ref f ∧ c = .ref s ∧ TabAt K H f h1 l1 r1 ∧ TabAt K H s h2 l2 r2 ∧ SmS h1 l1 r1 ∧ SmS h2 l2 r2 ∧ B ≤ 10000 ∧ (∀ j : Nat, j ≤ 20 → -(B : Int) ≤ fV h1 l1 r1 j - fV h2 l2 r2 j ∧ fV h1 l1 r1 j - fV h2 l2 r2 j ≤ B) ∧ Can (sgT h1 l1 r1 h2 l2 r2) n 1 ∧ 5000 < n ∧ ∀ q H', Ex H H' → SqT K H' q [.str "many", .str "place"] → Q (.ref q) H') ∨ (∃ p hs ls d, a = .str "call" ∧ b = .ref p ∧ SidAt K H p hs ls ∧ ls ≠ [] ∧ hs.length ≤ 50000 ∧ ls.length ≤ 50000 ∧ Dp K H c d ∧ dIsCount d = false ∧ ∀ q H', Ex H H' → SqT K H' q [.str "count", c] → Q (.ref q) H')) := by
  obtain ⟨fd, F⟩ := E.dd__law_refused
  refine Fn.mk0 F E.g__law_refused sc__law_refused sp3_len (fun _ _ _ _ _ _ us hl => match us, hl with | [_, _, _], _ => rfl) (fun cdv A outer s H vs Q X hr h => ?_)
  have nd := sc__law_refused.nd
  obtain ⟨v0, v1, v2, rfl, h⟩ := h
  refine ⟨_, (pss_one (ptryas2 K (i := 3) rfl rfl nd rfl rfl ⟨rfl, rfl, .inl E.g_TooMany⟩ ⟨rfl, rfl, .inl E.g_BadCount⟩ (fun W pn xe tk =>
   (pss_cons (ps_if (pt_cmpR (kEq K hr) (pv 0) (pe_str) (nomark _))
   (pss_one (ps_expr (pcS (ok_sides E) hr (by decide) tk rfl (pa_cons (pv 1) (pa_cons (pv 2) pa_nil)))))
   (pss_one (ps_expr (pclS (ok_Sides_call E) hr (by decide) tk (pv 1) (pa_cons (pv 2) pa_nil)))))
  (pss_one (ps_ret (pe_non))))) (fun a oe cls d pn hz hf =>
   (pss_one (ps_ret (pe_tup (pa_cons (pe_str) (pa_cons (pe_xf E.xf_TooMany E.nf_TooMany_word hz hf (pv 3)) pa_nil)))))) (fun a oe cls d pn hz hf =>
   (pss_one (ps_ret (pe_tup (pa_cons (pe_str) (pa_cons (pe_xf E.xf_BadCount E.nf_BadCount_thing hz hf (pv 3)) pa_nil)))))))), ?_⟩
  change (_ : TS) _ [some v0, some v1, some v2, none] H
  try dsimp only [cxOf, Cx.nox, Cx.blk]
  rcases h with ⟨f, s, h1, l1, h2, l2, r1, r2, B, n, rfl, rfl, rfl, T1, T2, A1, A2, B1, hB, CAN, n5, k⟩ | ⟨p, hs, ls, d, rfl, rfl, sd, ne, z1, z2, dv, dn, k⟩
  · refine w_tryAs2 ?_
    walk_at "w"
    refine r_eqSS ?_
    rw [decide_eq_true rfl]
    walk_at "w"
    refine w_callS ?_
    walk_at "w"
    refine ⟨_, _, rfl, f, s, h1, l1, h2, l2, r1, r2, B, rfl, rfl, T1, T2, A1, A2, B1, hB, fun c s' can _ _ => ?_⟩
    obtain ⟨e1, _⟩ := can.uniq CAN
    refine ⟨fun c5 => by omega, fun _ dd H1 e1 g1 => ?_⟩
    refine w_mas1 E.xe_TooMany fun ae na => ?_
    dsimp only [List.set]
    walk_at "w"
    refine w_xf (fs := []) (v := .non) ?_
    walk_at "w"
    refine ⟨rfl, rfl, dd, _, .str "place", rfl, g1, by simp only [List.lookup, beq_self_eq_true], ?_⟩
    walk_at "w"
    exact fun q H2 _ e2 g2 => k q H2 (e1.trans e2) (st_of g2)
  · refine w_tryAs2 ?_
    walk_at "w"
    refine r_eqSS ?_
    rw [decide_eq_false (by decide +kernel)]
    walk_at "w"
    refine w_callOS ?_
    walk_at "w"
    refine ⟨p, rfl, ?_⟩
    walk_at "w"
    obtain ⟨dx, fs, hp⟩ := sid_mine sd
    refine ⟨⟨dx, fs, hp⟩, _, _, rfl, p, hs, ls, rfl, sd, ne, z1, z2, .inr ⟨d, dv, dn, fun dd H1 e1 g1 => ?_⟩⟩
    refine w_mas0 E.xn_BadCount_TooMany (w_mas1 E.xe_BadCount fun ae na => ?_)
    dsimp only [List.set]
    walk_at "w"
    refine w_xf (fs := []) (v := .non) ?_
    walk_at "w"
    refine ⟨rfl, rfl, dd, _, v2, rfl, g1, by simp only [List.lookup, beq_self_eq_true], ?_⟩
    walk_at "w"
    exact fun q H2 _ e2 g2 => k q H2 (e1.trans e2) (st_of g2)
abbrev spEdge (K : PySem.W.Frag) : Sp := sp1 fun s H Q _ => ∃ x, s = .ref x ∧ SrcAt H x ∧ ∀ H', Fr x H H' → SrcAt H' x → Q (.bl true) H'
abbrev N__law_edge : List Str := ["source", "more", "high", "told"]
theorem sc__law_edge : FnScope N__law_edge ["source"] (defScope s__law_edge) := ⟨rfl, rfl, rfl, by decide +kernel, rfl, by decide +kernel, by decide +kernel⟩
theorem ok__law_edge {P : Program} {w : World} {K : PySem.W.Frag} {mg : Str → Option Value} {base : Heap} (E : Env P K mg) : Fn P w K mg base CX0 13 "_law_edge" (spEdge K) := by
  obtain ⟨fd, F⟩ := E.dd__law_edge
  refine Fn.mk0 F E.g__law_edge sc__law_edge sp1_len (fun _ _ _ _ _ _ us hl => match us, hl with | [_], _ => rfl) (fun cdv A outer s H vs Q X hr h => ?_)
  have nd := sc__law_edge.nd
  obtain ⟨v0, rfl, h⟩ := h
  refine ⟨_, (pss_cons (ps_set (i := 1) nd rfl (.inl rfl) (pc (ok__law_pick E) hr (by decide) pass0 rfl (pa_cons (pv 0) (pa_cons (pe_int) pa_nil))))
  (pss_cons (ps_set (i := 2) nd rfl (.inl rfl) (pc (ok__law_table E) hr (by decide) pass0 rfl (pa_cons (pe_tup (pa_cons (pe_tup pa_nil) (pa_cons (pe_tup (pa_cons (pe_op (kAdd K) (pe_int) (pv 1)) pa_nil)) (pa_cons (pe_int) pa_nil)))) pa_nil)))
  (pss_cons (ps_if (pt_cmpR (kEq K hr) (pv 1) (pe_int) (nomark _))
   (pss_one (ps_ret (pe_cmpR (kEq K hr) (pc (ok__law_refused E) hr (by decide) pass0 rfl (pa_cons (pe_str) (pa_cons (psm (ok_Table_shift E) hr (by decide) (pe_glob (v := .ref (He.ga K "Table")) (by rfl) E.g_Table rfl) (pa_cons (pe_int) pa_nil)) (pa_cons (pv 2) pa_nil)))) (pe_tup (pa_cons (pe_str) (pa_cons (pe_str) pa_nil))) (nomark _))))
   pss_nil)
  (pss_cons (ps_set (i := 3) nd rfl (.inl rfl) (pc (ok_sides E) hr (by decide) passN rfl (pa_cons (psm (ok_Table_shift E) hr (by decide) (pe_glob (v := .ref (He.ga K "Table")) (by rfl) E.g_Table rfl) (pa_cons (pe_int) pa_nil)) (pa_cons (pv 2) pa_nil))))
  (pss_one (ps_ret (pe_and (pe_cmpR (kEq K hr) (pe_callB (kLen K) (by rfl) E.f_len (by decide +kernel) (pa_cons (kFld K (pv 3) rfl) pa_nil)) (pe_int) (nomark _)) (pe_and (pe_cmpR (kEq K hr) (kFld K (pv 3) rfl) (pe_tup (pa_cons (pe_int) pa_nil)) (nomark _)) (pe_and (pe_cmpR (kEq K hr) (pe_slice (kSl K) (kFld K (pv 3) rfl) (po_some (pe_int)) po_none) (pe_tup (pa_cons (pe_un un_neg (pe_int)) (pa_cons (pe_int) pa_nil))) (nomark _)) (pe_one (pe_cmpR (kEq K hr) (ppr (ok_Sides_settled E) hr (by decide) (pv 3) rfl) (pe_tup (pa_cons (pe_int) (pa_cons (pe_int) pa_nil))) (nomark _)))))))))))), ?_⟩
  change (_ : TS) _ [some v0, none, none, none] H
  try dsimp only [cxOf, Cx.nox, Cx.blk]
  obtain ⟨x, rfl, hs, k⟩ := h
  walk_at "w"
  refine ⟨x, 2, rfl, rfl, by decide, by decide, hs, fun m H1 m0 m1 q1 f1 => ?_⟩
  walk_at "w"
  intro p1 H2 n2 e2 g2
  walk_at "w"
  intro p2 H3 n3 e3 g3
  walk_at "w"
  intro p3 H4 n4 e4 g4
  walk_at "w"
  obtain ⟨n, hn⟩ : ∃ n : Nat, (n : Int) = 5000 + m := ⟨(5000 + m).toNat, by omega⟩
  rw [← hn] at g3
  refine ⟨[], [(n : Int)], 0, dp_of_raw (st_of g4) (st_of (e4 _ _ (e3 _ _ g2))) (st_of (e4 _ _ g3)), val_one (by omega) (by decide) (by decide), fun ph H5 e5 TH => ?_⟩
  rw [plain_one] at TH
  have q5 := q1.ex (((e2.trans e3).trans e4).trans e5)
  have F5 : Fr x H H5 := f1.trans (Fr.of (((e2.trans e3).trans e4).trans e5))
  clear g2 g3 g4 n2 n3 n4 e2 e3 e4 e5
  have n1 : n = 5000 ∨ n = 5001 := by omega
  have SA := edge_sm (v := 1) (r := 1) (by decide) (by decide) (by decide) (by decide)
  have SB := edge_sm (v := (n : Int)) (r := 0) (by omega) (by omega) (by decide) (by decide)
  have CAN := edge_can (n := n) (by omega)
  have DB : ∀ j : Nat, j ≤ 20 → -((5001 : Nat) : Int) ≤ fV [] [1] 1 j - fV [] [(n : Int)] 0 j ∧ fV [] [1] 1 j - fV [] [(n : Int)] 0 j ≤ ((5001 : Nat) : Int) := fun j hj => by
    rw [tv_one, tv_one]
    omega
  walk_at "w"
  refine w_ite (fun c => ?_) (fun c => ?_)
  · walk_at "w"
    refine w_smeth ?_
    walk_at "w"
    refine ⟨_, rfl, 0, rfl, by decide, by decide, fun ps H6 e6 TS => ?_⟩
    rw [show plainF (shH 0) (shL 0) 1 = ([], [1], 1) from plain_one 1 1] at TS
    walk_at "w"
    refine .inl ⟨ps, ph, _, _, _, _, _, _, 5001, n, rfl, rfl, rfl, TS, ex_tab e6 TH, SA, SB, by decide, DB, CAN, by omega, fun q H7 e7 sq => ?_⟩
    walk_at "w"
    intro q2 H8 n8 e8 g8
    refine r_eqD (d := .tuple [.str "many", .str "place"]) (e := .tuple [.str "many", .str "place"]) (.tup (ex_t e8 sq) (.cons (.str _) (.cons (.str _) .nil))) (.tup (st_of g8) (.cons (.str _) (.cons (.str _) .nil))) (by decide +kernel) (by decide +kernel) ?_
    rw [show PyData.eqv (.tuple [.str "many", .str "place"]) (.tuple [.str "many", .str "place"]) = true by decide +kernel]
    walk_at "w"
    exact k H8 (F5.trans (Fr.of ((e6.trans e7).trans e8))) (q5.ex ((e6.trans e7).trans e8))
  · walk_at "w"
    refine w_smeth ?_
    walk_at "w"
    refine ⟨_, rfl, 0, rfl, by decide, by decide, fun ps H6 e6 TS => ?_⟩
    rw [show plainF (shH 0) (shL 0) 1 = ([], [1], 1) from plain_one 1 1] at TS
    walk_at "w"
    refine ⟨ps, ph, _, _, _, _, _, _, 5001, rfl, rfl, TS, ex_tab e6 TH, SA, SB, by decide, DB, fun c' s' can _ _ => ?_⟩
    obtain ⟨ec, es⟩ := can.uniq CAN
    obtain rfl : n = 5000 := by omega
    rw [ec, es]
    refine ⟨fun _ q H7 e7 sid => ?_, fun h => absurd h (by decide)⟩
    have gv : ∀ j : Nat, sgT [] [1] 1 [] [((5000 : Nat) : Int)] 0 j = sdI ((j : Int) - 4999) := fun j => by
      rw [edge_sg]
      congr 1
      omega
    have zl : ((List.range 5000).map (sgT [] [1] 1 [] [((5000 : Nat) : Int)] 0)).length = 5000 := by rw [List.length_map, List.length_range]
    have lp : ((List.range 1).map fun i => sgT [] [1] 1 [] [((5000 : Nat) : Int)] 0 (5000 + i)) = [1] := by
      show [sgT [] [1] 1 [] [((5000 : Nat) : Int)] 0 (5000 + 0)] = [1]
      rw [gv, sd_pos (by omega)]
    rw [lp] at sid
    walk_at "w"
    refine r_sidHead E sid fun th st => ?_
    have dr : ((List.range 5000).map (sgT [] [1] 1 [] [((5000 : Nat) : Int)] 0)).drop 4998 = [-1, 0] := by
      refine List.ext_getElem (by rw [List.length_drop, zl]; rfl) fun k h1 h2 => ?_
      rw [List.getElem_drop, List.getElem_map, List.getElem_range, gv]
      have : k = 0 ∨ k = 1 := by simp at h2; omega
      rcases this with rfl | rfl
      · rw [sd_neg (by decide)]
        rfl
      · rfl
    generalize (List.range 5000).map (sgT [] [1] 1 [] [((5000 : Nat) : Int)] 0) = hs at *
    walk_at "w"
    refine r_sidLoop E sid fun tl st2 => ?_
    walk_at "w"
    intro t1 H8 n8 e8 g8
    have sid8 := ex_sid e8 sid
    refine r_eqT (xs := [1]) (ys := [1]) (ex_t e8 st2) (st_of g8) ?_
    rw [decide_eq_true rfl]
    walk_at "w"
    refine r_sidHead E sid8 fun th2 st3 => ?_
    walk_at "w"
    intro t2 H9 e9 st4
    walk_at "w"
    intro t3 H10 n10 e10 g10
    rw [show (4998 : Int).toNat = 4998 from rfl, dr] at st4
    refine r_eqT (xs := [-1, 0]) (ys := [-1, 0]) (ex_t e10 st4) (st_of g10) ?_
    rw [decide_eq_true rfl]
    walk_at "w"
    have sid10 := ex_sid (e9.trans e10) sid8
    obtain ⟨dxs, fss, hsid⟩ := sid_mine sid10
    refine r_prop hsid ?_
    refine ⟨q, hs, [1], rfl, sid10, List.cons_ne_nil _ _, fun v H11 e11 dv => ?_⟩
    rw [show dSet hs [1] = .tuple [.int 1, .int 5001] by unfold dSet; rw [if_neg (by decide), zl]; rfl] at dv
    walk_at "w"
    intro t4 H12 n12 e12 g12
    refine r_eqD (dp_ex e12 dv) (.tup (st_of g12) (.cons (.int _) (.cons (.int _) .nil))) (by decide +kernel) (by decide +kernel) ?_
    rw [show PyData.eqv (.tuple [.int 1, .int 5001]) (.tuple [.int 1, .int 5001]) = true by decide +kernel]
    have EE := ((((((e6.trans e7).trans e8).trans e9).trans e10).trans e11).trans e12)
    exact k _ (F5.trans (Fr.of EE)) (q5.ex EE)

end
section
--@import PyProof.AutoSeq1
/-! list.extend of a tuple -/
open PySem.AutoSeq1 in
theorem list_extend_tup (l : Addr) (items : Array Value) (n : Nat) (b : Addr) (items2 : Array Value) (n2 : Nat) (dd : Option Addr) (sl : Array (Option Value)) (hs0 : ¬(!items.isEmpty && Builtin.List.listTooLong (items.size + items2.size)) = true) (hs1 : items.size ≤ sizeLine) (hs2 : items.size + items2.size ≤ sizeLine + 1) :
    Meets (Builtin.«list.extend» ⟨[.ref l, .ref b], []⟩) (fun _ R s => s.heap.get? l = some { cls := .type "list", dict := none, data := .seq items n, slots := #[] } ∧ s.heap.get? b = some { cls := .type "tuple", dict := dd, data := .seq items2 n2, slots := sl } ∧ R (.ok (.ret Value.none)) { s with heap := s.heap.update l (Obj.mapSeq fun x => x ++ items2), toks := s.toks }) :=
  .of_wp fun prog w A R s h => by
    obtain ⟨hp, g, d, tk, os⟩ := s
    obtain ⟨hl, hb, h⟩ := h
    have f1 := PySem.AutoSeq1.idx_int
    have f2 := PySem.AutoSeq1.sub_tuple_tuple
    have f3 := PySem.AutoSeq1.sub_list_list
    have f4 := PySem.AutoSeq1.sub_tuple_list
    have f5 := PySem.AutoSeq1.sub_list_tuple
    have hz' : (items ++ items2).size ≤ sizeLine + 1 := by rw [Array.size_append]; exact hs2
    wp_walk using (wpAny_updateSeq hl rfl (hz := hs1) (_hz' := hz')), wpAny_loadPart' hl, wpAny_loadPart' hb
    exact ⟨_, rfl, h⟩
def rExtT (K : PySem.W.Frag) : V → List V → Hp → VK → Prop := fun x vs H Q => ∃ l b xs zs, x = .ref l ∧ vs = [.ref b] ∧ H l = some (.lst xs) ∧ SqT K H b zs ∧ xs.length + zs.length ≤ sizeLine ∧ Q .non (upd H l (.lst (xs ++ zs)))
theorem mt_extT {X : Cx} : MtM X "list.extend" (rExtT X.K) := by
  intro pins s σ H x vs v us Q I rx rv h
  obtain ⟨l, b, xs, zs, rfl, rfl, hH, hB, hz, q⟩ := h
  cases rx
  obtain ⟨u, rfl, ru⟩ := rv.one
  cases ru
  obtain ⟨z, its, n, r, hl, e⟩ := I.lstM hH
  obtain ⟨its2, r2, ⟨o2, e2, c2, n2, d2⟩, hl2⟩ := I.tuple hB
  have hl3 := r2.length
  obtain ⟨oc, od, odt, osl⟩ := o2
  dsimp only at c2 d2
  subst c2 d2
  have hsz : its.toArray.size + its2.toArray.size ≤ sizeLine := by rw [List.size_toArray, List.size_toArray]; omega
  have hlong : ¬ (!its.toArray.isEmpty && Builtin.List.listTooLong (its.toArray.size + its2.toArray.size)) = true := by
    rw [notLongL hsz, Bool.and_false]
    exact Bool.false_ne_true
  refine call_meets F.slot_list_extend ⟨_, e, rfl⟩ F.entry_list_extend (F.args_list_extend_2 _ _)
    (list_extend_tup l its.toArray n b its2.toArray n2 od osl hlong (by rw [List.size_toArray]; omega) (by omega)) ⟨e, e2, ?_⟩
  refine ⟨.non, _, I.lset (its' := its ++ its2) hH e (by simp) (r.append r2) ?_, rfl, q⟩
  rw [List.length_append]
  omega
theorem kExtT (K : PySem.W.Frag) {X : Cx} (h : X.K = K := by rfl) : MtM X "list.extend" (rExtT K) := by subst h; exact mt_extT
theorem r_extT {K : PySem.W.Frag} {l b : Addr} {xs zs : List V} {H : Hp} {Q : VK} (h : H l = some (.lst xs)) (hb : SqT K H b zs) (hz : xs.length + zs.length ≤ sizeLine) (q : Q .non (upd H l (.lst (xs ++ zs)))) : rExtT K (.ref l) [.ref b] H Q := ⟨l, b, xs, zs, rfl, rfl, h, hb, hz, q⟩
/-! x in, not in a list or a tuple of flat values -/
theorem kInF (K : PySem.W.Frag) {X : Cx} (h : X.K = K := by rfl) : OpR X (compareOp .In) (rIn K false) := by subst h; exact op_in_seq
theorem kNotInF (K : PySem.W.Frag) {X : Cx} (h : X.K = K := by rfl) : OpR X (compareOp .NotIn) (rIn K true) := by subst h; exact op_notIn_seq
theorem r_inF {K : PySem.W.Frag} {x : V} {p : Addr} {xs : List V} {H : Hp} {Q : VK} (h : SqE K H p xs) (fx : flatV x = true) (fs : xs.all flatV = true) (q : Q (.bl (inV x xs)) H) : rIn K false x (.ref p) H Q := ⟨p, xs, rfl, h, fx, fs, q⟩
theorem r_notInF {K : PySem.W.Frag} {x : V} {p : Addr} {xs : List V} {H : Hp} {Q : VK} (h : SqE K H p xs) (fx : flatV x = true) (fs : xs.all flatV = true) (q : Q (.bl (!inV x xs)) H) : rIn K true x (.ref p) H Q := ⟨p, xs, rfl, h, fx, fs, q⟩

end
section
abbrev dT (t : List Int × List Int × Int) : PyData := dRaw t.1 t.2.1 t.2.2
theorem imm_dT (t : List Int × List Int × Int) : imm (dT t) = true := by
  have key : ∀ l : List Int, immAll (l.map .int) = true := fun l => by
    induction l with
    | nil => rfl
    | cons a l ih => exact ih
  show (immAll (t.1.map .int) && (immAll (t.2.1.map .int) && _)) = true
  rw [key, key]
  rfl
theorem imm_dTs (ts : List (List Int × List Int × Int)) : immAll (ts.map dT) = true := by
  induction ts with
  | nil => rfl
  | cons a l ih =>
    show (imm (dT a) && immAll (l.map dT)) = true
    rw [ih, imm_dT]
    rfl
theorem srcAt_upd {H : Hp} {a b : Addr} {o : HO} (n : b ≠ a) (h : SrcAt H a) : SrcAt (upd H b o) a := by
  obtain ⟨d, s, c, h1, h2⟩ := h
  exact ⟨d, s, c, by rw [upd_ne n.symm]; exact h1, h2⟩
theorem fr_mutK {p t : Addr} {H H' : Hp} {o : HO} (f : Fr p H H') (n : H t = none) : Fr p H (upd H' t o) := fun b u ne e => by
  rw [upd_ne (ne_of_none e n)]
  exact f b u ne e
theorem tex_lst {H : Hp} {p : Addr} {xs ys : List V} (h : H p = some (.lst xs)) : TEx H (upd H p (.lst ys)) := TEx.upd h
def intV : V → Int
  | .int i => i
  | _ => 0
/-- raws as drawn, some of them lifted -/
structure RawS (h l : List Int) (r : Int) : Prop where
  val : Val h l r
  zh : h.length ≤ 4
  zl : l.length ≤ 4
  bh : ∀ n ∈ h, n ≤ 45
  bl : ∀ n ∈ l, n ≤ 45
  br : r ≤ 12
theorem RawS.of {h l : List Int} {r : Int} (ok : RawOk h l r) : RawS h l r := ⟨ok.val, ok.zh, ok.zl, fun n hn => by have := ok.bh n hn; omega, fun n hn => by have := ok.bl n hn; omega, ok.br⟩
theorem gI_lift {h : List Int} {k : Int} {i : Nat} (c : i < h.length) : gI (h.map (· + k)) i = gI h i + k := by
  unfold gI
  rw [Int.toNat_natCast, List.getD_eq_getElem?_getD, List.getD_eq_getElem?_getD, List.getElem?_map, List.getElem?_eq_getElem c]
  rfl
theorem RawS.lift {h l : List Int} {r k : Int} (ok : RawOk h l r) (k0 : 0 ≤ k) (k29 : k ≤ 29) : RawS (h.map (· + k)) (l.map (· + k)) r := by
  have V := ok.val
  have mem : ∀ {x : List Int} {n : Int}, n ∈ x.map (· + k) → ∃ m ∈ x, n = m + k := fun hn => by
    obtain ⟨m, hm, rfl⟩ := List.mem_map.mp hn
    exact ⟨m, hm, rfl⟩
  refine ⟨⟨fun n hn => ?_, fun n hn => ?_, fun i hi => ?_, fun i hi => ?_, V.r0, fun e => V.e0 (by simpa using e), fun e1 e2 => ?_, fun e => ?_, ?_⟩, by rw [List.length_map]; exact ok.zh, by rw [List.length_map]; exact ok.zl, fun n hn => ?_, fun n hn => ?_, ok.br⟩
  · obtain ⟨m, hm, rfl⟩ := mem hn
    have := V.p1 m hm
    omega
  · obtain ⟨m, hm, rfl⟩ := mem hn
    have := V.p2 m hm
    omega
  · rw [List.length_map] at hi
    have := V.r1 i hi
    rw [show ((i : Int) + 1) = ((i + 1 : Nat) : Int) by omega] at this ⊢
    rw [gI_lift (by omega), gI_lift hi]
    omega
  · rw [List.length_map] at hi
    have := V.r2 i hi
    rw [show ((i : Int) + 1) = ((i + 1 : Nat) : Int) by omega] at this ⊢
    rw [gI_lift (by omega), gI_lift hi]
    omega
  · have a1 : h ≠ [] := fun e => e1 (by rw [e]; rfl)
    have a2 : l ≠ [] := fun e => e2 (by rw [e]; rfl)
    have z1 := List.length_pos_iff.mpr a1
    have z2 := List.length_pos_iff.mpr a2
    have := V.hl a1 a2
    rw [List.length_map, show ((h.length : Int) - 1) = ((h.length - 1 : Nat) : Int) by omega, show (0 : Int) = ((0 : Nat) : Int) from rfl] at *
    rw [gI_lift (by omega), gI_lift z2]
    omega
  · have a2 : l ≠ [] := fun q => e (by rw [q]; rfl)
    have z2 := List.length_pos_iff.mpr a2
    have := V.ll a2
    rw [List.length_map, show ((l.length : Int) - 1) = ((l.length - 1 : Nat) : Int) by omega, show (0 : Int) = ((0 : Nat) : Int) from rfl] at *
    rw [gI_lift (by omega), gI_lift z2]
    omega
  · obtain ⟨a, b, c, d⟩ := V.sm
    exact ⟨a, b, by rw [List.length_map]; exact c, by rw [List.length_map]; exact d⟩
  · obtain ⟨m, hm, rfl⟩ := mem hn
    have := ok.bh m hm
    omega
  · obtain ⟨m, hm, rfl⟩ := mem hn
    have := ok.bl m hm
    omega
theorem RawS.le {h l : List Int} {r : Int} (ok : RawS h l r) (j : Nat) : fV h l r j ≤ 45 + 12 * (j : Int) := by
  by_cases c : j < h.length
  · rw [fV_head c]
    have := ok.bh _ (gI_mem (ns := h) (r := (j : Int)) (by omega) (by omega))
    omega
  · rw [fV_loop (by omega)]
    unfold extL
    by_cases hl : l = []
    · subst hl
      have e := ok.val.e0 rfl
      subst e
      rw [Int.zero_mul]
      show gI [] _ + 0 ≤ _
      have : ∀ i, gI [] i = 0 := fun i => by unfold gI; simp
      rw [this]
      omega
    · have l0 : 0 < l.length := List.length_pos_iff.mpr hl
      have m0 := Int.emod_nonneg ((j : Int) - h.length) (show (l.length : Int) ≠ 0 by omega)
      have m1 := Int.emod_lt_of_pos ((j : Int) - h.length) (show (0 : Int) < l.length by omega)
      have b := ok.bl _ (gI_mem (ns := l) m0 m1)
      have q0 : 0 ≤ ((j : Int) - h.length) / l.length := Int.ediv_nonneg (by omega) (by omega)
      have q1 : ((j : Int) - h.length) / l.length ≤ (j : Int) - h.length := Int.ediv_le_self _ (by omega)
      have := Int.mul_le_mul_of_nonneg_right ok.br q0
      omega
/-- the law's tables: plain, small -/
structure Pls (t : List Int × List Int × Int) : Prop where
  sm : SmS t.1 t.2.1 t.2.2
  pl : plainF t.1 t.2.1 t.2.2 = t
  bd : ∀ j : Nat, fV t.1 t.2.1 t.2.2 j ≤ 45 + 12 * (j : Int)
theorem Pls.of {h l : List Int} {r : Int} (ok : RawS h l r) : Pls (plainF h l r) := by
  obtain ⟨v1, v2, v3, v4, v5⟩ := plainF_val ok.val
  obtain ⟨p1, p2, p3, p4, p5, p6⟩ := plainF_ok ok.val
  have a := ok.zh
  have b := ok.zl
  have c := ok.br
  have bd : ∀ j : Nat, fV (plainF h l r).1 (plainF h l r).2.1 (plainF h l r).2.2 j ≤ 45 + 12 * (j : Int) := fun j => by
    by_cases hl : l = []
    · subst hl
      have e := ok.val.e0 rfl
      subst e
      rw [plainF_nil]
      exact ok.le j
    · have ne := (v5 hl).1
      have e := v2 j
      rw [tv_fVs ne, tv_fVs hl] at e
      rw [Option.some.inj e]
      exact ok.le j
  exact ⟨⟨v1, by omega, by omega, by omega, fun j => by have := bd j; omega⟩, v3, bd⟩
theorem Pls.diff {t u : List Int × List Int × Int} (a : Pls t) (b : Pls u) : ∀ j : Nat, j ≤ 20 → -((285 : Nat) : Int) ≤ fV t.1 t.2.1 t.2.2 j - fV u.1 u.2.1 u.2.2 j ∧ fV t.1 t.2.1 t.2.2 j - fV u.1 u.2.1 u.2.2 j ≤ ((285 : Nat) : Int) := fun j hj => by
  have x1 := a.bd j
  have x2 := b.bd j
  have y1 := fV_nn a.sm.val j
  have y2 := fV_nn b.sm.val j
  omega
/-- sides from somewhere on -/
theorem evp_ex {f : Nat → Int} {D m : Nat} (m1 : 1 ≤ m) (P : Evp f D m) : ∃ c s, Can f c s := by
  obtain ⟨s, _, ⟨s1, C, hC⟩, hmin⟩ := least_nat (p := fun s => 1 ≤ s ∧ ∃ C, Evp f C s) (n := m) ⟨m1, D, P⟩
  exact ⟨_, s, cutF_can s1 (fun t C t1 ts h => hmin t ts ⟨t1, C, h⟩) hC⟩
theorem sAt_can {f : Nat → Int} {c s : Nat} (a : Can f c s) (j : Nat) : sAt ((List.range c).map f) ((List.range s).map fun i => f (c + i)) (j + 1) = f j := by
  have s1 := a.s1
  show (if j < _ then _ else _) = _
  rw [List.length_map, List.length_map, List.length_range, List.length_range]
  by_cases h : j < c
  · rw [if_pos h, gI_map_range h]
  · rw [if_neg h]
    rw [show ((j : Int) - (c : Nat)) = ((j - c : Nat) : Int) by omega, ← Int.natCast_emod, gI_map_range (f := fun i => f (c + i)) (Nat.mod_lt _ s1)]
    have := a.per.mul ((j - c) / s) (c + (j - c) % s) (by omega)
    rw [← this]
    congr 1
    have := Nat.mod_add_div (j - c) s
    omega

end
section
theorem imm_dInts (l : List Int) : imm (dInts l) = true := by
  show immAll (l.map .int) = true
  induction l with
  | nil => rfl
  | cons a l ih => exact ih
theorem fr_sid {K : PySem.W.Frag} {a x : Addr} {H H' : Hp} {hs ls : List Int} (f : Fr a H H') (s : SrcAt H a) (t : SidAt K H x hs ls) : SidAt K H' x hs ls := by
  obtain ⟨dx, vh, vl, h1, h2, h3⟩ := t
  refine ⟨dx, vh, vl, f x _ ?_ h1, fr_dp f s (imm_dInts _) h2, fr_dp f s (imm_dInts _) h3⟩
  rintro rfl
  obtain ⟨d, sd, c, q, _⟩ := s
  rw [h1] at q
  cases q
/-- what the law keeps -/
def FxS (K : PySem.W.Frag) (H : Hp) (to ph po pl pr ta tb : Addr) (v1 v2 : V) (t1 t2 : List Int × List Int × Int) (hs ls sg : List Int) : Prop :=
  SidAt K H to hs ls ∧ SqT K H ph (vI hs) ∧ SqT K H po (vI ls) ∧ H pl = some (.lst (vI sg)) ∧ H pr = some (.lst [v1, v2]) ∧ Dp K H v1 (dT t1) ∧ Dp K H v2 (dT t2) ∧ TabAt K H ta t1.1 t1.2.1 t1.2.2 ∧ TabAt K H tb t2.1 t2.2.1 t2.2.2
theorem FxS.ex {K : PySem.W.Frag} {H H' : Hp} {to ph po pl pr ta tb : Addr} {v1 v2 : V} {t1 t2 : List Int × List Int × Int} {hs ls sg : List Int} (e : Ex H H') (h : FxS K H to ph po pl pr ta tb v1 v2 t1 t2 hs ls sg) : FxS K H' to ph po pl pr ta tb v1 v2 t1 t2 hs ls sg := by
  obtain ⟨a, b, c, d, f, g, i, j, k⟩ := h
  exact ⟨ex_sid e a, ex_t e b, ex_t e c, e _ _ d, e _ _ f, dp_ex e g, dp_ex e i, ex_tab e j, ex_tab e k⟩
theorem FxS.fr {K : PySem.W.Frag} {y : Addr} {H H' : Hp} {to ph po pl pr ta tb : Addr} {v1 v2 : V} {t1 t2 : List Int × List Int × Int} {hs ls sg : List Int} (e : Fr y H H') (s : SrcAt H y) (n1 : pl ≠ y) (n2 : pr ≠ y) (h : FxS K H to ph po pl pr ta tb v1 v2 t1 t2 hs ls sg) : FxS K H' to ph po pl pr ta tb v1 v2 t1 t2 hs ls sg := by
  obtain ⟨a, b, c, d, f, g, i, j, k⟩ := h
  exact ⟨fr_sid e s a, fr_t e s b, fr_t e s c, e _ _ n1 d, e _ _ n2 f, fr_dp e s (imm_dT _) g, fr_dp e s (imm_dT _) i, fr_tab e s j, fr_tab e s k⟩
theorem Can.leD {f : Nat → Int} {c s D m : Nat} (a : Can f c s) (P : Evp f D m) (m1 : 1 ≤ m) : c ≤ D := by
  obtain ⟨e, _⟩ := (cutF_can a.s1 a.min (P.down m1 a.per)).uniq a
  have := cutF_le f s D
  omega
theorem Can.back {f : Nat → Int} {c s : Nat} (a : Can f c s) (j : Nat) : ∃ i, i < c + s ∧ i ≤ j ∧ f i = f j := by
  have s1 := a.s1
  by_cases h : j < c
  · exact ⟨j, by omega, Nat.le_refl _, rfl⟩
  · have m1 := Nat.mod_lt (j - c) (show s > 0 by omega)
    have m2 := Nat.mod_le (j - c) s
    refine ⟨c + (j - c) % s, by omega, by omega, ?_⟩
    have := a.per.mul ((j - c) / s) (c + (j - c) % s) (by omega)
    rw [← this]
    congr 1
    have := Nat.mod_add_div (j - c) s
    omega
theorem Can.mem {f : Nat → Int} {c s : Nat} (a : Can f c s) (v : Int) : v ∈ (List.range c).map f ++ ((List.range s).map fun i => f (c + i)) ↔ ∃ j, f j = v := by
  constructor
  · intro h
    rcases List.mem_append.mp h with h | h
    · obtain ⟨j, _, e⟩ := List.mem_map.mp h
      exact ⟨j, e⟩
    · obtain ⟨j, _, e⟩ := List.mem_map.mp h
      exact ⟨c + j, e⟩
  · rintro ⟨j, rfl⟩
    obtain ⟨i, h1, _, e⟩ := a.back j
    rw [← e]
    by_cases h : i < c
    · exact List.mem_append.mpr (.inl (List.mem_map.mpr ⟨i, List.mem_range.mpr h, rfl⟩))
    · exact List.mem_append.mpr (.inr (List.mem_map.mpr ⟨i - c, List.mem_range.mpr (by omega), by rw [show c + (i - c) = i by omega]⟩))
theorem inV_ints (v : Int) : ∀ l : List Int, inV (.int v) (vI l) = decide (v ∈ l)
  | [] => rfl
  | a :: l => by
    show (eqV (.int a) (.int v) || inV (.int v) (vI l)) = _
    rw [inV_ints v l]
    show ((a == v) || _) = _
    by_cases h : a = v
    · subst h
      simp
    · rw [show (a == v) = false from beq_eq_false_iff_ne.mpr h, Bool.false_or]
      simp [show ¬ v = a from fun e => h e.symm]
theorem flat_vI (l : List Int) : (vI l).all flatV = true := List.all_eq_true.mpr fun v hv => by
  obtain ⟨n, _, rfl⟩ := List.mem_map.mp hv
  rfl
theorem neg_fix : ∀ l : List Int, l.map (fun x => -x) = l ↔ ∀ x ∈ l, x = 0
  | [] => ⟨fun _ x h => absurd h List.not_mem_nil, fun _ => rfl⟩
  | a :: l => by
    rw [List.map_cons, List.cons.injEq, neg_fix l]
    constructor
    · rintro ⟨h1, h2⟩ x hx
      rcases List.mem_cons.mp hx with rfl | hx
      · omega
      · exact h2 x hx
    · intro h
      exact ⟨by have := h a (List.mem_cons_self ..); omega, fun x hx => h x (List.mem_cons_of_mem _ hx)⟩
theorem neg_same {hs ls : List Int} (hv : ∀ x ∈ hs ++ ls, x = 0 ∨ x = -1 ∨ x = 1) : decide (hs.map (fun x => -x) = hs ∧ ls.map (fun x => -x) = ls) = (!decide (1 ∈ hs ++ ls) && !decide (-1 ∈ hs ++ ls)) := by
  have iff := and_congr (neg_fix hs) (neg_fix ls)
  by_cases h1 : (1 : Int) ∈ hs ++ ls
  · rw [decide_eq_true h1]
    refine decide_eq_false fun ab => ?_
    obtain ⟨a, b⟩ := iff.mp ab
    rcases List.mem_append.mp h1 with h | h
    · exact absurd (a _ h) (by decide)
    · exact absurd (b _ h) (by decide)
  · rw [decide_eq_false h1]
    by_cases h2 : (-1 : Int) ∈ hs ++ ls
    · rw [decide_eq_true h2]
      refine decide_eq_false fun ab => ?_
      obtain ⟨a, b⟩ := iff.mp ab
      rcases List.mem_append.mp h2 with h | h
      · exact absurd (a _ h) (by decide)
      · exact absurd (b _ h) (by decide)
    · rw [decide_eq_false h2]
      have key : ∀ x ∈ hs ++ ls, x = 0 := fun x hx => by
        rcases hv x hx with h | h | h
        · exact h
        · exact absurd (h ▸ hx) h2
        · exact absurd (h ▸ hx) h1
      exact decide_eq_true (iff.mpr ⟨fun x hx => key x (List.mem_append.mpr (.inl hx)), fun x hx => key x (List.mem_append.mpr (.inr hx))⟩)
theorem leO_rf (a : Option Int) : leO a a = true := by
  cases a <;> simp [leO]
theorem sgO_one {a b : Option Int} : sgO a b = 1 ↔ leO a b = false := by
  unfold sgO
  by_cases h : a = b
  · subst h
    rw [if_pos rfl, leO_rf]
    decide
  · rw [if_neg h]
    cases leO a b <;> decide
theorem sgO_zero {a b : Option Int} : sgO a b = 0 ↔ a = b := by
  unfold sgO
  by_cases h : a = b
  · rw [if_pos h]
    exact ⟨fun _ => h, fun _ => rfl⟩
  · rw [if_neg h]
    refine ⟨fun e => ?_, fun e => absurd e h⟩
    cases q : leO a b <;> rw [q] at e <;> exact absurd e (by decide)
theorem lst_signs {h1 l1 h2 l2 : List Int} {r1 r2 : Int} {o : Option Int} (L : Lst (TV h1 l1 r1) (TV h2 l2 r2) o) : (o = none ∧ ∀ j, sgT h1 l1 r1 h2 l2 r2 j ≠ 1) ∨ ∃ n : Nat, o = some ((n : Int) + 1) ∧ sgT h1 l1 r1 h2 l2 r2 n = 1 ∧ ∀ j, j < n → sgT h1 l1 r1 h2 l2 r2 j ≠ 1 := by
  have key : ∀ j, leO (TV h1 l1 r1 j) (TV h2 l2 r2 j) = true → sgT h1 l1 r1 h2 l2 r2 j ≠ 1 := fun j a b => by
    have b : sgO (TV h1 l1 r1 j) (TV h2 l2 r2 j) = 1 := b
    rw [sgO_one.mp b] at a
    cases a
  rcases L with ⟨e, a⟩ | ⟨n, e, a, b⟩
  · exact .inl ⟨e, fun j => key j (a j)⟩
  · exact .inr ⟨n, e, (sgO_one (a := TV h1 l1 r1 n) (b := TV h2 l2 r2 n)).mpr a, fun j hj => key j (b j hj)⟩
theorem same_sides {t u : List Int × List Int × Int} {c s : Nat} (P1 : Pls t) (P2 : Pls u) (a : Can (sgT t.1 t.2.1 t.2.2 u.1 u.2.1 u.2.2) c s) : (t.1 = u.1 ∧ t.2.1 = u.2.1 ∧ t.2.2 = u.2.2) ↔ (List.range c).map (sgT t.1 t.2.1 t.2.2 u.1 u.2.1 u.2.2) = [] ∧ ((List.range s).map fun i => sgT t.1 t.2.1 t.2.2 u.1 u.2.1 u.2.2 (c + i)) = [0] := by
  constructor
  · rintro ⟨e1, e2, e3⟩
    have z : ∀ j, sgT t.1 t.2.1 t.2.2 u.1 u.2.1 u.2.2 j = 0 := fun j => by
      rw [e1, e2, e3]
      exact sgO_zero.mpr rfl
    have b : Can (sgT t.1 t.2.1 t.2.2 u.1 u.2.1 u.2.2) 0 1 := ⟨Nat.le_refl 1, fun j _ => by rw [z, z], fun t C t1 t2 => by omega, fun c' e => by omega⟩
    obtain ⟨rfl, rfl⟩ := a.uniq b
    refine ⟨rfl, ?_⟩
    show [sgT t.1 t.2.1 t.2.2 u.1 u.2.1 u.2.2 (0 + 0)] = [0]
    rw [z]
  · rintro ⟨e1, e2⟩
    have c0 : c = 0 := by
      have := congrArg List.length e1
      simpa using this
    have s1 : s = 1 := by
      have := congrArg List.length e2
      simpa using this
    subst c0 s1
    have e2 : [sgT t.1 t.2.1 t.2.2 u.1 u.2.1 u.2.2 (0 + 0)] = [0] := e2
    have z0 : sgT t.1 t.2.1 t.2.2 u.1 u.2.1 u.2.2 0 = 0 := (List.cons.inj e2).1
    have z : ∀ j, sgT t.1 t.2.1 t.2.2 u.1 u.2.1 u.2.2 j = 0 := fun j => by
      have := a.per.mul j 0 (Nat.le_refl _)
      rw [Nat.zero_add, Nat.one_mul] at this
      rw [this, z0]
    have q1 := Pl.of P1.sm.val
    have q2 := Pl.of P2.sm.val
    rw [P1.pl] at q1
    rw [P2.pl, ← show TV t.1 t.2.1 t.2.2 = TV u.1 u.2.1 u.2.2 from funext fun j => sgO_zero.mp (z j)] at q2
    exact q1.uniq q2

end
section
--@import HandS.Deep
theorem kIndexD (K : PySem.W.Frag) {X : Cx} {j : Nat} (hr : Room j X.A) (h : X.K = K := by rfl) : MtR X "list.index" (rIndexD K) := by subst h; exact mt_indexD (by have := hr.un; omega)
theorem w_v16 {v : V} {H : Hp} {Q : VK} {x0 x1 x2 x3 x4 x5 x6 x7 x8 x9 x10 x11 x12 x13 x14 x15 : Option V} {l : L2.St} (h : Q v H) : GetN 16 (x0 :: x1 :: x2 :: x3 :: x4 :: x5 :: x6 :: x7 :: x8 :: x9 :: x10 :: x11 :: x12 :: x13 :: x14 :: x15 :: some v :: l) H Q := ⟨v, rfl, h⟩
theorem w_v17 {v : V} {H : Hp} {Q : VK} {x0 x1 x2 x3 x4 x5 x6 x7 x8 x9 x10 x11 x12 x13 x14 x15 x16 : Option V} {l : L2.St} (h : Q v H) : GetN 17 (x0 :: x1 :: x2 :: x3 :: x4 :: x5 :: x6 :: x7 :: x8 :: x9 :: x10 :: x11 :: x12 :: x13 :: x14 :: x15 :: x16 :: some v :: l) H Q := ⟨v, rfl, h⟩
theorem w_v18 {v : V} {H : Hp} {Q : VK} {x0 x1 x2 x3 x4 x5 x6 x7 x8 x9 x10 x11 x12 x13 x14 x15 x16 x17 : Option V} {l : L2.St} (h : Q v H) : GetN 18 (x0 :: x1 :: x2 :: x3 :: x4 :: x5 :: x6 :: x7 :: x8 :: x9 :: x10 :: x11 :: x12 :: x13 :: x14 :: x15 :: x16 :: x17 :: some v :: l) H Q := ⟨v, rfl, h⟩
theorem w_v19 {v : V} {H : Hp} {Q : VK} {x0 x1 x2 x3 x4 x5 x6 x7 x8 x9 x10 x11 x12 x13 x14 x15 x16 x17 x18 : Option V} {l : L2.St} (h : Q v H) : GetN 19 (x0 :: x1 :: x2 :: x3 :: x4 :: x5 :: x6 :: x7 :: x8 :: x9 :: x10 :: x11 :: x12 :: x13 :: x14 :: x15 :: x16 :: x17 :: x18 :: some v :: l) H Q := ⟨v, rfl, h⟩
theorem w_v20 {v : V} {H : Hp} {Q : VK} {x0 x1 x2 x3 x4 x5 x6 x7 x8 x9 x10 x11 x12 x13 x14 x15 x16 x17 x18 x19 : Option V} {l : L2.St} (h : Q v H) : GetN 20 (x0 :: x1 :: x2 :: x3 :: x4 :: x5 :: x6 :: x7 :: x8 :: x9 :: x10 :: x11 :: x12 :: x13 :: x14 :: x15 :: x16 :: x17 :: x18 :: x19 :: some v :: l) H Q := ⟨v, rfl, h⟩
local macro_rules | `(tactic| walk_at "vv") => `(tactic| first | refine w_v0 ?_ | refine w_v1 ?_ | refine w_v2 ?_ | refine w_v3 ?_ | refine w_v4 ?_ | refine w_v5 ?_ | refine w_v6 ?_ | refine w_v7 ?_ | refine w_v8 ?_ | refine w_v9 ?_ | refine w_v10 ?_ | refine w_v11 ?_ | refine w_v12 ?_ | refine w_v13 ?_ | refine w_v14 ?_ | refine w_v15 ?_ | refine w_v16 ?_ | refine w_v17 ?_ | refine w_v18 ?_ | refine w_v19 ?_ | refine w_v20 ?_)
abbrev dP (h l : List Int) : PyData := .tuple [dInts h, dInts l]
theorem shaped_dP (h l : List Int) : SeqAt.shaped (dP h l) = true := by
  show ((PyData.canLayAll0 (h.map .int) && (PyData.canLayAll0 (l.map .int) && true)) && decide (max (PyData.depthAll (h.map .int) + 1) (max (PyData.depthAll (l.map .int) + 1) 0) + 1 ≤ 64)) = true
  rw [canLay_ints, canLay_ints, depth_ints, depth_ints]
  rfl
theorem eqv_dP (h l h' l' : List Int) : PyData.eqv (dP h l) (dP h' l') = decide (h = h' ∧ l = l') := by
  show (PyData.eqvAll (h.map .int) (h'.map .int) && (PyData.eqvAll (l.map .int) (l'.map .int) && true)) = _
  rw [eqv_ints, eqv_ints]
  simp
theorem r_neB {K : PySem.W.Frag} {H : Hp} {Q : VK} {i j : Bool} (h : Q (.bl (!decide (i = j))) H) : rNeU K (.bl i) (.bl j) H Q := .inl ⟨rfl, by
  have q : decide (V.bl i = V.bl j) = decide (i = j) := decide_eq_decide.mpr ⟨V.bl.inj, congrArg _⟩
  rw [q]; exact h⟩
theorem w_andC {b : Bool} {te : TE} {σ : L2.St} {H : Hp} {k : VK} (v : V) (h : ∀ H', Ex H H' → k v H') (h1 : b = true → ∀ k' : VK, (∀ H', Ex H H' → k' v H') → te σ H k') (h2 : b = false → v = .bl false) : if b = true then te σ H k else k (.bl false) H := by
  cases b with
  | true =>
    rw [if_pos rfl]
    exact h1 rfl k h
  | false =>
    rw [if_neg Bool.false_ne_true, ← h2 rfl]
    exact h H (Ex.refl _)
abbrev N_law : List Str := ["script", "source", "raws", "turn", "raw", "more", "drawer", "first", "second", "upto", "signs", "head", "loop", "told", "far", "back", "verdict", "value", "n", "sign", "bad"]
theorem sc_law : FnScope N_law ["script"] (defScope s_law) := ⟨rfl, rfl, rfl, by decide +kernel, rfl, by decide +kernel, by decide +kernel⟩
abbrev lawSp (K : PySem.W.Frag) : Sp := sp1 fun s H Q _ => ∃ (a : Addr) (ns : List Int), s = .ref a ∧ SqL K H a (vI ns) ∧ (∀ z ∈ ns, Builtin.Int.intBits z ≤ 1048576) ∧ ns.length ≤ 63 ∧ ∀ H', Q (.bl true) H'
theorem ok_law {P : Program} {w : World} {K : PySem.W.Frag} {mg : Str → Option Value} {base : Heap} (E : Env P K mg) {fd : FuncData} (F : FunD K "law" "law" (defArgs s_law) (defBody s_law) (defScope s_law) (d_law.dvs K) [] (d_law.adr K) fd) : FnOk P w K mg base CX0 14 (d_law.adr K) fd ["script"] (lawSp K) := by
  refine fnok0 F sc_law sp1_len (fun cdv A outer s H vs Q X hr h => ?_)
  have nd := sc_law.nd
  obtain ⟨v0, rfl, h⟩ := h
  refine ⟨_, (pss_cons (ps_set (i := 1) nd rfl (.inl rfl) (pc (ok__law_source E) hr (by decide) pass0 rfl (pa_cons (pv 0) (pa_cons (pe_int) pa_nil))))
  (pss_cons (ps_set (i := 2) nd rfl (.inr rfl) (pe_lst (pa_nil)))
  (pss_cut (ps_for PassesOwn.never rfl (pi_range1 (by rfl) E.f_range (pa_cons (pe_int) pa_nil)) (pg_name (i := 3) nd rfl (.inl rfl))
   (pss_cons (ps_set (i := 4) nd rfl (.inl rfl) (pc (ok__law_raw E) hr (by decide) pass0 rfl (pa_cons (pv 1) (pa_cons (pe_bl) pa_nil))))
  (pss_cut (ps_if (PW.pt (pw_and (pt_cmpR (kEq K hr) (pc (ok__law_pick E) hr (by decide) pass0 rfl (pa_cons (pv 1) (pa_cons (pe_int) pa_nil))) (pe_int) (nomark _)) (pw_and1 (pt_cmpR op_gt (pe_callB (kLen K) (by rfl) E.f_len (by decide +kernel) (pa_cons (pe_ix (kIx K) (pv 4) (pe_int) (fun _ _ => rfl)) pa_nil)) (pe_int) (nomark _)))))
   (pss_cons (ps_set (i := 5) nd rfl (.inr rfl) (pc (ok__law_pick E) hr (by decide) pass0 rfl (pa_cons (pv 1) (pa_cons (pe_int) pa_nil))))
  (pss_one (ps_set (i := 4) nd rfl (.inl rfl) (pe_tup (pa_cons (pe_lc (own := [("value", 17)]) (g := gName 17) (tt := tYes) rfl nd (kSeq K (pe_ix (kIx K) (pv 4) (pe_int) (fun _ _ => rfl))) (blkOk_by (N := N_law) (sc := defScope s_law) (by decide +kernel)) (fun _ _ _ _ _ => pg_name (i := 17) nd rfl (Or.inl rfl)) (fun _ _ _ _ _ => pts_nil) (fun _ _ _ _ _ => pe_op (kAdd K) (pv 17) (pv 5))) (pa_cons (pe_lc (own := [("value", 17)]) (g := gName 17) (tt := tYes) rfl nd (kSeq K (pe_ix (kIx K) (pv 4) (pe_int) (fun _ _ => rfl))) (blkOk_by (N := N_law) (sc := defScope s_law) (by decide +kernel)) (fun _ _ _ _ _ => pg_name (i := 17) nd rfl (Or.inl rfl)) (fun _ _ _ _ _ => pts_nil) (fun _ _ _ _ _ => pe_op (kAdd K) (pv 17) (pv 5))) (pa_cons (pe_ix (kIx K) (pv 4) (pe_int) (fun _ _ => rfl)) pa_nil)))))))
   pss_nil)
  (pss_one (ps_expr (kBM K (pe_bm PySem.F.plainAttrs_list PySem.F.slot_list_append PySem.F.type_list_append mt_append (pv 2) (pa_cons (pc (ok__law_plain E) hr (by decide) pass0 rfl (pa_cons (pe_ix (kIx K) (pv 4) (pe_int) (fun _ _ => rfl)) (pa_cons (pe_ix (kIx K) (pv 4) (pe_int) (fun _ _ => rfl)) (pa_cons (pe_ix (kIx K) (pv 4) (pe_int) (fun _ _ => rfl)) pa_nil)))) pa_nil))))))))
  (pss_cons (ps_set (i := 6) nd rfl (.inl rfl) (pc (ok__law_source E) hr (by decide) pass0 rfl (pa_cons (pv 0) (pa_cons (pe_int) pa_nil))))
  (pss_cut (ps_if (PW.pt (pw_and (pt_cmpR (kEq K hr) (pc (ok__law_pick E) hr (by decide) pass0 rfl (pa_cons (pv 6) (pa_cons (pe_int) pa_nil))) (pe_int) (nomark _)) (pw_and1 (pt_not (kTru K (pc (ok__law_edge E) hr (by decide) pass0 rfl (pa_cons (pv 6) pa_nil)) (by intro _; rfl))))))
   (pss_one (ps_ret (pe_bl)))
   pss_nil)
  (pss_cut (ps_if (pt_cmpR (kEq K hr) (pc (ok__law_pick E) hr (by decide) pass0 rfl (pa_cons (pv 6) (pa_cons (pe_int) pa_nil))) (pe_int) (nomark _))
   (pss_one (ps_asg (pe_ix (kIx K) (pv 2) (pe_int) (fun _ _ => rfl)) (pg_sub (pv 2) (pe_int) set_list)))
   pss_nil)
  (pss_cons (ps_par (i := 7) (j := 8) rfl nd rfl rfl (by decide) rfl rfl (pa_cons (pc (ok__law_table E) hr (by decide) pass0 rfl (pa_cons (pe_ix (kIx K) (pv 2) (pe_int) (fun _ _ => rfl)) pa_nil)) (pa_cons (pc (ok__law_table E) hr (by decide) pass0 rfl (pa_cons (pe_ix (kIx K) (pv 2) (pe_int) (fun _ _ => rfl)) pa_nil)) pa_nil)) rfl)
  (pss_cons (ps_set (i := 9) nd rfl (.inl rfl) (pe_op (kAdd K) (pc (ok__law_far_apart E) hr (by decide) pass0 rfl (pa_cons (pe_ix (kIx K) (pv 2) (pe_int) (fun _ _ => rfl)) (pa_cons (pe_ix (kIx K) (pv 2) (pe_int) (fun _ _ => rfl)) pa_nil))) (pe_int)))
  (pss_cons (ps_set (i := 10) nd rfl (.inr rfl) (pe_lc (own := [("n", 18)]) (g := gName 18) (tt := tYes) rfl nd (pi_range2 (by rfl) E.f_range (pa_cons (pe_int) (pa_cons (pe_op (kAdd K) (pv 9) (pe_int)) pa_nil))) (blkOk_by (N := N_law) (sc := defScope s_law) (by decide +kernel)) (fun _ _ _ _ _ => pg_name (i := 18) nd rfl (Or.inl rfl)) (fun _ _ _ _ _ => pts_nil) (fun _ _ _ _ _ => pc (ok__law_sign E) hr (by decide) pass0 rfl (pa_cons (pe_ix (kIx K) (pv 2) (pe_int) (fun _ _ => rfl)) (pa_cons (pe_ix (kIx K) (pv 2) (pe_int) (fun _ _ => rfl)) (pa_cons (pv 18) pa_nil))))))
  (pss_cons (ps_asg (pc (ok__law_cut_signs E) hr (by decide) pass0 rfl (pa_cons (pv 10) pa_nil)) (kGtup K rfl (pgs_cons (pg_name (i := 11) nd rfl (.inl rfl)) (pgs_cons (pg_name (i := 12) nd rfl (.inl rfl)) (pgs_nil)))))
  (pss_cut (ps_set (i := 13) nd rfl (.inr rfl) (pc (ok_sides E) hr (by decide) passN rfl (pa_cons (pv 7) (pa_cons (pv 8) pa_nil))))
  (pss_cons (ps_if (PW.pt (pw_or (pt_not (kTru K (pe_callB (kIsi K) (by rfl) E.f_isinstance (by decide +kernel) (pa_cons (pv 13) (pa_cons (pe_glob (v := .ref (He.ga K "Sides")) (by rfl) E.g_Sides rfl) pa_nil))) (by intro _; rfl))) (pw_or1 (pt_cmpR (kNe K hr) (pe_tup (pa_cons (kFld K (pv 13) rfl) (pa_cons (kFld K (pv 13) rfl) pa_nil))) (pe_tup (pa_cons (pv 11) (pa_cons (pv 12) pa_nil))) (nomark _)))))
   (pss_one (ps_ret (pe_bl)))
   pss_nil)
  (pss_cut (ps_if (PW.pt (pw_or (pt_not (kTru K (pe_callB (kIsi K) (by rfl) E.f_isinstance (by decide +kernel) (pa_cons (kFld K (pv 13) rfl) (pa_cons (pe_bltn (v := .ty "tuple") (by rfl) E.f_tuple (by decide +kernel) rfl) pa_nil))) (by intro _; rfl))) (pw_or1 (pt_not (kTru K (pe_callB (kAll K rfl) (by rfl) E.f_all (by decide +kernel) (pa_cons (pe_lc (own := [("sign", 19)]) (g := gName 19) (tt := tYes) rfl nd (kSeq K (pe_op (kAdd K) (kFld K (pv 13) rfl) (kFld K (pv 13) rfl))) (blkOk_by (N := N_law) (sc := defScope s_law) (by decide +kernel)) (fun _ _ _ _ _ => pg_name (i := 19) nd rfl (Or.inl rfl)) (fun _ _ _ _ _ => pts_nil) (fun _ _ _ _ _ => pc (ok__law_is_integer E) hr (by decide) pass0 rfl (pa_cons (pv 19) pa_nil))) pa_nil)) (by intro _; rfl))))))
   (pss_one (ps_ret (pe_bl)))
   pss_nil)
  (pss_cut (ps_if (PW.pt (pw_or (pt_not (kTru K (pe_callB (kAll K rfl) (by rfl) E.f_all (by decide +kernel) (pa_cons (pe_lc (own := [("n", 18)]) (g := gName 18) (tt := tYes) rfl nd (pi_range1 (by rfl) E.f_range (pa_cons (pe_callB (xMin2 rfl) (by rfl) E.f_min (by decide +kernel) (pa_cons (pv 9) (pa_cons (pe_int) pa_nil))) pa_nil)) (blkOk_by (N := N_law) (sc := defScope s_law) (by decide +kernel)) (fun _ _ _ _ _ => pg_name (i := 18) nd rfl (Or.inl rfl)) (fun _ _ _ _ _ => pts_nil) (fun _ _ _ _ _ => pe_cmpR (kEq K hr) (pclX (ok_Sides_call E) hr (by decide) (pv 13) (pa_cons (pe_op (kAdd K) (pv 18) (pe_int)) pa_nil)) (pe_ix (kIx K) (pv 10) (pv 18) (fun _ _ => rfl)) (nomark _))) pa_nil)) (by intro _; rfl))) (pw_or1 (pt_cmpR (kNe K hr) (pclX (ok_Sides_call E) hr (by decide) (pv 13) (pa_cons (pe_int) pa_nil)) (pe_int) (nomark _)))))
   (pss_one (ps_ret (pe_bl)))
   pss_nil)
  (pss_cons (ps_set (i := 14) nd rfl (.inl rfl) (pe_op (kAdd K) (pe_op xPow (pe_int) (pe_int)) (pc (ok__law_pick E) hr (by decide) pass0 rfl (pa_cons (pv 6) (pa_cons (pe_int) pa_nil)))))
  (pss_cut (ps_if (pt_cmpR (kNe K hr) (pclX (ok_Sides_call E) hr (by decide) (pv 13) (pa_cons (pv 14) pa_nil)) (pc (ok__law_sign E) hr (by decide) pass0 rfl (pa_cons (pe_ix (kIx K) (pv 2) (pe_int) (fun _ _ => rfl)) (pa_cons (pe_ix (kIx K) (pv 2) (pe_int) (fun _ _ => rfl)) (pa_cons (pv 14) pa_nil)))) (nomark _))
   (pss_one (ps_ret (pe_bl)))
   pss_nil)
  (pss_cut (ps_if (pt_cmpR (kNe K hr) (ppr (ok_Sides_settled E) hr (by decide) (pv 13) rfl) (pe_ifExp (pt_cmpR (kEq K hr) (pe_callB (kLen K) (by rfl) E.f_len (by decide +kernel) (pa_cons (pv 12) pa_nil)) (pe_int) (nomark _)) (pe_tup (pa_cons (pe_ix (kIx K) (pv 12) (pe_int) (fun _ _ => rfl)) (pa_cons (pe_op (kAdd K) (pe_callB (kLen K) (by rfl) E.f_len (by decide +kernel) (pa_cons (pv 11) pa_nil)) (pe_int)) pa_nil))) (pe_non)) (nomark _))
   (pss_one (ps_ret (pe_bl)))
   pss_nil)
  (pss_cut (ps_set (i := 15) nd rfl (.inl rfl) (pc (ok_sides E) hr (by decide) passN rfl (pa_cons (pv 8) (pa_cons (pv 7) pa_nil))))
  (pss_cut (ps_if (PW.pt (pw_or (pt_cmpR (kNe K hr) (kFld K (pv 15) rfl) (pe_callTy (kTup K) (by rfl) E.f_tuple (by decide +kernel) (pa_cons (pe_lc (own := [("sign", 19)]) (g := gName 19) (tt := tYes) rfl nd (kSeq K (pv 11)) (blkOk_by (N := N_law) (sc := defScope s_law) (by decide +kernel)) (fun _ _ _ _ _ => pg_name (i := 19) nd rfl (Or.inl rfl)) (fun _ _ _ _ _ => pts_nil) (fun _ _ _ _ _ => pe_un un_neg (pv 19))) pa_nil)) (nomark _)) (pw_or1 (pt_cmpR (kNe K hr) (kFld K (pv 15) rfl) (pe_callTy (kTup K) (by rfl) E.f_tuple (by decide +kernel) (pa_cons (pe_lc (own := [("sign", 19)]) (g := gName 19) (tt := tYes) rfl nd (kSeq K (pv 12)) (blkOk_by (N := N_law) (sc := defScope s_law) (by decide +kernel)) (fun _ _ _ _ _ => pg_name (i := 19) nd rfl (Or.inl rfl)) (fun _ _ _ _ _ => pts_nil) (fun _ _ _ _ _ => pe_un un_neg (pv 19))) pa_nil)) (nomark _)))))
   (pss_one (ps_ret (pe_bl)))
   pss_nil)
  (pss_cut (ps_if (PW.pt (pw_or (pt_cmpR (kNe K hr) (pe_cmpR (kEqO K (ok_Sides_eq E) hr (by decide)) (pv 15) (pv 13) (nomark _)) (pe_and (pe_cmpR (kNotInF K) (pe_int) (pe_op (kAdd K) (pv 11) (pv 12)) rfl) (pe_one (pe_cmpR (kNotInF K) (pe_un un_neg (pe_int)) (pe_op (kAdd K) (pv 11) (pv 12)) rfl))) (nomark _)) (pw_or1 (pt_not (pt_cmpR (kEqO K (ok_Sides_eq E) hr (by decide)) (pv 13) (pc (ok_sides E) hr (by decide) passN rfl (pa_cons (pv 7) (pa_cons (pv 8) pa_nil))) (nomark _))))))
   (pss_one (ps_ret (pe_bl)))
   pss_nil)
  (pss_cut (ps_set (i := 16) nd rfl (.inl rfl) (pc (ok_below E) hr (by decide) pass0 rfl (pa_cons (pv 7) (pa_cons (pv 8) pa_nil))))
  (pss_cut (ps_if (PW.pt (pw_or (pt_cmpR (kNe K hr) (kFld K (pv 16) rfl) (pe_cmpR (kNotInF K) (pe_int) (pe_op (kAdd K) (pv 11) (pv 12)) rfl) (nomark _)) (pw_or1 (PW.pt (pw_and (pt_not (kTru K (kFld K (pv 16) rfl) (by intro _; rfl))) (pw_and1 (pt_cmpR (kNe K hr) (kFld K (pv 16) rfl) (pe_op (kAdd K) (kBM K (pe_bm PySem.F.plainAttrs_list PySem.F.slot_list_index PySem.F.type_list_index (kIndexD K hr) (pv 10) (pa_cons (pe_int) pa_nil))) (pe_int)) (nomark _))))))))
   (pss_one (ps_ret (pe_bl)))
   pss_nil)
  (pss_cons (ps_if (PW.pt (pw_or (pt_cmpR (kNe K hr) (pe_cmpR (kEqO K (ok_Table_eq E) hr (by decide)) (pv 7) (pv 8) (nomark _)) (pe_cmpR (kEq K hr) (pe_tup (pa_cons (pv 11) (pa_cons (pv 12) pa_nil))) (pe_tup (pa_cons (pe_tup pa_nil) (pa_cons (pe_tup (pa_cons (pe_int) pa_nil)) pa_nil))) (nomark _)) (nomark _)) (pw_or1 (pt_cmpR (kEqO K (ok_Sides_eq E) hr (by decide)) (pv 13) (pe_tup (pa_cons (pv 11) (pa_cons (pv 12) pa_nil))) (nomark _)))))
   (pss_one (ps_ret (pe_bl)))
   pss_nil)
  (pss_one (ps_ret (pe_callB (kAll K rfl) (by rfl) E.f_all (by decide +kernel) (pa_cons (pe_lc (own := [("bad", 20)]) (g := gName 20) (tt := tYes) rfl nd (kSeq K (pe_lst (pa_cons (pe_un un_neg (pe_int)) (pa_cons (pe_non) (pa_cons (pe_bl) (pa_cons (pe_str) pa_nil)))))) (blkOk_by (N := N_law) (sc := defScope s_law) (by decide +kernel)) (fun _ _ _ _ _ => pg_name (i := 20) nd rfl (Or.inl rfl)) (fun _ _ _ _ _ => pts_nil) (fun _ _ _ _ _ => pe_cmpR (kEq K hr) (pc (ok__law_refused E) hr (by decide) pass0 rfl (pa_cons (pe_str) (pa_cons (pv 13) (pa_cons (pv 20) pa_nil)))) (pe_tup (pa_cons (pe_str) (pa_cons (pv 20) pa_nil))) (nomark _))) pa_nil))))))))))))))))))))))))))), ?_⟩
  change (_ : TS) _ [some v0, none, none, none, none, none, none, none, none, none, none, none, none, none, none, none, none, none, none, none, none] H
  try dsimp only [cxOf, Cx.nox, Cx.blk]
  obtain ⟨sa, nsc, rfl, s0, hb, hz, k⟩ := h
  walk_at "w"
  refine ⟨sa, nsc, 0, rfl, rfl, s0, hb, hz, by decide, by decide, fun x H1 n1 e1 q1 => ?_⟩
  walk_at "w"
  intro pr H2 n2 e2 g2
  walk_at "w"
  have hpx : pr ≠ x := q1.ne n2
  have npl : H pr = none := by
    cases q : H pr with
    | none => rfl
    | some o => rw [e1 _ _ q] at n2; cases n2
  refine w_cut (M := fun σ' H' => ∃ (u v w : Option V) (xs : List V) (ts : List (List Int × List Int × Int)), σ' = [some (.ref sa), some (.ref x), some (.ref pr), u, v, w, none, none, none, none, none, none, none, none, none, none, none, none, none, none, none] ∧ Fr x H1 H' ∧ SrcAt H' x ∧ H' pr = some (.lst xs) ∧ DpAll K H' xs (ts.map dT) ∧ ts.length = 2 ∧ ∀ t ∈ ts, Pls t) ?_ ?_
  · walk_at "w"
    refine for_range (lo := 0) (n := 2) (Pv := fun i σ' H' => ∃ (u v w : Option V) (xs : List V) (ts : List (List Int × List Int × Int)), σ' = [some (.ref sa), some (.ref x), some (.ref pr), u, v, w, none, none, none, none, none, none, none, none, none, none, none, none, none, none, none] ∧ Fr x H1 H' ∧ SrcAt H' x ∧ H' pr = some (.lst xs) ∧ DpAll K H' xs (ts.map dT) ∧ ts.length = i ∧ ∀ t ∈ ts, Pls t) ⟨_, _, _, [], [], rfl, Fr.of e2, q1.ex e2, g2, .nil, rfl, fun t h => absurd h List.not_mem_nil⟩ ?_ ?_
    · rintro i σ' A hi ⟨u, v, w, xs, ts, rfl, fA, qA, gA, dA, rfl, okA⟩
      walk_at "w"
      refine ⟨x, false, rfl, rfl, qA, fun v A1 h l r f1 q1' d ok bn => ?_⟩
      have g1 := f1 _ _ hpx gA
      have d1 := dpAll_tex (f1.tex qA) (imm_dTs _) dA
      have F1 : Fr x H1 A1 := fA.trans f1
      walk_at "w"
      refine w_cut (M := fun σ' H' => ∃ (v' : V) (b1 b2 : Bool) (w' : Option V) (h' l' : List Int) (a p1 p2 : Addr), σ' = [some (.ref sa), some (.ref x), some (.ref pr), some (.int (0 + (ts.length : Nat))), some (.ref a), w', none, none, none, none, none, none, none, none, none, none, none, none, none, none, none] ∧ Fr x H1 H' ∧ SrcAt H' x ∧ H' pr = some (.lst xs) ∧ DpAll K H' xs (ts.map dT) ∧ SqT K H' a [.ref p1, .ref p2, .int r] ∧ Dp K H' (.ref p1) (dSeqI b1 h') ∧ Dp K H' (.ref p2) (dSeqI b2 l') ∧ RawS h' l' r) ?_ ?_
      · walk_at "w"
        refine ⟨x, 3, rfl, rfl, by decide, by decide, q1', fun r2 A2 r20 r21 q2 f2 => ?_⟩
        have gB := f2 _ _ hpx g1
        have dB := dpAll_tex (f2.tex q1') (imm_dTs _) d1
        have dv := fr_dp f2 q1' (imm_dT (h, l, r)) d
        have F2 := F1.trans f2
        obtain ⟨a, th, tl, rfl, s1, s2, s3⟩ := dp_raw dv
        have keep : ∃ (v' : V) (b1 b2 : Bool) (w' : Option V) (h' l' : List Int) (a' p1 p2 : Addr), [some (V.ref sa), some (.ref x), some (.ref pr), some (.int (0 + (ts.length : Nat))), some (.ref a), w, none, none, none, none, none, none, none, none, none, none, none, none, none, none, none] = [some (V.ref sa), some (.ref x), some (.ref pr), some (.int (0 + (ts.length : Nat))), some (.ref a'), w', none, none, none, none, none, none, none, none, none, none, none, none, none, none, none] ∧ Fr x H1 A2 ∧ SrcAt A2 x ∧ A2 pr = some (.lst xs) ∧ DpAll K A2 xs (ts.map dT) ∧ SqT K A2 a' [.ref p1, .ref p2, .int r] ∧ Dp K A2 (.ref p1) (dSeqI b1 h') ∧ Dp K A2 (.ref p2) (dSeqI b2 l') ∧ RawS h' l' r :=
          ⟨.non, true, true, w, h, l, a, th, tl, rfl, F2, q2, gB, dB, s1, dp_of_ints s2, dp_of_ints s3, RawS.of ok⟩
        walk_at "w"
        by_cases c1 : r2 = 0
        · walk_at "w"
          by_cases c2 : (0 : Int) < (h.length : Nat)
          · walk_at "w"
            refine ⟨x, 30, rfl, rfl, by decide, by decide, q2, fun m A3 m0 m1 q3 f3 => ?_⟩
            have gC := f3 _ _ hpx gB
            have dC := dpAll_tex (f3.tex q2) (imm_dTs _) dB
            have s1 := fr_t f3 q2 s1
            have s2 := fr_t f3 q2 s2
            have s3 := fr_t f3 q2 s3
            have lv : ∀ z : List Int, (vI z).map (fun y => V.int (intV y + m)) = vI (z.map (· + m)) := fun z => by
              show (List.map V.int z).map _ = List.map V.int (List.map _ z)
              rw [List.map_map, List.map_map]
              rfl
            have zh := ok.zh
            have zl := ok.zl
            walk_at "w"
            refine i_seqT ?_
            walk_at "w"
            refine lcJ_tup (v := fun y => .int (intV y + m)) s2 (by show (List.map _ _).length ≤ _; rw [List.length_map]; show h.length ≤ _; omega) (fun y => [_, _, _, _, _, _, none, none, none, none, none, none, none, none, none, none, none, some y, none, none, none]) (fun _ => rfl) (fun _ => rfl) (fun y A4 Q' e4 hy hq => ?_) (fun p1 A4 n4 e4 g4 => ?_)
            · obtain ⟨n, _, rfl⟩ := List.mem_map.mp hy
              walk_at "w"
              exact hq _ (Ex.refl _)
            rw [lv] at g4
            have s1 := ex_t e4 s1
            have s3 := ex_t e4 s3
            walk_at "w"
            refine i_seqT ?_
            walk_at "w"
            refine lcJ_tup (v := fun y => .int (intV y + m)) s3 (by show (List.map _ _).length ≤ _; rw [List.length_map]; show l.length ≤ _; omega) (fun y => [_, _, _, _, _, _, none, none, none, none, none, none, none, none, none, none, none, some y, none, none, none]) (fun _ => rfl) (fun _ => rfl) (fun y A4 Q' e4 hy hq => ?_) (fun p2 A5 n5 e5 g5 => ?_)
            · obtain ⟨n, _, rfl⟩ := List.mem_map.mp hy
              walk_at "w"
              exact hq _ (Ex.refl _)
            rw [lv] at g5
            have s1 := ex_t e5 s1
            walk_at "w"
            intro pt A6 n6 e6 g6
            walk_at "w"
            have E6 := (e4.trans e5).trans e6
            exact ⟨.non, false, false, _, h.map (· + m), l.map (· + m), pt, p1, p2, rfl, (F2.trans f3).trans (Fr.of E6), q3.ex E6, E6 _ _ gC, dpAll_ex E6 dC, st_of g6, dp_of_intL (sq_of ((e5.trans e6) _ _ g4)), dp_of_intL (sq_of (e6 _ _ g5)), RawS.lift ok m0 (by omega)⟩
          · walk_at "w"
            exact keep
        · walk_at "w"
          exact keep
      rintro σ' A2 ⟨v', b1, b2, w', h', l', a, p1, p2, rfl, F2, q2, gB, dB, s1, s2, s3, okS⟩
      walk_at "w"
      refine ⟨b1, b2, h', l', r, s2, s3, .int r, okS.val.r0, okS.val.sm, fun v A3 e3 dv => ?_⟩
      rw [lawF_eq] at dv
      have zx := dpAll_len dB
      rw [List.length_map] at zx
      have g3 := e3 _ _ gB
      walk_at "w"
      refine r_app (K := K) g3 (sz_lt (by omega)) ?_
      refine ⟨_, _, _, _, ts ++ [plainF h' l' r], rfl, fr_mutK (F2.trans (Fr.of e3)) n2, srcAt_upd hpx (q2.ex e3), upd_same, ?_, by simp, fun t ht => ?_⟩
      · rw [List.map_append]
        exact dpAll_tex (tex_lst g3) (immAll_app (imm_dTs _) (by show (imm _ && true) = true; rw [imm_dT]; rfl)) (dpAll_app (dpAll_ex e3 dB) (.cons dv .nil))
      · rcases List.mem_append.mp ht with ht | ht
        · exact okA t ht
        · rw [List.mem_singleton.mp ht]
          exact Pls.of okS
    · rintro σ' A ⟨u, v, w, xs, ts, rfl, fA, qA, gA, dA, hz, okA⟩
      exact ⟨u, v, w, xs, ts, rfl, fA, qA, gA, dA, hz, okA⟩
  rintro σ' A ⟨u, v, w, xs, ts, rfl, fA, qA, gA, dA, hz2, okA⟩
  obtain ⟨t1, t2, rfl⟩ : ∃ t1 t2, ts = [t1, t2] := by
    match ts, hz2 with
    | [a, b], _ => exact ⟨a, b, rfl⟩
  have P1 := okA t1 (by simp)
  have P2 := okA t2 (by simp)
  obtain ⟨v1, v2, rfl, d1, d2⟩ : ∃ v1 v2, xs = [v1, v2] ∧ Dp K A v1 (dT t1) ∧ Dp K A v2 (dT t2) := by
    cases dA with
    | cons a r =>
      cases r with
      | cons b r =>
        cases r with
        | nil => exact ⟨_, _, rfl, a, b⟩
  walk_at "w"
  refine ⟨sa, nsc, 1, rfl, rfl, l_fr fA s0 n1 (ex_l e1 s0), hb, hz, by decide, by decide, fun y B1 ny ey qy => ?_⟩
  have gB := ey _ _ gA
  have dB1 := dp_ex ey d1
  have dB2 := dp_ex ey d2
  have hpy : pr ≠ y := ne_of_none gA ny
  clear gA d1 d2 okA hz2 dA fA qA ey e1 e2 g2 q1 n2 s0
  walk_at "w"
  refine w_cut (M := fun σ' H' => σ' = [some (.ref sa), some (.ref x), some (.ref pr), u, v, w, some (.ref y), none, none, none, none, none, none, none, none, none, none, none, none, none, none] ∧ SrcAt H' y ∧ H' pr = some (.lst [v1, v2]) ∧ Dp K H' v1 (dT t1) ∧ Dp K H' v2 (dT t2)) ?_ ?_
  · walk_at "w"
    refine ⟨y, 16, rfl, rfl, by decide, by decide, qy, fun r2 B2 r20 r21 q2 f2 => ?_⟩
    have gC := f2 _ _ hpy gB
    have dC1 := fr_dp f2 qy (imm_dT t1) dB1
    have dC2 := fr_dp f2 qy (imm_dT t2) dB2
    walk_at "w"
    by_cases c1 : r2 = 3
    · walk_at "w"
      refine ⟨y, rfl, q2, fun B3 f3 q3 => ?_⟩
      walk_at "w"
      exact ⟨rfl, q3, f3 _ _ hpy gC, fr_dp f3 q2 (imm_dT t1) dC1, fr_dp f3 q2 (imm_dT t2) dC2⟩
    · walk_at "w"
      exact ⟨rfl, q2, gC, dC1, dC2⟩
  rintro σ' B2 ⟨rfl, q2, gC, dC1, dC2⟩
  clear gB dB1 dB2 qy
  refine w_cut (M := fun σ' H' => ∃ (v2' : V) (t2' : List Int × List Int × Int), σ' = [some (.ref sa), some (.ref x), some (.ref pr), u, v, w, some (.ref y), none, none, none, none, none, none, none, none, none, none, none, none, none, none] ∧ SrcAt H' y ∧ H' pr = some (.lst [v1, v2']) ∧ Dp K H' v1 (dT t1) ∧ Dp K H' v2' (dT t2') ∧ Pls t2') ?_ ?_
  · walk_at "w"
    refine ⟨y, 6, rfl, rfl, by decide, by decide, q2, fun r3 B3 r30 r31 q3 f3 => ?_⟩
    have gD := f3 _ _ hpy gC
    have dD1 := fr_dp f3 q2 (imm_dT t1) dC1
    have dD2 := fr_dp f3 q2 (imm_dT t2) dC2
    walk_at "w"
    by_cases c1 : r3 = 1
    · walk_at "w"
      refine r_set (xs := [v1, v2]) (j := 1) gD rfl ?_
      exact ⟨v1, t1, rfl, srcAt_upd hpy q3, upd_same, dp_tex (tex_lst gD) (imm_dT _) dD1, dp_tex (tex_lst gD) (imm_dT _) dD1, P1⟩
    · walk_at "w"
      exact ⟨_, _, rfl, q3, gD, dD1, dD2, P2⟩
  clear gC dC1 dC2 P2 q2
  rintro σ' B3 ⟨v2', t2', rfl, q3, gD, dD1, dD2, P2⟩
  walk_at "w"
  refine ⟨t1.1, t1.2.1, t1.2.2, dD1, P1.sm.val, fun ta B4 e4 TA => ?_⟩
  rw [P1.pl] at TA
  have dD2 := dp_ex e4 dD2
  walk_at "w"
  refine ⟨t2'.1, t2'.2.1, t2'.2.2, dD2, P2.sm.val, fun tb B5 e5 TB => ?_⟩
  rw [P2.pl] at TB
  have e45 := e4.trans e5
  have gE := e45 _ _ gD
  have dE1 := dp_ex e45 dD1
  have dE2 := dp_ex e5 dD2
  have TA := ex_tab e5 TA
  have qE := q3.ex e45
  clear gD dD1 dD2 q3
  walk_at "w"
  refine ⟨_, _, rfl, ?_⟩
  dsimp only [List.set]
  walk_at "w"
  refine ⟨t1.1, t1.2.1, t2'.1, t2'.2.1, t1.2.2, t2'.2.2, 285, dE1, dE2, P1.sm, P2.sm, by decide, P1.diff P2, fun F B6 e6 EV FB => ?_⟩
  obtain ⟨f, hf⟩ : ∃ f, f = sgT t1.1 t1.2.1 t1.2.2 t2'.1 t2'.2.1 t2'.2.2 := ⟨_, rfl⟩
  rw [← hf] at EV
  have gE := e6 _ _ gE
  have dE1 := dp_ex e6 dE1
  have dE2 := dp_ex e6 dE2
  have TA := ex_tab e6 TA
  have TB := ex_tab e6 TB
  have qE := qE.ex e6
  walk_at "w"
  rw [show ((F : Int) + 40 + 1 - 1).toNat = F + 40 by omega]
  refine lcJ_range (lo := 1) (n := F + 40) (v := fun j => .int (f j)) (by omega) (fun z => [_, _, _, _, _, _, _, _, _, _, none, none, none, none, none, none, none, none, some z, none, none]) (fun _ => rfl) (fun _ => rfl) (fun j C1 Q' x1 hj hq => ?_) (fun pl B7 n7 e7 g7 => ?_)
  · walk_at "w"
    refine ⟨t1.1, t1.2.1, t2'.1, t2'.2.1, t1.2.2, t2'.2.2, j, dp_ex x1 dE1, dp_ex x1 dE2, by rw [Int.add_comm], P1.sm.val.sm, P2.sm.val.sm, fun C2 x2 => ?_⟩
    rw [← hf]
    exact hq _ x2
  rw [show (List.range (F + 40)).map (fun j => V.int (f j)) = vI ((List.range (F + 40)).map f) from (List.map_map ..).symm] at g7
  obtain ⟨c, s, CAN⟩ := evp_ex (by decide) EV
  have hpl : pl ≠ y := qE.ne n7
  have dE1 := dp_ex e7 dE1
  have dE2 := dp_ex e7 dE2
  have TA := ex_tab e7 TA
  have TB := ex_tab e7 TB
  have qE := qE.ex e7
  walk_at "w"
  refine ⟨pl, f, F + 40, c, s, rfl, sq_of g7, by omega, by omega, EV.le (by omega), CAN, fun q ph po B8 e8 sq sh so => ?_⟩
  have dE1 := dp_ex e8 dE1
  have dE2 := dp_ex e8 dE2
  have TA := ex_tab e8 TA
  have TB := ex_tab e8 TB
  have qE := qE.ex e8
  have g8 := e8 _ _ g7
  walk_at "w"
  refine w_cut (M := fun σ' H' => ∃ to : Addr, σ' = [some (.ref sa), some (.ref x), some (.ref pr), u, v, w, some (.ref y), some (.ref ta), some (.ref tb), some (.int ((F : Int) + 40)), some (.ref pl), some (.ref ph), some (.ref po), some (.ref to), none, none, none, none, none, none, none] ∧ Ex B8 H' ∧ SidAt K H' to ((List.range c).map f) ((List.range s).map fun i => f (c + i)) ∧ c ≤ 4580 ∧ s ≤ 16) ?_ ?_
  · walk_at "w"
    refine ⟨ta, tb, _, _, _, _, _, _, 285, rfl, rfl, TA, TB, P1.sm, P2.sm, by decide, P1.diff P2, fun c' s' can z1 z2 => ?_⟩
    rw [← hf] at can
    obtain ⟨rfl, rfl⟩ := can.uniq CAN
    rw [← hf]
    refine ⟨fun _ p B9 e9 sid => ?_, fun h => by omega⟩
    walk_at "w"
    exact ⟨p, rfl, e9, sid, by omega, z1⟩
  rintro σ' B9 ⟨to, rfl, e9, sid, c4, s16⟩
  have dE1 := dp_ex e9 dE1
  have dE2 := dp_ex e9 dE2
  have TA := ex_tab e9 TA
  have TB := ex_tab e9 TB
  have qE := qE.ex e9
  have g9 := e9 _ _ g8
  have gE := e9 _ _ (e8 _ _ (e7 _ _ gE))
  have sh := ex_t e9 sh
  have so := ex_t e9 so
  have s1 := CAN.s1
  clear g7 g8 sq e6 e7 e8 e9 e4 e5 e45 n7
  obtain ⟨hs, hhs⟩ : ∃ hs, hs = (List.range c).map f := ⟨_, rfl⟩
  obtain ⟨ls, hls⟩ : ∃ ls, ls = (List.range s).map fun i => f (c + i) := ⟨_, rfl⟩
  rw [← hhs] at sh sid
  rw [← hls] at so sid
  have zh : hs.length = c := by rw [hhs, List.length_map, List.length_range]
  have zl : ls.length = s := by rw [hls, List.length_map, List.length_range]
  have zne : ls ≠ [] := fun e => by rw [e] at zl; simp at zl; omega
  obtain ⟨sg, hsg⟩ : ∃ sg, sg = (List.range (F + 40)).map f := ⟨_, rfl⟩
  rw [← hsg] at g9
  have FX : FxS K B9 to ph po pl pr ta tb v1 v2' t1 t2' hs ls sg := ⟨sid, sh, so, g9, gE, dE1, dE2, TA, TB⟩
  have zsg : sg.length = F + 40 := by rw [hsg, List.length_map, List.length_range]
  have zv : (vI sg).length = F + 40 := by rw [← zsg]; exact List.length_map ..
  have gsg : ∀ j, j < F + 40 → gI sg j = f j := fun j hj => by rw [hsg]; exact gI_map_range hj
  have sAtF : ∀ j, sAt hs ls (j + 1) = f j := fun j => by rw [hhs, hls]; exact sAt_can CAN j
  walk_at "w"
  refine r_isiC (insB_ok E.ins_Sides E.c_Sides (sid_mine sid).choose_spec.choose_spec) E.kit_Sides_self ?_
  walk_at "w"
  refine r_sidHead E sid fun ah st1 => ?_
  walk_at "w"
  refine r_sidLoop E sid fun al st2 => ?_
  walk_at "w"
  intro p1 C1 m1 x1 y1
  walk_at "w"
  intro p2 C2 m2 x2 y2
  refine r_neD (d := dP hs ls) (e := dP hs ls) (.tup (ex_t x2 (st_of y1)) (.cons (dp_of_ints (ex_t x2 (ex_t x1 st1))) (.cons (dp_of_ints (ex_t x2 (ex_t x1 st2))) .nil))) (.tup (st_of y2) (.cons (dp_of_ints (ex_t x2 (ex_t x1 sh))) (.cons (dp_of_ints (ex_t x2 (ex_t x1 so))) .nil))) (shaped_dP _ _) (shaped_dP _ _) ?_
  rw [eqv_dP, decide_eq_true ⟨rfl, rfl⟩]
  have X2 := x1.trans x2
  replace FX := FX.ex X2
  replace qE := qE.ex X2
  clear sid sh so g9 gE dE1 dE2 TA TB X2 x1 x2 y1 y2 st1 st2 m1 m2
  walk_at "w"
  refine w_cut (M := fun σ' H' => σ' = [some (.ref sa), some (.ref x), some (.ref pr), u, v, w, some (.ref y), some (.ref ta), some (.ref tb), some (.int ((F : Int) + 40)), some (.ref pl), some (.ref ph), some (.ref po), some (.ref to), none, none, none, none, none, none, none] ∧ FxS K H' to ph po pl pr ta tb v1 v2' t1 t2' hs ls sg ∧ SrcAt H' y) ?_ ?_
  · have sid := FX.1
    walk_at "w"
    refine r_sidHead E sid fun ah2 st3 => ?_
    walk_at "w"
    refine i_seqT ?_
    walk_at "w"
    refine r_sidHead E sid fun ah3 st4 => ?_
    walk_at "w"
    refine r_sidLoop E sid fun al3 st5 => ?_
    walk_at "w"
    refine r_addT st4 st5 (by walk_at "sz") fun p3 C3 x3 h3 => ?_
    walk_at "w"
    rw [show vI hs ++ vI ls = vI (hs ++ ls) from List.map_append.symm] at h3
    refine lcJ_tup (v := fun _ => .bl true) h3 (by rw [List.length_map, List.length_append]; omega) (fun y => [_, _, _, _, _, _, _, _, _, _, _, _, _, _, none, none, none, none, none, some y, none]) (fun _ => rfl) (fun _ => rfl) (fun y C4 Q' x4 hy hq => ?_) (fun p4 C4 m4 x4 g4 => ?_)
    · obtain ⟨n, _, rfl⟩ := List.mem_map.mp hy
      walk_at "w"
      refine ⟨.int n, .int n, fun v H3 e3 d3 => ?_⟩
      rw [show dIsInt (.int n) = true from rfl] at d3
      obtain rfl := dp_toBl d3
      exact hq _ e3
    · walk_at "w"
      refine r_all (bs := (vI (hs ++ ls)).map fun _ => true) (sq_of g4) (List.map_map ..).symm ?_
      rw [show ((vI (hs ++ ls)).map fun _ => true).all id = true by simp]
      walk_at "w"
      exact ⟨rfl, FX.ex (x3.trans x4), qE.ex (x3.trans x4)⟩
  clear FX qE
  rintro σ' D0 ⟨rfl, FX, qE⟩
  refine w_cut (M := fun σ' H' => σ' = [some (.ref sa), some (.ref x), some (.ref pr), u, v, w, some (.ref y), some (.ref ta), some (.ref tb), some (.int ((F : Int) + 40)), some (.ref pl), some (.ref ph), some (.ref po), some (.ref to), none, none, none, none, none, none, none] ∧ FxS K H' to ph po pl pr ta tb v1 v2' t1 t2' hs ls sg ∧ SrcAt H' y) ?_ ?_
  · have sid := FX.1
    have sl : SqL K D0 pl (vI sg) := sq_of FX.2.2.2.1
    walk_at "w"
    rw [show (min ((F : Int) + 40) 90).toNat = min (F + 40) 90 by omega]
    refine lcJ_r0 (n := min (F + 40) 90) (v := fun _ => .bl true) (by omega) (fun z => [_, _, _, _, _, _, _, _, _, _, _, _, _, _, none, none, none, none, some z, none, none]) (fun _ => rfl) (fun _ => rfl) (fun j D1 Q' x1 hj hq => ?_) (fun p4 D1 m4 x1 g4 => ?_)
    · have sid := ex_sid x1 sid
      have sl := ex_l x1 sl
      obtain ⟨dx, fs, hp⟩ := sid_mine sid
      walk_at "w"
      refine w_callON ?_
      walk_at "w"
      refine ⟨to, rfl, ?_⟩
      walk_at "w"
      refine ⟨⟨dx, fs, hp⟩, _, _, rfl, to, hs, ls, rfl, sid, zne, by omega, by omega, .inl ⟨j + 1, rfl, fun D2 x2 => ?_⟩⟩
      rw [sAtF]
      have sl := ex_l x2 sl
      have jF : j < F + 40 := by omega
      walk_at "w"
      rw [gsg j jF, decide_eq_true rfl]
      exact hq _ x2
    · walk_at "w"
      refine r_all (bs := (List.range (min (F + 40) 90)).map fun _ => true) (sq_of g4) (List.map_map ..).symm ?_
      rw [show ((List.range (min (F + 40) 90)).map fun _ => true).all id = true by simp]
      have sid := ex_sid x1 sid
      obtain ⟨dx, fs, hp⟩ := sid_mine sid
      walk_at "w"
      refine w_callON ?_
      walk_at "w"
      refine ⟨to, rfl, ?_⟩
      walk_at "w"
      refine ⟨⟨dx, fs, hp⟩, _, _, rfl, to, hs, ls, rfl, sid, zne, by omega, by omega, .inl ⟨0, rfl, fun D2 x2 => ?_⟩⟩
      rw [show sAt hs ls 0 = 0 from rfl]
      walk_at "w"
      exact ⟨rfl, FX.ex (x1.trans x2), qE.ex (x1.trans x2)⟩
  clear FX qE
  rintro σ' D0 ⟨rfl, FX, qE⟩
  walk_at "w"
  refine ⟨y, 60, rfl, rfl, by decide, by decide, qE, fun r5 D1 r50 r51 q5 f5 => ?_⟩
  replace FX := FX.fr f5 qE hpl hpy
  have p20 : (10 : Int) ^ Int.toNat 20 = 100000000000000000000 := by decide +kernel
  obtain ⟨far, hfar⟩ : ∃ n : Nat, (10 : Int) ^ Int.toNat 20 + r5 = (n : Int) + 1 := ⟨((10 : Int) ^ Int.toNat 20 + r5 - 1).toNat, by omega⟩
  walk_at "w"
  rw [hfar]
  refine w_cut (M := fun σ' H' => ∃ w14 : V, σ' = [some (.ref sa), some (.ref x), some (.ref pr), u, v, w, some (.ref y), some (.ref ta), some (.ref tb), some (.int ((F : Int) + 40)), some (.ref pl), some (.ref ph), some (.ref po), some (.ref to), some w14, none, none, none, none, none, none] ∧ FxS K H' to ph po pl pr ta tb v1 v2' t1 t2' hs ls sg) ?_ ?_
  · have sid := FX.1
    have sl : SqL K D1 pr [v1, v2'] := sq_of FX.2.2.2.2.1
    obtain ⟨dx, fs, hp⟩ := sid_mine sid
    walk_at "w"
    refine w_callON ?_
    walk_at "w"
    refine ⟨to, rfl, ?_⟩
    walk_at "w"
    refine ⟨⟨dx, fs, hp⟩, _, _, rfl, to, hs, ls, rfl, sid, zne, by omega, by omega, .inl ⟨far + 1, rfl, fun D2 x2 => ?_⟩⟩
    rw [sAtF]
    have sl := ex_l x2 sl
    have dE1 := dp_ex x2 FX.2.2.2.2.2.1
    have dE2 := dp_ex x2 FX.2.2.2.2.2.2.1
    walk_at "w"
    refine ⟨t1.1, t1.2.1, t2'.1, t2'.2.1, t1.2.2, t2'.2.2, far, dE1, dE2, rfl, P1.sm.val.sm, P2.sm.val.sm, fun D3 x3 => ?_⟩
    rw [← hf]
    walk_at "w"
    exact ⟨_, rfl, FX.ex (x2.trans x3)⟩
  clear FX qE
  rintro σ' D2 ⟨w14, rfl, FX⟩
  refine w_cut (M := fun σ' H' => ∃ w14 : V, σ' = [some (.ref sa), some (.ref x), some (.ref pr), u, v, w, some (.ref y), some (.ref ta), some (.ref tb), some (.int ((F : Int) + 40)), some (.ref pl), some (.ref ph), some (.ref po), some (.ref to), some w14, none, none, none, none, none, none] ∧ FxS K H' to ph po pl pr ta tb v1 v2' t1 t2' hs ls sg) ?_ ?_
  · have sid := FX.1
    walk_at "w"
    obtain ⟨dx, fs, hp⟩ := sid_mine sid
    refine r_prop hp ?_
    refine ⟨to, hs, ls, rfl, sid, zne, fun v D3 x3 dv => ?_⟩
    have so := ex_t x3 FX.2.2.1
    have sh := ex_t x3 FX.2.1
    have FX := FX.ex x3
    have lp := List.length_pos_iff.mpr zne
    walk_at "w"
    by_cases c1 : ls.length = 1
    · rw [show dSet hs ls = .tuple [.int (gI ls 0), .int (hs.length + 1)] by unfold dSet; rw [if_neg (by omega)]] at dv
      walk_at "w"
      intro p5 D4 m5 x5 g5
      refine r_neD (dp_ex x5 dv) (.tup (st_of g5) (.cons (.int _) (.cons (.int _) .nil))) rfl rfl ?_
      rw [show PyData.eqv (.tuple [.int (gI ls 0), .int (hs.length + 1)]) (.tuple [.int (gI ls 0), .int (hs.length + 1)]) = true by show ((_ == _) && ((_ == _) && true)) = true; rw [beq_self_eq_true, beq_self_eq_true]; rfl]
      walk_at "w"
      exact ⟨_, rfl, FX.ex x5⟩
    · rw [show dSet hs ls = .none by unfold dSet; rw [if_pos (by omega)]] at dv
      obtain rfl := dp_toNon dv
      walk_at "w"
      refine r_neO (p := none) (q := none) ?_
      rw [decide_eq_true rfl]
      walk_at "w"
      exact ⟨_, rfl, FX⟩
  clear FX
  rintro σ' D3 ⟨w14', rfl, FX⟩
  refine w_cut (M := fun σ' H' => ∃ (w14 : V) (bk : Addr), σ' = [some (.ref sa), some (.ref x), some (.ref pr), u, v, w, some (.ref y), some (.ref ta), some (.ref tb), some (.int ((F : Int) + 40)), some (.ref pl), some (.ref ph), some (.ref po), some (.ref to), some w14, some (.ref bk), none, none, none, none, none] ∧ FxS K H' to ph po pl pr ta tb v1 v2' t1 t2' hs ls sg ∧ SidAt K H' bk (hs.map fun x => -x) (ls.map fun x => -x)) ?_ ?_
  · have TA := FX.2.2.2.2.2.2.2.1
    have TB := FX.2.2.2.2.2.2.2.2
    have k1 : (List.range c).map (fun j => - f j) = hs.map (fun x => -x) := by
      rw [hhs, List.map_map]
      rfl
    have k2 : (List.range s).map (fun i => - f (c + i)) = ls.map (fun x => -x) := by
      rw [hls, List.map_map]
      rfl
    walk_at "w"
    refine ⟨tb, ta, _, _, _, _, _, _, 285, rfl, rfl, TB, TA, P2.sm, P1.sm, by decide, P2.diff P1, fun c' s' can z1 z2 => ?_⟩
    have hn : sgT t2'.1 t2'.2.1 t2'.2.2 t1.1 t1.2.1 t1.2.2 = fun j => - f j := funext fun j => by rw [hf]; exact sgO_swap _ _
    rw [hn] at can ⊢
    obtain ⟨ec, es⟩ := can.uniq CAN.neg
    rw [ec, es]
    refine ⟨fun _ p B9 e9 sid => ?_, fun h => by omega⟩
    have sid : SidAt K B9 p (hs.map fun x => -x) (ls.map fun x => -x) := by
      rw [← k1, ← k2]
      exact sid
    walk_at "w"
    exact ⟨_, p, rfl, FX.ex e9, sid⟩
  clear FX
  rintro σ' D4 ⟨w14, bk, rfl, FX, sb⟩
  refine w_cut (M := fun σ' H' => ∃ (w14 : V) (bk : Addr), σ' = [some (.ref sa), some (.ref x), some (.ref pr), u, v, w, some (.ref y), some (.ref ta), some (.ref tb), some (.int ((F : Int) + 40)), some (.ref pl), some (.ref ph), some (.ref po), some (.ref to), some w14, some (.ref bk), none, none, none, none, none] ∧ FxS K H' to ph po pl pr ta tb v1 v2' t1 t2' hs ls sg ∧ SidAt K H' bk (hs.map fun x => -x) (ls.map fun x => -x)) ?_ ?_
  · have sh := FX.2.1
    have so := FX.2.2.1
    have lneg : ∀ z : List Int, (vI z).map (fun y => V.int (-(intV y))) = vI (z.map fun x => -x) := fun z => by
      show (List.map V.int z).map _ = List.map V.int (List.map _ z)
      rw [List.map_map, List.map_map]
      rfl
    walk_at "w"
    refine r_sidHead E sb fun th st1 => ?_
    walk_at "w"
    refine i_seqT ?_
    walk_at "w"
    refine lcJ_tup (v := fun y => .int (-(intV y))) sh (by rw [List.length_map]; omega) (fun y => [_, _, _, _, _, _, _, _, _, _, _, _, _, _, _, _, none, none, none, some y, none]) (fun _ => rfl) (fun _ => rfl) (fun y D5 Q' x5 hy hq => ?_) (fun p5 D5 m5 x5 g5 => ?_)
    · obtain ⟨n, _, rfl⟩ := List.mem_map.mp hy
      walk_at "w"
      exact hq _ (Ex.refl _)
    rw [lneg] at g5
    walk_at "w"
    intro th2 D6 x6 st2
    refine r_neT (ex_t (x5.trans x6) st1) st2 ?_
    rw [decide_eq_true rfl]
    have sb := ex_sid (x5.trans x6) sb
    have so := ex_t (x5.trans x6) so
    walk_at "w"
    refine r_sidLoop E sb fun tl st3 => ?_
    walk_at "w"
    refine i_seqT ?_
    walk_at "w"
    refine lcJ_tup (v := fun y => .int (-(intV y))) so (by rw [List.length_map]; omega) (fun y => [_, _, _, _, _, _, _, _, _, _, _, _, _, _, _, _, none, none, none, some y, none]) (fun _ => rfl) (fun _ => rfl) (fun y D7 Q' x7 hy hq => ?_) (fun p7 D7 m7 x7 g7 => ?_)
    · obtain ⟨n, _, rfl⟩ := List.mem_map.mp hy
      walk_at "w"
      exact hq _ (Ex.refl _)
    rw [lneg] at g7
    walk_at "w"
    intro tl2 D8 x8 st4
    refine r_neT (ex_t (x7.trans x8) st3) st4 ?_
    rw [decide_eq_true rfl]
    walk_at "w"
    have xx := (x5.trans x6).trans (x7.trans x8)
    exact ⟨_, bk, rfl, FX.ex xx, ex_sid (x7.trans x8) sb⟩
  clear FX sb
  rintro σ' D5 ⟨w14, bk, rfl, FX, sb⟩
  refine w_cut (M := fun σ' H' => ∃ (w14 : V) (bk : Addr), σ' = [some (.ref sa), some (.ref x), some (.ref pr), u, v, w, some (.ref y), some (.ref ta), some (.ref tb), some (.int ((F : Int) + 40)), some (.ref pl), some (.ref ph), some (.ref po), some (.ref to), some w14, some (.ref bk), none, none, none, none, none] ∧ FxS K H' to ph po pl pr ta tb v1 v2' t1 t2' hs ls sg ∧ SidAt K H' bk (hs.map fun x => -x) (ls.map fun x => -x)) ?_ ?_
  · have sid := FX.1
    have sh := FX.2.1
    have so := FX.2.2.1
    have TA := FX.2.2.2.2.2.2.2.1
    have TB := FX.2.2.2.2.2.2.2.2
    obtain ⟨dx, fs, hp⟩ := sid_mine sid
    obtain ⟨dy, fy, hq⟩ := sid_mine sb
    have hval : ∀ z ∈ hs ++ ls, z = 0 ∨ z = -1 ∨ z = 1 := fun z hz => by
      rw [hhs, hls] at hz
      obtain ⟨j, e⟩ := (CAN.mem z).mp hz
      rw [← e, hf]
      exact sgO_val _ _
    walk_at "w"
    refine r_ownEq hq (insB_ok E.ins_Sides E.c_Sides hp) E.nf_Sides_self ?_
    refine ⟨bk, _, _, rfl, sb, .inl ⟨to, _, _, rfl, sid, fun b D6 x6 d6 => ?_⟩⟩
    obtain rfl := dp_toBl d6
    refine ⟨⟨_, rfl⟩, ?_⟩
    rw [neg_same hval]
    have sh := ex_t x6 sh
    have so := ex_t x6 so
    walk_at "w"
    refine r_addT sh so (by walk_at "sz") fun p7 D7 x7 h7 => ?_
    rw [show vI hs ++ vI ls = vI (hs ++ ls) from List.map_append.symm] at h7
    walk_at "w"
    refine r_notInF (.inr h7) rfl (flat_vI _) ?_
    rw [inV_ints]
    walk_at "w"
    refine w_andC (.bl (!decide ((1 : Int) ∈ hs ++ ls) && !decide ((-1 : Int) ∈ hs ++ ls))) (fun G xG => ?_) (fun hb k' hk => ?_) (fun hb => ?_)
    · have xx := (x6.trans x7).trans xG
      have FX := FX.ex xx
      have sb := ex_sid xx sb
      have TA := ex_tab xx TA
      have TB := ex_tab xx TB
      have sid := ex_sid xx sid
      have hp := xx _ _ hp
      refine r_neB ?_
      rw [decide_eq_true rfl]
      walk_at "w"
      refine ⟨ta, tb, _, _, _, _, _, _, 285, rfl, rfl, TA, TB, P1.sm, P2.sm, by decide, P1.diff P2, fun c' s' can z1 z2 => ?_⟩
      rw [← hf] at can ⊢
      obtain ⟨ec, es⟩ := can.uniq CAN
      rw [ec, es]
      refine ⟨fun _ p2 B9 e9 sid2 => ?_, fun h => by omega⟩
      have sid2 : SidAt K B9 p2 hs ls := by
        rw [hhs, hls]
        exact sid2
      obtain ⟨dz, fz, hz2⟩ := sid_mine sid2
      walk_at "w"
      refine r_ownEq (e9 _ _ hp) (insB_ok E.ins_Sides E.c_Sides hz2) E.nf_Sides_self ?_
      refine ⟨to, _, _, rfl, ex_sid e9 sid, .inl ⟨p2, _, _, rfl, sid2, fun b D9 x9 d9 => ?_⟩⟩
      rw [decide_eq_true ⟨rfl, rfl⟩] at d9
      obtain rfl := dp_toBl d9
      refine ⟨⟨_, rfl⟩, ?_⟩
      walk_at "w"
      exact ⟨_, bk, rfl, FX.ex (e9.trans x9), ex_sid (e9.trans x9) sb⟩
    · walk_at "w"
      refine r_addT (ex_t x7 sh) (ex_t x7 so) (by walk_at "sz") fun p8 D8 x8 h8 => ?_
      rw [show vI hs ++ vI ls = vI (hs ++ ls) from List.map_append.symm] at h8
      walk_at "w"
      refine r_notInF (.inr h8) rfl (flat_vI _) ?_
      rw [inV_ints]
      have hk := hk D8 x8
      rw [hb, Bool.true_and] at hk
      exact hk
    · rw [hb]
      rfl
  clear FX sb
  rintro σ' D6 ⟨w14, bk, rfl, FX, sb⟩
  refine w_cut (M := fun σ' H' => ∃ (w14 : V) (bk vd : Addr) (o : Option Int), σ' = [some (.ref sa), some (.ref x), some (.ref pr), u, v, w, some (.ref y), some (.ref ta), some (.ref tb), some (.int ((F : Int) + 40)), some (.ref pl), some (.ref ph), some (.ref po), some (.ref to), some w14, some (.ref bk), some (.ref vd), none, none, none, none] ∧ FxS K H' to ph po pl pr ta tb v1 v2' t1 t2' hs ls sg ∧ Lst (TV t1.1 t1.2.1 t1.2.2) (TV t2'.1 t2'.2.1 t2'.2.2) o ∧ BelAt K H' vd ta tb o (valueAt t1.1 t1.2.1 t1.2.2 o) (valueAt t2'.1 t2'.2.1 t2'.2.2 o)) ?_ ?_
  · have TA := FX.2.2.2.2.2.2.2.1
    have TB := FX.2.2.2.2.2.2.2.2
    have smp : ∀ {h l : List Int} {r : Int}, SmS h l r → SmP h l r := fun {h l r} a => ⟨a.1, by have := a.2; omega, by have := a.3; omega, by have := a.4; omega⟩
    have zz : t1.2.1.length * t2'.2.1.length ≤ 20000 := Nat.le_trans (Nat.mul_le_mul P1.sm.3 P2.sm.3) (by decide)
    walk_at "w"
    refine ⟨ta, tb, _, _, _, _, _, _, rfl, rfl, TA, TB, smp P1.sm, smp P2.sm, zz, fun vd D7 o x7 L be => ?_⟩
    walk_at "w"
    exact ⟨_, _, vd, o, rfl, FX.ex x7, L, be⟩
  clear FX sb
  rintro σ' D7 ⟨w14, bk, vd, o, rfl, FX, L, be⟩
  refine w_cut (M := fun σ' H' => ∃ (w14 : V) (bk vd : Addr), σ' = [some (.ref sa), some (.ref x), some (.ref pr), u, v, w, some (.ref y), some (.ref ta), some (.ref tb), some (.int ((F : Int) + 40)), some (.ref pl), some (.ref ph), some (.ref po), some (.ref to), some w14, some (.ref bk), some (.ref vd), none, none, none, none] ∧ FxS K H' to ph po pl pr ta tb v1 v2' t1 t2' hs ls sg) ?_ ?_
  · have sh := FX.2.1
    have so := FX.2.2.1
    have LS := lst_signs L
    rw [← hf] at LS
    have hO : decide (o = none) = !decide ((1 : Int) ∈ hs ++ ls) := by
      rw [hhs, hls]
      rcases LS with ⟨rfl, a⟩ | ⟨n, rfl, a, _⟩
      · rw [decide_eq_true rfl, decide_eq_false fun h => by obtain ⟨j, e⟩ := (CAN.mem 1).mp h; exact a j e]
        rfl
      · rw [decide_eq_false (fun h => nomatch h), decide_eq_true ((CAN.mem 1).mpr ⟨n, a⟩)]
        rfl
    obtain ⟨dxb, fsb, sd, b1, b2, b3, b4, b5, b6, b7⟩ := be
    rw [hO] at b6
    walk_at "w"
    refine r_getF b1 E.c_Below E.na_Below_holds b6 ?_
    walk_at "w"
    refine r_addT sh so (by walk_at "sz") fun p7 E7 x7 h7 => ?_
    rw [show vI hs ++ vI ls = vI (hs ++ ls) from List.map_append.symm] at h7
    walk_at "w"
    refine r_notInF (.inr h7) rfl (flat_vI _) ?_
    rw [inV_ints]
    walk_at "w"
    refine r_neB ?_
    rw [decide_eq_true rfl]
    have b1 := x7 _ _ b1
    have FX := FX.ex x7
    walk_at "w"
    refine r_getF b1 E.c_Below E.na_Below_holds b6 ?_
    walk_at "w"
    by_cases c1 : (1 : Int) ∈ hs ++ ls
    · rw [decide_eq_true c1]
      walk_at "w"
      rcases LS with ⟨rfl, a⟩ | ⟨n, rfl, a, mn⟩
      · exfalso
        rw [hhs, hls] at c1
        obtain ⟨j, e⟩ := (CAN.mem 1).mp c1
        exact a j e
      have nF : n < F + 40 := by
        obtain ⟨i, i1, i2, i3⟩ := CAN.back n
        have := CAN.leD EV (by decide)
        by_cases q : i < n
        · exact absurd (i3.trans a) (mn i q)
        · omega
      refine r_getF (v := .int ((n : Int) + 1)) b1 E.c_Below E.na_Below_place b4 ?_
      have at_ : ∀ m, m < F + 40 → (sg.map PyData.int)[m]? = some (.int (f m)) := fun m hm => by
        rw [hsg, List.map_map, List.getElem?_map, List.getElem?_range hm]
        rfl
      have sl : SqL K E7 pl (vI sg) := sq_of FX.2.2.2.1
      walk_at "w"
      refine ⟨pl, .int 1, .int 1, sg.map .int, n, .int (f n), rfl, rfl, dp_of_intL sl, .int _, shaped_intL sg, rfl, at_ n nF, by show (f n == 1) = true; rw [a]; rfl, fun m z' hm hz' => ?_, ?_⟩
      · rw [at_ m (by omega)] at hz'
        rw [← Option.some.inj hz']
        exact beq_eq_false_iff_ne.mpr (mn m hm)
      walk_at "w"
      exact ⟨_, _, _, rfl, FX⟩
    · rw [decide_eq_false c1]
      walk_at "w"
      exact ⟨_, _, _, rfl, FX⟩
  clear FX be
  rintro σ' D8 ⟨w14, bk, vd, rfl, FX⟩
  have sid := FX.1
  have sh := FX.2.1
  have so := FX.2.2.1
  have TA := FX.2.2.2.2.2.2.2.1
  have TB := FX.2.2.2.2.2.2.2.2
  have SS := same_sides (c := c) (s := s) P1 P2 (by rw [← hf]; exact CAN)
  rw [← hf, ← hhs, ← hls] at SS
  obtain ⟨dxa, _, _, ia, _⟩ := id TA
  obtain ⟨dxb, _, _, ib, _⟩ := id TB
  walk_at "w"
  refine r_ownEq ia (insB_ok E.ins_Table E.c_Table ib) E.nf_Table_self ?_
  refine ⟨ta, _, _, _, rfl, TA, .inl ⟨tb, _, _, _, rfl, TB, fun b G1 x1 d1 => ?_⟩⟩
  obtain rfl := dp_toBl d1
  refine ⟨⟨_, rfl⟩, ?_⟩
  have SD : decide (t1.1 = t2'.1 ∧ t1.2.1 = t2'.2.1 ∧ t1.2.2 = t2'.2.2) = decide (hs = [] ∧ ls = [0]) := decide_eq_decide.mpr SS
  rw [SD]
  have sid := ex_sid x1 sid
  have sh := ex_t x1 sh
  have so := ex_t x1 so
  walk_at "w"
  intro q1 G2 m2 x2 y2
  walk_at "w"
  intro q2 G3 m3 x3 y3
  walk_at "w"
  intro q3 G4 m4 x4 y4
  walk_at "w"
  intro q4 G5 m5 x5 y5
  have e1 : SqT K G5 q2 (vI []) := st_of (x5 _ _ (x4 _ _ y3))
  have e2 : SqT K G5 q3 (vI [0]) := st_of (x5 _ _ y4)
  have X5 := ((x2.trans x3).trans x4).trans x5
  have sh := ex_t X5 sh
  have so := ex_t X5 so
  have sid := ex_sid X5 sid
  refine r_eqD (d := dP hs ls) (e := dP [] [0]) (.tup (st_of (x5 _ _ (x4 _ _ (x3 _ _ y2)))) (.cons (dp_of_ints sh) (.cons (dp_of_ints so) .nil))) (.tup (st_of y5) (.cons (dp_of_ints e1) (.cons (dp_of_ints e2) .nil))) (shaped_dP _ _) (shaped_dP _ _) ?_
  rw [eqv_dP]
  refine r_neB ?_
  rw [decide_eq_true rfl]
  walk_at "w"
  intro q5 G6 m6 x6 y6
  have sid := ex_sid x6 sid
  obtain ⟨dx, fs, hp⟩ := sid_mine sid
  refine r_ownEq hp (SqT.ty (st_of y6)) E.nf_Sides_tuple ?_
  refine ⟨to, _, _, rfl, sid, .inr ⟨"tuple", by simp, SqT.ty (st_of y6), fun b G7 x7 d7 => ?_⟩⟩
  obtain rfl := dp_toBl d7
  refine ⟨⟨_, rfl⟩, ?_⟩
  have sid := ex_sid x7 sid
  clear SS SD e1 e2 y2 y3 y4 y5 y6 X5
  walk_at "w"
  refine i_seqL ?_
  walk_at "w"
  intro q8 G8 m8 x8 y8
  walk_at "w"
  refine lcJ_list (v := fun _ => .bl true) (sq_of y8) (by decide) (fun y => [_, _, _, _, _, _, _, _, _, _, _, _, _, _, _, _, _, none, none, none, some y]) (fun _ => rfl) (fun _ => rfl) (fun y G9 Q' x9 hy hq => ?_) (fun q9 G9 m9 x9 y9 => ?_)
  · obtain ⟨d, dv, dn, sd, se⟩ : ∃ d, (∀ H, Dp K H y d) ∧ dIsCount d = false ∧ SeqAt.shaped (.tuple [.str "count", d]) = true ∧ PyData.eqv (.tuple [.str "count", d]) (.tuple [.str "count", d]) = true := by
      simp only [List.mem_cons, List.not_mem_nil, or_false] at hy
      rcases hy with rfl | rfl | rfl | rfl
      · exact ⟨.int (-1), fun _ => .int _, by decide +kernel, by decide +kernel, by decide +kernel⟩
      · exact ⟨.none, fun _ => .non, by decide +kernel, by decide +kernel, by decide +kernel⟩
      · exact ⟨.bool true, fun _ => .bl _, by decide +kernel, by decide +kernel, by decide +kernel⟩
      · exact ⟨.str "1", fun _ => .str _, by decide +kernel, by decide +kernel, by decide +kernel⟩
    have sid := ex_sid (x8.trans x9) sid
    walk_at "w"
    refine .inr ⟨to, hs, ls, d, rfl, rfl, sid, zne, by omega, by omega, dv _, dn, fun q H' e sq => ?_⟩
    walk_at "w"
    intro q10 G10 m10 x10 y10
    refine r_eqD (d := .tuple [.str "count", d]) (e := .tuple [.str "count", d]) (.tup (ex_t x10 sq) (.cons (.str _) (.cons (dv _) .nil))) (.tup (st_of y10) (.cons (.str _) (.cons (dv _) .nil))) sd sd ?_
    rw [se]
    exact hq _ (e.trans x10)
  · walk_at "w"
    refine r_all (bs := [true, true, true, true]) (sq_of y9) rfl ?_
    walk_at "w"
    exact k _

end
end M
namespace M
open PySem PySem.Spec PyProof.Rows L2 Evl MS
theorem facts {P : Program} {w : World} {K : PySem.W.Frag} {h : Heap} {mg : Str → Option Value} {f : Addr} (X : K.In h) (G : h.Ns mainGlobals mg) (hfa : mg ("law" : Str) = some (.ref f)) (c : SaysM fa fn exB K) (pf : ((P.main.file : Str) == mainFile) = true ∧ (P.main.scope.names.lookup ("super" : Str)).isSome = false) :
    ∃ fd : FuncData, (∀ (s : Shared) (v : Value), BindsTo s fd ⟨[v], []⟩ [("script", v)]) ∧ ∀ base : Heap, K.In base → base.Ns mainGlobals mg → FnOk P w K mg base CX0 14 f fd ["script"] (lawSp K) := by
  have E : Env P K mg := ⟨⟨h, X, G⟩, c, pf⟩
  obtain ⟨fd, F⟩ := E.dd_law
  have e := hfa.symm.trans E.g_law
  cases e
  have b := FunD.bindsA (ps := ["script"]) F fun _ _ _ _ _ _ us hl => match us, hl with | [_], _ => rfl
  exact ⟨fd, fun s v => b s [v] rfl, fun base _ _ => ok_law E F⟩
end M
open PySem PySem.W PySem.Calls PyProof.Rows
theorem PySem.Challenge.cw_rosterneed_k89_whole_sides_holds : PySem.Challenge.rw_rosterneed_k89_whole_sides.Holds := by
  w_on; o_law
  refine HC.head_run (r := OpenLaw.row PySem.Challenge.rw_rosterneed_k89_whole_sides) (q := view (OpenLaw.row PySem.Challenge.rw_rosterneed_k89_whole_sides).prog [72]) (H := M.hk) (ob := M.ob) (M := M.HD.stepsC) (loose := M.nmL) (d := HandSHeadRun.topDef (OpenLaw.row PySem.Challenge.rw_rosterneed_k89_whole_sides).prog 72) (kwd := []) (S0 := M.HD.Sz) (Sk := M.HD.Sl) M.ob_eq
    (by kernel_rfl) (fun s => by kernel_rfl) M.HD.hSz M.HD.hn0 M.HD.hann M.HD.h_run M.HD.h_look (by kernel_rfl) (by kernel_rfl) (by kernel_rfl) (by rfl) (by first | assumption | decide +kernel) (by decide +kernel) ⟨rfl, rfl, rfl, rfl, rfl, by decide +kernel⟩ ?hw ?hc
  case hw => w_witness2
  case hc =>
    refine Att.attach_callB (l := PySem.Challenge.rw_rosterneed_k89_whole_sides) (n := 63) rfl (by kernel_rfl) fun w s₀ s₁ mg mb fa o pm cd doc a vs ns G Y ho hd hcd hmg0 hobj hints hlen hbits hg => ?_
    obtain ⟨K, KX, c⟩ := Y
    have hmg : mg ("law" : PySem.Str) = some (.ref fa) := by
      have e : (HandSHeadRun.topDef (OpenLaw.row PySem.Challenge.rw_rosterneed_k89_whole_sides).prog 72).name = ("law" : PySem.Str) := by kernel_rfl
      rw [← e]
      exact hmg0
    obtain ⟨fd, hb, hF⟩ := M.facts (P := (PySem.Challenge.rw_rosterneed_k89_whole_sides).prog) (w := w) KX G.T.g hmg c ⟨by kernel_rfl, by kernel_rfl⟩
    exact L2.law_call (CX := L2.CX0) KX G.T.g G.T.b G.T.builtins G.T.nolimit hg hobj hints (Nat.le_trans hlen (by decide)) ⟨rfl, by decide, by decide⟩ hF hb (fun H _ hS => ⟨_, rfl, a, ns, rfl, hS, hbits, hlen, fun _ => rfl⟩) fun _ _ _ z => z

