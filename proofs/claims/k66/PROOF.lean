import PyProof.Rows.All
import Wide.All
import OpenK.AllK
import Wide.FinOn
import KE.KStateDown
import HandS.ForMost
import HandS.Exc
import HandS.WordsExc
import HandS.Defaults
import HandS.Evl
import HandS.Flow
import HandS.Conv
import HandS.IsInst
import HandS.TupMul
import HandS.TupAny
import HandS.Wide
import HandS.WideBits
import HandS.Property
import HandS.Star
import HandS.OwnEq
import HandS.Flt
import KE.KSuper
import HandS.ClsMeth
import HandS.Nested
import HandS.Style
import HandS.Head0
import HandS.Head1
import HandS.Head2
import HandS.HeadEnd
import HandS.EndBits
import HandS.HeadHook1
import HandS.HeadHook2
import HandS.Text
import HandS.Iter
import HandS.Walk
import PyProof.Draws
import HandS.Deep
import KE.DataFind
import HandS.ExcOwn
import HandS.ExcInit
import HandS.ExcField
import HandS.TryMany
import KE.KExcSuper
import HandS.FStr
import KE.KExcIs
import HandS.ExcIs
import PySem.Challenge.RW_rosterneed_k66_whole_rosters
set_option Elab.async false
set_option linter.all false
set_option maxRecDepth 100000
set_option maxHeartbeats 4000000
/-! ### part A: defs by name, calls, unions of rules (own layer over HandS) -/
namespace M
open PySem PySem.Spec PyProof.Rows L2 Evl

section
variable {P : Program} {w : World} {K : PySem.W.Frag} {mg : Str → Option Value} {base : Heap}
/-- a def of the module under its name, with its promise -/
structure Fn (P : Program) (w : World) (K : PySem.W.Frag) (mg : Str → Option Value) (base : Heap) (CX : CXT) (k : Nat) (x : Str) (sp : Sp) : Prop where
  ex : ∃ (f : Addr) (fd : FuncData) (ps : List Str), FnOk P w K mg base CX k f fd ps sp ∧ mg x = some (.ref f) ∧ PySem.W.keepIn K (.ref f) = true ∧ Binds K fd ps []
/-- a method of the class at C -/
structure Mt (P : Program) (w : World) (K : PySem.W.Frag) (mg : Str → Option Value) (base : Heap) (CX : CXT) (k : Nat) (C : Addr) (m : Str) (sp : Sp) : Prop where
  ex : ∃ (f : Addr) (fd : FuncData) (ps : List Str), Cls K C ∧ Meth K C m f ∧ FnOk P w K mg base CX k f fd ps sp ∧ Binds K fd ps []

def sp1 (F : V → Hp → VK → XK → Prop) : Sp := fun vs H Q E => ∃ a, vs = [a] ∧ F a H Q E
def sp2 (F : V → V → Hp → VK → XK → Prop) : Sp := fun vs H Q E => ∃ a b, vs = [a, b] ∧ F a b H Q E
def sp3 (F : V → V → V → Hp → VK → XK → Prop) : Sp := fun vs H Q E => ∃ a b c, vs = [a, b, c] ∧ F a b c H Q E
def sp4 (F : V → V → V → V → Hp → VK → XK → Prop) : Sp := fun vs H Q E => ∃ a b c d, vs = [a, b, c, d] ∧ F a b c d H Q E
def sp5 (F : V → V → V → V → V → Hp → VK → XK → Prop) : Sp := fun vs H Q E => ∃ a b c d e, vs = [a, b, c, d, e] ∧ F a b c d e H Q E

theorem sp1_len {F} {p : Str} : ∀ vs H Q E, sp1 F vs H Q E → vs.length = [p].length := fun vs H Q E ⟨a, e, _⟩ => by rw [e]; rfl
theorem sp2_len {F} {p q : Str} : ∀ vs H Q E, sp2 F vs H Q E → vs.length = [p, q].length := fun vs H Q E ⟨a, b, e, _⟩ => by rw [e]; rfl
theorem sp3_len {F} {p q r : Str} : ∀ vs H Q E, sp3 F vs H Q E → vs.length = [p, q, r].length := fun vs H Q E ⟨a, b, c, e, _⟩ => by rw [e]; rfl
theorem sp4_len {F} {p q r u : Str} : ∀ vs H Q E, sp4 F vs H Q E → vs.length = [p, q, r, u].length := fun vs H Q E ⟨a, b, c, d, e, _⟩ => by rw [e]; rfl
theorem sp5_len {F} {p q r u v : Str} : ∀ vs H Q E, sp5 F vs H Q E → vs.length = [p, q, r, u, v].length := fun vs H Q E ⟨a, b, c, d, _, e, _⟩ => by rw [e]; rfl

/-- a def of which nothing is promised (the floor of a recursion) -/
theorem Fn.never {x qual : Str} {params : Arguments} {body : List Stmt} {scope : Scope} {f : Addr} {fd : FuncData} {ps : List Str} {k : Nat}
    (F : FunD K x qual params body scope [] [] f fd) (hm : mg x = some (.ref f))
    (hb : ∀ (kV doc pm : Value) (an : Option Addr) (cdv ct : Value) (us : List Value), us.length = ps.length → bindArgs (PySem.W.fnOf x qual params body scope .none kV doc pm an cdv ct) ⟨us, []⟩ = pure (ps.zip us)) :
    Fn P w K mg base CX0 k x (fun _ _ _ _ => False) :=
  ⟨f, fd, ps, ⟨fun _ _ _ _ h => h.elim, fun _ _ _ _ _ _ _ _ _ _ _ _ _ h => h.elim⟩, hm, F.kp, F.bindsN hb⟩
theorem fnok0 {x qual : Str} {params : Arguments} {body : List Stmt} {scope : Scope} {dvs : List V} {f : Addr} {fd : FuncData} {N ps : List Str} {k : Nat} {sp : Sp}
    (F : FunD K x qual params body scope dvs [] f fd) (S : FnScope N ps scope) (len : ∀ vs H Q E, sp vs H Q E → vs.length = ps.length)
    (hbody : ∀ (cdv : Value) (A : Around) (outer : List Env) (s : Shared) (H : Hp) (vs : List V) (Q : VK) (E : XK), Room k (A.deeper (envOfC qual scope s.heap.objs.size f cdv)) → sp vs H Q E →
      ∃ t, PSs (cxOf CX0 P w K mg base N qual scope f cdv A outer s H E).nox body t ∧ t { nx := fun _ H' => Q .non H', rt := Q } (start N vs) H) :
    FnOk P w K mg base CX0 (k + 1) f fd ps sp := F.ok S len fun cdv A outer s H vs Q E hr h => by
  obtain ⟨t, h1, h2⟩ := hbody cdv A outer s H vs Q E hr h
  exact ⟨t, h1.nox, h2⟩
/-- a def that lets nothing out, by its body -/
theorem Fn.mk0 {x qual : Str} {params : Arguments} {body : List Stmt} {scope : Scope} {f : Addr} {fd : FuncData} {N ps : List Str} {k : Nat} {sp : Sp}
    (F : FunD K x qual params body scope [] [] f fd) (hm : mg x = some (.ref f)) (S : FnScope N ps scope) (len : ∀ vs H Q E, sp vs H Q E → vs.length = ps.length)
    (hb : ∀ (kV doc pm : Value) (an : Option Addr) (cdv ct : Value) (us : List Value), us.length = ps.length → bindArgs (PySem.W.fnOf x qual params body scope .none kV doc pm an cdv ct) ⟨us, []⟩ = pure (ps.zip us))
    (hbody : ∀ (cdv : Value) (A : Around) (outer : List Env) (s : Shared) (H : Hp) (vs : List V) (Q : VK) (E : XK), Room k (A.deeper (envOfC qual scope s.heap.objs.size f cdv)) → sp vs H Q E →
      ∃ t, PSs (cxOf CX0 P w K mg base N qual scope f cdv A outer s H E).nox body t ∧ t { nx := fun _ H' => Q .non H', rt := Q } (start N vs) H) :
    Fn P w K mg base CX0 (k + 1) x sp :=
  ⟨f, fd, ps, F.ok S len fun cdv A outer s H vs Q E hr h => by
    obtain ⟨t, h1, h2⟩ := hbody cdv A outer s H vs Q E hr h
    exact ⟨t, h1.nox, h2⟩, hm, F.kp, F.bindsN hb⟩
theorem Mt.mk0 {x qual : Str} {params : Arguments} {body : List Stmt} {scope : Scope} {f C : Addr} {fd : FuncData} {N ps : List Str} {k : Nat} {sp : Sp} {m : Str}
    (F : FunD K x qual params body scope [] [] f fd) (c : Cls K C) (hm : Meth K C m f) (S : FnScope N ps scope) (len : ∀ vs H Q E, sp vs H Q E → vs.length = ps.length)
    (hb : ∀ (kV doc pm : Value) (an : Option Addr) (cdv ct : Value) (us : List Value), us.length = ps.length → bindArgs (PySem.W.fnOf x qual params body scope .none kV doc pm an cdv ct) ⟨us, []⟩ = pure (ps.zip us))
    (hbody : ∀ (cdv : Value) (A : Around) (outer : List Env) (s : Shared) (H : Hp) (vs : List V) (Q : VK) (E : XK), Room k (A.deeper (envOfC qual scope s.heap.objs.size f cdv)) → sp vs H Q E →
      ∃ t, PSs (cxOf CX0 P w K mg base N qual scope f cdv A outer s H E).nox body t ∧ t { nx := fun _ H' => Q .non H', rt := Q } (start N vs) H) :
    Mt P w K mg base CX0 (k + 1) C m sp :=
  ⟨f, fd, ps, c, hm, F.ok S len fun cdv A outer s H vs Q E hr h => by
    obtain ⟨t, h1, h2⟩ := hbody cdv A outer s H vs Q E hr h
    exact ⟨t, h1.nox, h2⟩, F.bindsN hb⟩
end

section
variable {X : Cx} {CX : CXT} {k j : Nat} {C : Addr} {x m : Str} {sp : Sp} {E : XK} {p pos apos : Pos} {e o : Expr} {es : List Expr} {ta : TE} {t : TA}
theorem pc (c : Fn X.prog X.w X.K X.mg X.base CX k x sp) (hr : Room j X.A) (hk : k ≤ j) (hx : Passes CX X E) (hg : Gl X x) (ha : PA X (e :: es) t)
    (hdb : (x == ("__debug__" : Str)) = false := by decide) (he : starEach (e :: es) X.env = (false, eval e X.env) :: starEach es X.env := by rfl) (hpl : (backTo pos (starEach es X.env)).any (·.1) = false := by rfl) :
    PE X (.Call (.Name x p) (e :: es) [] pos) (tCall sp [] E t) := by
  obtain ⟨f, fd, ps, F, hm, hkp, hb⟩ := c.ex
  exact pe_call F (hr.mono hk) hg hm hkp hb .nil hx ha hdb he hpl
theorem pc0 (c : Fn X.prog X.w X.K X.mg X.base CX k x sp) (hr : Room j X.A) (hk : k ≤ j) (hx : Passes CX X E) (hg : Gl X x)
    (hdb : (x == ("__debug__" : Str)) = false := by decide) :
    PE X (.Call (.Name x p) [] [] pos) (tCall sp [] E tNil) := by
  obtain ⟨f, fd, ps, F, hm, hkp, hb⟩ := c.ex
  exact pe_call0 F (hr.mono hk) hg hm hkp hb .nil hx hdb
end

/-! unions -/
section
variable {X : Cx}
def rAdd (K : PySem.W.Frag) : R2 := fun x y H Q => (rI0 fun i j => .int (i + j)) x y H Q ∨ rCat x y H Q ∨ rCatA K x y H Q ∨ ∃ i j, x = .str i ∧ y = .str j ∧ i.length + j.length ≤ sizeLine ∧ Q (.str (i ++ j)) H
theorem xAdd : OpR X (binaryOp .Add) (rAdd X.K) := op_add.or (op_cat.or (op_catA.or op_add_str))
def rMul (K : PySem.W.Frag) : R2 := fun x y H Q => (rI CMul fun i j => .int (i * j)) x y H Q ∨ rRep x y H Q ∨ rRepT K x y H Q
theorem xMul : OpR X (binaryOp .Mult) (rMul X.K) := op_mul.or (op_rep.or op_repT)
abbrev rDiv : R2 := rI CDivW fun i j => .int (i / j)
theorem xDiv : OpR X (binaryOp .FloorDiv) rDiv := op_fdivW
abbrev rMod : R2 := rI (fun _ j => 0 < j) fun i j => .int (i % j)
theorem xMod : OpR X (binaryOp .Mod) rMod := op_mod
abbrev rSubI : R2 := rI0 fun i j => .int (i - j)
theorem xSub : OpR X (binaryOp .Sub) rSubI := op_sub
abbrev rShl : R2 := rI CShl fun i j => .int (i * 2 ^ j.toNat)
theorem xShl : OpR X (binaryOp .LShift) rShl := op_shlW
abbrev rShr : R2 := rI (fun _ j => 0 ≤ j) fun i j => .int (i / 2 ^ j.toNat)
theorem xShr : OpR X (binaryOp .RShift) rShr := op_shr
abbrev rPow : R2 := rI CPow fun i j => .int (i ^ j.toNat)
theorem xPow : OpR X (binaryOp .Pow) rPow := op_pow
def rEqU (K : PySem.W.Frag) : R2 := fun x y H Q => rEq x y H Q ∨ rEqD K x y H Q
theorem xEq {j : Nat} (hr : Room j X.A) : OpR X (compareOp .Eq) (rEqU X.K) := op_eq.or (op_eqD (by have := hr.un; omega))
def rNeU (K : PySem.W.Frag) : R2 := fun x y H Q => rNe x y H Q ∨ rNeD K x y H Q
theorem xNe {j : Nat} (hr : Room j X.A) : OpR X (compareOp .NotEq) (rNeU X.K) := op_ne.or (op_neD (by have := hr.un; omega))
def rSl (K : PySem.W.Frag) : V → Option Int → Option Int → Hp → VK → Prop := fun x lo hi H Q => rSlL K x lo hi H Q ∨ rSlA K x lo hi H Q ∨ rSlS x lo hi H Q
theorem xSl : SlR X (rSl X.K) := sl_list.or (sl_tupA.or sl_str)
theorem PI.or {tg iter : Expr} {w1 w2 : TI} (h1 : PI X tg iter w1) (h2 : PI X tg iter w2) : PI X tg iter (fun σ H R => w1 σ H R ∨ w2 σ H R) :=
  ⟨fun pins s σ H R I h => h.elim (h1.run pins s σ H R I) (h2.run pins s σ H R I)⟩
def iSeq (K : PySem.W.Frag) (tl : TE) : TI := fun σ H R => iList K tl σ H R ∨ iTup K tl σ H R
theorem pi_seq {tg l : Expr} {tl : TE} (hl : PE X l tl) : PI X tg l (iSeq X.K tl) := PI.or (pi_list hl) (pi_tup hl)
end
end M

/-! ### part B: readings step by step -/
namespace M
open PySem PySem.Spec PyProof.Rows L2 Evl
section
variable {K : PySem.W.Frag} {σ : L2.St} {H : Hp} {Q : VK} {D : Ends} {t u : TS} {te ta tb : TE} {tt tu : TT} {g : TG} {v : V} {r : R2}
theorem w_cut {M : L2.St → Hp → Prop} (h : t { nx := M, rt := D.rt, bk := D.bk, ct := D.ct } σ H) (h2 : ∀ σ' H', M σ' H' → u D σ' H') : tCut t u D σ H := ⟨M, h, h2⟩
theorem w_seq (h : t { nx := u D, rt := D.rt, bk := D.bk, ct := D.ct } σ H) : tSeq t u D σ H := h
theorem w_drop (h : te σ H fun _ H1 => D.nx σ H1) : tDrop te D σ H := h
theorem w_asg (h : te σ H fun x H1 => g x σ H1 D.nx) : tAsg te g D σ H := h
theorem w_ret (h : te σ H D.rt) : tRet te D σ H := h
theorem w_retN (h : D.rt .non H) : tRetN D σ H := h
theorem w_next (h : D.nx σ H) : tNext D σ H := h
theorem w_break (h : D.bk σ H) : tBreak D σ H := h
theorem w_ifS (h : tt σ H fun b H1 => if b = true then t D σ H1 else u D σ H1) : tIfS tt t u D σ H := h
theorem w_op (h : ta σ H fun x H1 => tb σ H1 fun y H2 => r x y H2 Q) : tOp r ta tb σ H Q := h
theorem w_un {r : V → Hp → VK → Prop} (h : ta σ H fun x H1 => r x H1 Q) : tUn r ta σ H Q := h
theorem w_c (h : Q v H) : tC v σ H Q := h
theorem w_test {Q : Bool → Hp → Prop} (h : te σ H fun x H' => ∃ k, x = .bl k ∧ Q k H') : tTest te σ H Q := h
theorem w_tB {Q : Bool → Hp → Prop} (h : te σ H fun x H' => ∃ k, x = .bl k ∧ Q k H') : tB te σ H Q := h
theorem w_exbl {Q : Bool → Hp → Prop} {b : Bool} (h : Q b H) : ∃ k, V.bl b = .bl k ∧ Q k H := ⟨b, rfl, h⟩
theorem w_exbl2 {Q : Bool → Prop} {b : Bool} (h : Q b) : ∃ k, V.bl b = .bl k ∧ Q k := ⟨b, rfl, h⟩
theorem w_and {Q : Bool → Hp → Prop} (h : tt σ H fun c H1 => if c = true then tu σ H1 Q else Q false H1) : tAnd tt tu σ H Q := h
theorem w_or {Q : Bool → Hp → Prop} (h : tt σ H fun c H1 => if c = true then Q true H1 else tu σ H1 Q) : tOr tt tu σ H Q := h
theorem w_not {Q : Bool → Hp → Prop} (h : tt σ H fun c H1 => Q (!c) H1) : tNot tt σ H Q := h
theorem w_andV (h : ta σ H fun x H1 => ∃ c, x = .bl c ∧ if c = true then tb σ H1 Q else Q (.bl false) H1) : tAndV ta tb σ H Q := h
theorem w_orV (h : ta σ H fun x H1 => ∃ c, x = .bl c ∧ if c = true then Q (.bl true) H1 else tb σ H1 Q) : tOrV ta tb σ H Q := h
theorem w_notV (h : ta σ H fun x H1 => ∃ c, x = .bl c ∧ Q (.bl (!c)) H1) : tNotV ta σ H Q := h
theorem w_ifE (h : tt σ H fun c H1 => if c = true then ta σ H1 Q else tb σ H1 Q) : tIf tt ta tb σ H Q := h
theorem w_chain {r' : R2} {tc : TE} (h : ta σ H fun x H1 => tb σ H1 fun y H2 => r x y H2 fun z H3 => ∃ k, z = .bl k ∧ (if k = true then tc σ H3 fun w' H4 => r' y w' H4 Q else Q (.bl false) H3)) : tChain r r' ta tb tc σ H Q := h
theorem w_nil {Q : List V → Hp → Prop} (h : Q [] H) : tNil σ H Q := h
theorem w_cons {tr : TA} {Q : List V → Hp → Prop} (h : ta σ H fun x H1 => tr σ H1 fun xs H2 => Q (x :: xs) H2) : tCons ta tr σ H Q := h
theorem w_cb {r : List V → Hp → VK → Prop} {t : TA} (h : t σ H fun vs H1 => r vs H1 Q) : tCB r t σ H Q := h
theorem w_call {sp : Sp} {E : XK} {t : TA} (h : t σ H fun vs H1 => sp (vs ++ []) H1 Q E) : tCall sp [] E t σ H Q := h
theorem w_call1 {F} {E : XK} {a : V} (h : F a H Q E) : sp1 F ([a] ++ []) H Q E := ⟨a, rfl, h⟩
theorem w_call2 {F} {E : XK} {a b : V} (h : F a b H Q E) : sp2 F ([a, b] ++ []) H Q E := ⟨a, b, rfl, h⟩
theorem w_call3 {F} {E : XK} {a b c : V} (h : F a b c H Q E) : sp3 F ([a, b, c] ++ []) H Q E := ⟨a, b, c, rfl, h⟩
theorem w_call4 {F} {E : XK} {a b c d : V} (h : F a b c d H Q E) : sp4 F ([a, b, c, d] ++ []) H Q E := ⟨a, b, c, d, rfl, h⟩
theorem w_call5 {F} {E : XK} {a b c d e : V} (h : F a b c d e H Q E) : sp5 F ([a, b, c, d, e] ++ []) H Q E := ⟨a, b, c, d, e, rfl, h⟩
theorem w_callM1 {F} {E : XK} {x : V} (h : F x H Q E) : sp1 F (x :: ([] ++ [])) H Q E := ⟨x, rfl, h⟩
theorem w_callM2 {F} {E : XK} {x a : V} (h : F x a H Q E) : sp2 F (x :: ([a] ++ [])) H Q E := ⟨x, a, rfl, h⟩
theorem w_callM3 {F} {E : XK} {x a b : V} (h : F x a b H Q E) : sp3 F (x :: ([a, b] ++ [])) H Q E := ⟨x, a, b, rfl, h⟩
theorem w_callM4 {F} {E : XK} {x a b c : V} (h : F x a b c H Q E) : sp4 F (x :: ([a, b, c] ++ [])) H Q E := ⟨x, a, b, c, rfl, h⟩
/-- a new tuple, a new list: what is asked, named -/
def NewT (xs : List V) (H : Hp) (Q : VK) : Prop := xs.length ≤ sizeLine ∧ ∀ p, H p = none → Q (.ref p) (upd H p (.tup xs))
def NewL (xs : List V) (H : Hp) (Q : VK) : Prop := xs.length ≤ sizeLine ∧ ∀ p, H p = none → Q (.ref p) (upd H p (.lst xs))
theorem w_tup {t : TA} (h : t σ H fun xs H1 => NewT xs H1 Q) : tTup t σ H Q := h
theorem w_lst {t : TA} (h : t σ H fun xs H1 => NewL xs H1 Q) : tLst t σ H Q := h
theorem w_newT {xs : List V} (hz : xs.length ≤ sizeLine) (h : ∀ p H1, H p = none → Ex H H1 → H1 p = some (.tup xs) → Q (.ref p) H1) : NewT xs H Q :=
  ⟨hz, fun p hp => h p _ hp (Ex.new hp) upd_same⟩
theorem w_newL {xs : List V} (hz : xs.length ≤ sizeLine) (h : ∀ p H1, H p = none → Ex H H1 → H1 p = some (.lst xs) → Q (.ref p) H1) : NewL xs H Q :=
  ⟨hz, fun p hp => h p _ hp (Ex.new hp) upd_same⟩
theorem w_sl {r : V → Option Int → Option Int → Hp → VK → Prop} {tl th : TO} (h : te σ H fun x H1 => tl σ H1 fun l H2 => th σ H2 fun u H3 => r x l u H3 Q) : tSl r te tl th σ H Q := h
theorem w_part {Q : Option Int → Hp → Prop} (h : te σ H fun x H1 => ∃ i, x = .int i ∧ Q (some i) H1) : tPart te σ H Q := h
theorem w_noPart {Q : Option Int → Hp → Prop} (h : Q none H) : tNoPart σ H Q := h
theorem w_exint {Q : Int → Prop} {i : Int} (h : Q i) : ∃ k, V.int i = .int k ∧ Q k := ⟨i, rfl, h⟩
theorem w_gsub {to ti : TE} {s : TSet} {Q : L2.St → Hp → Prop} (h : to σ H fun o H1 => ti σ H1 fun i H2 => s o i v H2 fun H3 => Q σ H3) : gSub to ti s v σ H Q := h
theorem w_par {i j : Nat} {ta : TA} (h : ta σ H fun vs H1 => ∃ v w, vs = [v, w] ∧ D.nx ((List.set σ i (some v)).set j (some w)) H1) : tPar i j ta D σ H := h
theorem w_yes {Q : Bool → Hp → Prop} (h : Q true H) : tYes σ H Q := h
/-! tuples unpacked -/
theorem w_gtup {n : Nat} {t : TGs} {a : Addr} {xs : List V} {Q : L2.St → Hp → Prop} (hs : SqT K H a xs) (hl : xs.length = n) (h : t xs σ H Q) : gTup K n t (.ref a) σ H Q := ⟨a, xs, rfl, hs, hl, h⟩
theorem w_gcons {g : TG} {us : TGs} {x : V} {xs : List V} {Q : L2.St → Hp → Prop} (h : g x σ H fun σ' H' => us xs σ' H' Q) : gCons g us (x :: xs) σ H Q := ⟨x, xs, rfl, h⟩
theorem w_gnil {Q : L2.St → Hp → Prop} (h : Q σ H) : gNil [] σ H Q := ⟨rfl, h⟩
/-! ifs -/
theorem w_ite {c A B : Prop} [Decidable c] (h1 : c → A) (h2 : ¬ c → B) : if decide c = true then A else B := by
  by_cases h : c
  · rw [if_pos (decide_eq_true h)]; exact h1 h
  · rw [if_neg (by rw [decide_eq_false h]; exact Bool.false_ne_true)]; exact h2 h
theorem w_iteN {c A B : Prop} [Decidable c] (h1 : ¬ c → A) (h2 : c → B) : if (!decide c) = true then A else B := by
  by_cases h : c
  · rw [decide_eq_true h, if_neg (by decide)]; exact h2 h
  · rw [decide_eq_false h, if_pos (by decide)]; exact h1 h
theorem w_dT {c A B : Prop} [Decidable c] (h : c) (h1 : A) : if decide c = true then A else B := w_ite (fun _ => h1) fun n => absurd h n
theorem w_dF {c A B : Prop} [Decidable c] (h : ¬ c) (h1 : B) : if decide c = true then A else B := w_ite (fun n => absurd n h) fun _ => h1
theorem w_nT {c A B : Prop} [Decidable c] (h : ¬ c) (h1 : A) : if (!decide c) = true then A else B := w_iteN (fun _ => h1) fun n => absurd n h
theorem w_nF {c A B : Prop} [Decidable c] (h : c) (h1 : B) : if (!decide c) = true then A else B := w_iteN (fun n => absurd h n) fun _ => h1
theorem w_bT {b : Bool} {A B : Prop} (h : b = true) (h1 : A) : if b = true then A else B := by rw [if_pos h]; exact h1
theorem w_bF {b : Bool} {A B : Prop} (h : b = false) (h1 : B) : if b = true then A else B := by rw [if_neg (by rw [h]; decide)]; exact h1
theorem w_b2 {b : Bool} {A B : Prop} (h1 : b = true → A) (h2 : b = false → B) : if b = true then A else B := by
  cases b
  · exact iteF (h2 rfl)
  · exact iteT (h1 rfl)

/-- a store, named -/
def SetN (i : Nat) (v : V) (l : L2.St) (H : Hp) (Q : L2.St → Hp → Prop) : Prop := Q (l.set i (some v)) H
theorem w_nn {i : Nat} {Q : L2.St → Hp → Prop} (h : SetN i v σ H Q) : gName i v σ H Q := h
def GetN (i : Nat) (l : L2.St) (H : Hp) (Q : VK) : Prop := ∃ v, l[i]? = some (some v) ∧ Q v H
theorem w_vv {i : Nat} (h : GetN i σ H Q) : tVar i σ H Q := h
theorem w_v0 {l : L2.St} (h : Q v H) : GetN 0 (some v :: l) H Q := ⟨v, rfl, h⟩
theorem w_n0 {y : Option V} {l : L2.St} {Q : L2.St → Hp → Prop} (h : Q (some v :: l) H) : SetN 0 v (y :: l) H Q := h
theorem w_v1 {x0 : Option V} {l : L2.St} (h : Q v H) : GetN 1 (x0 :: some v :: l) H Q := ⟨v, rfl, h⟩
theorem w_n1 {x0 : Option V} {y : Option V} {l : L2.St} {Q : L2.St → Hp → Prop} (h : Q (x0 :: some v :: l) H) : SetN 1 v (x0 :: y :: l) H Q := h
theorem w_v2 {x0 x1 : Option V} {l : L2.St} (h : Q v H) : GetN 2 (x0 :: x1 :: some v :: l) H Q := ⟨v, rfl, h⟩
theorem w_n2 {x0 x1 : Option V} {y : Option V} {l : L2.St} {Q : L2.St → Hp → Prop} (h : Q (x0 :: x1 :: some v :: l) H) : SetN 2 v (x0 :: x1 :: y :: l) H Q := h
theorem w_v3 {x0 x1 x2 : Option V} {l : L2.St} (h : Q v H) : GetN 3 (x0 :: x1 :: x2 :: some v :: l) H Q := ⟨v, rfl, h⟩
theorem w_n3 {x0 x1 x2 : Option V} {y : Option V} {l : L2.St} {Q : L2.St → Hp → Prop} (h : Q (x0 :: x1 :: x2 :: some v :: l) H) : SetN 3 v (x0 :: x1 :: x2 :: y :: l) H Q := h
theorem w_v4 {x0 x1 x2 x3 : Option V} {l : L2.St} (h : Q v H) : GetN 4 (x0 :: x1 :: x2 :: x3 :: some v :: l) H Q := ⟨v, rfl, h⟩
theorem w_n4 {x0 x1 x2 x3 : Option V} {y : Option V} {l : L2.St} {Q : L2.St → Hp → Prop} (h : Q (x0 :: x1 :: x2 :: x3 :: some v :: l) H) : SetN 4 v (x0 :: x1 :: x2 :: x3 :: y :: l) H Q := h
theorem w_v5 {x0 x1 x2 x3 x4 : Option V} {l : L2.St} (h : Q v H) : GetN 5 (x0 :: x1 :: x2 :: x3 :: x4 :: some v :: l) H Q := ⟨v, rfl, h⟩
theorem w_n5 {x0 x1 x2 x3 x4 : Option V} {y : Option V} {l : L2.St} {Q : L2.St → Hp → Prop} (h : Q (x0 :: x1 :: x2 :: x3 :: x4 :: some v :: l) H) : SetN 5 v (x0 :: x1 :: x2 :: x3 :: x4 :: y :: l) H Q := h
theorem w_v6 {x0 x1 x2 x3 x4 x5 : Option V} {l : L2.St} (h : Q v H) : GetN 6 (x0 :: x1 :: x2 :: x3 :: x4 :: x5 :: some v :: l) H Q := ⟨v, rfl, h⟩
theorem w_n6 {x0 x1 x2 x3 x4 x5 : Option V} {y : Option V} {l : L2.St} {Q : L2.St → Hp → Prop} (h : Q (x0 :: x1 :: x2 :: x3 :: x4 :: x5 :: some v :: l) H) : SetN 6 v (x0 :: x1 :: x2 :: x3 :: x4 :: x5 :: y :: l) H Q := h
theorem w_v7 {x0 x1 x2 x3 x4 x5 x6 : Option V} {l : L2.St} (h : Q v H) : GetN 7 (x0 :: x1 :: x2 :: x3 :: x4 :: x5 :: x6 :: some v :: l) H Q := ⟨v, rfl, h⟩
theorem w_n7 {x0 x1 x2 x3 x4 x5 x6 : Option V} {y : Option V} {l : L2.St} {Q : L2.St → Hp → Prop} (h : Q (x0 :: x1 :: x2 :: x3 :: x4 :: x5 :: x6 :: some v :: l) H) : SetN 7 v (x0 :: x1 :: x2 :: x3 :: x4 :: x5 :: x6 :: y :: l) H Q := h
theorem w_v8 {x0 x1 x2 x3 x4 x5 x6 x7 : Option V} {l : L2.St} (h : Q v H) : GetN 8 (x0 :: x1 :: x2 :: x3 :: x4 :: x5 :: x6 :: x7 :: some v :: l) H Q := ⟨v, rfl, h⟩
theorem w_n8 {x0 x1 x2 x3 x4 x5 x6 x7 : Option V} {y : Option V} {l : L2.St} {Q : L2.St → Hp → Prop} (h : Q (x0 :: x1 :: x2 :: x3 :: x4 :: x5 :: x6 :: x7 :: some v :: l) H) : SetN 8 v (x0 :: x1 :: x2 :: x3 :: x4 :: x5 :: x6 :: x7 :: y :: l) H Q := h
theorem w_v9 {x0 x1 x2 x3 x4 x5 x6 x7 x8 : Option V} {l : L2.St} (h : Q v H) : GetN 9 (x0 :: x1 :: x2 :: x3 :: x4 :: x5 :: x6 :: x7 :: x8 :: some v :: l) H Q := ⟨v, rfl, h⟩
theorem w_n9 {x0 x1 x2 x3 x4 x5 x6 x7 x8 : Option V} {y : Option V} {l : L2.St} {Q : L2.St → Hp → Prop} (h : Q (x0 :: x1 :: x2 :: x3 :: x4 :: x5 :: x6 :: x7 :: x8 :: some v :: l) H) : SetN 9 v (x0 :: x1 :: x2 :: x3 :: x4 :: x5 :: x6 :: x7 :: x8 :: y :: l) H Q := h
theorem w_v10 {x0 x1 x2 x3 x4 x5 x6 x7 x8 x9 : Option V} {l : L2.St} (h : Q v H) : GetN 10 (x0 :: x1 :: x2 :: x3 :: x4 :: x5 :: x6 :: x7 :: x8 :: x9 :: some v :: l) H Q := ⟨v, rfl, h⟩
theorem w_n10 {x0 x1 x2 x3 x4 x5 x6 x7 x8 x9 : Option V} {y : Option V} {l : L2.St} {Q : L2.St → Hp → Prop} (h : Q (x0 :: x1 :: x2 :: x3 :: x4 :: x5 :: x6 :: x7 :: x8 :: x9 :: some v :: l) H) : SetN 10 v (x0 :: x1 :: x2 :: x3 :: x4 :: x5 :: x6 :: x7 :: x8 :: x9 :: y :: l) H Q := h
theorem w_v11 {x0 x1 x2 x3 x4 x5 x6 x7 x8 x9 x10 : Option V} {l : L2.St} (h : Q v H) : GetN 11 (x0 :: x1 :: x2 :: x3 :: x4 :: x5 :: x6 :: x7 :: x8 :: x9 :: x10 :: some v :: l) H Q := ⟨v, rfl, h⟩
theorem w_n11 {x0 x1 x2 x3 x4 x5 x6 x7 x8 x9 x10 : Option V} {y : Option V} {l : L2.St} {Q : L2.St → Hp → Prop} (h : Q (x0 :: x1 :: x2 :: x3 :: x4 :: x5 :: x6 :: x7 :: x8 :: x9 :: x10 :: some v :: l) H) : SetN 11 v (x0 :: x1 :: x2 :: x3 :: x4 :: x5 :: x6 :: x7 :: x8 :: x9 :: x10 :: y :: l) H Q := h
theorem w_v12 {x0 x1 x2 x3 x4 x5 x6 x7 x8 x9 x10 x11 : Option V} {l : L2.St} (h : Q v H) : GetN 12 (x0 :: x1 :: x2 :: x3 :: x4 :: x5 :: x6 :: x7 :: x8 :: x9 :: x10 :: x11 :: some v :: l) H Q := ⟨v, rfl, h⟩
theorem w_n12 {x0 x1 x2 x3 x4 x5 x6 x7 x8 x9 x10 x11 : Option V} {y : Option V} {l : L2.St} {Q : L2.St → Hp → Prop} (h : Q (x0 :: x1 :: x2 :: x3 :: x4 :: x5 :: x6 :: x7 :: x8 :: x9 :: x10 :: x11 :: some v :: l) H) : SetN 12 v (x0 :: x1 :: x2 :: x3 :: x4 :: x5 :: x6 :: x7 :: x8 :: x9 :: x10 :: x11 :: y :: l) H Q := h
theorem w_v13 {x0 x1 x2 x3 x4 x5 x6 x7 x8 x9 x10 x11 x12 : Option V} {l : L2.St} (h : Q v H) : GetN 13 (x0 :: x1 :: x2 :: x3 :: x4 :: x5 :: x6 :: x7 :: x8 :: x9 :: x10 :: x11 :: x12 :: some v :: l) H Q := ⟨v, rfl, h⟩
theorem w_n13 {x0 x1 x2 x3 x4 x5 x6 x7 x8 x9 x10 x11 x12 : Option V} {y : Option V} {l : L2.St} {Q : L2.St → Hp → Prop} (h : Q (x0 :: x1 :: x2 :: x3 :: x4 :: x5 :: x6 :: x7 :: x8 :: x9 :: x10 :: x11 :: x12 :: some v :: l) H) : SetN 13 v (x0 :: x1 :: x2 :: x3 :: x4 :: x5 :: x6 :: x7 :: x8 :: x9 :: x10 :: x11 :: x12 :: y :: l) H Q := h
theorem w_v14 {x0 x1 x2 x3 x4 x5 x6 x7 x8 x9 x10 x11 x12 x13 : Option V} {l : L2.St} (h : Q v H) : GetN 14 (x0 :: x1 :: x2 :: x3 :: x4 :: x5 :: x6 :: x7 :: x8 :: x9 :: x10 :: x11 :: x12 :: x13 :: some v :: l) H Q := ⟨v, rfl, h⟩
theorem w_n14 {x0 x1 x2 x3 x4 x5 x6 x7 x8 x9 x10 x11 x12 x13 : Option V} {y : Option V} {l : L2.St} {Q : L2.St → Hp → Prop} (h : Q (x0 :: x1 :: x2 :: x3 :: x4 :: x5 :: x6 :: x7 :: x8 :: x9 :: x10 :: x11 :: x12 :: x13 :: some v :: l) H) : SetN 14 v (x0 :: x1 :: x2 :: x3 :: x4 :: x5 :: x6 :: x7 :: x8 :: x9 :: x10 :: x11 :: x12 :: x13 :: y :: l) H Q := h
theorem w_v15 {x0 x1 x2 x3 x4 x5 x6 x7 x8 x9 x10 x11 x12 x13 x14 : Option V} {l : L2.St} (h : Q v H) : GetN 15 (x0 :: x1 :: x2 :: x3 :: x4 :: x5 :: x6 :: x7 :: x8 :: x9 :: x10 :: x11 :: x12 :: x13 :: x14 :: some v :: l) H Q := ⟨v, rfl, h⟩
theorem w_n15 {x0 x1 x2 x3 x4 x5 x6 x7 x8 x9 x10 x11 x12 x13 x14 : Option V} {y : Option V} {l : L2.St} {Q : L2.St → Hp → Prop} (h : Q (x0 :: x1 :: x2 :: x3 :: x4 :: x5 :: x6 :: x7 :: x8 :: x9 :: x10 :: x11 :: x12 :: x13 :: x14 :: some v :: l) H) : SetN 15 v (x0 :: x1 :: x2 :: x3 :: x4 :: x5 :: x6 :: x7 :: x8 :: x9 :: x10 :: x11 :: x12 :: x13 :: x14 :: y :: l) H Q := h

/-! rules by values -/
theorem r_addI {i j : Int} (h : Q (.int (i + j)) H) : rAdd K (.int i) (.int j) H Q := .inl ⟨i, j, rfl, rfl, h⟩
theorem r_subI {i j : Int} (h : Q (.int (i - j)) H) : rSubI (.int i) (.int j) H Q := ⟨i, j, rfl, rfl, h⟩
theorem r_mulI {i j : Int} (hc : CMul i j) (h : Q (.int (i * j)) H) : rMul K (.int i) (.int j) H Q := .inl ⟨i, j, rfl, rfl, hc, h⟩
theorem r_divI {i j : Int} (h0 : 0 < j) (h1 : j < 2 ^ 62) (h : Q (.int (i / j)) H) : rDiv (.int i) (.int j) H Q := ⟨i, j, rfl, rfl, ⟨h0, by
  have h2 : j.natAbs < 2 ^ 62 := by omega
  have h3 : j.natAbs.log2 < 62 := (Nat.log2_lt (by omega)).mpr h2
  omega⟩, h⟩
theorem r_modI {i j : Int} (h0 : 0 < j) (h : Q (.int (i % j)) H) : rMod (.int i) (.int j) H Q := ⟨i, j, rfl, rfl, h0, h⟩
theorem r_addL {a b : Addr} {xs ys : List V} (ha : H a = some (.lst xs)) (hb : H b = some (.lst ys)) (hz : xs.length + ys.length ≤ sizeLine) (h : ∀ p H1, H p = none → Ex H H1 → H1 p = some (.lst (xs ++ ys)) → Q (.ref p) H1) : rAdd K (.ref a) (.ref b) H Q :=
  .inr (.inl ⟨a, b, xs, ys, rfl, rfl, ha, hb, hz, fun p hp => h p _ hp (Ex.new hp) upd_same⟩)
theorem r_addT {a b : Addr} {xs ys : List V} (ha : SqT K H a xs) (hb : SqT K H b ys) (hz : xs.length + ys.length ≤ sizeLine) (h : ∀ p H1, Ex H H1 → SqT K H1 p (xs ++ ys) → Q (.ref p) H1) : rAdd K (.ref a) (.ref b) H Q :=
  .inr (.inr (.inl ⟨a, b, xs, ys, rfl, rfl, ha, hb, hz, fun e => h b H (Ex.refl H) (by rw [e]; exact hb), fun _ e => h a H (Ex.refl H) (by rw [e, List.append_nil]; exact ha), fun _ _ p hp => h p _ (Ex.new hp) (st_of upd_same)⟩))
theorem r_neg {i : Int} (h : Q (.int (-i)) H) : (rU fun i => .int (-i)) (.int i) H Q := ⟨i, rfl, h⟩
theorem r_lt {i j : Int} (h : Q (.bl (decide (i < j))) H) : (rI0 fun i j => .bl (decide (i < j))) (.int i) (.int j) H Q := ⟨i, j, rfl, rfl, h⟩
theorem r_le {i j : Int} (h : Q (.bl (decide (i ≤ j))) H) : (rI0 fun i j => .bl (decide (i ≤ j))) (.int i) (.int j) H Q := ⟨i, j, rfl, rfl, h⟩
theorem r_gt {i j : Int} (h : Q (.bl (decide (j < i))) H) : (rI0 fun i j => .bl (decide (j < i))) (.int i) (.int j) H Q := ⟨i, j, rfl, rfl, h⟩
theorem r_ge {i j : Int} (h : Q (.bl (decide (j ≤ i))) H) : (rI0 fun i j => .bl (decide (j ≤ i))) (.int i) (.int j) H Q := ⟨i, j, rfl, rfl, h⟩
end
end M

/-! ### part C: data, equality, built-ins, comprehensions -/
namespace M
open PySem PySem.Spec PyProof.Rows L2 Evl

abbrev dInts (ns : List Int) : PyData := .tuple (ns.map .int)
abbrev dIntL (ns : List Int) : PyData := .list (ns.map .int)
def dOpt : Option Int → PyData
  | none => .none
  | some i => .int i
def optV : Option Int → V
  | none => .non
  | some i => .int i
abbrev vI (ns : List Int) : List V := ns.map V.int
abbrev dRaw (h l : List Int) (r : Int) : PyData := .tuple [dInts h, dInts l, .int r]

section
variable {K : PySem.W.Frag} {H H' : Hp} {v : V} {Q : VK}
mutual
theorem dp_ex (e : Ex H H') : ∀ {d : PyData} {v : V}, Dp K H v d → Dp K H' v d
  | _, _, .non => .non
  | _, _, .bl b => .bl b
  | _, _, .int i => .int i
  | _, _, .str x => .str x
  | _, _, .lst h a => .lst (ex_l e h) (dpAll_ex e a)
  | _, _, .tup h a => .tup (ex_t e h) (dpAll_ex e a)
theorem dpAll_ex (e : Ex H H') : ∀ {ds : List PyData} {vs : List V}, DpAll K H vs ds → DpAll K H' vs ds
  | _, _, .nil => .nil
  | _, _, .cons a r => .cons (dp_ex e a) (dpAll_ex e r)
end
theorem dpAll_ints : ∀ {ns : List Int} {vs : List V}, DpAll K H vs (ns.map .int) → vs = vI ns
  | [], _, .nil => rfl
  | _ :: _, _, .cons (.int _) r => by rw [dpAll_ints r]; rfl
theorem dpAll_of_ints : ∀ {ns : List Int}, DpAll K H (vI ns) (ns.map .int)
  | [] => .nil
  | n :: _ => .cons (.int n) dpAll_of_ints
theorem dp_ints {ns : List Int} (h : Dp K H v (dInts ns)) : ∃ a, v = .ref a ∧ SqT K H a (vI ns) := by
  cases h with
  | tup h a => rw [dpAll_ints a] at h; exact ⟨_, rfl, h⟩
theorem dp_intL {ns : List Int} (h : Dp K H v (dIntL ns)) : ∃ a, v = .ref a ∧ SqL K H a (vI ns) := by
  cases h with
  | lst h a => rw [dpAll_ints a] at h; exact ⟨_, rfl, h⟩
theorem dp_of_ints {a : Addr} {ns : List Int} (h : SqT K H a (vI ns)) : Dp K H (.ref a) (dInts ns) := .tup h dpAll_of_ints
theorem dp_of_intL {a : Addr} {ns : List Int} (h : SqL K H a (vI ns)) : Dp K H (.ref a) (dIntL ns) := .lst h dpAll_of_ints
theorem dp_opt {p : Option Int} (h : Dp K H v (dOpt p)) : v = optV p := by
  cases p with
  | none => cases h; rfl
  | some i => cases h; rfl
theorem dp_of_opt {p : Option Int} : Dp K H (optV p) (dOpt p) := by
  cases p with
  | none => exact .non
  | some i => exact .int i
theorem dp_toInt {i : Int} (h : Dp K H v (.int i)) : v = .int i := by cases h; rfl
theorem dp_toBl {b : Bool} (h : Dp K H v (.bool b)) : v = .bl b := by cases h; rfl
theorem dp_toNon (h : Dp K H v .none) : v = .non := by cases h; rfl
/-- a raw table: a triple of two tuples of ints and an int -/
structure RawAt (K : PySem.W.Frag) (H : Hp) (a : Addr) (h l : List Int) (r : Int) : Prop where
  ex : ∃ th tl, SqT K H a [.ref th, .ref tl, .int r] ∧ SqT K H th (vI h) ∧ SqT K H tl (vI l)
theorem dp_raw {h l : List Int} {r : Int} (d : Dp K H v (dRaw h l r)) : ∃ a th tl, v = .ref a ∧ SqT K H a [.ref th, .ref tl, .int r] ∧ SqT K H th (vI h) ∧ SqT K H tl (vI l) := by
  cases d with
  | tup s q =>
    cases q with
    | cons q1 q => cases q with
      | cons q2 q => cases q with
        | cons q3 q =>
          cases q
          cases q3
          obtain ⟨th, rfl, s1⟩ := dp_ints q1
          obtain ⟨tl, rfl, s2⟩ := dp_ints q2
          exact ⟨_, th, tl, rfl, s, s1, s2⟩
theorem dp_of_raw {a th tl : Addr} {h l : List Int} {r : Int} (s : SqT K H a [.ref th, .ref tl, .int r]) (s1 : SqT K H th (vI h)) (s2 : SqT K H tl (vI l)) : Dp K H (.ref a) (dRaw h l r) :=
  .tup s (.cons (dp_of_ints s1) (.cons (dp_of_ints s2) (.cons (.int r) .nil)))
theorem dp_t2 {d1 d2 : PyData} (d : Dp K H v (.tuple [d1, d2])) : ∃ a x y, v = .ref a ∧ SqT K H a [x, y] ∧ Dp K H x d1 ∧ Dp K H y d2 := by
  cases d with
  | tup s q => cases q with
    | cons q1 q => cases q with
      | cons q2 q => cases q; exact ⟨_, _, _, rfl, s, q1, q2⟩
theorem dp_t3 {d1 d2 d3 : PyData} (d : Dp K H v (.tuple [d1, d2, d3])) : ∃ a x y z, v = .ref a ∧ SqT K H a [x, y, z] ∧ Dp K H x d1 ∧ Dp K H y d2 ∧ Dp K H z d3 := by
  cases d with
  | tup s q => cases q with
    | cons q1 q => cases q with
      | cons q2 q => cases q with
        | cons q3 q => cases q; exact ⟨_, _, _, _, rfl, s, q1, q2, q3⟩
/-- what is wanted of a def that makes the value of d and leaves what stands -/
def RetD (K : PySem.W.Frag) (d : PyData) (H : Hp) (Q : VK) : Prop := ∀ v H', Ex H H' → Dp K H' v d → Q v H'
theorem RetD.int {i : Int} (k : RetD K (.int i) H Q) (e : Ex H H') : Q (.int i) H' := k _ _ e (.int i)
theorem RetD.bl {b : Bool} (k : RetD K (.bool b) H Q) (e : Ex H H') : Q (.bl b) H' := k _ _ e (.bl b)
theorem RetD.opt {p : Option Int} (k : RetD K (dOpt p) H Q) (e : Ex H H') : Q (optV p) H' := k _ _ e dp_of_opt
theorem RetD.non (k : RetD K .none H Q) (e : Ex H H') : Q .non H' := k _ _ e .non
end

/-! the type of data -/
def tyD : PyData → Value
  | .none => .type "NoneType"
  | .bool _ => .type "bool"
  | .int _ => .type "int"
  | .str _ => .type "str"
  | .list _ => .type "list"
  | .tuple _ => .type "tuple"
  | .dict _ => .type "dict"
section
variable {K : PySem.W.Frag} {H H' : Hp} {v : V} {Q : VK} {d : PyData}
theorem SqL.ty {a : Addr} {xs : List V} (h : SqL K H a xs) : TyX K H (.ref a) (.type "list") := by
  rcases h with (h | ⟨o, h⟩) | ⟨o, its, n, h, c, _⟩
  · exact .base (.lst h)
  · exact .base (.frz h)
  · exact .kList h c
theorem SqT.ty {a : Addr} {xs : List V} (h : SqT K H a xs) : TyX K H (.ref a) (.type "tuple") := by
  rcases h with (h | ⟨o, h⟩) | ⟨o, its, n, h, c, _⟩
  · exact .base (.tup h)
  · exact .fTuple h
  · exact .kTuple h c
theorem dp_ty (h : Dp K H v d) : TyX K H v (tyD d) := by
  cases h with
  | non => exact .base .non
  | bl b => exact .base (.bl b)
  | int i => exact .base (.int i)
  | str x => exact .base (.str x)
  | lst h a => exact SqL.ty h
  | tup h a => exact SqT.ty h
theorem r_isi {n : String} {b : Bool} {t : Value} (ty : TyX K H v t) (hb : PySem.W.kitOne K t (.type n) = some b) (h : Q (.bl b) H) : rIsi K [v, .ty n] H Q := ⟨v, .ty n, t, .type n, b, rfl, .ty n, ty, hb, h⟩
theorem r_isiC {C : Addr} {b : Bool} {t : Value} (ty : TyX K H v t) (hb : PySem.W.kitOne K t (.ref C) = some b) (h : Q (.bl b) H) : rIsi K [v, .ref C] H Q := ⟨v, .ref C, t, .ref C, b, rfl, .own C, ty, hb, h⟩
theorem r_isiT {tp : Addr} {n m : String} {b : Bool} {t : Value} (hT : H tp = some (.tup [.ty n, .ty m])) (ty : TyX K H v t) (hb : PySem.W.kitAny K t [.type n, .type m] = some b) (h : Q (.bl b) H) : rIsiT K [v, .ref tp] H Q :=
  ⟨v, tp, [.ty n, .ty m], t, [.type n, .type m], b, rfl, hT, .cons (.ty n) (.cons (.ty m) .nil), ty, hb, h⟩
end

/-! equality -/
theorem eqv_ints : ∀ xs ys : List Int, PyData.eqvAll (xs.map .int) (ys.map .int) = decide (xs = ys)
  | [], [] => rfl
  | [], _ :: _ => rfl
  | _ :: _, [] => rfl
  | x :: xs, y :: ys => by
    show (x == y && PyData.eqvAll (xs.map .int) (ys.map .int)) = _
    rw [eqv_ints xs ys]
    by_cases h : x = y
    · subst h; simp
    · simp [h]
theorem canLay_ints : ∀ xs : List Int, PyData.canLayAll0 (xs.map .int) = true
  | [] => rfl
  | x :: xs => by show (true && PyData.canLayAll0 (xs.map .int)) = true; rw [canLay_ints xs]; rfl
theorem depth_ints : ∀ xs : List Int, PyData.depthAll (xs.map .int) = 0
  | [] => rfl
  | x :: xs => by show max 0 (PyData.depthAll (xs.map .int)) = 0; rw [depth_ints xs]; rfl
theorem shaped_ints (xs : List Int) : SeqAt.shaped (dInts xs) = true := by
  show (PyData.canLayAll0 (xs.map .int) && decide (PyData.depthAll (xs.map .int) + 1 ≤ 64)) = true
  rw [canLay_ints, depth_ints]; rfl
theorem shaped_intL (xs : List Int) : SeqAt.shaped (dIntL xs) = true := by
  show (PyData.canLayAll0 (xs.map .int) && decide (PyData.depthAll (xs.map .int) + 1 ≤ 64)) = true
  rw [canLay_ints, depth_ints]; rfl
theorem shaped_raw (h l : List Int) (r : Int) : SeqAt.shaped (dRaw h l r) = true := by
  show (((PyData.canLayAll0 (h.map .int)) && ((PyData.canLayAll0 (l.map .int)) && (true && true))) && decide (max (PyData.depthAll (h.map .int) + 1) (max (PyData.depthAll (l.map .int) + 1) (max 0 0)) + 1 ≤ 64)) = true
  rw [canLay_ints, canLay_ints, depth_ints, depth_ints]; rfl
theorem eqv_raw (h l h' l' : List Int) (r r' : Int) : PyData.eqv (dRaw h l r) (dRaw h' l' r') = decide (h = h' ∧ l = l' ∧ r = r') := by
  show (PyData.eqvAll (h.map .int) (h'.map .int) && (PyData.eqvAll (l.map .int) (l'.map .int) && (r == r' && true))) = _
  rw [eqv_ints, eqv_ints]
  by_cases h1 : h = h' <;> by_cases h2 : l = l' <;> by_cases h3 : r = r' <;> simp [h1, h2, h3]
section
variable {K : PySem.W.Frag} {H H' : Hp} {x y : V} {Q : VK} {d e : PyData}
theorem r_eqI {i j : Int} (h : Q (.bl (decide (i = j))) H) : rEqU K (.int i) (.int j) H Q := .inl ⟨rfl, by
  have q : decide (V.int i = V.int j) = decide (i = j) := decide_eq_decide.mpr ⟨V.int.inj, congrArg _⟩
  rw [q]; exact h⟩
theorem r_neI {i j : Int} (h : Q (.bl (!decide (i = j))) H) : rNeU K (.int i) (.int j) H Q := .inl ⟨rfl, by
  have q : decide (V.int i = V.int j) = decide (i = j) := decide_eq_decide.mpr ⟨V.int.inj, congrArg _⟩
  rw [q]; exact h⟩
theorem r_eqB {i j : Bool} (h : Q (.bl (decide (i = j))) H) : rEqU K (.bl i) (.bl j) H Q := .inl ⟨rfl, by
  have q : decide (V.bl i = V.bl j) = decide (i = j) := decide_eq_decide.mpr ⟨V.bl.inj, congrArg _⟩
  rw [q]; exact h⟩
theorem optV_inj {p q : Option Int} : optV p = optV q ↔ p = q := by
  cases p <;> cases q <;> simp [optV]
theorem scal_opt (p q : Option Int) : scal (optV p) (optV q) = true := by cases p <;> cases q <;> rfl
theorem r_eqO {p q : Option Int} (h : Q (.bl (decide (p = q))) H) : rEqU K (optV p) (optV q) H Q := .inl ⟨scal_opt p q, by
  have z : decide (optV p = optV q) = decide (p = q) := decide_eq_decide.mpr optV_inj
  rw [z]; exact h⟩
theorem r_neO {p q : Option Int} (h : Q (.bl (!decide (p = q))) H) : rNeU K (optV p) (optV q) H Q := .inl ⟨scal_opt p q, by
  have z : decide (optV p = optV q) = decide (p = q) := decide_eq_decide.mpr optV_inj
  rw [z]; exact h⟩
theorem r_eqD (hd : Dp K H x d) (he : Dp K H y e) (sd : SeqAt.shaped d = true) (se : SeqAt.shaped e = true) (h : Q (.bl (PyData.eqv d e)) H) : rEqU K x y H Q := .inr ⟨d, e, hd, he, sd, se, h⟩
theorem r_neD (hd : Dp K H x d) (he : Dp K H y e) (sd : SeqAt.shaped d = true) (se : SeqAt.shaped e = true) (h : Q (.bl (!PyData.eqv d e)) H) : rNeU K x y H Q := .inr ⟨d, e, hd, he, sd, se, h⟩
theorem r_eqT {a b : Addr} {xs ys : List Int} (ha : SqT K H a (vI xs)) (hb : SqT K H b (vI ys)) (h : Q (.bl (decide (xs = ys))) H) : rEqU K (.ref a) (.ref b) H Q :=
  r_eqD (dp_of_ints ha) (dp_of_ints hb) (shaped_ints _) (shaped_ints _) (by rw [show PyData.eqv (dInts xs) (dInts ys) = decide (xs = ys) from eqv_ints xs ys]; exact h)
theorem r_neT {a b : Addr} {xs ys : List Int} (ha : SqT K H a (vI xs)) (hb : SqT K H b (vI ys)) (h : Q (.bl (!decide (xs = ys))) H) : rNeU K (.ref a) (.ref b) H Q :=
  r_neD (dp_of_ints ha) (dp_of_ints hb) (shaped_ints _) (shaped_ints _) (by rw [show PyData.eqv (dInts xs) (dInts ys) = decide (xs = ys) from eqv_ints xs ys]; exact h)
theorem r_neL {a b : Addr} {xs ys : List Int} (ha : SqL K H a (vI xs)) (hb : SqL K H b (vI ys)) (h : Q (.bl (!decide (xs = ys))) H) : rNeU K (.ref a) (.ref b) H Q :=
  r_neD (dp_of_intL ha) (dp_of_intL hb) (shaped_intL _) (shaped_intL _) (by rw [show PyData.eqv (dIntL xs) (dIntL ys) = decide (xs = ys) from eqv_ints xs ys]; exact h)
/-! is None -/
def rIs : R2 := fun x y H Q => y = .non ∧ Q (.bl (decide (x = .non))) H
def rIsNot : R2 := fun x y H Q => y = .non ∧ Q (.bl (!decide (x = .non))) H
theorem xIs {X : Cx} : OpR X (compareOp .Is) rIs := op_isN
theorem xIsNot {X : Cx} : OpR X (compareOp .IsNot) rIsNot := op_notN
theorem r_isO {p : Option Int} (h : Q (.bl (decide (p = none))) H) : rIs (optV p) .non H Q := ⟨rfl, by
  have z : decide (optV p = V.non) = decide (p = none) := decide_eq_decide.mpr (by cases p <;> simp [optV])
  rw [z]; exact h⟩
theorem r_isNotO {p : Option Int} (h : Q (.bl (!decide (p = none))) H) : rIsNot (optV p) .non H Q := ⟨rfl, by
  have z : decide (optV p = V.non) = decide (p = none) := decide_eq_decide.mpr (by cases p <;> simp [optV])
  rw [z]; exact h⟩
theorem r_isI {i : Int} (h : Q (.bl false) H) : rIs (.int i) .non H Q := ⟨rfl, h⟩
theorem r_isN (h : Q (.bl true) H) : rIs .non .non H Q := ⟨rfl, h⟩
theorem r_isR {a : Addr} (h : Q (.bl false) H) : rIs (.ref a) .non H Q := ⟨rfl, h⟩
theorem r_isNotI {i : Int} (h : Q (.bl true) H) : rIsNot (.int i) .non H Q := ⟨rfl, h⟩
theorem r_isNotN (h : Q (.bl false) H) : rIsNot .non .non H Q := ⟨rfl, h⟩
theorem r_isNotR {a : Addr} (h : Q (.bl true) H) : rIsNot (.ref a) .non H Q := ⟨rfl, h⟩
end

/-! built-ins by names of our own -/
section
variable {X : Cx} {K : PySem.W.Frag} {H : Hp} {Q : VK}
def rLenU (K : PySem.W.Frag) : List V → Hp → VK → Prop := fun xs H Q => ∃ x n, xs = [x] ∧ LenV K x H n ∧ Q (.int n) H
theorem xLen : CallR X (.builtin "len") (rLenU X.K) := call_len
theorem r_lenT {a : Addr} {xs : List V} (h : SqT K H a xs) (q : Q (.int (xs.length : Int)) H) : rLenU K [.ref a] H Q := ⟨_, xs.length, rfl, .inr ⟨xs, h, rfl⟩, q⟩
theorem r_lenL {a : Addr} {xs : List V} (h : SqL K H a xs) (q : Q (.int (xs.length : Int)) H) : rLenU K [.ref a] H Q := ⟨_, xs.length, rfl, .inl ⟨xs, h, rfl⟩, q⟩
theorem r_lenTI {a : Addr} {xs : List Int} (h : SqT K H a (vI xs)) (q : Q (.int (xs.length : Int)) H) : rLenU K [.ref a] H Q := r_lenT h (by rw [List.length_map]; exact q)
theorem r_lenLI {a : Addr} {xs : List Int} (h : SqL K H a (vI xs)) (q : Q (.int (xs.length : Int)) H) : rLenU K [.ref a] H Q := r_lenL h (by rw [List.length_map]; exact q)
def rAbsU : List V → Hp → VK → Prop := fun xs H Q => ∃ i, xs = [.int i] ∧ Q (.int (if i < 0 then -i else i)) H
theorem xAbs : CallR X (.builtin "abs") rAbsU := call_abs
theorem r_abs {i : Int} (q : Q (.int (i.natAbs : Int)) H) : rAbsU [.int i] H Q := ⟨i, rfl, by
  have e : (if i < 0 then -i else i) = (i.natAbs : Int) := by split <;> omega
  rw [e]; exact q⟩
def rMax2U : List V → Hp → VK → Prop := fun xs H Q => ∃ i j, xs = [.int i, .int j] ∧ Q (.int (if j > i then j else i)) H
theorem xMax2 (hc : X.calm = true) : CallR X (.builtin "max") rMax2U := call_max2 hc
theorem r_max2 {i j : Int} (q : Q (.int (max i j)) H) : rMax2U [.int i, .int j] H Q := ⟨i, j, rfl, by
  have e : (if j > i then j else i) = max i j := by split <;> omega
  rw [e]; exact q⟩
def rMin2U : List V → Hp → VK → Prop := fun xs H Q => ∃ i j, xs = [.int i, .int j] ∧ Q (.int (if j < i then j else i)) H
theorem xMin2 (hc : X.calm = true) : CallR X (.builtin "min") rMin2U := call_min2 hc
theorem r_min2 {i j : Int} (q : Q (.int (min i j)) H) : rMin2U [.int i, .int j] H Q := ⟨i, j, rfl, by
  have e : (if j < i then j else i) = min i j := by split <;> omega
  rw [e]; exact q⟩
def rIntU : List V → Hp → VK → Prop := fun xs H Q => (∃ i, xs = [.int i] ∧ Q (.int i) H) ∨ ∃ k, xs = [.bl k] ∧ Q (.int (if k then 1 else 0)) H
theorem xInt : CallR X (.type "int") rIntU := call_int1
theorem r_int {i : Int} (q : Q (.int i) H) : rIntU [.int i] H Q := .inl ⟨i, rfl, q⟩
def rBoolU : List V → Hp → VK → Prop := fun xs H Q => (∃ i, xs = [.int i] ∧ Q (.bl (i != 0)) H) ∨ ∃ k, xs = [.bl k] ∧ Q (.bl k) H
theorem xBool : CallR X (.type "bool") rBoolU := call_bool1
theorem r_boolB {b : Bool} (q : Q (.bl b) H) : rBoolU [.bl b] H Q := .inr ⟨b, rfl, q⟩
def rLstU (K : PySem.W.Frag) : List V → Hp → VK → Prop := fun xs H Q => ∃ p ys, xs = [.ref p] ∧ (SqL K H p ys ∨ SqT K H p ys) ∧ ∀ l, H l = none → Q (.ref l) (upd H l (.lst ys))
theorem xLst : CallR X (.type "list") (rLstU X.K) := call_list_of
theorem r_lstL {a : Addr} {xs : List V} (h : SqL K H a xs) (q : ∀ p H1, H p = none → Ex H H1 → H1 p = some (.lst xs) → Q (.ref p) H1) : rLstU K [.ref a] H Q := ⟨a, xs, rfl, .inl h, fun p hp => q p _ hp (Ex.new hp) upd_same⟩
theorem r_lstT {a : Addr} {xs : List V} (h : SqT K H a xs) (q : ∀ p H1, H p = none → Ex H H1 → H1 p = some (.lst xs) → Q (.ref p) H1) : rLstU K [.ref a] H Q := ⟨a, xs, rfl, .inr h, fun p hp => q p _ hp (Ex.new hp) upd_same⟩
def rTupU (K : PySem.W.Frag) : List V → Hp → VK → Prop := fun xs H Q => ∃ p ys, xs = [.ref p] ∧ ((SqL K H p ys ∧ ∀ l, H l = none → Q (.ref l) (upd H l (.tup ys))) ∨ (SqT K H p ys ∧ Q (.ref p) H))
theorem xTup : CallR X (.type "tuple") (rTupU X.K) := call_tuple_of
theorem r_tupL {a : Addr} {xs : List V} (h : SqL K H a xs) (q : ∀ p H1, Ex H H1 → SqT K H1 p xs → Q (.ref p) H1) : rTupU K [.ref a] H Q := ⟨a, xs, rfl, .inl ⟨h, fun p hp => q p _ (Ex.new hp) (st_of upd_same)⟩⟩
theorem r_tupT {a : Addr} {xs : List V} (h : SqT K H a xs) (q : ∀ p H1, Ex H H1 → SqT K H1 p xs → Q (.ref p) H1) : rTupU K [.ref a] H Q := ⟨a, xs, rfl, .inr ⟨h, q a H (Ex.refl H) h⟩⟩
theorem r_all {a : Addr} {bs : List Bool} {xs : List V} (h : SqL K H a xs) (e : xs = bs.map V.bl) (q : Q (.bl (bs.all id)) H) : rAll K [.ref a] H Q := ⟨a, bs, rfl, by rw [← e]; exact h, q⟩
theorem r_any {a : Addr} {bs : List Bool} {xs : List V} (h : SqL K H a xs) (e : xs = bs.map V.bl) (q : Q (.bl (bs.any id)) H) : rAny K [.ref a] H Q := ⟨a, bs, rfl, by rw [← e]; exact h, q⟩
/-! indices -/
theorem atI_pos {α : Type} {xs : List α} {i : Int} {v : α} (h0 : 0 ≤ i) (h : xs[i.toNat]? = some v) : atI xs i = some v := by
  have hl : i.toNat < xs.length := (List.getElem?_eq_some_iff.mp h).1
  unfold atI ixN
  rw [if_pos h0, if_pos (by omega)]
  exact h
theorem atI_neg {α : Type} {xs : List α} {i : Int} {v : α} (h0 : i < 0) (h1 : -(xs.length : Int) ≤ i) (h : xs[(i + xs.length).toNat]? = some v) : atI xs i = some v := by
  unfold atI ixN
  rw [if_neg (by omega), if_pos h1]
  exact h
/-- the int at a place of a list of ints -/
def gI (xs : List Int) (i : Int) : Int := xs.getD i.toNat 0
theorem atI_ints {xs : List Int} {i : Int} (h0 : 0 ≤ i) (h1 : i < xs.length) : atI (vI xs) i = some (V.int (gI xs i)) := by
  refine atI_pos h0 ?_
  have hl : i.toNat < xs.length := by omega
  rw [List.getElem?_map, List.getElem?_eq_getElem hl]
  show some (V.int xs[i.toNat]) = some (V.int (xs.getD i.toNat 0))
  rw [List.getD_eq_getElem?_getD, List.getElem?_eq_getElem hl]; rfl
theorem atI_intsN {xs : List Int} {i : Int} (h0 : i < 0) (h1 : -(xs.length : Int) ≤ i) : atI (vI xs) i = some (V.int (gI xs (i + xs.length))) := by
  have hl : (i + xs.length).toNat < xs.length := by omega
  refine atI_neg h0 (by rw [List.length_map]; exact h1) ?_
  rw [List.length_map, List.getElem?_map, List.getElem?_eq_getElem hl]
  show some (V.int xs[(i + xs.length).toNat]) = some (V.int (xs.getD (i + xs.length).toNat 0))
  rw [List.getD_eq_getElem?_getD, List.getElem?_eq_getElem hl]; rfl
theorem r_ixT {a : Addr} {xs : List V} {i : Int} {v : V} (h : SqT K H a xs) (ha : atI xs i = some v) (q : Q v H) : rIx K (.ref a) (.int i) H Q := .inr (.inl ⟨a, xs, i, v, rfl, rfl, h, ha, q⟩)
theorem r_ixL {a : Addr} {xs : List V} {i : Int} {v : V} (h : SqL K H a xs) (ha : atI xs i = some v) (q : Q v H) : rIx K (.ref a) (.int i) H Q := .inl ⟨a, xs, i, v, rfl, rfl, h, ha, q⟩
theorem r_ixTI {a : Addr} {xs : List Int} {i : Int} (h : SqT K H a (vI xs)) (h0 : 0 ≤ i) (h1 : i < xs.length) (q : Q (.int (gI xs i)) H) : rIx K (.ref a) (.int i) H Q := r_ixT h (atI_ints h0 h1) q
theorem r_ixTN {a : Addr} {xs : List Int} {i : Int} (h : SqT K H a (vI xs)) (h0 : i < 0) (h1 : -(xs.length : Int) ≤ i) (q : Q (.int (gI xs (i + xs.length))) H) : rIx K (.ref a) (.int i) H Q := r_ixT h (atI_intsN h0 h1) q
theorem r_ixLI {a : Addr} {xs : List Int} {i : Int} (h : SqL K H a (vI xs)) (h0 : 0 ≤ i) (h1 : i < xs.length) (q : Q (.int (gI xs i)) H) : rIx K (.ref a) (.int i) H Q := r_ixL h (atI_ints h0 h1) q
theorem r_ixLN {a : Addr} {xs : List Int} {i : Int} (h : SqL K H a (vI xs)) (h0 : i < 0) (h1 : -(xs.length : Int) ≤ i) (q : Q (.int (gI xs (i + xs.length))) H) : rIx K (.ref a) (.int i) H Q := r_ixL h (atI_intsN h0 h1) q
/-! slices -/
def rSlI (xs : List Int) (lo hi : Option Int) : List Int := (xs.drop (HT.sIx xs.length 0 lo)).take (HT.sIx xs.length xs.length hi - HT.sIx xs.length 0 lo)
theorem cut_ints (xs : List Int) (lo hi : Option Int) : cutV (vI xs) lo hi = vI (rSlI xs lo hi) := by
  unfold cutV rSlI
  rw [List.length_map, ← List.map_drop, ← List.map_take]
theorem r_slL {a : Addr} {xs : List V} {lo hi : Option Int} (h : SqL K H a xs) (q : ∀ p H1, H p = none → Ex H H1 → H1 p = some (.lst (cutV xs lo hi)) → Q (.ref p) H1) : rSl K (.ref a) lo hi H Q :=
  .inl ⟨a, xs, rfl, h, fun p hp => q p _ hp (Ex.new hp) upd_same⟩
theorem cut_whole {xs : List V} {lo hi : Option Int} (h1 : HT.sIx xs.length 0 lo = 0) (h2 : HT.sIx xs.length xs.length hi = xs.length) : cutV xs lo hi = xs := by
  unfold cutV
  rw [h1, h2, List.drop_zero, Nat.sub_zero, List.take_length]
theorem r_slT {a : Addr} {xs : List V} {lo hi : Option Int} (h : SqT K H a xs) (q : ∀ p H1, Ex H H1 → SqT K H1 p (cutV xs lo hi) → Q (.ref p) H1) : rSl K (.ref a) lo hi H Q :=
  .inr (.inl ⟨a, xs, rfl, h, fun e => q a H (Ex.refl H) (by rw [cut_whole e.1 e.2]; exact h), fun _ p hp => q p _ (Ex.new hp) (st_of upd_same)⟩)
theorem cutV_to {α : Type} {xs : List α} {i : Int} (h : 0 ≤ i) (f : α → V) : cutV (xs.map f) none (some i) = (xs.take i.toNat).map f := by
  have e : cutV (xs.map f) none (some i) = ((xs.map f).drop 0).take (HT.sIx (xs.map f).length (xs.map f).length (some i) - 0) := rfl
  have e2 : HT.sIx (xs.map f).length (xs.map f).length (some i) = min i.toNat (xs.map f).length := if_neg (by omega)
  rw [e, e2, List.drop_zero, Nat.sub_zero, List.map_take]
  rcases Nat.le_total i.toNat (xs.map f).length with h1 | h1
  · rw [Nat.min_eq_left h1]
  · rw [Nat.min_eq_right h1, List.take_length, List.take_of_length_le h1]
theorem cutV_from {α : Type} {xs : List α} {i : Int} (h : 0 ≤ i) (f : α → V) : cutV (xs.map f) (some i) none = (xs.drop i.toNat).map f := by
  have e : cutV (xs.map f) (some i) none = ((xs.map f).drop (HT.sIx (xs.map f).length 0 (some i))).take ((xs.map f).length - HT.sIx (xs.map f).length 0 (some i)) := rfl
  have e2 : HT.sIx (xs.map f).length 0 (some i) = min i.toNat (xs.map f).length := if_neg (by omega)
  rw [e, e2, List.map_drop]
  rcases Nat.le_total i.toNat (xs.map f).length with h1 | h1
  · rw [Nat.min_eq_left h1, List.take_of_length_le (by rw [List.length_drop]; omega)]
  · rw [Nat.min_eq_right h1, List.drop_eq_nil_of_le h1, List.drop_eq_nil_of_le (Nat.le_refl _), List.take_nil]
theorem cutV_mid {α : Type} {xs : List α} {i j : Int} (h : 0 ≤ i) (hij : i ≤ j) (hj : j ≤ xs.length) (f : α → V) : cutV (xs.map f) (some i) (some j) = ((xs.drop i.toNat).take (j - i).toNat).map f := by
  have e : cutV (xs.map f) (some i) (some j) = ((xs.map f).drop (HT.sIx (xs.map f).length 0 (some i))).take (HT.sIx (xs.map f).length (xs.map f).length (some j) - HT.sIx (xs.map f).length 0 (some i)) := rfl
  have e2 : HT.sIx (xs.map f).length 0 (some i) = min i.toNat (xs.map f).length := if_neg (by omega)
  have e3 : HT.sIx (xs.map f).length (xs.map f).length (some j) = min j.toNat (xs.map f).length := if_neg (by omega)
  rw [e, e2, e3, List.length_map, Nat.min_eq_left (by omega), Nat.min_eq_left (by omega), List.map_take, List.map_drop, show (j - i).toNat = j.toNat - i.toNat by omega]

theorem r_slTto {a : Addr} {xs : List Int} {i : Int} (h : SqT K H a (vI xs)) (h0 : 0 ≤ i) (q : ∀ p H1, Ex H H1 → SqT K H1 p (vI (xs.take i.toNat)) → Q (.ref p) H1) : rSl K (.ref a) none (some i) H Q := r_slT h (by rw [cutV_to h0]; exact q)
theorem r_slTfrom {a : Addr} {xs : List Int} {i : Int} (h : SqT K H a (vI xs)) (h0 : 0 ≤ i) (q : ∀ p H1, Ex H H1 → SqT K H1 p (vI (xs.drop i.toNat)) → Q (.ref p) H1) : rSl K (.ref a) (some i) none H Q := r_slT h (by rw [cutV_from h0]; exact q)
theorem r_slLto {a : Addr} {xs : List Int} {i : Int} (h : SqL K H a (vI xs)) (h0 : 0 ≤ i) (q : ∀ p H1, H p = none → Ex H H1 → H1 p = some (.lst (vI (xs.take i.toNat))) → Q (.ref p) H1) : rSl K (.ref a) none (some i) H Q := r_slL h (by rw [cutV_to h0]; exact q)
theorem r_slLfrom {a : Addr} {xs : List Int} {i : Int} (h : SqL K H a (vI xs)) (h0 : 0 ≤ i) (q : ∀ p H1, H p = none → Ex H H1 → H1 p = some (.lst (vI (xs.drop i.toNat))) → Q (.ref p) H1) : rSl K (.ref a) (some i) none H Q := r_slL h (by rw [cutV_from h0]; exact q)
theorem r_slLmid {a : Addr} {xs : List Int} {i j : Int} (h : SqL K H a (vI xs)) (h0 : 0 ≤ i) (hij : i ≤ j) (hj : j ≤ xs.length) (q : ∀ p H1, H p = none → Ex H H1 → H1 p = some (.lst (vI ((xs.drop i.toNat).take (j - i).toNat))) → Q (.ref p) H1) : rSl K (.ref a) (some i) (some j) H Q := r_slL h (by rw [cutV_mid h0 hij hj]; exact q)
/-! comprehensions whose parts leave what stands -/
theorem w_lc {wi : TI} {g : TG} {tt : TT} {te : TE} {vs : List Nat} {σ : L2.St} (h : wi σ H fun J H1 => ∀ D, H1 D = none → ∃ W : Nat → Nat → Hp → Prop, (∃ m, W 0 m (upd H1 D (.lst []))) ∧ ∀ i m H, W i m H →
  (J.stop i H ∧ Q (.ref D) H) ∨ (J.go i H ∧ ∃ Nx : Hp → Prop, (∀ H', Nx H' → ∃ m', m' < m ∧ W (i + 1) m' H') ∧ ∀ x H', J.yld i H x H' → g x (wipe σ vs) H' fun σ2 H2 => wipe σ2 vs = wipe σ vs ∧ tt σ2 H2 fun b H3 =>
    if b = true then te σ2 H3 fun y H4 => ∃ acc, H4 D = some (.lst acc) ∧ acc.length < sizeLine ∧ Nx (upd H4 D (.lst (acc ++ [y]))) else Nx H3)) : tLc wi g tt te vs σ H Q := h
/-- what a comprehension over J asks, J named -/
def LcJ (J : It) (g : TG) (tt : TT) (te : TE) (vs : List Nat) (σ : L2.St) (H1 : Hp) (Q : VK) : Prop := ∀ D, H1 D = none → ∃ W : Nat → Nat → Hp → Prop, (∃ m, W 0 m (upd H1 D (.lst []))) ∧ ∀ i m H, W i m H →
  (J.stop i H ∧ Q (.ref D) H) ∨ (J.go i H ∧ ∃ Nx : Hp → Prop, (∀ H', Nx H' → ∃ m', m' < m ∧ W (i + 1) m' H') ∧ ∀ x H', J.yld i H x H' → g x (wipe σ vs) H' fun σ2 H2 => wipe σ2 vs = wipe σ vs ∧ tt σ2 H2 fun b H3 =>
    if b = true then te σ2 H3 fun y H4 => ∃ acc, H4 D = some (.lst acc) ∧ acc.length < sizeLine ∧ Nx (upd H4 D (.lst (acc ++ [y]))) else Nx H3)
theorem w_lcJ {wi : TI} {g : TG} {tt : TT} {te : TE} {vs : List Nat} {σ : L2.St} (h : wi σ H fun J H1 => LcJ J g tt te vs σ H1 Q) : tLc wi g tt te vs σ H Q := h
/-- over a range, every item kept, item i giving v i -/
theorem lcJ_range {lo : Int} {n j : Nat} {te : TE} {vs : List Nat} {σ : L2.St} (v : Nat → V) (hn : n ≤ 100000) (σ' : V → L2.St) (hσ : ∀ x, (wipe σ vs).set j (some x) = σ' x) (hw : ∀ x, wipe ((wipe σ vs).set j (some x)) vs = wipe σ vs)
    (he : ∀ (i : Nat) (H1 : Hp) (Q' : VK), Ex H H1 → i < n → (∀ H2, Ex H1 H2 → Q' (v i) H2) → te (σ' (.int (lo + (i : Int)))) H1 Q')
    (hq : ∀ p H2, H p = none → Ex H H2 → H2 p = some (.lst ((List.range n).map v)) → Q (.ref p) H2) : LcJ (Itr lo n) (gName j) tYes te vs σ H Q := fun D hD =>
  lc_range (Pv := fun i H' => Ex H H' ∧ H' D = some (.lst ((List.range i).map v))) ⟨Ex.new hD, upd_same⟩ (fun i H' hi p => ⟨hw _, by
    show te ((wipe σ vs).set j _) H' _
    rw [hσ]
    refine he i H' _ p.1 hi fun H2 e2 => ⟨(List.range i).map v, e2 D _ p.2, sz_lt (by simp only [List.length_map, List.length_range]; omega), Ex.mut (p.1.trans e2) hD, ?_⟩
    rw [List.range_succ, List.map_append]
    exact upd_same⟩) fun H' p => hq D H' hD p.1 p.2
theorem lcJ_r0 {n j : Nat} {te : TE} {vs : List Nat} {σ : L2.St} (v : Nat → V) (hn : n ≤ 100000) (σ' : V → L2.St) (hσ : ∀ x, (wipe σ vs).set j (some x) = σ' x) (hw : ∀ x, wipe ((wipe σ vs).set j (some x)) vs = wipe σ vs)
    (he : ∀ (i : Nat) (H1 : Hp) (Q' : VK), Ex H H1 → i < n → (∀ H2, Ex H1 H2 → Q' (v i) H2) → te (σ' (.int (i : Int))) H1 Q')
    (hq : ∀ p H2, H p = none → Ex H H2 → H2 p = some (.lst ((List.range n).map v)) → Q (.ref p) H2) : LcJ (Itr 0 n) (gName j) tYes te vs σ H Q :=
  lcJ_range v hn σ' hσ hw (fun i H1 Q' e hi k => by rw [Int.zero_add]; exact he i H1 Q' e hi k) hq
/-- over a list or a tuple -/
theorem lcJ_list {a : Addr} {xs : List V} {j : Nat} {te : TE} {vs : List Nat} {σ : L2.St} (v : V → V) (hx : SqL K H a xs) (hn : xs.length ≤ 100000) (σ' : V → L2.St) (hσ : ∀ x, (wipe σ vs).set j (some x) = σ' x) (hw : ∀ x, wipe ((wipe σ vs).set j (some x)) vs = wipe σ vs)
    (he : ∀ (x : V) (H1 : Hp) (Q' : VK), Ex H H1 → x ∈ xs → (∀ H2, Ex H1 H2 → Q' (v x) H2) → te (σ' x) H1 Q')
    (hq : ∀ p H2, H p = none → Ex H H2 → H2 p = some (.lst (xs.map v)) → Q (.ref p) H2) : LcJ (Itl K a) (gName j) tYes te vs σ H Q := fun D hD =>
  lc_list (xs := xs) (Pv := fun i H' => Ex H H' ∧ H' D = some (.lst ((xs.take i).map v))) ⟨Ex.new hD, upd_same⟩ (fun i H' _ p => ex_l p.1 hx) (fun i x H' hi p => ⟨hw _, by
    show te ((wipe σ vs).set j _) H' _
    rw [hσ]
    refine he x H' _ p.1 (List.mem_of_getElem? hi) fun H2 e2 => ⟨(xs.take i).map v, e2 D _ p.2, sz_lt (by rw [List.length_map, List.length_take]; have := (List.getElem?_eq_some_iff.mp hi).1; omega), Ex.mut (p.1.trans e2) hD, ?_⟩
    rw [List.take_add_one, hi, List.map_append]
    exact upd_same⟩) fun H' p => hq D H' hD p.1 (by rw [List.take_length] at p; exact p.2)
theorem lcJ_tup {a : Addr} {xs : List V} {j : Nat} {te : TE} {vs : List Nat} {σ : L2.St} (v : V → V) (hx : SqT K H a xs) (hn : xs.length ≤ 100000) (σ' : V → L2.St) (hσ : ∀ x, (wipe σ vs).set j (some x) = σ' x) (hw : ∀ x, wipe ((wipe σ vs).set j (some x)) vs = wipe σ vs)
    (he : ∀ (x : V) (H1 : Hp) (Q' : VK), Ex H H1 → x ∈ xs → (∀ H2, Ex H1 H2 → Q' (v x) H2) → te (σ' x) H1 Q')
    (hq : ∀ p H2, H p = none → Ex H H2 → H2 p = some (.lst (xs.map v)) → Q (.ref p) H2) : LcJ (Itt K a) (gName j) tYes te vs σ H Q := fun D hD =>
  lc_tup (xs := xs) (Pv := fun i H' => Ex H H' ∧ H' D = some (.lst ((xs.take i).map v))) ⟨Ex.new hD, upd_same⟩ (fun i H' _ p => ex_t p.1 hx) (fun i x H' hi p => ⟨hw _, by
    show te ((wipe σ vs).set j _) H' _
    rw [hσ]
    refine he x H' _ p.1 (List.mem_of_getElem? hi) fun H2 e2 => ⟨(xs.take i).map v, e2 D _ p.2, sz_lt (by rw [List.length_map, List.length_take]; have := (List.getElem?_eq_some_iff.mp hi).1; omega), Ex.mut (p.1.trans e2) hD, ?_⟩
    rw [List.take_add_one, hi, List.map_append]
    exact upd_same⟩) fun H' p => hq D H' hD p.1 (by rw [List.take_length] at p; exact p.2)
/-! what is walked -/
def SeqLi (K : PySem.W.Frag) (R : It → Hp → Prop) (x : V) (H1 : Hp) : Prop := ∃ a, x = .ref a ∧ (∃ xs, SqL K H1 a xs) ∧ R (Itl K a) H1
def SeqTi (K : PySem.W.Frag) (R : It → Hp → Prop) (x : V) (H1 : Hp) : Prop := ∃ a, x = .ref a ∧ (∃ xs, SqT K H1 a xs) ∧ R (Itt K a) H1
theorem i_seqL {tl : TE} {σ : L2.St} {R : It → Hp → Prop} (h : tl σ H fun x H1 => SeqLi K R x H1) : iSeq K tl σ H R := .inl h
theorem i_seqT {tl : TE} {σ : L2.St} {R : It → Hp → Prop} (h : tl σ H fun x H1 => SeqTi K R x H1) : iSeq K tl σ H R := .inr h
theorem i_xL {a : Addr} {xs : List V} {R : It → Hp → Prop} (hx : SqL K H a xs) (h : R (Itl K a) H) : SeqLi K R (.ref a) H := ⟨a, rfl, ⟨xs, hx⟩, h⟩
theorem i_xT {a : Addr} {xs : List V} {R : It → Hp → Prop} (hx : SqT K H a xs) (h : R (Itt K a) H) : SeqTi K R (.ref a) H := ⟨a, rfl, ⟨xs, hx⟩, h⟩
def Rng1 (R : It → Hp → Prop) (vs : List V) (H1 : Hp) : Prop := ∃ j : Int, vs = [.int j] ∧ -(2 ^ 62) ≤ j ∧ j < 2 ^ 62 ∧ R (Itr 0 j.toNat) H1
def Rng2 (R : It → Hp → Prop) (vs : List V) (H1 : Hp) : Prop := ∃ i j : Int, vs = [.int i, .int j] ∧ (-(2 ^ 62) ≤ i ∧ i < 2 ^ 62 ∧ -(2 ^ 62) ≤ j ∧ j < 2 ^ 62) ∧ R (Itr i (j - i).toNat) H1
theorem i_r1 {ta : TA} {σ : L2.St} {R : It → Hp → Prop} (h : ta σ H fun vs H1 => Rng1 R vs H1) : iRng1 ta σ H R := h
theorem i_r2 {ta : TA} {σ : L2.St} {R : It → Hp → Prop} (h : ta σ H fun vs H1 => Rng2 R vs H1) : iRng2 ta σ H R := h
theorem i_x1 {j : Int} {R : It → Hp → Prop} (hj : -1000000000 ≤ j ∧ j ≤ 1000000000) (h : R (Itr 0 j.toNat) H) : Rng1 R [V.int j] H := ⟨j, rfl, by omega, by omega, h⟩
theorem i_x2 {i j : Int} {R : It → Hp → Prop} (hij : -1000000000 ≤ i ∧ i ≤ 1000000000 ∧ -1000000000 ≤ j ∧ j ≤ 1000000000) (h : R (Itr i (j - i).toNat) H) : Rng2 R [V.int i, V.int j] H := ⟨i, j, rfl, by omega, h⟩
/-! loops, J named -/
def ForJ (J : It) (g : TG) (tb : TS) (D : Ends) (σ : L2.St) (H1 : Hp) : Prop := ∃ W : Nat → Nat → L2.St → Hp → Prop, (∃ m, W 0 m σ H1) ∧ ∀ i m σ H, W i m σ H →
  (J.stop i H ∧ D.nx σ H) ∨ (J.go i H ∧ ∃ N : L2.St → Hp → Prop, (∀ σ' H', N σ' H' → ∃ m', m' < m ∧ W (i + 1) m' σ' H') ∧ ∀ x H', J.yld i H x H' → g x σ H' fun σ2 H2 => tb { D with nx := N, ct := N, bk := D.nx } σ2 H2)
theorem w_forJ {wi : TI} {g : TG} {tb : TS} {D : Ends} {σ : L2.St} (h : wi σ H fun J H1 => ForJ J g tb D σ H1) : tFor wi g tb D σ H := h
end
end M

/-! ### part D: the rules with the written part said -/
namespace M
open PySem PySem.Spec PyProof.Rows L2 Evl
section
variable {X : Cx} (K : PySem.W.Frag)
theorem kIx (h : X.K = K := by rfl) : IxR X (rIx K) := by subst h; exact ix_seq
theorem kAdd (h : X.K = K := by rfl) : OpR X (binaryOp .Add) (rAdd K) := by subst h; exact xAdd
theorem kMul (h : X.K = K := by rfl) : OpR X (binaryOp .Mult) (rMul K) := by subst h; exact xMul
theorem kEq {j : Nat} (hr : Room j X.A) (h : X.K = K := by rfl) : OpR X (compareOp .Eq) (rEqU K) := by subst h; exact xEq hr
theorem kNe {j : Nat} (hr : Room j X.A) (h : X.K = K := by rfl) : OpR X (compareOp .NotEq) (rNeU K) := by subst h; exact xNe hr
theorem kSl (h : X.K = K := by rfl) : SlR X (rSl K) := by subst h; exact xSl
theorem kLen (h : X.K = K := by rfl) : CallR X (.builtin "len") (rLenU K) := by subst h; exact xLen
theorem kLst (h : X.K = K := by rfl) : CallR X (.type "list") (rLstU K) := by subst h; exact xLst
theorem kTup (h : X.K = K := by rfl) : CallR X (.type "tuple") (rTupU K) := by subst h; exact xTup
theorem kAll (hc : X.calm = true) (h : X.K = K := by rfl) : CallR X (.builtin "all") (rAll K) := by subst h; exact cr_all hc
theorem kAny (hc : X.calm = true) (h : X.K = K := by rfl) : CallR X (.builtin "any") (rAny K) := by subst h; exact cr_any hc
theorem kSum (hc : X.calm = true) (h : X.K = K := by rfl) : CallR X (.builtin "sum") (rSum K) := by subst h; exact cr_sum hc
theorem kIsi (h : X.K = K := by rfl) : CallR X (.builtin "isinstance") (rIsi K) := by subst h; exact call_isi
theorem kIsiT (h : X.K = K := by rfl) : CallR X (.builtin "isinstance") (rIsiT K) := by subst h; exact call_isiT
theorem kSeq {tg l : Expr} {tl : TE} (hl : PE X l tl) (h : X.K = K := by rfl) : PI X tg l (iSeq K tl) := by subst h; exact pi_seq hl
theorem kFld {o : Expr} {f : Str} {pos : Pos} {ta : TE} (ha : PE X o ta) (hb : attributeBase o f X.env (eval o X.env) = eval o X.env) (h : X.K = K := by rfl) : PE X (.Attribute o f pos) (tFld K ta f) := by subst h; exact pe_fld ha hb
theorem kGtup {es : List Expr} {k : Nat} {t : TGs} {n : Nat} {pos : Pos} (hc : X.calm = true) (h : PGs X es t)
    (hn : (assignEach es X.env).length = n := by rfl) (hst : (assignEach es X.env).findIdx? (·.1) = none := by rfl) (hK : X.K = K := by rfl) : PG X (.Tuple es k pos) (gTup K n t) := by subst hK; exact pg_tup hc h hn hst
theorem kBM {e0 : Expr} {to : TE} {t : TA} {T : String} {r : V → List V → Hp → VK → Prop} (h0 : PE X e0 (tBM X.K T r to t)) (h : X.K = K := by rfl) : PE X e0 (tBM K T r to t) := by subst h; exact h0
theorem kFldS {st : Stmt} {ta tv : TE} {f : Str} (h0 : PS X st (sFld X.K ta tv f)) (h : X.K = K := by rfl) : PS X st (sFld K ta tv f) := by subst h; exact h0
/-! truth of any value, named -/
end
def TruX (K : PySem.W.Frag) (x : V) (H : Hp) (Q : Bool → Hp → Prop) : Prop := ∃ k, TruV K x H k ∧ Q k H
def tTru (K : PySem.W.Frag) (te : TE) : TT := fun σ H Q => te σ H fun x H' => TruX K x H' Q
section
variable {X : Cx} (K : PySem.W.Frag)
theorem kTru {a : Expr} {ta : TE} (ha : PE X a ta) (he : ∀ whole, isTrue a X.env whole = (do let v ← whole; standAt a.pos; holding [v] (truthy v))) (h : X.K = K := by rfl) : PT X a (tTru K ta) := by subst h; exact pt_truth ha he
end
section
variable {K : PySem.W.Frag} {σ : L2.St} {H : Hp} {te : TE} {Q : Bool → Hp → Prop}
theorem w_tru (h : te σ H fun x H' => TruX K x H' Q) : tTru K te σ H Q := h
theorem r_truB {b : Bool} (h : Q b H) : TruX K (.bl b) H Q := ⟨b, rfl, h⟩
theorem r_truI {i : Int} (h : Q (!decide (i = 0)) H) : TruX K (.int i) H Q := ⟨(i != 0), rfl, by
  have e : (i != 0) = (!decide (i = 0)) := by
    by_cases c : i = 0
    · subst c; rfl
    · simp [c]
  rw [e]; exact h⟩
theorem r_truN (h : Q false H) : TruX K .non H Q := ⟨false, rfl, h⟩
/-- all of a list of truths -/
theorem all_range {n : Nat} {p : Nat → Prop} [DecidablePred p] : ((List.range n).map fun i => decide (p i)).all id = decide (∀ i, i < n → p i) := by
  rw [Bool.eq_iff_iff]
  simp
theorem map_bl_range {n : Nat} {p : Nat → Prop} [DecidablePred p] : (List.range n).map (fun i => V.bl (decide (p i))) = ((List.range n).map fun i => decide (p i)).map V.bl := by
  rw [List.map_map]; rfl
end
end M

/-! ### part E: data without lists; comprehensions that make data -/
namespace M
open PySem PySem.Spec PyProof.Rows L2 Evl
mutual
def imm : PyData → Bool
  | .list _ => false
  | .dict _ => false
  | .tuple xs => immAll xs
  | _ => true
def immAll : List PyData → Bool
  | [] => true
  | x :: xs => imm x && immAll xs
end
/-- tuples stand -/
def TEx (H H' : Hp) : Prop := ∀ a xs, Rd H a (.tup xs) → Rd H' a (.tup xs)
theorem TEx.of {H H' : Hp} (e : Ex H H') : TEx H H' := fun _ _ h => ex_rd e h
theorem TEx.trans {H H1 H2 : Hp} (a : TEx H H1) (b : TEx H1 H2) : TEx H H2 := fun x o h => b x o (a x o h)
theorem TEx.refl (H : Hp) : TEx H H := fun _ _ h => h
theorem TEx.upd {H : Hp} {p : Addr} {xs : List V} {o : HO} (h : H p = some (.lst xs)) : TEx H (upd H p o) := fun a ys q => by
  have hne : a ≠ p := by
    rintro rfl
    rcases q with q | ⟨o', q⟩ <;> rw [h] at q <;> cases q
  rcases q with q | ⟨o', q⟩
  · exact .inl (by rw [upd_ne hne]; exact q)
  · exact .inr ⟨o', by rw [upd_ne hne]; exact q⟩
section
variable {K : PySem.W.Frag} {H H' : Hp}
theorem tex_t (e : TEx H H') {a : Addr} {xs : List V} (h : SqT K H a xs) : SqT K H' a xs := by
  rcases h with h | h
  · exact .inl (e a xs h)
  · exact .inr h
mutual
theorem dp_tex (e : TEx H H') : ∀ {d : PyData} {v : V}, imm d = true → Dp K H v d → Dp K H' v d
  | _, _, _, .non => .non
  | _, _, _, .bl b => .bl b
  | _, _, _, .int i => .int i
  | _, _, _, .str x => .str x
  | _, _, h, .lst _ _ => nomatch h
  | _, _, h, .tup s a => .tup (tex_t e s) (dpAll_tex e h a)
theorem dpAll_tex (e : TEx H H') : ∀ {ds : List PyData} {vs : List V}, immAll ds = true → DpAll K H vs ds → DpAll K H' vs ds
  | _, _, _, .nil => .nil
  | _, _, h, .cons a r => .cons (dp_tex e (Bool.and_eq_true_iff.mp h).1 a) (dpAll_tex e (Bool.and_eq_true_iff.mp h).2 r)
end
theorem dpAll_len : ∀ {vs : List V} {ds : List PyData}, DpAll K H vs ds → vs.length = ds.length
  | _, _, .nil => rfl
  | _, _, .cons _ r => congrArg Nat.succ (dpAll_len r)
theorem dpAll_app : ∀ {vs ws : List V} {ds es : List PyData}, DpAll K H vs ds → DpAll K H ws es → DpAll K H (vs ++ ws) (ds ++ es)
  | _, _, _, _, .nil, h => h
  | _, _, _, _, .cons a r, h => .cons a (dpAll_app r h)
theorem dpAll_get : ∀ {vs : List V} {ds : List PyData} {i : Nat} {x : V}, DpAll K H vs ds → vs[i]? = some x → ∃ d, ds[i]? = some d ∧ Dp K H x d
  | _, _, 0, _, .cons a _, e => by simp at e; subst e; exact ⟨_, rfl, a⟩
  | _, _, i + 1, x, .cons _ r, e => by
    obtain ⟨d, h1, h2⟩ := dpAll_get (i := i) (x := x) r (by simpa using e)
    exact ⟨d, by simpa using h1, h2⟩
theorem immAll_app : ∀ {ds es : List PyData}, immAll ds = true → immAll es = true → immAll (ds ++ es) = true
  | [], _, _, h => h
  | _ :: _, _, h, h' => Bool.and_eq_true_iff.mpr ⟨(Bool.and_eq_true_iff.mp h).1, immAll_app (Bool.and_eq_true_iff.mp h).2 h'⟩
theorem immAll_map {f : Nat → PyData} (h : ∀ i, imm (f i) = true) : ∀ l : List Nat, immAll (l.map f) = true
  | [] => rfl
  | i :: l => Bool.and_eq_true_iff.mpr ⟨h i, immAll_map h l⟩
variable {Q : VK}
/-- over a list: item i gives data f i (without lists) -/
theorem lcD_list {a : Addr} {xs : List V} {j : Nat} {te : TE} {vs : List Nat} {σ : L2.St} (f : Nat → PyData) (hf : ∀ i, imm (f i) = true) (hx : SqL K H a xs) (hn : xs.length ≤ 100000) (σ' : V → L2.St) (hσ : ∀ x, (wipe σ vs).set j (some x) = σ' x) (hw : ∀ x, wipe ((wipe σ vs).set j (some x)) vs = wipe σ vs)
    (he : ∀ (i : Nat) (x : V) (H1 : Hp) (Q' : VK), Ex H H1 → xs[i]? = some x → (∀ y H2, Ex H1 H2 → Dp K H2 y (f i) → Q' y H2) → te (σ' x) H1 Q')
    (hq : ∀ p H2 ys, H p = none → Ex H H2 → H2 p = some (.lst ys) → DpAll K H2 ys ((List.range xs.length).map f) → Q (.ref p) H2) : LcJ (Itl K a) (gName j) tYes te vs σ H Q := fun D hD =>
  lc_list (xs := xs) (Pv := fun i H' => Ex H H' ∧ ∃ ys, H' D = some (.lst ys) ∧ DpAll K H' ys ((List.range i).map f)) ⟨Ex.new hD, [], upd_same, .nil⟩ (fun i H' _ p => ex_l p.1 hx) (fun i x H' hi ⟨p1, ys, p2, p3⟩ => ⟨hw x, by
    show te ((wipe σ vs).set j _) H' _
    rw [hσ]
    have hi' := (List.getElem?_eq_some_iff.mp hi).1
    refine he i x H' _ p1 hi fun y H2 e2 d2 => ⟨ys, e2 D _ p2, sz_lt (by rw [dpAll_len p3, List.length_map, List.length_range]; omega), Ex.mut (p1.trans e2) hD, ys ++ [y], upd_same, ?_⟩
    have t := TEx.upd (o := .lst (ys ++ [y])) (e2 D _ p2)
    rw [List.range_succ, List.map_append]
    exact dpAll_app (dpAll_tex t (immAll_map hf _) (dpAll_ex e2 p3)) (.cons (dp_tex t (hf i) d2) .nil)⟩) fun H' ⟨p1, ys, p2, p3⟩ => hq D H' ys hD p1 p2 p3
theorem lcD_tup {a : Addr} {xs : List V} {j : Nat} {te : TE} {vs : List Nat} {σ : L2.St} (f : Nat → PyData) (hf : ∀ i, imm (f i) = true) (hx : SqT K H a xs) (hn : xs.length ≤ 100000) (σ' : V → L2.St) (hσ : ∀ x, (wipe σ vs).set j (some x) = σ' x) (hw : ∀ x, wipe ((wipe σ vs).set j (some x)) vs = wipe σ vs)
    (he : ∀ (i : Nat) (x : V) (H1 : Hp) (Q' : VK), Ex H H1 → xs[i]? = some x → (∀ y H2, Ex H1 H2 → Dp K H2 y (f i) → Q' y H2) → te (σ' x) H1 Q')
    (hq : ∀ p H2 ys, H p = none → Ex H H2 → H2 p = some (.lst ys) → DpAll K H2 ys ((List.range xs.length).map f) → Q (.ref p) H2) : LcJ (Itt K a) (gName j) tYes te vs σ H Q := fun D hD =>
  lc_tup (xs := xs) (Pv := fun i H' => Ex H H' ∧ ∃ ys, H' D = some (.lst ys) ∧ DpAll K H' ys ((List.range i).map f)) ⟨Ex.new hD, [], upd_same, .nil⟩ (fun i H' _ p => ex_t p.1 hx) (fun i x H' hi ⟨p1, ys, p2, p3⟩ => ⟨hw x, by
    show te ((wipe σ vs).set j _) H' _
    rw [hσ]
    have hi' := (List.getElem?_eq_some_iff.mp hi).1
    refine he i x H' _ p1 hi fun y H2 e2 d2 => ⟨ys, e2 D _ p2, sz_lt (by rw [dpAll_len p3, List.length_map, List.length_range]; omega), Ex.mut (p1.trans e2) hD, ys ++ [y], upd_same, ?_⟩
    have t := TEx.upd (o := .lst (ys ++ [y])) (e2 D _ p2)
    rw [List.range_succ, List.map_append]
    exact dpAll_app (dpAll_tex t (immAll_map hf _) (dpAll_ex e2 p3)) (.cons (dp_tex t (hf i) d2) .nil)⟩) fun H' ⟨p1, ys, p2, p3⟩ => hq D H' ys hD p1 p2 p3
/-! deep: tuples in the place of lists -/
end
mutual
def dDeep : PyData → PyData
  | .list xs => .tuple (dDeepAll xs)
  | .tuple xs => .tuple (dDeepAll xs)
  | .none => .none
  | .bool b => .bool b
  | .int i => .int i
  | .str s => .str s
  | .dict _ => .none
def dDeepAll : List PyData → List PyData
  | [] => []
  | x :: xs => dDeep x :: dDeepAll xs
end
mutual
theorem imm_deep : ∀ d, imm (dDeep d) = true
  | .list xs => immAll_deep xs
  | .tuple xs => immAll_deep xs
  | .none => rfl
  | .bool _ => rfl
  | .int _ => rfl
  | .str _ => rfl
  | .dict _ => rfl
theorem immAll_deep : ∀ ds, immAll (dDeepAll ds) = true
  | [] => rfl
  | x :: xs => Bool.and_eq_true_iff.mpr ⟨imm_deep x, immAll_deep xs⟩
end
theorem dDeepAll_eq : ∀ ds, dDeepAll ds = ds.map dDeep
  | [] => rfl
  | x :: xs => by show dDeep x :: dDeepAll xs = _; rw [dDeepAll_eq xs]; rfl
theorem dDeep_ints (ns : List Int) : dDeepAll (ns.map .int) = ns.map .int := by
  rw [dDeepAll_eq, List.map_map]; rfl
mutual
/-- depth at most n, each row at most so long -/
def shp : Nat → PyData → Bool
  | 0, .list _ => false
  | 0, .tuple _ => false
  | n + 1, .list xs => decide (xs.length ≤ 50000) && shpAll n xs
  | n + 1, .tuple xs => decide (xs.length ≤ 50000) && shpAll n xs
  | _, .dict _ => false
  | _, _ => true
def shpAll : Nat → List PyData → Bool
  | _, [] => true
  | n, x :: xs => shp n x && shpAll n xs
end
theorem shpAll_get {n : Nat} : ∀ {ds : List PyData} {i : Nat} {d : PyData}, shpAll n ds = true → ds[i]? = some d → shp n d = true
  | _ :: _, 0, _, h, e => by
    simp at e; subst e
    unfold shpAll at h
    exact (Bool.and_eq_true_iff.mp h).1
  | _ :: _, i + 1, d, h, e => by
    unfold shpAll at h
    exact shpAll_get (i := i) (d := d) (Bool.and_eq_true_iff.mp h).2 (by simpa using e)
theorem shpAll_ints : ∀ ns : List Int, shpAll 0 (ns.map .int) = true
  | [] => rfl
  | n :: ns => by show (shp 0 (.int n) && shpAll 0 (ns.map .int)) = true; rw [shpAll_ints ns]; rfl
end M

/-! ### part F: a list or a tuple -/
namespace M
open PySem PySem.Spec PyProof.Rows L2 Evl
def SqE (K : PySem.W.Frag) (H : Hp) (a : Addr) (xs : List V) : Prop := SqL K H a xs ∨ SqT K H a xs
section
variable {K : PySem.W.Frag} {H H' : Hp} {Q : VK}
theorem ex_e {a : Addr} {xs : List V} (e : Ex H H') (h : SqE K H a xs) : SqE K H' a xs := h.elim (fun h => .inl (ex_l e h)) (fun h => .inr (ex_t e h))
theorem r_lenEI {a : Addr} {xs : List Int} (h : SqE K H a (vI xs)) (q : Q (.int (xs.length : Int)) H) : rLenU K [.ref a] H Q := h.elim (fun h => r_lenLI h q) (fun h => r_lenTI h q)
theorem r_ixEI {a : Addr} {xs : List Int} {i : Int} (h : SqE K H a (vI xs)) (h0 : 0 ≤ i) (h1 : i < xs.length) (q : Q (.int (gI xs i)) H) : rIx K (.ref a) (.int i) H Q := h.elim (fun h => r_ixLI h h0 h1 q) (fun h => r_ixTI h h0 h1 q)
theorem r_ixEN {a : Addr} {xs : List Int} {i : Int} (h : SqE K H a (vI xs)) (h0 : i < 0) (h1 : -(xs.length : Int) ≤ i) (q : Q (.int (gI xs (i + xs.length))) H) : rIx K (.ref a) (.int i) H Q := h.elim (fun h => r_ixLN h h0 h1 q) (fun h => r_ixTN h h0 h1 q)
end
end M

/-! ### part G: fields, instances made, methods, properties, instances called, own == -/
namespace M
open PySem PySem.Spec PyProof.Rows L2 Evl
def GetF (K : PySem.W.Frag) (f : Str) (x : V) (H : Hp) (Q : VK) : Prop := ∃ a C dx fs v, x = .ref a ∧ H a = some (.ins C dx fs) ∧ Cls K C ∧ NoAttr K C f ∧ fs.lookup f = some v ∧ Q v H
def PutF (K : PySem.W.Frag) (f : Str) (y x : V) (H : Hp) (R : Hp → Prop) : Prop := ∃ a C dx fs, x = .ref a ∧ H a = some (.ins C dx fs) ∧ Cls K C ∧ NoAttr K C f ∧ fs.length < 1000 ∧ R (upd H a (.ins C dx (putF f y fs)))
section
variable {K : PySem.W.Frag} {σ : L2.St} {H : Hp} {Q : VK} {D : Ends} {ta tv : TE} {f : Str}
theorem w_fld (h : ta σ H fun x H1 => GetF K f x H1 Q) : tFld K ta f σ H Q := h
theorem w_fldS (h : tv σ H fun y H1 => ta σ H1 fun x H2 => PutF K f y x H2 fun H3 => D.nx σ H3) : sFld K ta tv f D σ H := h
theorem r_getF {a C dx : Addr} {fs : List (Str × V)} {v : V} (h : H a = some (.ins C dx fs)) (c : Cls K C) (n : NoAttr K C f) (e : fs.lookup f = some v) (q : Q v H) : GetF K f (.ref a) H Q := ⟨a, C, dx, fs, v, rfl, h, c, n, e, q⟩
theorem r_putF {a C dx : Addr} {fs : List (Str × V)} {y : V} {R : Hp → Prop} (h : H a = some (.ins C dx fs)) (c : Cls K C) (n : NoAttr K C f) (hl : fs.length < 1000) (q : R (upd H a (.ins C dx (putF f y fs)))) : PutF K f y (.ref a) H R := ⟨a, C, dx, fs, rfl, h, c, n, hl, q⟩
end
/-- a class made by its name: dvs the defaults that fill up -/
structure Mkc (P : Program) (w : World) (K : PySem.W.Frag) (mg : Str → Option Value) (base : Heap) (CX : CXT) (k : Nat) (x : Str) (C : Addr) (sp : Sp) (dvs : List V) : Prop where
  ex : ∃ (f : Addr) (fd : FuncData) (ps : List Str) (ds : List Value), Mk K C f ∧ FnOk P w K mg base CX k f fd ps sp ∧ mg x = some (.ref C) ∧ Binds K fd ps ds ∧ Vals dvs ds
section
variable {X : Cx} {CX : CXT} {k j : Nat} {C : Addr} {x m : Str} {sp : Sp} {dvs : List V} {E : XK} {p pos apos : Pos} {e o : Expr} {es : List Expr} {ta : TE} {t : TA}
theorem pmk (c : Mkc X.prog X.w X.K X.mg X.base CX k x C sp dvs) (hr : Room j X.A) (hk : k + 1 ≤ j) (hx : Passes CX X E) (hg : Gl X x) (ha : PA X (e :: es) t)
    (hdb : (x == ("__debug__" : Str)) = false := by decide) (he : starEach (e :: es) X.env = (false, eval e X.env) :: starEach es X.env := by rfl) (hpl : (backTo pos (starEach es X.env)).any (·.1) = false := by rfl) :
    PE X (.Call (.Name x p) (e :: es) [] pos) (tMake C sp dvs E t) := by
  obtain ⟨f, fd, ps, ds, M, F, hm, hb, hd⟩ := c.ex
  exact pe_make M F (hr.mono hk) hg hm hb hd hx ha hdb he hpl
theorem pmt {pl : Sem Bool} (c : Mt X.prog X.w X.K X.mg X.base CX k C m sp) (hr : Room j X.A) (hk : k ≤ j) (hx : Passes CX X E) (ho : PE X o ta) (ha : PA X (e :: es) t)
    (he : starEach (e :: es) X.env = (false, eval e X.env) :: starEach es X.env := by rfl) (hpl : (backTo pos (starEach es X.env)).any (·.1) = false := by rfl)
    (ht : eval (.Call (.Attribute o m apos) (e :: es) [] pos) X.env = (do let ov ← eval o X.env; standAt apos.atName; let (f, first) ← holding [ov] (getMethod ov m pl); callWith pos f first (backTo pos (starEach (e :: es) X.env)) (backToKw pos (keywordEach [] X.env))) := by rfl) :
    PE X (.Call (.Attribute o m apos) (e :: es) [] pos) (tMeth C m sp [] E ta t) := by
  obtain ⟨f, fd, ps, cl, hm, F, hb⟩ := c.ex
  exact pe_meth ho cl hm F (hr.mono hk) hb .nil hx ha he hpl ht
theorem pmt0 {pl : Sem Bool} (c : Mt X.prog X.w X.K X.mg X.base CX k C m sp) (hr : Room j X.A) (hk : k ≤ j) (hx : Passes CX X E) (ho : PE X o ta)
    (ht : eval (.Call (.Attribute o m apos) [] [] pos) X.env = (do let ov ← eval o X.env; standAt apos.atName; let (f, first) ← holding [ov] (getMethod ov m pl); callWith pos f first (backTo pos (starEach [] X.env)) (backToKw pos (keywordEach [] X.env))) := by rfl) :
    PE X (.Call (.Attribute o m apos) [] [] pos) (tMeth C m sp [] E ta tNil) := by
  obtain ⟨f, fd, ps, cl, hm, F, hb⟩ := c.ex
  exact pe_meth0 ho cl hm F (hr.mono hk) hb .nil hx ht
end
/-- a property of the class at C -/
structure Prp (P : Program) (w : World) (K : PySem.W.Frag) (mg : Str → Option Value) (base : Heap) (k : Nat) (C : Addr) (m : Str) (sp : Sp) : Prop where
  ex : ∃ (p g : Addr) (fd : FuncData) (ps : List Str), Cls K C ∧ PropOf K C m p g ∧ FnOk P w K mg base CX0 k g fd ps sp ∧ Binds K fd ps []
def PropI (C : Addr) (sp : Sp) (x : V) (H1 : Hp) (Q : VK) (E : XK) : Prop := ∃ a dx fs, x = .ref a ∧ H1 a = some (.ins C dx fs) ∧ sp (.ref a :: []) H1 Q E
section
variable {X : Cx} {k j : Nat} {C : Addr} {m : Str} {sp : Sp} {E : XK} {pos : Pos} {e : Expr} {ta : TE} {σ : L2.St} {H : Hp} {Q : VK}
theorem ppr (c : Prp X.prog X.w X.K X.mg X.base k C m sp) (hr : Room j X.A) (hk : k + 1 ≤ j) (he : PE X e ta) (hab : attributeBase e m X.env (eval e X.env) = eval e X.env) : PE X (.Attribute e m pos) (tProp C sp [] E0 ta) := by
  obtain ⟨p, g, fd, ps, cl, hp, F, hb⟩ := c.ex
  exact pe_prop he cl hp F (hr.mono hk) hb .nil pass0 hab
theorem w_prop (h : ta σ H fun x H1 => PropI C sp x H1 Q E) : tProp C sp [] E ta σ H Q := h
theorem r_prop {F} {a dx : Addr} {fs : List (Str × V)} (h : H a = some (.ins C dx fs)) (q : F (.ref a) H Q E) : PropI C (sp1 F) (.ref a) H Q E := ⟨a, dx, fs, rfl, h, _, rfl, q⟩
def MethI (C : Addr) (m : Str) (sp : Sp) (E : XK) (t : TA) (σ : L2.St) (x : V) (H1 : Hp) (Q : VK) : Prop := ∃ a dx fs, x = .ref a ∧ H1 a = some (.ins C dx fs) ∧ fs.lookup m = none ∧ t σ H1 fun vs H2 => sp (x :: (vs ++ [])) H2 Q E
theorem w_meth {t : TA} (h : ta σ H fun x H1 => MethI C m sp E t σ x H1 Q) : tMeth C m sp [] E ta t σ H Q := h
theorem r_meth {t : TA} {a dx : Addr} {fs : List (Str × V)} (h : H a = some (.ins C dx fs)) (n : fs.lookup m = none) (q : t σ H fun vs H2 => sp (.ref a :: (vs ++ [])) H2 Q E) : MethI C m sp E t σ (.ref a) H Q := ⟨a, dx, fs, rfl, h, n, q⟩
def MakeI (C : Addr) (sp : Sp) (dvs : List V) (E : XK) (vs : List V) (H1 : Hp) (Q : VK) : Prop := ∀ (x dx : Addr), H1 x = none → H1 dx = none → dx ≠ x → sp (.ref x :: (vs ++ dvs)) (upd (upd H1 dx (.own x)) x (.ins C dx [])) (fun v H2 => v = .non ∧ Q (.ref x) H2) E
theorem w_make {t : TA} {dvs : List V} (h : t σ H fun vs H1 => MakeI C sp dvs E vs H1 Q) : tMake C sp dvs E t σ H Q := h
/-- an instance called -/
structure Cli (P : Program) (w : World) (K : PySem.W.Frag) (mg : Str → Option Value) (base : Heap) (k : Nat) (C : Addr) (sp : Sp) : Prop where
  ex : ∃ (g : Addr) (fd : FuncData) (ps : List Str), StX.CallO K C g ∧ FnOk P w K mg base CX0 k g fd ps sp ∧ Binds K fd ps []
def CallI (C : Addr) (sp : Sp) (E : XK) (t : TA) (σ : L2.St) (y : V) (H1 : Hp) (Q : VK) : Prop := ∃ a, y = V.ref a ∧ t σ H1 fun vs H2 => (∃ dx fs, H2 a = some (.ins C dx fs)) ∧ sp (V.ref a :: vs) H2 Q E
def tCallI (C : Addr) (sp : Sp) (E : XK) (tf : TE) (t : TA) : TE := fun σ H Q => tf σ H fun y H1 => CallI C sp E t σ y H1 Q
end
section
variable {X : Cx} {k j : Nat} {C : Addr} {sp : Sp} {pos : Pos} {fe e : Expr} {es : List Expr} {tf : TE} {t : TA}
theorem pcl (c : Cli X.prog X.w X.K X.mg X.base k C sp) (hr : Room j X.A) (hk : k ≤ j) (hf : PE X fe tf) (ha : PA X (e :: es) t)
    (ht : eval (.Call fe (e :: es) [] pos) X.env = (do callWith pos (← eval fe X.env) [] (backTo pos (starEach (e :: es) X.env)) (backToKw pos (keywordEach [] X.env))) := by rfl)
    (he : starEach (e :: es) X.env = (false, eval e X.env) :: starEach es X.env := by rfl) (hpl : (backTo pos (starEach es X.env)).any (·.1) = false := by rfl) : PE X (.Call fe (e :: es) [] pos) (StX.tCallO X C sp E0 tf t) := by
  obtain ⟨g, fd, ps, co, F, hb⟩ := c.ex
  exact StX.pe_callO hf co ((F.raw hb .nil).imp fun vs H Q E h => by rw [List.append_nil]; exact h) (hr.mono hk) pass0 ha ht he hpl
def CallOI (X : Cx) (C : Addr) (sp : Sp) (t : TA) (σ : L2.St) (y : V) (H1 : Hp) (Q : VK) : Prop := ∃ a, y = V.ref a ∧ t σ H1 fun vs H2 => StX.InsC X H2 a C ∧ sp (V.ref a :: vs) H2 Q E0
variable {σ : L2.St} {H : Hp} {Q : VK}
theorem w_callO (h : tf σ H fun y H1 => CallOI X C sp t σ y H1 Q) : StX.tCallO X C sp E0 tf t σ H Q := h
def CallOJ (X : Cx) (C a : Addr) (sp : Sp) (vs : List V) (H2 : Hp) (Q : VK) : Prop := StX.InsC X H2 a C ∧ sp (V.ref a :: vs) H2 Q E0
theorem w_callOI {a : Addr} (h : t σ H fun vs H2 => CallOJ X C a sp vs H2 Q) : CallOI X C sp t σ (.ref a) H Q := ⟨a, rfl, h⟩
theorem r_callO1 {F} {a dx : Addr} {fs : List (Str × V)} {x : V} (hi : H a = some (.ins C dx fs)) (h : F (.ref a) x H Q E0) : CallOJ X C a (sp2 F) [x] H Q := ⟨.inr ⟨dx, fs, hi⟩, _, _, rfl, h⟩
end
/-! own == : x an instance of the class at C, y any value whose type is known -/
section
variable {X : Cx} {n : Nat} {C : Addr} {sp : Sp}
def rOwnEq (K : PySem.W.Frag) (C : Addr) (sp : Sp) : R2 := fun x y H Q => ∃ a dx fs t, x = .ref a ∧ H a = some (.ins C dx fs) ∧ TyX K H y t ∧ PySem.W.notFirst K C t = true ∧ sp [x, y] H (fun v H' => (∃ b, v = .bl b) ∧ Q v H') E0
end
section
variable {X : Cx} {n : Nat} {C : Addr} {sp : Sp}
/-- what == needs of the class at C -/
structure EqOf (P : Program) (w : World) (K : PySem.W.Frag) (mg : Str → Option Value) (base : Heap) (k : Nat) (C : Addr) (sp : Sp) : Prop where
  ex : ∃ (g : Addr) (fd : FuncData) (ps : List Str), PySem.W.findIn K (.ref C) "__eq__" = some (some (.ref g)) ∧ PySem.W.isFn K (.ref g) = true ∧ FnOk P w K mg base CX0 k g fd ps sp ∧ Binds K fd ps []
theorem op_ownEq {j : Nat} (c : EqOf X.prog X.w X.K X.mg X.base n C sp) (hr : Room j X.A) (hn : n ≤ j) : OpR X (compareOp .Eq) (rOwnEq X.K C sp) := by
  obtain ⟨g, fd, ps, hs, hf, F, hb⟩ := c.ex
  intro pins s σ H x y v u Q I rx ry h
  obtain ⟨a, dx, fs, t, rfl, ha, ty, hnf, q⟩ := h
  cases (show v = Value.ref a from rx)
  obtain ⟨mA, O, _⟩ := ins_get I.hok ha
  obtain ⟨od, J, _⟩ := O.look
  obtain ⟨m, hF⟩ := I.fr
  obtain ⟨Pk, kit, hk, _⟩ := kit_of I ry ty
  show wpAny _ _ (richCompare .Eq (.ref a) u) _ _ _
  refine PySem.W.cmp_K (op := .Eq) (tb := t) (hr.mono hn).units0 hF I.ok.mod.kin J (kit.ty _ _ I.kIn hk) hnf hs hf ?_
  refine wpAny_mono (run_fn (us := [.ref a, u]) (vs := [.ref a, y]) (dvs := []) (ds := []) F (hr.mono hn) hb .nil pass0 I (.cons rfl (.cons ry .nil)) q) (fun z s' hz => ?_) fun _ _ x => x
  obtain ⟨zv, H', I', rz, ⟨b, hb⟩, qz⟩ := hz
  subst hb
  cases (show z = Value.bool b from rz)
  exact ⟨.bl b, H', I', rfl, qz⟩
def rEqO (K : PySem.W.Frag) (C : Addr) (sp : Sp) : R2 := fun x y H Q => rEqU K x y H Q ∨ rOwnEq K C sp x y H Q
theorem kEqO (K : PySem.W.Frag) {j : Nat} (c : EqOf X.prog X.w X.K X.mg X.base n C sp) (hr : Room j X.A) (hn : n ≤ j) (h : X.K = K := by rfl) : OpR X (compareOp .Eq) (rEqO K C sp) := by subst h; exact (xEq hr).or (op_ownEq c hr hn)
end
section
variable {K : PySem.W.Frag} {C : Addr} {sp : Sp} {H : Hp} {Q : VK} {x y : V}
theorem w_eqO (h : rEqU K x y H Q) : rEqO K C sp x y H Q := .inl h
theorem r_ownEq {F} {a dx : Addr} {fs : List (Str × V)} {t : Value} (ha : H a = some (.ins C dx fs)) (ty : TyX K H y t) (hn : PySem.W.notFirst K C t = true) (q : F (.ref a) y H (fun v H' => (∃ b, v = .bl b) ∧ Q v H') E0) : rEqO K C (sp2 F) (.ref a) y H Q :=
  .inr ⟨a, dx, fs, t, rfl, ha, ty, hn, _, _, rfl, q⟩
end
end M

/-! ### part H: the head's facts, functions by any address -/
namespace M
open PySem PySem.Spec PyProof.Rows L2 Evl
/-- a def: where its function stands -/
structure DX where
  adr : PySem.W.Frag → Addr
  name : Str
  qual : Str
  params : Arguments
  body : List Stmt
  scope : Scope
  dfl : List He.Dv := []
  clo : Bool := false
/-- the parts of a function; of a closure the names alone -/
def fnA (K : PySem.W.Frag) (a : Addr) (c : Bool) : He.FnW := match K.lookup a with
  | some ⟨_, _, .func q, _⟩ => some (q.name, q.qualname, q.params, q.body, q.scope, q.globals, (if c = true then q.closure.map fun p => (p.1, 0) else q.closure), q.builtins)
  | _ => none
def DX.val (d : DX) : He.FnW := some (d.name, d.qual, d.params, .stmts d.body, d.scope, mainGlobals, (if d.clo = true then [("__class__", 0)] else []), builtinsNs)
def DX.dvs (K : PySem.W.Frag) (d : DX) : List V := d.dfl.map (He.Dv.v K)
def DX.ok (K : PySem.W.Frag) (d : DX) : Bool := PySem.W.keepIn K (.ref (d.adr K)) && (match K.lookup (d.adr K) with
  | some ⟨_, _, .func q, _⟩ => PySem.W.codeIn K q.code d.qual && He.dflB K q.defaults (d.dvs K)
  | _ => false)
theorem DX.fun_ {K : PySem.W.Frag} {d : DX} (n : d.clo = false) (e : fnA K (d.adr K) d.clo = d.val) (c : d.ok K = true) : ∃ fd, FunD K d.name d.qual d.params d.body d.scope (d.dvs K) [] (d.adr K) fd := by
  have c0 := Bool.and_eq_true_iff.mp c
  have c1 := c0.2
  unfold fnA DX.val at e
  rw [n] at e
  simp only [Bool.false_eq_true, if_false] at e
  cases q : K.lookup (d.adr K) with
  | none => rw [q] at c1; cases c1
  | some o =>
    obtain ⟨oc, od, dt, osl⟩ := o
    rw [q] at c1 e
    cases dt with
    | func fd =>
      obtain ⟨m1, m2, m3, m4, m5, m6, m7, m8, m9, m10, m11, m12, m13, m14, m15⟩ := fd
      have e2 : (some (m1, m2, m3, m4, m5, m6, m7, m15) : He.FnW) = some (d.name, d.qual, d.params, .stmts d.body, d.scope, mainGlobals, [], builtinsNs) := e
      simp only [Option.some.injEq, Prod.mk.injEq] at e2
      obtain ⟨g1, g2, g3, g4, g5, g6, g7, g8⟩ := e2
      subst g1 g2 g3 g4 g5 g6 g7 g8
      have c2 := Bool.and_eq_true_iff.mp (show (PySem.W.codeIn K m13 d.qual && He.dflB K m8 (d.dvs K)) = true from c1)
      exact ⟨_, ⟨oc, od, m8, m9, m10, m11, m12, m13, m14, osl, rfl, q, c2.1, He.dflB_ok c2.2, .inl rfl⟩, c0.1⟩
    | _ => cases c1
/-- a def that names super(), as it stands -/
structure FunS (K : PySem.W.Frag) (x qual : Str) (params : Arguments) (body : List Stmt) (scope : Scope) (f : Addr) (fd : FuncData) (cc cda : Addr) : Prop where
  ex : ∃ (oc : Value) (od : Option Addr) (dV kV doc pm : Value) (an : Option Addr) (ct : Value) (osl : Array (Option Value)),
    fd = PySem.W.ksFn x qual params body scope dV kV doc pm an (.ref cda) ct cc ∧ K.lookup f = some ⟨oc, od, .func fd, osl⟩ ∧ PySem.W.codeIn K (.ref cda) qual = true ∧ DflV K dV []
  kp : PySem.W.keepIn K (.ref f) = true
def cellOf (K : PySem.W.Frag) (a : Addr) : Addr := match K.lookup a with
  | some ⟨_, _, .func q, _⟩ => (match q.closure with
    | (_, c) :: _ => c
    | _ => 0)
  | _ => 0
def codeOf (K : PySem.W.Frag) (a : Addr) : Addr := match K.lookup a with
  | some ⟨_, _, .func q, _⟩ => (match q.code with
    | .ref c => c
    | _ => 0)
  | _ => 0
theorem DX.funS_ {K : PySem.W.Frag} {d : DX} (n : d.clo = true) (nd : d.dvs K = []) (e : fnA K (d.adr K) d.clo = d.val) (c : d.ok K = true) : ∃ fd, FunS K d.name d.qual d.params d.body d.scope (d.adr K) fd (cellOf K (d.adr K)) (codeOf K (d.adr K)) := by
  have c0 := Bool.and_eq_true_iff.mp c
  have c1 := c0.2
  unfold fnA DX.val at e
  rw [n] at e
  simp only [if_true] at e
  unfold cellOf codeOf
  cases q : K.lookup (d.adr K) with
  | none => rw [q] at c1; cases c1
  | some o =>
    obtain ⟨oc, od, dt, osl⟩ := o
    rw [q] at c1 e
    cases dt with
    | func fd =>
      obtain ⟨m1, m2, m3, m4, m5, m6, m7, m8, m9, m10, m11, m12, m13, m14, m15⟩ := fd
      have e2 : (some (m1, m2, m3, m4, m5, m6, (m7.map fun p => ((p.1, 0) : Str × Addr)), m15) : He.FnW) = (some (d.name, d.qual, d.params, FuncBody.stmts d.body, d.scope, mainGlobals, [(("__class__" : Str), (0 : Addr))], builtinsNs) : He.FnW) := e
      simp only [Option.some.injEq, Prod.mk.injEq] at e2
      obtain ⟨g1, g2, g3, g4, g5, g6, g7, g8⟩ := e2
      have c2 := Bool.and_eq_true_iff.mp (show (PySem.W.codeIn K m13 d.qual && He.dflB K m8 (d.dvs K)) = true from c1)
      obtain ⟨cda, rfl⟩ : ∃ c, m13 = .ref c := by
        have := c2.1
        unfold PySem.W.codeIn at this
        split at this
        · exact ⟨_, rfl⟩
        · cases this
      have h7 : ∃ c, m7 = [(("__class__" : Str), c)] := by
        rcases m7 with _ | ⟨⟨z1, z2⟩, _ | ⟨y, m7⟩⟩
        · exact absurd (congrArg List.length g7) (by simp)
        · have g8 : z1 = ("__class__" : Str) := congrArg Prod.fst (List.cons.inj g7).1
          exact ⟨z2, by rw [g8]⟩
        · exact absurd (congrArg List.length g7) (by simp)
      obtain ⟨z2, h7⟩ := h7
      subst g1 g2 g3 g4 g5 g6 g8 h7
      have dd := He.dflB_ok c2.2
      rw [nd] at dd
      exact ⟨_, ⟨oc, od, m8, m9, m10, m11, m12, m14, osl, rfl, q, c2.1, dd⟩, c0.1⟩
    | _ => cases c1
abbrev AlM : Type := Bool × List He.FnW
def obsM (fa : List He.Fa) (fn : List DX) (ex : PySem.W.Frag → Bool) (K : PySem.W.Frag) : AlM := ((fa.all fun f => f.ok K) && ((fn.all fun d => d.ok K) && ex K), fn.map fun d => fnA K (d.adr K) d.clo)
def valM (fn : List DX) : AlM := (true, fn.map DX.val)
def SaysM (fa : List He.Fa) (fn : List DX) (ex : PySem.W.Frag → Bool) (K : PySem.W.Frag) : Prop := obsM fa fn ex K = valM fn
/-- the cells of closures, too, and the table of the statics -/
def asX (g : Addr → Option Obj) (n : Nat) : List Addr := cStatics :: (He.asD g n ++ (He.asD g n).flatMap fun a => match g a with
  | some ⟨_, _, .func q, _⟩ => q.closure.map fun p => p.2
  | _ => [])
def obsMG (n : Nat) (fa : List He.Fa) (fn : List DX) (ex : PySem.W.Frag → Bool) (g : Addr → Option Obj) : AlM := obsM fa fn ex (He.frG g (asX g n))
def hookM (n : Nat) (fa : List He.Fa) (fn : List DX) (ex : PySem.W.Frag → Bool) : PySem.W.Hook where
  α := AlM
  obs := fun s => obsMG n fa fn ex s.heap.get?
  val := fun _ => valM fn
  says := fun _ h => ∃ K : PySem.W.Frag, K.In h ∧ SaysM fa fn ex K
  of := fun _ _ e => ⟨_, He.frG_in, e⟩
  keeps := fun _ _ _ ⟨K, hK, c⟩ k => ⟨K, PySem.W.Frag.In.keeps hK k, c⟩
theorem obsMG_eq {n : Nat} {fa : List He.Fa} {fn : List DX} {ex : PySem.W.Frag → Bool} {g : Addr → Option Obj} {s : Shared} (h : ∀ a, g a = s.heap.get? a) : obsMG n fa fn ex g = (hookM n fa fn ex).obs s := by
  rw [show g = s.heap.get? from funext h] <;> rfl
section
variable {fa : List He.Fa} {fn : List DX} {ex : PySem.W.Frag → Bool} {K : PySem.W.Frag}
theorem SaysM.fact (c : SaysM fa fn ex K) (i : Nat) {f : He.Fa} (h : fa[i]? = some f := by rfl) : f.ok K = true :=
  List.all_eq_true.mp (Bool.and_eq_true_iff.mp (show ((fa.all fun f => f.ok K) && ((fn.all fun d => d.ok K) && ex K)) = true from congrArg Prod.fst c)).1 f (List.mem_of_getElem? h)
theorem SaysM.more (c : SaysM fa fn ex K) : ex K = true :=
  (Bool.and_eq_true_iff.mp (Bool.and_eq_true_iff.mp (show ((fa.all fun f => f.ok K) && ((fn.all fun d => d.ok K) && ex K)) = true from congrArg Prod.fst c)).2).2
theorem SaysM.look (c : SaysM fa fn ex K) (i : Nat) {d : DX} (h : fn[i]? = some d := by rfl) : fnA K (d.adr K) d.clo = d.val ∧ d.ok K = true := by
  have c2 := (Bool.and_eq_true_iff.mp (Bool.and_eq_true_iff.mp (show ((fa.all fun f => f.ok K) && ((fn.all fun d => d.ok K) && ex K)) = true from congrArg Prod.fst c)).2).1
  have e : fn.map (fun d => fnA K (d.adr K) d.clo) = fn.map DX.val := congrArg Prod.snd c
  have e2 : (fn.map fun d => fnA K (d.adr K) d.clo)[i]? = (fn.map DX.val)[i]? := by rw [e]
  rw [List.getElem?_map, List.getElem?_map, h] at e2
  exact ⟨Option.some.inj e2, List.all_eq_true.mp c2 d (List.mem_of_getElem? h)⟩
theorem SaysM.def_ (c : SaysM fa fn ex K) (i : Nat) {d : DX} (h : fn[i]? = some d := by rfl) (n : d.clo = false := by rfl) : ∃ fd, FunD K d.name d.qual d.params d.body d.scope (d.dvs K) [] (d.adr K) fd :=
  let ⟨e, c2⟩ := c.look i h
  DX.fun_ n e c2
theorem SaysM.defS (c : SaysM fa fn ex K) (i : Nat) {d : DX} (h : fn[i]? = some d := by rfl) (n : d.clo = true := by rfl) (nd : d.dvs K = [] := by rfl) : ∃ fd, FunS K d.name d.qual d.params d.body d.scope (d.adr K) fd (cellOf K (d.adr K)) (codeOf K (d.adr K)) :=
  let ⟨e, c2⟩ := c.look i h
  DX.funS_ n nd e c2
end
/-! facts beyond He.Fa, told by a Bool -/
/-- the property m of the class x: its object, its getter -/
def prA (x m : Str) (K : PySem.W.Frag) : Addr := He.ma K (He.ga K x) m
def prG (x m : Str) (K : PySem.W.Frag) : Addr := match PySem.W.recIn K (prA x m K) "property" with
  | some (.ref g :: _) => g
  | _ => 0
def propB (x m : Str) (K : PySem.W.Frag) : Bool := decide (PySem.W.findIn K (.ref (He.ga K x)) m = some (some (.ref (prA x m K)))) && (decide (PySem.W.specialIn K (.ref (prA x m K)) "__get__" = some (some (.builtin "property.__get__"))) &&
  (decide (PySem.W.takesIn K (.ref (prA x m K)) = some true) && (match PySem.W.recIn K (prA x m K) "property" with
    | some (.ref g :: _) => true
    | _ => false)))
theorem propB_ok {x m : Str} {K : PySem.W.Frag} (h : propB x m K = true) : PropOf K (He.ga K x) m (prA x m K) (prG x m K) := by
  obtain ⟨h1, h⟩ := Bool.and_eq_true_iff.mp h
  obtain ⟨h2, h⟩ := Bool.and_eq_true_iff.mp h
  obtain ⟨h3, h⟩ := Bool.and_eq_true_iff.mp h
  refine ⟨of_decide_eq_true h1, of_decide_eq_true h2, of_decide_eq_true h3, ?_⟩
  unfold prG
  split at h
  · rename_i g r e
    rw [e]
    exact ⟨_, rfl⟩
  · cases h
/-- an empty tuple stands at an address of the written part -/
def tup0B (K : PySem.W.Frag) (a : Addr) : Bool := match K.lookup a with
  | some ⟨.type c, _, .seq its _, _⟩ => decide (c = "tuple") && decide (its.size = 0)
  | _ => false
theorem tup0B_ok {K : PySem.W.Frag} {a : Addr} (h : tup0B K a = true) (H : Hp) : SqT K H a [] := by
  unfold tup0B at h
  split at h
  · rename_i c od its n sl e
    obtain ⟨h1, h2⟩ := Bool.and_eq_true_iff.mp h
    have h3 : its = #[] := Array.eq_empty_of_size_eq_zero (of_decide_eq_true h2)
    subst h3
    exact .inr ⟨_, #[], n, e, congrArg Value.type (of_decide_eq_true h1), rfl, by decide, .nil⟩
  · cases h
/-- an instance of the class may be called -/
def callB (x : Str) (K : PySem.W.Frag) : Bool := decide (PySem.W.findIn K (.ref (He.ga K x)) "__call__" = some (some (.ref (He.ma K (He.ga K x) "__call__")))) && (PySem.W.isFn K (.ref (He.ma K (He.ga K x) "__call__")) && PySem.W.fnIn K (He.ma K (He.ga K x) "__call__"))
theorem callB_ok {x : Str} {K : PySem.W.Frag} (h : callB x K = true) : StX.CallO K (He.ga K x) (He.ma K (He.ga K x) "__call__") := by
  obtain ⟨h1, h⟩ := Bool.and_eq_true_iff.mp h
  obtain ⟨h2, h3⟩ := Bool.and_eq_true_iff.mp h
  exact ⟨of_decide_eq_true h1, h2, h3⟩
/-- the class of an instance, for isinstance and ==: what TyOf asks -/
def insB (x : Str) (K : PySem.W.Frag) : Bool := decide (PySem.W.findIn K (.ref (He.ga K x)) "__class__" = some (some (.builtin "object.__class__"))) && (decide (PySem.W.specialIn K (.builtin "object.__class__") "__get__" = some (some (.builtin "getset_descriptor.__get__"))) &&
  (decide (PySem.W.takesIn K (.builtin "object.__class__") = some true) && decide (PySem.W.mroIn K (He.ga K x) (.type "object") = some true)))
theorem insB_ok {x : Str} {K : PySem.W.Frag} (h : insB x K = true) (c : Cls K (He.ga K x)) {H : Hp} {a dx : Addr} {fs : List (Str × V)} (e : H a = some (.ins (He.ga K x) dx fs)) : TyX K H (.ref a) (.ref (He.ga K x)) := by
  obtain ⟨h1, h⟩ := Bool.and_eq_true_iff.mp h
  obtain ⟨h2, h⟩ := Bool.and_eq_true_iff.mp h
  obtain ⟨h3, h4⟩ := Bool.and_eq_true_iff.mp h
  exact .base (.ins e c (of_decide_eq_true h1) (of_decide_eq_true h2) (of_decide_eq_true h3) (of_decide_eq_true h4))
/-- isinstance's answers of the class, == of others -/
def kitB (x : Str) (n : String) (b : Bool) (K : PySem.W.Frag) : Bool := decide (PySem.W.kitOne K (.type n) (.ref (He.ga K x)) = some b)
def kitSB (x : Str) (K : PySem.W.Frag) : Bool := decide (PySem.W.kitOne K (.ref (He.ga K x)) (.ref (He.ga K x)) = some true)
def nfB (x : Str) (n : String) (K : PySem.W.Frag) : Bool := PySem.W.notFirst K (He.ga K x) (.type n)
end M

/-! ### part I: a source of draws; frames -/
namespace M
open PySem PySem.Spec PyProof.Rows L2 Evl
/-- all but what stands at a is as it was -/
def Fr (a : Addr) (H H' : Hp) : Prop := ∀ b o, b ≠ a → H b = some o → H' b = some o
theorem Fr.refl (a : Addr) (H : Hp) : Fr a H H := fun _ _ _ h => h
theorem Fr.trans {a : Addr} {H H1 H2 : Hp} (x : Fr a H H1) (y : Fr a H1 H2) : Fr a H H2 := fun b o n h => y b o n (x b o n h)
theorem Fr.of {a : Addr} {H H' : Hp} (e : Ex H H') : Fr a H H' := fun b o _ h => e b o h
theorem Fr.upd {a : Addr} {H : Hp} {o : HO} : Fr a H (upd H a o) := fun b o n h => by rw [upd_ne n]; exact h
/-- a list of three: the digits that are left, the seed, the count -/
def SrcAt (H : Hp) (a : Addr) : Prop := ∃ d s c : Int, H a = some (.lst [.int d, .int s, .int c]) ∧ 0 ≤ d ∧ 0 ≤ s ∧ s < 2147483629 ∧ 0 ≤ c
theorem SrcAt.ex {H H' : Hp} {a : Addr} (e : Ex H H') (h : SrcAt H a) : SrcAt H' a := by
  obtain ⟨d, s, c, h1, h2⟩ := h
  exact ⟨d, s, c, e _ _ h1, h2⟩
theorem SrcAt.ne {H : Hp} {a b : Addr} (h : SrcAt H a) (n : H b = none) : b ≠ a := by
  obtain ⟨d, s, c, h1, _⟩ := h
  rintro rfl
  rw [n] at h1; cases h1
/-- a change of the source alone leaves the tuples -/
theorem Fr.tex {a : Addr} {H H' : Hp} (f : Fr a H H') (h : SrcAt H a) : TEx H H' := fun b xs q => by
  obtain ⟨d, s, c, h1, _⟩ := h
  have hb : b ≠ a := by
    rintro rfl
    rcases q with q | ⟨o', q⟩ <;> rw [h1] at q <;> cases q
  rcases q with q | ⟨o', q⟩
  · exact .inl (f b _ hb q)
  · exact .inr ⟨o', f b _ hb q⟩
theorem fr_t {K : PySem.W.Frag} {a b : Addr} {H H' : Hp} {xs : List V} (f : Fr a H H') (h : SrcAt H a) (s : SqT K H b xs) : SqT K H' b xs := tex_t (f.tex h) s
theorem fr_dp {K : PySem.W.Frag} {a : Addr} {H H' : Hp} {v : V} {d : PyData} (f : Fr a H H') (h : SrcAt H a) (hi : imm d = true) (s : Dp K H v d) : Dp K H' v d := dp_tex (f.tex h) hi s
section
variable {H : Hp} {v : V}
theorem r_set {p : Addr} {xs : List V} {k : Int} {j : Nat} {R : Hp → Prop} (h : H p = some (.lst xs)) (hj : ixN xs.length k = some j) (q : R (upd H p (.lst (xs.set j v)))) : rSetL (.ref p) (.int k) v H R := ⟨p, xs, k, j, rfl, rfl, h, hj, q⟩
theorem r_app {K : PySem.W.Frag} {p : Addr} {xs : List V} {Q : VK} (h : H p = some (.lst xs)) (hz : xs.length < sizeLine) (q : Q .non (upd H p (.lst (xs ++ [v])))) : rAppend (.ref p) [v] H Q := ⟨p, xs, v, rfl, rfl, h, hz, q⟩
end
/-- a built-in method of a list: its receiver stands -/
def BmI (K : PySem.W.Frag) (T : String) (r : V → List V → Hp → VK → Prop) (t : TA) (σ : L2.St) (x : V) (H1 : Hp) (Q : VK) : Prop := tyV K T x H1 ∧ t σ H1 fun xs H2 => r x xs H2 Q
theorem w_bm {K : PySem.W.Frag} {T : String} {r : V → List V → Hp → VK → Prop} {to : TE} {t : TA} {σ : L2.St} {H : Hp} {Q : VK} (h : to σ H fun x H1 => BmI K T r t σ x H1 Q) : tBM K T r to t σ H Q := h
theorem r_bmL {K : PySem.W.Frag} {r : V → List V → Hp → VK → Prop} {t : TA} {σ : L2.St} {p : Addr} {xs : List V} {H : Hp} {Q : VK} (h : SqL K H p xs) (q : t σ H fun vs H2 => r (.ref p) vs H2 Q) : BmI K "list" r t σ (.ref p) H Q := ⟨.inl ⟨rfl, xs, h⟩, q⟩
section
variable {H : Hp} {Q : VK}
theorem r_shr {i j : Int} (h0 : 0 ≤ j) (h : Q (.int (i / 2 ^ j.toNat)) H) : rShr (.int i) (.int j) H Q := ⟨i, j, rfl, rfl, h0, h⟩
theorem r_shl {i j : Int} (hc : CShl i j) (h : Q (.int (i * 2 ^ j.toNat)) H) : rShl (.int i) (.int j) H Q := ⟨i, j, rfl, rfl, hc, h⟩
theorem r_pow {i j : Int} (hc : CPow i j) (h : Q (.int (i ^ j.toNat)) H) : rPow (.int i) (.int j) H Q := ⟨i, j, rfl, rfl, hc, h⟩
end
end M

/-! ### part J: a def whose last statement is super().__init__(..) -/
namespace M
open PySem PySem.Spec PyProof.Rows L2 Evl
namespace MS
open NdefX ClX
theorem execs_app (a b : List Stmt) (env : Env) : execs (a ++ b) env = (do match ← execs a env with | .next => execs b env | f => pure f) := by
  induction a with
  | nil => rw [List.nil_append, execs_nil, pure_bind]
  | cons st a ih =>
    rw [List.cons_append, execs_cons, execs_cons, bind_assoc]
    congr 1
    funext f
    cases f with
    | next => exact ih
    | _ => rw [pure_bind]
/-- what super().__init__ needs of the text: the class at D, its cell cc, the code object cda, the next __init__ at f2 -/
structure SupOf (P : Program) (K : PySem.W.Frag) (mg : Str → Option Value) (D cc cda f2 : Addr) : Prop where
  cell : ∃ cl cld csl, K.lookup cc = some ⟨cl, cld, .cell (some (.ref D)), csl⟩
  cls : ∃ cd, PySem.W.clsIn K D = some cd
  sub : PySem.W.mroIn K D (.ref D) = some true
  code : ∃ ccl cdd vs ccs file tf, K.lookup cda = some ⟨ccl, cdd, .fields vs, ccs⟩ ∧ vs[2]? = some (.str file tf) ∧ ((P.main.file : Str) == file) = true
  gl : mg "super" = none
  any : PySem.W.nsIn K cStatics "thirdparty.any" = some none
  nx : PySem.W.ks_superIn K D D "__init__" = some (some (.ref f2))
  ty : PySem.W.typeIn K (.ref f2) = some (.type "function")
  fi : PySem.W.fnIn K f2 = true
  top : (P.main.scope.names.lookup ("super" : Str)).isSome = false
section
variable {X : Cx} {pins : List (Addr × Obj)} {σ : L2.St} {H : Hp} {s : Shared} {D cc cda f f2 x dx : Addr} {fs : List (Str × V)} {sp2 : Sp} {k2 : Nat} {R : Hp → Prop}
theorem super_stmt {pl : Sem Bool} {ta : TE} {body : List Stmt} {p0 p1 p2 p3 p4 : Pos} {arg : Expr} {fd : FuncData} {of : Obj} {ar : Arg} (U : SupOf X.prog X.K X.mg D cc cda f2) (F2 : FnR X.prog X.w X.K X.mg X.base CX0 k2 f2 sp2) (hr : Room k2 X.A)
    (hks : X.env.kindOf "super" = some .globalImplicit) (hkc : X.env.kindOf "__class__" = some .free) (hfu : X.env.func = some f) (hf : X.K.lookup f = some of) (hfd : of.data = .func fd)
    (hp : (fd.params.posonlyargs ++ fd.params.args).head? = some ar) (har : X.env.scope.names.lookup ar.arg = some .local) (hN : X.N[0]? = some ar.arg) (hco : X.env.code = .ref cda) (hcl : X.env.cells.lookup ("__class__" : Str) = some cc)
    (ha : PE X arg ta) (I : Inv X pins σ H s) (hσ : σ[0]? = some (some (.ref x))) (hx : H x = some (.ins D dx fs))
    (h : ta σ H fun v H2 => sp2 [.ref x, v] H2 (fun _ H3 => R H3) E0)
    (he : starEach [arg] X.env = (false, eval arg X.env) :: starEach [] X.env := by rfl) (hpl : (backTo p3 (starEach ([] : List Expr) X.env)).any (·.1) = false := by rfl)
    (ht : eval (.Call (.Attribute (.Call (.Name "super" p0) [] [] p1) "__init__" p2) [arg] [] p3) X.env = (do
      let ov ← attributeBase (.Call (.Name "super" p0) [] [] p1) "__init__" X.env (eval (.Call (.Name "super" p0) [] [] p1) X.env)
      standAt p2.atName
      let (f, first) ← holding [ov] (getMethod ov "__init__" pl)
      callWith p3 f first (backTo p3 (starEach [arg] X.env)) []) := by rfl)
    (hi : interactive X.env = false := by rfl) (hs : swapsWith (.Call (.Attribute (.Call (.Name "super" p0) [] [] p1) "__init__" p2) [arg] [] p3) none p4.line X.env = pure false := by rfl) :
    PySem.wpAt (model X.prog X.w) X.A (.func body X.env) (exec (.Expr (.Call (.Attribute (.Call (.Name "super" p0) [] [] p1) "__init__" p2) [arg] [] p3) p4) X.env) (fun fl s' => fl = .next ∧ ∃ H', Inv X pins σ H' s' ∧ R H') X.xe s := by
  obtain ⟨cl, cld, csl, hcell⟩ := U.cell
  obtain ⟨cd, hD⟩ := U.cls
  obtain ⟨ccl, cdd, vs, ccs, file, tf, hcode, hvs, hfile⟩ := U.code
  have KX := I.kIn
  obtain ⟨oD, hD1, hD2⟩ : ∃ oD, s.heap.get? D = some oD ∧ oD.data = .cls cd := by
    have hD' := hD
    unfold PySem.W.clsIn at hD'
    split at hD'
    · rename_i c d cd' sl ho
      cases hD'
      exact ⟨_, KX _ _ ho, rfl⟩
    · cases hD'
  obtain ⟨mA, O, _⟩ := ins_get I.hok hx
  obtain ⟨od, J, _⟩ := O.look
  refine ks_wpAt_Expr_any ?_ hi hs
  refine ks_wpAt_MethodCall (pl := pl) ?_ ht
  refine ks_wpAt_super_base (env := X.env) hks hkc rfl hfu (KX _ _ hf) hfd hp hco (KX _ _ hcode) rfl hvs hfile U.top ?_
  obtain ⟨mb, h1, h2⟩ := I.mod.blt
  refine PySem.W.ks_loadName_global I.ok.kind hks (Calls.loadGlobal_builtin (by rw [I.ok.glob]; exact I.mod.glob.keeps I.bk) U.gl (by rw [I.ok.blt]; exact h1.keeps I.bk) ((h2 "super" (by decide)).trans (by decide +kernel)) ⟨rfl, ?_⟩)
  refine wpAny_loadName_free I.ok.kind hkc hcl ⟨_, KX _ _ hcell, rfl⟩ ?_
  obtain ⟨m, hn, hl⟩ := id I.loc
  obtain ⟨u, ru, lo⟩ := hl 0 ar.arg (.ref x) hN hσ (.inl har)
  cases (show u = Value.ref x from ru)
  have hm : m ar.arg = some (.ref x) := by
    rcases lo with ⟨_, hm⟩ | ⟨hk, _⟩
    · exact hm
    · rcases hk with hk | hk
      · have : X.env.scope.names.lookup ar.arg = some .cell := hk
        rw [har] at this; cases this
      · have : X.env.scope.names.lookup ar.arg = some .free := hk
        rw [har] at this; cases this
  refine wpAny_loadName_local I.ok.kind har hn hm ?_
  refine ks_wpAny_isType_cls hD1 hD2 ⟨rfl, ?_⟩
  obtain ⟨hh, g, d, t, os⟩ := s
  refine ks_wpAny_call_super hD1 hD2 J.at_ J.cls (fun c e => ?_) (PySem.W.looks_mroIn KX U.sub) (fun h' e k => ?_)
  · have := J.no
    unfold PySem.W.notCls at this
    rw [e] at this
    exact Bool.noConfusion this
  have I1 := pin_new (t' := t) I k (Nat.le_refl _) e (fun v z => by cases z)
  have KX1 := I1.kIn
  have hnx := U.nx
  unfold PySem.W.ks_superIn at hnx
  rw [hD] at hnx
  obtain ⟨of2, hof, hofc⟩ : ∃ of, h'.get? f2 = some of ∧ of.cls = .type "function" := by
    have ht' : (X.K.lookup f2).map (·.cls) = some (.type "function") := U.ty
    cases z : X.K.lookup f2 with
    | none => rw [z] at ht'; cases ht'
    | some of => rw [z] at ht'; exact ⟨of, KX1 _ _ z, Option.some.inj ht'⟩
  refine ks_wpAny_getMethod_super (l₀ := cd.mro) e (PySem.W.looks_opaque KX1 U.any) ?_ rfl KX1 hnx hof hofc (PySem.W.ks_ne KX J hD) (by decide) ?_
  · exact fun A Q E s k q => wpAny_bind ((PySem.W.looks_clsIn KX1 hD) A _ E s k (wpAny_pure q))
  have I2 := met_new (g := f2) (C := x) I1
  have h' : tCons ta tNil σ H (fun vs H2 => sp2 (.ref x :: vs) H2 (fun _ H3 => R H3) E0) := h
  refine callwith_cm I2 (base_none I1 (Nat.le_refl _)) U.fi (thn ((pa_cons ha pa_nil he).run p3 _ _ σ H _ I2 h') fun us s3 ⟨vs', H2, I3, rv, q2⟩ => ⟨⟨pin_at I3, I3.kIn⟩, ?_⟩) he hpl
  refine thn (run_cm F2 hr pass0 I3 rv q2) fun u s4 ⟨w, H3, I4, _, q3⟩ => ⟨rfl, H3, unpin I4, q3⟩
end
/-- a def whose last statement is super().__init__(arg) keeps its promise -/
theorem fnsup {P : Program} {w : World} {K : PySem.W.Frag} {mg : Str → Option Value} {base : Heap} {name qual self : Str} {params : Arguments} {body pre : List Stmt} {scope : Scope} {f cc cda D f2 : Addr} {fd : FuncData} {N ps : List Str} {k k2 : Nat} {sp sp2 : Sp} {arg : Expr} {p0 p1 p2 p3 p4 : Pos} {ar : Arg}
    (F : FunS K name qual params body scope f fd cc cda) (U : SupOf P K mg D cc cda f2) (F2 : FnR P w K mg base CX0 k2 f2 sp2) (hk : k2 ≤ k)
    (hbody : body = pre ++ [.Expr (.Call (.Attribute (.Call (.Name "super" p0) [] [] p1) "__init__" p2) [arg] [] p3) p4])
    (S : NScope N (self :: ps) ["__class__"] scope) (hks : scope.names.lookup ("super" : Str) = some .globalImplicit)
    (hp : (params.posonlyargs ++ params.args).head? = some ar) (hs : ar.arg = self) (hN : N[0]? = some self)
    (len : ∀ vs H Q E, sp vs H Q E → vs.length = (self :: ps).length)
    (hgo : ∀ (A : Around) (outer : List Env) (s : Shared) (H : Hp) (vs : List V) (Q : VK) (E : XK), Room k (A.deeper (envF ⟨name, qual, params, body, scope, [("__class__", cc)], cda⟩ f s.heap.objs.size)) → sp vs H Q E →
      ∃ t ta, PSs (ncx CX0 P w K mg base N ⟨name, qual, params, body, scope, [("__class__", cc)], cda⟩ f A outer s H E).nox pre t ∧ PE (ncx CX0 P w K mg base N ⟨name, qual, params, body, scope, [("__class__", cc)], cda⟩ f A outer s H E).nox arg ta ∧
        t { nx := fun σ H' => ∃ x dx fs, σ[0]? = some (some (.ref x)) ∧ H' x = some (.ins D dx fs) ∧ ta σ H' fun v H2 => sp2 [.ref x, v] H2 (fun _ H3 => Q .non H3) E0, rt := fun _ _ => False } (startF N vs [some (.ref D)]) H)
    (hst : ∀ (X : Cx), starEach [arg] X.env = (false, eval arg X.env) :: starEach [] X.env := by intro _; rfl) (hpl : ∀ (X : Cx), (backTo p3 (starEach ([] : List Expr) X.env)).any (·.1) = false := by intro _; rfl)
    {pl : Cx → Sem Bool}
    (ht : ∀ (X : Cx), eval (.Call (.Attribute (.Call (.Name "super" p0) [] [] p1) "__init__" p2) [arg] [] p3) X.env = (do
      let ov ← attributeBase (.Call (.Name "super" p0) [] [] p1) "__init__" X.env (eval (.Call (.Name "super" p0) [] [] p1) X.env)
      standAt p2.atName
      let (f, first) ← holding [ov] (getMethod ov "__init__" (pl X))
      callWith p3 f first (backTo p3 (starEach [arg] X.env)) []) := by intro _; rfl)
    (hsw : ∀ (X : Cx), swapsWith (.Call (.Attribute (.Call (.Name "super" p0) [] [] p1) "__init__" p2) [arg] [] p3) none p4.line X.env = pure false := by intro _; rfl) :
    FnOk P w K mg base CX0 (k + 1) f fd (self :: ps) sp := by
  obtain ⟨oc, od, dV, kV, doc, pm, an, ct, osl, rfl, lk, hcd, _⟩ := F.ex
  refine ⟨len, fun A outer s H args us vs Q E hr e0 hb r hsp => ?_⟩
  have KX : K.In s.heap := e0.mod.kin.keeps fun b o e => (e0.bs b o e).1
  have hl := len _ _ _ _ hsp
  have lim : s.heap.NoLimit := e0.mod.nolimit.keeps fun b o e => (e0.bs b o e).1
  obtain ⟨cl, cld, csl, hcell⟩ := U.cell
  refine codeAny_call_function hr.depth (KX _ _ lk) rfl S.co S.gen rfl (PySem.W.codeRec_of KX hcd) (hb _ _ _ _ ?_)
  refine wpAny_newFunctionEnv S.nocell (fun ⟨n, _⟩ hy => S.par n (List.of_mem_zip hy).1) (fun h₁ hns hsb => ⟨lim.fresh _ hsb, ?_⟩) S.kind
  show codeAny _ _ (.func body (envF ⟨name, qual, params, body, scope, [("__class__", cc)], cda⟩ f s.heap.objs.size)) _ _
  refine ks_codeAny_funcAt ?_
  have kp : ∀ b o, s.heap.get? b = some o → h₁.get? b = some o := fun b o e => hsb.extBut b o (Nat.ne_of_lt (Heap.lt_size e)) (Heap.get?_push_of_some _ e)
  have hcc : H cc = none := (e0.bs _ _ (e0.mod.kin _ _ hcell)).2
  have look1 : ∀ y c, List.lookup y [(("__class__" : Str), cc)] = some c → y = "__class__" ∧ c = cc := fun y c e => by
    unfold List.lookup at e
    split at e
    · rename_i q
      cases e
      exact ⟨beq_iff_eq.mp q, rfl⟩
    · cases e
  have C : CellsAt [(("__class__" : Str), cc)] ["__class__"] [some (.ref D)] s.heap H := by
    refine ⟨rfl, fun y c e => ?_, fun x y c e e' => ?_, fun i y e => ?_⟩
    · obtain ⟨_, rfl⟩ := look1 y c e
      exact ⟨hcc, _, ⟨_, KX _ _ hcell, rfl⟩⟩
    · exact (look1 _ _ e).1.trans (look1 _ _ e').1.symm
    · rcases i with _ | i
      · cases e
        refine ⟨cc, by unfold List.lookup; rw [beq_self_eq_true], fun v e => ?_⟩
        cases e
        exact ⟨.ref D, rfl, ⟨_, KX _ _ hcell, rfl⟩⟩
      · cases e
  have hroom := hr.deeper (envF ⟨name, qual, params, body, scope, [("__class__", cc)], cda⟩ f s.heap.objs.size)
  obtain ⟨t, ta, h1, h2, h3⟩ := hgo A outer s H vs Q E hroom hsp
  have I : Inv (ncx CX0 P w K mg base N ⟨name, qual, params, body, scope, [("__class__", cc)], cda⟩ f A outer s H E) [] (startF N vs [some (.ref D)]) H { s with heap := h₁, toks := s.toks + ((self :: ps).zip us).length } := inv_startN S hr.hd e0 hl r C hns kp
  have ebody : execs body (envF ⟨name, qual, params, body, scope, [("__class__", cc)], cda⟩ f s.heap.objs.size) = execs (pre ++ [.Expr (.Call (.Attribute (.Call (.Name "super" p0) [] [] p1) "__init__" p2) [arg] [] p3) p4]) (envF ⟨name, qual, params, body, scope, [("__class__", cc)], cda⟩ f s.heap.objs.size) := congrArg (fun b => execs b _) hbody
  rw [ebody, execs_app]
  refine _root_.PySem.wpAt_bind (_root_.PySem.wpAt_of_wpAny (wpAny_mono (h1.nox.run [] _ _ H _ I h3) (fun fl s' hs' => ?_) fun e s' he => he))
  have fin : ∀ {σ' : L2.St} {H' : Hp} {v : V} {u : Value} {s' : Shared}, Inv (ncx CX0 P w K mg base N ⟨name, qual, params, body, scope, [("__class__", cc)], cda⟩ f A outer s H E) [] σ' H' s' → L2.RelV v u → Q v H' → CE outer P w H s Q u s' :=
    fun {σ' H' v u s'} J rv q => ⟨v, H', J.os, J.bare, J.base, J.hok, rv, q⟩
  cases fl with
  | ret u =>
    obtain ⟨_, _, _, _, _, q⟩ := hs'
    exact q.elim
  | next =>
    obtain ⟨σ', H', J, x, dx, fs, hσ, hx, hta⟩ := hs'
    refine ks_wpAt_execs_cons (ks_wpAt_mono (super_stmt (X := ncx CX0 P w K mg base N ⟨name, qual, params, body, scope, [("__class__", cc)], cda⟩ f A outer s H E) (f := f) (cda := cda) (cc := cc) (D := D) (R := fun H3 => Q .non H3) U F2 (hroom.mono hk) hks (S.frk _ List.mem_cons_self) rfl lk rfl hp (by rw [hs]; exact S.par _ List.mem_cons_self) (by rw [hs]; exact hN) rfl (by show List.lookup ("__class__" : Str) [(("__class__" : Str), cc)] = some cc; unfold List.lookup; rw [beq_self_eq_true]) h2.nox J hσ hx hta (hst _) (hpl _) (ht _) (by show interactive (envF ⟨name, qual, params, body, scope, [("__class__", cc)], cda⟩ f s.heap.objs.size) = false; unfold interactive; rw [show (envF ⟨name, qual, params, body, scope, [("__class__", cc)], cda⟩ f s.heap.objs.size).scope.kind = .function from S.kind]; first | rfl | decide) (hsw _)) (fun fl2 s2 h4 => ?_) fun e s2 h4 => h4)
    obtain ⟨rfl, H3, J3, q3⟩ := h4
    exact _root_.PySem.wpAt_of_wpAny (wpAny_pure (fin (v := .non) (u := Value.none) J3 rfl q3))
  | brk =>
    obtain ⟨_, _, _, q⟩ := hs'
    exact q.elim
  | cont =>
    obtain ⟨_, _, _, q⟩ := hs'
    exact q.elim
end MS
open MS
/-- what the text must have for super().__init__, told by a Bool -/
def cellB (K : PySem.W.Frag) (c D : Addr) : Bool := match K.lookup c with
  | some ⟨_, _, .cell (some (.ref d)), _⟩ => d == D
  | _ => false
theorem cellB_ok {K : PySem.W.Frag} {c D : Addr} (h : cellB K c D = true) : ∃ cl cld csl, K.lookup c = some ⟨cl, cld, .cell (some (.ref D)), csl⟩ := by
  unfold cellB at h
  split at h
  · rename_i e
    rw [beq_iff_eq.mp h] at e
    exact ⟨_, _, _, e⟩
  · cases h
def codeB (mf : Str) (K : PySem.W.Frag) (c : Addr) : Bool := match K.lookup c with
  | some ⟨_, _, .fields vs, _⟩ => (match (vs[2]? : Option Value) with
    | some (Value.str f _) => mf == f
    | _ => false)
  | _ => false
theorem codeB_ok {mf : Str} {K : PySem.W.Frag} {c : Addr} (h : codeB mf K c = true) : ∃ ccl cdd vs ccs file tf, K.lookup c = some ⟨ccl, cdd, .fields vs, ccs⟩ ∧ vs[2]? = some (.str file tf) ∧ (mf == file) = true := by
  unfold codeB at h
  split at h
  · rename_i e
    split at h
    · rename_i e2
      exact ⟨_, _, _, _, _, _, e, e2, h⟩
    · cases h
  · cases h
def someNone (o : Option (Option Value)) : Bool := match o with
  | some none => true
  | _ => false
theorem someNone_ok {o : Option (Option Value)} (h : someNone o = true) : o = some none := by
  unfold someNone at h
  split at h
  · rfl
  · cases h
def supB0 (mf : Str) (K : PySem.W.Frag) (D f f2 : Addr) : Bool := cellB K (cellOf K f) D && ((PySem.W.clsIn K D).isSome && (decide (PySem.W.mroIn K D (.ref D) = some true) && (codeB mf K (codeOf K f) && (someNone (PySem.W.nsIn K cStatics "thirdparty.any") &&
  (He.eqO (PySem.W.ks_superIn K D D "__init__") (some (some (.ref f2))) && (decide (PySem.W.typeIn K (.ref f2) = some (.type "function")) && PySem.W.fnIn K f2))))))
theorem supB0_ok {P : Program} {K : PySem.W.Frag} {mg : Str → Option Value} {D f f2 : Addr} (mf : Str) (pf : ((P.main.file : Str) == mf) = true) (top : (P.main.scope.names.lookup ("super" : Str)).isSome = false) (gl : mg "super" = none) (h : supB0 mf K D f f2 = true) : SupOf P K mg D (cellOf K f) (codeOf K f) f2 := by
  unfold supB0 at h
  simp only [Bool.and_eq_true] at h
  obtain ⟨h1, h2, h3, h4, h5, h6, h7, h8⟩ := h
  refine ⟨cellB_ok h1, Option.isSome_iff_exists.mp h2, of_decide_eq_true h3, ?_, gl, someNone_ok h5, He.eqO_ok h6, of_decide_eq_true h7, h8, top⟩
  rw [beq_iff_eq.mp pf]
  exact codeB_ok h4
theorem FunS.bindsN {K : PySem.W.Frag} {x qual : Str} {params : Arguments} {body : List Stmt} {scope : Scope} {f cc cda : Addr} {fd : FuncData} {ps : List Str} (F : FunS K x qual params body scope f fd cc cda)
    (h : ∀ (kV doc pm : Value) (an : Option Addr) (cdv ct : Value) (us : List Value), us.length = ps.length → bindArgs (PySem.W.ksFn x qual params body scope .none kV doc pm an cdv ct cc) ⟨us, []⟩ = pure (ps.zip us)) : Binds K fd ps [] := by
  obtain ⟨oc, od, dV, kV, doc, pm, an, ct, osl, rfl, lk, hcd, hD⟩ := F.ex
  rcases hD with ⟨_, rfl⟩ | ⟨e, _⟩
  · exact .all (h kV doc pm an (.ref cda) ct)
  · exact absurd rfl e
end M

/-! ### part K: the greatest of three ints, the least of a list, truth of an instance -/
namespace M
open PySem PySem.Spec PyProof.Rows L2 Evl
section
variable {X : Cx} {H : Hp} {Q : VK}
def rMax3U : List V → Hp → VK → Prop := fun xs H Q => ∃ i j k, xs = [.int i, .int j, .int k] ∧ Q (.int (max (max i j) k)) H
theorem xMax3 (hc : X.calm = true) : CallR X (.builtin "max") rMax3U := by
  intro pins s σ H xs us Q I r h
  obtain ⟨i, j, k, rfl, q⟩ := h
  have m2 : ∀ a b : Int, nuMax2 (.int a) (.int b) = some (.int (max a b)) := fun a b => by
    show Option.map _ (some (decide (a < b))) = _
    by_cases c : a < b
    · rw [decide_eq_true c, Int.max_eq_right (by omega)]; rfl
    · rw [decide_eq_false c, Int.max_eq_left (by omega)]; rfl
  exact call_max3Nu hc pins s σ H _ us Q I r ⟨_, _, _, _, rfl, by unfold nuMax3; rw [m2]; exact m2 _ _, q⟩
theorem r_max3 {i j k : Int} (q : Q (.int (max (max i j) k)) H) : rMax3U [.int i, .int j, .int k] H Q := ⟨i, j, k, rfl, q⟩
theorem kMinL (K : PySem.W.Frag) (hc : X.calm = true) (h : X.K = K := by rfl) : CallR X (.builtin "min") (rMin K) := by subst h; exact cr_min hc
theorem kMaxL (K : PySem.W.Frag) (hc : X.calm = true) (h : X.K = K := by rfl) : CallR X (.builtin "max") (rMax K) := by subst h; exact cr_max hc
theorem r_minL {K : PySem.W.Frag} {a : Addr} {ns : List Int} (h : SqL K H a (vI ns)) (hn : 0 < ns.length) (q : ∀ m, m ∈ ns → (∀ y, y ∈ ns → m ≤ y) → Q (.int m) H) : rMin K [.ref a] H Q := ⟨a, ns, rfl, h, hn, q⟩
theorem r_maxL {K : PySem.W.Frag} {a : Addr} {ns : List Int} (h : SqL K H a (vI ns)) (hn : 0 < ns.length) (q : ∀ m, m ∈ ns → (∀ y, y ∈ ns → y ≤ m) → Q (.int m) H) : rMax K [.ref a] H Q := ⟨a, ns, rfl, h, hn, q⟩
end
end M

/-! ### part L: static methods of a class -/
namespace M
open PySem PySem.Spec PyProof.Rows L2 Evl
def smF (x m : Str) (K : PySem.W.Frag) : Addr := match PySem.W.recIn K (He.ma K (He.ga K x) m) "staticmethod" with
  | some (.ref f :: _) => f
  | _ => 0
structure SMet (K : PySem.W.Frag) (C : Addr) (m : Str) (p g : Addr) : Prop where
  rd : ClX.CRead K C (.type "type")
  at_ : PySem.W.findCls K (.ref C) (.type "type") m = some (.get (.builtin "staticmethod.__get__") (.ref p) .none (.ref C))
  rc : ∃ rest, PySem.W.recIn K p "staticmethod" = some (.ref g :: rest)
  kp : PySem.W.keepIn K (.ref g) = true
def smB (x m : Str) (K : PySem.W.Frag) : Bool := (match PySem.W.findCls K (.ref (He.ga K x)) (.type "type") m with
    | some (.get (.builtin g) (.ref p) .none (.ref D)) => decide (g = "staticmethod.__get__") && (decide (p = He.ma K (He.ga K x) m) && decide (D = He.ga K x))
    | _ => false) && ((match PySem.W.recIn K (He.ma K (He.ga K x) m) "staticmethod" with
    | some (.ref _ :: _) => true
    | _ => false) && (PySem.W.keepIn K (.ref (smF x m K)) && (PySem.W.readsIn K (He.ga K x) (.type "type") && He.eqO (PySem.W.specialIn K (.ref (He.ga K x)) "__getattribute__") (some (some (.builtin "type.__getattribute__"))))))
theorem smB_ok {x m : Str} {K : PySem.W.Frag} (h : smB x m K = true) : SMet K (He.ga K x) m (He.ma K (He.ga K x) m) (smF x m K) := by
  obtain ⟨h1, h⟩ := Bool.and_eq_true_iff.mp h
  obtain ⟨h2, h⟩ := Bool.and_eq_true_iff.mp h
  obtain ⟨h3, h⟩ := Bool.and_eq_true_iff.mp h
  obtain ⟨h4, h5⟩ := Bool.and_eq_true_iff.mp h
  refine ⟨⟨h4, He.eqO_ok h5⟩, ?_, ?_, h3⟩
  · clear h2 h3
    split at h1
    · rename_i g p D e
      obtain ⟨k1, k⟩ := Bool.and_eq_true_iff.mp h1
      obtain ⟨k2, k3⟩ := Bool.and_eq_true_iff.mp k
      rw [e, of_decide_eq_true k1, of_decide_eq_true k2, of_decide_eq_true k3]
    · cases h1
  · unfold smF
    split at h2
    · rename_i f r e
      exact ⟨r, by rw [e]⟩
    · cases h2
/-- C.m(..), m a staticmethod of the class at C -/
def tSMeth (C : Addr) (sp : Sp) (E : XK) (ta : TE) (t : TA) : TE := fun σ H Q => ta σ H fun x H1 => x = .ref C ∧ t σ H1 fun vs H2 => sp vs H2 Q E
theorem w_smeth {C : Addr} {sp : Sp} {E : XK} {t : TA} {σ : L2.St} {H : Hp} {Q : VK} (h : t σ H fun vs H2 => sp vs H2 Q E) : tSMeth C sp E (tC (.ref C)) t σ H Q := ⟨rfl, h⟩
structure Stm (P : Program) (w : World) (K : PySem.W.Frag) (mg : Str → Option Value) (base : Heap) (k : Nat) (C : Addr) (m : Str) (sp : Sp) : Prop where
  ex : ∃ (p g : Addr) (fd : FuncData) (ps : List Str), SMet K C m p g ∧ FnOk P w K mg base CX0 k g fd ps sp ∧ Binds K fd ps []
section
variable {X : Cx} {CX : CXT} {k j : Nat} {C p g : Addr} {sp : Sp} {E : XK} {o e : Expr} {es : List Expr} {m : Str} {pos apos : Pos} {ta : TE} {t : TA} {pl : Sem Bool}
theorem pe_smeth (he : PE X o ta) (c : SMet X.K C m p g) (F : FnR X.prog X.w X.K X.mg X.base CX k g sp) (hr : Room k X.A) (hx : Passes CX X E) (ha : PA X (e :: es) t)
    (hst : starEach (e :: es) X.env = (false, eval e X.env) :: starEach es X.env := by rfl) (hpl : (backTo pos (starEach es X.env)).any (·.1) = false := by rfl)
    (ht : eval (.Call (.Attribute o m apos) (e :: es) [] pos) X.env = (do
      let ov ← eval o X.env
      standAt apos.atName
      let (f, first) ← holding [ov] (getMethod ov m pl)
      callWith pos f first (backTo pos (starEach (e :: es) X.env)) (backToKw pos (keywordEach [] X.env))) := by rfl) :
    PE X (.Call (.Attribute o m apos) (e :: es) [] pos) (tSMeth C sp E ta t) := by
  refine ⟨fun pins s σ H Q I h => ?_⟩
  refine PySem.W.methodCall_KW (pl := pl) (thn (he.run pins s σ H _ I h) fun u s1 ⟨x, H1, I1, rx, ex, q⟩ => ?_) ht
  subst ex
  obtain rfl : u = Value.ref C := rx
  obtain ⟨rest, hp⟩ := c.rc
  refine PySem.W.method_cls I1.kIn c.rd.ga (PySem.W.cls_bind I1.kIn c.rd.rd c.at_ ?_)
  refine wpAny_call (PySem.W.sm_get (s := { s1 with toks := s1.toks + 1 }) I1.kIn hp (PySem.W.handed_on rfl ?_))
  have I2 := I1.tok (s1.toks + 1)
  refine PySem.W.callWith_K (h₀ := X.base) I.ok.mod.kin c.kp (thn (ha.run pos pins _ σ H1 _ I2 q) fun us s3 ⟨vs, H2, I3, rv, q2⟩ => ⟨I3.kIn, ?_⟩) hst hpl
  exact wpAny_call (run_fnR F hr hx I3 rv q2)
theorem psm (c : Stm X.prog X.w X.K X.mg X.base k C m sp) (hr : Room j X.A) (hk : k ≤ j) (he : PE X o ta) (ha : PA X (e :: es) t)
    (hst : starEach (e :: es) X.env = (false, eval e X.env) :: starEach es X.env := by rfl) (hpl : (backTo pos (starEach es X.env)).any (·.1) = false := by rfl)
    (ht : eval (.Call (.Attribute o m apos) (e :: es) [] pos) X.env = (do
      let ov ← eval o X.env
      standAt apos.atName
      let (f, first) ← holding [ov] (getMethod ov m pl)
      callWith pos f first (backTo pos (starEach (e :: es) X.env)) (backToKw pos (keywordEach [] X.env))) := by rfl) :
    PE X (.Call (.Attribute o m apos) (e :: es) [] pos) (tSMeth C sp E0 ta t) := by
  obtain ⟨p, g, fd, ps, sm, F, hb⟩ := c.ex
  exact pe_smeth (pl := pl) he sm ((F.raw hb .nil).imp fun vs H Q E h => by rw [List.append_nil]; exact h) (hr.mono hk) pass0 ha hst hpl ht
end
end M

namespace M
open PySem PySem.Spec PyProof.Rows L2 Evl MS
--@import HandS.Text
--@import HandS.Iter
--@import HandS.Walk
/-! texts: comparing, joining, splitting, reading and writing numbers, walking the signs -/
def rLeU : R2 := fun x y H Q => rI0 (fun i j => .bl (decide (i ≤ j))) x y H Q ∨ ∃ i j, x = .str i ∧ y = .str j ∧ Q (.bl (!decide (j.cps.toList < i.cps.toList))) H
theorem xLeS {X : Cx} : OpR X (compareOp .LtE) rLeU := op_le.or op_le_str
def rJoin (K : PySem.W.Frag) : V → List V → Hp → VK → Prop := fun x xs H Q => ∃ a p, ∃ ys : List Str, x = .str a ∧ xs = [.ref p] ∧ (SqL K H p (ys.map V.str) ∨ SqT K H p (ys.map V.str)) ∧ (ys.map (·.length)).sum + ys.length * a.length ≤ 16777216 ∧ Q (.str (Txt.join a ys)) H
def rSplit : V → List V → Hp → VK → Prop := fun x xs H Q => ∃ a b, x = .str a ∧ xs = [.str b] ∧ (b.length == 0) = false ∧ a.length + 2 ≤ sizeLine ∧ rNewStrs (Txt.split a b) H Q
section
variable {X : Cx} {o e : Expr} {to te : TE} {apos pos : Pos}
theorem kJoin (K : PySem.W.Frag) (ho : PE X o to) (he : PE X e te) (hs : starEach [e] X.env = [(false, eval e X.env)] := by rfl) (hbase : attributeBase o "join" X.env (eval o X.env) = eval o X.env := by rfl) (hline : (apos.endLine == pos.line) = true := by rfl) (h : X.K = K := by rfl) :
    PE X (.Call (.Attribute o "join" apos) [e] [] pos) (tM1 (rJoin K) to te) := by subst h; exact pe_join ho he hs hbase hline
theorem xSplit (ho : PE X o to) (he : PE X e te) (hs : starEach [e] X.env = [(false, eval e X.env)] := by rfl) (hbase : attributeBase o "split" X.env (eval o X.env) = eval o X.env := by rfl) (hline : (apos.endLine == pos.line) = true := by rfl) :
    PE X (.Call (.Attribute o "split" apos) [e] [] pos) (tM1 rSplit to te) := pe_split ho he hs hbase hline
end
def rIntS : List V → Hp → VK → Prop := fun xs H Q => ∃ a n, xs = [.str a] ∧ PySem.intText? a = some n ∧ a.length ≤ 640 ∧ Q (.int n) H
theorem xIntS {X : Cx} : CallR X (.type "int") rIntS := call_int_str
def rStrI : List V → Hp → VK → Prop := fun xs H Q => ∃ i, xs = [.int i] ∧ i.natAbs.log2 < 1920 ∧ Q (.str (toString i)) H
theorem xStrI {X : Cx} : CallR X (.type "str") rStrI := call_str_int
def rLenS : List V → Hp → VK → Prop := fun xs H Q => ∃ z, xs = [.str z] ∧ z.length ≤ sizeLine ∧ Q (.int z.length) H
theorem xLenS {X : Cx} : CallR X (.builtin "len") rLenS := call_len_str
theorem kFldAug (K : PySem.W.Frag) {X : Cx} {o value : Expr} {f : Str} {op : Operator} {pos tpos : Pos} {ta tv : TE} {rd : V → V → Hp → VK → Prop} (ha : PE X o ta) (hv : PE X value tv) (hop : InOp X op rd) (h : X.K = K := by rfl) : PS X (.AugAssign (.Attribute o f tpos) op value pos) (sFldAug K ta tv rd f) := by
  subst h
  exact ps_fldaug ha hv hop
section
variable {K : PySem.W.Frag} {H : Hp} {Q : VK} {σ : L2.St}
theorem r_leUI {i j : Int} (h : Q (.bl (decide (i ≤ j))) H) : rLeU (.int i) (.int j) H Q := .inl ⟨i, j, rfl, rfl, h⟩
theorem r_leUS {i j : Str} (h : Q (.bl (!decide (j.cps.toList < i.cps.toList))) H) : rLeU (.str i) (.str j) H Q := .inr ⟨i, j, rfl, rfl, h⟩
theorem w_m1 {r : V → List V → Hp → VK → Prop} {to te : TE} (h : to σ H fun x H1 => (∃ a, x = .str a) ∧ te σ H1 fun y H2 => r x [y] H2 Q) : tM1 r to te σ H Q := h
theorem r_joinL {a : Str} {p : Addr} {ys : List Str} (h : SqL K H p (ys.map V.str)) (hz : (ys.map (·.length)).sum + ys.length * a.length ≤ 16777216) (q : Q (.str (Txt.join a ys)) H) : rJoin K (.str a) [.ref p] H Q := ⟨a, p, ys, rfl, rfl, .inl h, hz, q⟩
theorem r_split {a b : Str} (hb : (b.length == 0) = false) (hz : a.length + 2 ≤ sizeLine) (q : ∀ p H1, H p = none → Ex H H1 → H1 p = some (.lst ((Txt.split a b).map V.str)) → Q (.ref p) H1) : rSplit (.str a) [.str b] H Q :=
  ⟨a, b, rfl, rfl, hb, hz, fun p hp => q p _ hp (Ex.new hp) upd_same⟩
theorem r_strI {i : Int} (hz : i.natAbs.log2 < 1920) (q : Q (.str (toString i)) H) : rStrI [.int i] H Q := ⟨i, rfl, hz, q⟩
theorem r_intS {a : Str} {n : Int} (hn : PySem.intText? a = some n) (hz : a.length ≤ 640) (q : Q (.int n) H) : rIntS [.str a] H Q := ⟨a, n, rfl, hn, hz, q⟩
theorem r_lenS {a : Str} (hz : a.length ≤ sizeLine) (q : Q (.int a.length) H) : rLenS [.str a] H Q := ⟨a, rfl, hz, q⟩
theorem r_ixS {z : Str} {i : Int} {c : Nat} (hz : z.length ≤ sizeLine) (ha : atI z.cps.toList i = some c) (q : Q (.str ⟨#[c]⟩) H) : rIx K (.str z) (.int i) H Q := .inr (.inr ⟨z, i, c, rfl, rfl, hz, ha, q⟩)
theorem w_fldAug {a C dx dx' : Addr} {fs fs' : List (Str × V)} {ta tv : TE} {rd : V → V → Hp → VK → Prop} {f : Str} {D : Ends}
    (h : ta σ H fun x H1 => ∃ a C dx fs v, x = .ref a ∧ H1 a = some (.ins C dx fs) ∧ Cls K C ∧ NoAttr K C f ∧ fs.lookup f = some v ∧ tv σ H1 fun y H2 => rd v y H2 fun z H3 => ∃ dx' fs', H3 a = some (.ins C dx' fs') ∧ fs'.length < 1000 ∧ D.nx σ (upd H3 a (.ins C dx' (putF f z fs')))) : sFldAug K ta tv rd f D σ H := h
theorem i_str {te : TE} {R : It → Hp → Prop} (h : te σ H fun v H1 => ∃ x, v = .str x ∧ R (Its x) H1) : iStr te σ H R := h
/-- a comprehension over a text's signs -/
theorem lcJ_str {z : Str} {j : Nat} {te : TE} {vs : List Nat} (v : Nat → V) (hn : z.cps.size ≤ 100000) (σ' : V → L2.St) (hσ : ∀ x, (wipe σ vs).set j (some x) = σ' x) (hw : ∀ x, wipe ((wipe σ vs).set j (some x)) vs = wipe σ vs)
    (he : ∀ (c : Nat) (H1 : Hp) (Q' : VK), Ex H H1 → c ∈ z.cps.toList → (∀ H2, Ex H1 H2 → Q' (v c) H2) → te (σ' (.str ⟨#[c]⟩)) H1 Q')
    (hq : ∀ p H2, H p = none → Ex H H2 → H2 p = some (.lst (z.cps.toList.map v)) → Q (.ref p) H2) : LcJ (Its z) (gName j) tYes te vs σ H Q := fun D hD => by
  have hsz : z.cps.toList.length = z.cps.size := Array.length_toList
  have key := lc_it (J := Its z) (n := z.cps.size) (G := fun _ => True) (Y := fun i H x H' => H' = H ∧ ∃ c, z.cps[i]? = some c ∧ x = .str ⟨#[c]⟩) ⟨fun _ _ hi _ => hi, fun _ _ => Nat.le_refl _, fun _ _ _ _ _ _ y => y⟩
    (g := gName j) (tt := tYes) (te := te) (vs := vs) (σ := σ) (H1 := H) (D := D) (Qd := Q (.ref D)) (fun i H' => Ex H H' ∧ H' D = some (.lst ((z.cps.toList.take i).map v))) ⟨Ex.new hD, upd_same⟩ (fun _ _ _ _ => trivial) ?_ (fun H' p => hq D H' hD p.1 (by
      have e := p.2
      rwa [← hsz, List.take_length] at e))
  · exact key
  · rintro i x H' H'' hi p ⟨rfl, c, hc, rfl⟩
    refine ⟨hw _, ?_⟩
    show te ((wipe σ vs).set j _) H'' _
    rw [hσ]
    have hcl : z.cps.toList[i]? = some c := by rw [Array.getElem?_toList]; exact hc
    refine he c H'' _ p.1 (List.mem_of_getElem? hcl) fun H2 e2 => ⟨(z.cps.toList.take i).map v, e2 D _ p.2, sz_lt (by rw [List.length_map, List.length_take]; omega), Ex.mut (p.1.trans e2) hD, ?_⟩
    rw [List.take_add_one, hcl, List.map_append]
    exact upd_same
end

end M
namespace M
open PySem PySem.Spec PyProof.Rows L2 Evl MS
--@import PyProof.Draws
--@import HandS.Iter
/-! enumerate of a text -/
/-- the signs of x, each with its place in a new pair -/
def Ites (x : Str) : It :=
  ⟨fun i _ => i < x.cps.size, fun i H v H' => ∃ T c, v = .ref T ∧ H T = none ∧ H' = upd H T (.tup [.int (i : Nat), .str ⟨#[c]⟩]) ∧ x.cps[i]? = some c, fun i _ => x.cps.size ≤ i⟩
theorem turn_enumS {P : Program} {w : World} {K : PySem.W.Frag} {elts : List Expr} {kk : Nat} {tpos : Pos} (e it : Addr) (x : Str) (t : Tok) (ty : String) (hty : ty = "str_ascii_iterator" ∨ ty = "str_iterator") :
    Turn P w K (.Tuple elts kk tpos) (Ites x) [e, it] e (fun i h => (∃ old, IsEnum h e it ((i : Nat) : Int) old) ∧ h.IsStrIter it ty x t i ∧ e ≠ it) where
  mem := by simp
  obj := fun i h st b hb => by
    obtain ⟨⟨old, he⟩, ⟨o, ho, hc, hd⟩, _⟩ := st
    have e' : b = e ∨ b = it := by simpa using hb
    rcases e' with z | z
    · rw [z]; exact ⟨_, he, fun v q => nomatch q⟩
    · rw [z]; exact ⟨o, ho, fun v q => by rw [hd] at q; cases q⟩
  keep := fun i h h' st k => let ⟨⟨old, he⟩, ⟨o, ho, r⟩, hne⟩ := st; ⟨⟨old, k e (by simp) _ he⟩, ⟨o, k it (by simp) o ho, r⟩, hne⟩
  item := by
    intro X hP hw hK hc i pins s σ H E I hf st hg
    subst hP hw hK
    obtain ⟨⟨old, he⟩, hit, hne⟩ := st
    have hel : e < s.heap.objs.size := Heap.lt_size he
    have hil : it < s.heap.objs.size := by obtain ⟨_, q, _⟩ := hit; exact Heap.lt_size q
    have D : Draws X.prog X.w X.A.in1 it [it] x.cps.size (fun i v => ∃ c u, x.cps[i]? = some c ∧ v = .str ⟨#[c]⟩ u) (fun i h => h.IsStrIter it ty x t i) := by
      rcases hty with q | q
      · rw [q]; exact Draws.strAscii (show X.A.in1.handled = none from I.ok.hd hc) it x t
      · rw [q]; exact Draws.strWide (show X.A.in1.handled = none from I.ok.hd hc) it x t
    refine wpAny_pyNext_enum_itemD D he hit hg hne (by simpa using hne) fun u h' tk hP ho hit' hT hsz hk => ?_
    obtain ⟨c, tu, hcx, rfl⟩ := hP
    refine ⟨_, rfl, wpAny_letOwnedTupleGo_enum (s := { s with heap := h', toks := tk + 1 }) ho fun h'' he' sb => ?_⟩
    have hT2 : h''.get? s.heap.objs.size = some { cls := .type "tuple", data := .seq #[.int i tk, .str ⟨#[c]⟩ tu] } := (sb.2 _ (Nat.ne_of_gt hel)).trans hT
    have new : ObjOk X.prog X.w (upd H s.heap.objs.size (.tup [.int (i : Nat), .str ⟨#[c]⟩])) h'' s.heap.objs.size (.tup [.int (i : Nat), .str ⟨#[c]⟩]) :=
      ⟨by show 2 ≤ sizeLine; decide, [.int i tk, .str ⟨#[c]⟩ tu], .cons ⟨_, rfl⟩ (.cons ⟨_, rfl⟩ .nil), ⟨_, hT2, rfl, _, rfl⟩⟩
    have I1 : Inv X pins σ (upd H s.heap.objs.size (.tup [.int (i : Nat), .str ⟨#[c]⟩])) { s with heap := h'', toks := tk + 1 } :=
      I.turnedNew (ch := [e, it]) (fun b o hb q => (sb.2 b (fun z => hb (by simp [z]))).trans (hk b o (fun z => hb (by simp [z])) (fun z => hb (by simp [z])) q)) hf (Nat.le_refl _) new
    refine ⟨.ref s.heap.objs.size, _, I1, rfl, ⟨_, c, rfl, I.hok.fresh (Nat.le_refl _), rfl, hcx⟩, ⟨⟨.str ⟨#[c]⟩ tu, ?_⟩, ?_, hne⟩, fun b hb => ?_⟩
    · have e1 : ((i + 1 : Nat) : Int) = (i : Int) + 1 := by omega
      rw [e1]; exact he'
    · obtain ⟨o, ho2, r⟩ := hit'
      exact ⟨o, (sb.2 it (Ne.symm hne)).trans ho2, r⟩
    · have hb' : b < s.heap.objs.size := by
        have e' : b = e ∨ b = it := by simpa using hb
        rcases e' with z | z
        · rw [z]; exact hel
        · rw [z]; exact hil
      rw [upd_ne (Nat.ne_of_lt hb')]
      exact (hf b hb).1
  done := by
    intro X hP hw hK hc i pins s σ H E I hf st hg
    subst hP hw hK
    obtain ⟨⟨old, he⟩, hit, hne⟩ := st
    obtain ⟨f0, f1, f2, f3, f4, f5⟩ := hf it (by simp)
    have hx : x.cps[i]? = none := Array.getElem?_eq_none hg
    have hT : s.TypeIs (.ref e) "enumerate" := ⟨_, he, rfl⟩
    have fin : ∀ h', Heap.ExtBut it s.heap h' → Inv X pins σ H { s with heap := h' } := fun h' eb => I.turned (t' := s.toks) (fun b o hb q => eb b o hb q) f0 f1 f3 f4 f5
    unfold pyNext
    refine wpAny_bind (wpAny_attempt (wpAny_callSpecial?_slot (name := Str.ofString "__next__") hT F.slot_enumerate_next
      (wpAny_call_entry F.slot_enumerate_next hT F.entry_enumerate_next ?_ (F.args_enumerate_next_1 _))))
    show wpAny _ _ (field (.ref e) 2 >>= _) _ _ _
    refine wpAny_bind (wpAny_field he rfl (x := .ref it) rfl ?_)
    rcases hty with q | q
    · rw [q] at hit
      refine wpAny_bind (wpAny_nextOf_ascii_end (I.ok.hd hc) hit hx fun h' z he' hx' => ?_)
      obtain ⟨o, ho, hc'⟩ := hx'
      refine wpAny_bind (wpAny_isInstance (T := "StopIteration") (b := true) ⟨o, ho, hc'⟩ isSubtype_stop ?_)
      exact wpAny_pure ⟨rfl, fin h' he'⟩
    · rw [q] at hit
      refine wpAny_bind (wpAny_nextOf_wide_end (I.ok.hd hc) hit hx fun h' z he' hx' => ?_)
      obtain ⟨o, ho, hc'⟩ := hx'
      refine wpAny_bind (wpAny_isInstance (T := "StopIteration") (b := true) ⟨o, ho, hc'⟩ isSubtype_stop ?_)
      exact wpAny_pure ⟨rfl, fin h' he'⟩
  self := fun A i s Q E st h => let ⟨⟨_, he⟩, _⟩ := st; wpAny_pyIter_enum he h
def iEnumS (ta : TA) : TI := fun σ H R => ta σ H fun vs H1 => ∃ x, vs = [.str x] ∧ R (Ites x) H1
theorem pi_enumS {X : Cx} {e : Expr} {ta : TA} {p pos tpos : Pos} {elts : List Expr} {kk : Nat} (hg : Gl X "enumerate") (hm : X.mg "enumerate" = none) (ha : PA X [e] ta) (hs : starEach [e] X.env = [(false, eval e X.env)] := by rfl) :
    PI X (.Tuple elts kk tpos) (.Call (.Name "enumerate" p) [e] [] pos) (iEnumS ta) := by
  refine ⟨fun pins s σ H R I h => ?_⟩
  refine Call_ (ld_blt I hg hm boot_enumerate (PyProof.Rows.callWith_type1 (thn (ha.run pos pins s σ H _ I h) fun us s1 ⟨vs, H1, I1, r1, q1⟩ => ?_) hs rfl))
  obtain ⟨x, ex, q⟩ := q1
  subst ex
  cases r1 with
  | cons r rr =>
    cases rr
    obtain ⟨t, rfl⟩ := r
    refine call_enumerate_str fun h' he hit hsz hk => wpAny_pyIter_enum he ?_
    have I2 : Inv X pins σ H1 { s1 with heap := h' } := I1.kept (t' := s1.toks) hk
    have hty : (if x.cps.all (· < 128) then "str_ascii_iterator" else "str_iterator") = "str_ascii_iterator" ∨ (if x.cps.all (· < 128) then "str_ascii_iterator" else "str_iterator") = "str_iterator" := by
      split
      · exact .inl rfl
      · exact .inr rfl
    refine ⟨s1.heap.objs.size + 1, [s1.heap.objs.size + 1, s1.heap.objs.size], _, _, H1, rfl, I2, turn_enumS (s1.heap.objs.size + 1) s1.heap.objs.size x t _ hty, ⟨⟨.none, he⟩, hit, Nat.succ_ne_self _⟩, fun b hb => ?_, q⟩
    have e' : b = s1.heap.objs.size + 1 ∨ b = s1.heap.objs.size := by simpa using hb
    have hle : s1.heap.objs.size ≤ b := by
      rcases e' with z | z
      · rw [z]; exact Nat.le_add_right _ _
      · rw [z]; exact Nat.le_refl _
    exact I1.fpOk hle (I1.hok.fresh hle)

end M
namespace M
open PySem PySem.Spec PyProof.Rows L2 Evl MS
/-! a def called with some of its defaults left out -/
structure FnD (P : Program) (w : World) (K : PySem.W.Frag) (mg : Str → Option Value) (base : Heap) (CX : CXT) (k : Nat) (x : Str) (sp : Sp) (dvs : List V) : Prop where
  ex : ∃ (f : Addr) (fd : FuncData) (ps : List Str) (ds : List Value), FnOk P w K mg base CX k f fd ps sp ∧ mg x = some (.ref f) ∧ PySem.W.keepIn K (.ref f) = true ∧ Binds K fd ps ds ∧ Vals dvs ds
theorem pcD {X : Cx} {CX : CXT} {k j : Nat} {x : Str} {sp : Sp} {dvs : List V} {E : XK} {p pos : Pos} {e : Expr} {es : List Expr} {t : TA} (c : FnD X.prog X.w X.K X.mg X.base CX k x sp dvs) (hr : Room j X.A) (hk : k ≤ j) (hx : Passes CX X E) (hg : Gl X x) (ha : PA X (e :: es) t)
    (hdb : (x == ("__debug__" : Str)) = false := by decide) (he : starEach (e :: es) X.env = (false, eval e X.env) :: starEach es X.env := by rfl) (hpl : (backTo pos (starEach es X.env)).any (·.1) = false := by rfl) :
    PE X (.Call (.Name x p) (e :: es) [] pos) (tCall sp dvs E t) := by
  obtain ⟨f, fd, ps, ds, F, hm, hkp, hb, hd⟩ := c.ex
  exact pe_call F (hr.mono hk) hg hm hkp hb hd hx ha hdb he hpl
theorem w_callD {σ : L2.St} {H : Hp} {Q : VK} {sp : Sp} {dvs : List V} {E : XK} {t : TA} (h : t σ H fun vs H1 => sp (vs ++ dvs) H1 Q E) : tCall sp dvs E t σ H Q := h

end M
namespace M
open PySem PySem.Spec PyProof.Rows L2 Evl MS
--@import HandS.Deep
--@import KE.DataFind
/-! t.count(x) of a tuple; x in t of a tuple, by data -/
def rCountT (K : PySem.W.Frag) : V → List V → Hp → VK → Prop := fun x xs H Q => ∃ (a : Addr) (y : V) (d : PyData) (ds : List PyData), x = V.ref a ∧ xs = [y] ∧ Dp K H (V.ref a) (.tuple ds) ∧ Dp K H y d ∧ SeqAt.shaped (.tuple ds) = true ∧ SeqAt.shaped d = true ∧ Q (.int ((ds.countP fun z => PyData.eqv z d : Nat) : Int)) H
theorem mt_countT {X : Cx} (hu : X.A.units + 65 < cLine) : MtR X "tuple.count" (rCountT X.K) := by
  intro pins s σ H x xs v us Q I rx rxs h
  obtain ⟨a, y, d, ds, rfl, rfl, hl, hy, sl, sd, q⟩ := h
  cases rx
  cases rxs with
  | cons ry rt =>
    rename_i uy ut
    cases rt
    obtain ⟨bs, r1⟩ := Dp.reads I d y uy hy ry
    have hxs : PyData.canLayAll0 ds = true := SeqAt.canLay_of_shaped sl
    have hroom : X.A.units + 1 + min (PyData.depthAll ds) d.depth < cLine := by
      have := SeqAt.depth_of_shaped sd
      omega
    cases hl with
    | tup hs ha =>
      obtain ⟨its, rv, p, hlen⟩ := I.tuple hs
      obtain ⟨as, h4⟩ := Dp.readsAll I ds _ its ha rv
      exact SeqAt.count_tuple_data p (show ReadsAll s.heap its.toArray.toList ds as from h4) r1 (PyData.plainAll_of_canLay0 ds hxs) (PyData.plain_of_canLay0 d (SeqAt.canLay_of_shaped sd)) hroom ⟨.int _, H, I.tok _, ⟨_, rfl⟩, q⟩
theorem kCountT (K : PySem.W.Frag) {X : Cx} {j : Nat} (hr : Room j X.A) (h : X.K = K := by rfl) : MtR X "tuple.count" (rCountT K) := by subst h; exact mt_countT (by have := hr.un; omega)
def rInT (K : PySem.W.Frag) : R2 := fun x y H Q => ∃ d ds, Dp K H x d ∧ Dp K H y (.tuple ds) ∧ SeqAt.shaped d = true ∧ SeqAt.shaped (.tuple ds) = true ∧ Q (.bl (ds.any fun z => PyData.eqv z d)) H
theorem op_inT {X : Cx} (hu : X.A.units + 65 < cLine) : OpR X (compareOp .In) (rInT X.K) := by
  intro pins s σ H x y v u Q I rx ry h
  obtain ⟨d, ds, hd, he, sd, se, q⟩ := h
  obtain ⟨as, r1⟩ := Dp.reads I d x v hd rx
  obtain ⟨bs, r2⟩ := Dp.reads I (.tuple ds) y u he ry
  exact SeqAt.in_tuple_reads r2 r1 (SeqAt.canLay_of_shaped se) (SeqAt.canLay_of_shaped sd) (room_in_shaped sd hu) ⟨.bl _, H, I, rfl, q⟩
theorem kInT (K : PySem.W.Frag) {X : Cx} {j : Nat} (hr : Room j X.A) (h : X.K = K := by rfl) : OpR X (compareOp .In) (rInT K) := by subst h; exact op_inT (by have := hr.un; omega)

end M
namespace M
open PySem PySem.Spec PyProof.Rows L2 Evl MS
--@import HandS.ExcOwn
/-! an instance made inside try, where what its __init__ raises is wished for at the caller's slots -/
section
variable {X : Cx} {CX : CXT} {k j : Nat} {f C : Addr} {fd : FuncData} {ps : List Str} {sp : Sp} {E : L2.St → XK} {W : WX} {x : Str} {ds : List Value} {dvs : List V} {p pos : Pos} {e : Expr} {es : List Expr} {t : TA}
theorem run_makeS {pins : List (Addr × Obj)} {σ : L2.St} {H : Hp} {s : Shared} {Q : VK} {us : List Value} {vs : List V} (M : Mk X.K C f) (F : FnOk X.prog X.w X.K X.mg X.base CX k f fd ps sp) (hr : Room (k + 1) X.A) (hb : Binds X.K fd ps ds) (hd : Vals dvs ds)
    (hx : PassesAt CX X σ (E σ)) (I : Inv X pins σ H s) (r : Vals vs us)
    (h : ∀ x dx, H x = none → H dx = none → dx ≠ x → sp (.ref x :: (vs ++ dvs)) (upd (upd H dx (.own x)) x (.ins C dx [])) (fun v H2 => v = .non ∧ Q (.ref x) H2) (E σ)) :
    wpAny (model X.prog X.w) X.A (call (.ref C) us) (EP X pins σ Q) X.xe s := by
  have hq := h (s.heap.objs.size + 1) s.heap.objs.size (I.hok.fresh (Nat.le_succ _)) (I.hok.fresh (Nat.le_refl _)) (Nat.ne_of_lt (Nat.lt_succ_self _))
  have I2 := Inv.made (C := C) I
  have r2 : Vals (V.ref (s.heap.objs.size + 1) :: (vs ++ dvs)) (Value.ref (s.heap.objs.size + 1) :: (us ++ ds)) := .cons rfl (r.append hd)
  have hl : (Value.ref (s.heap.objs.size + 1) :: us ++ ds).length = ps.length := by
    have e := r2.length
    rw [F.len _ _ _ _ hq] at e
    exact e.symm
  refine wpAny_call (make_map (f := f) I.kIn M.makes M.init (beq_iff_eq.mp M.fn) (codeAny_mono (F.run _ X.stack _ _ ⟨Value.ref (s.heap.objs.size + 1) :: us, []⟩ (Value.ref (s.heap.objs.size + 1) :: (us ++ ds)) _ _ (E σ) (hr.make C us [])
    (I2.env0.make C us []) (hb _ (Value.ref (s.heap.objs.size + 1) :: us) I2.kIn hl) r2 hq) fun r s' hq' => ?_))
  cases r with
  | error e => exact hx pins _ _ e s' I2 hq'
  | ok fl =>
    cases fl with
    | ret u =>
      obtain ⟨v, H', I3, rv, ev, q3⟩ := I2.after hq'
      subst ev
      exact ⟨rv, ⟨V.ref (s.heap.objs.size + 1), H', I3, rfl, q3⟩⟩
    | next => exact False.elim hq'
    | brk => exact False.elim hq'
    | cont => exact False.elim hq'
def tMakeS (C : Addr) (sp : Sp) (dvs : List V) (W : WX) (t : TA) : TE := fun σ H Q => t σ H fun vs H1 => ∀ x dx, H1 x = none → H1 dx = none → dx ≠ x → sp (.ref x :: (vs ++ dvs)) (upd (upd H1 dx (.own x)) x (.ins C dx [])) (fun v H2 => v = .non ∧ Q (.ref x) H2) (WE W σ)
theorem pmkS (c : Mkc X.prog X.w X.K X.mg X.base (L2.CX X.prog X.w) k x C sp dvs) (hr : Room j X.A) (hk : k + 1 ≤ j) (tk : Takes X W) (hg : Gl X x) (ha : PA X (e :: es) t)
    (hdb : (x == ("__debug__" : Str)) = false := by decide) (he : starEach (e :: es) X.env = (false, eval e X.env) :: starEach es X.env := by rfl) (hpl : (backTo pos (starEach es X.env)).any (·.1) = false := by rfl) :
    PE X (.Call (.Name x p) (e :: es) [] pos) (tMakeS C sp dvs W t) := by
  obtain ⟨f, fd, ps, ds, M, F, hm, hb, hd⟩ := c.ex
  refine ⟨fun pins s σ H Q I h => ?_⟩
  refine wpAny_Call_Name_kw (ld_glob I hg hm ?_ hdb)
  refine PySem.W.callWith_K (h₀ := X.base) I.ok.mod.kin M.kp (thn (ha.run pos pins s σ H _ I h) fun us s1 ⟨vs, H1, I1, r, q⟩ => ⟨I1.kIn, ?_⟩) he hpl
  exact run_makeS (E := WE W) M F (hr.mono hk) hb hd (passAt tk σ) I1 r q
theorem w_makeS {σ : L2.St} {H : Hp} {Q : VK} (h : t σ H fun vs H1 => ∀ x dx, H1 x = none → H1 dx = none → dx ≠ x → sp (.ref x :: (vs ++ dvs)) (upd (upd H1 dx (.own x)) x (.ins C dx [])) (fun v H2 => v = .non ∧ Q (.ref x) H2) (WE W σ)) : tMakeS C sp dvs W t σ H Q := h
end

end M
namespace M
open PySem PySem.Spec PyProof.Rows L2 Evl MS
--@import HandS.ExcInit
--@import HandS.ExcField
--@import HandS.ExcOwn
--@import HandS.TryMany
--@import KE.KExcSuper
/-! own exceptions whose __init__ begins with super().__init__(..) -/
namespace XS
open NdefX ClX
/-- what super() asks of the text: D the class around the def, cc its cell, cda the def's code -/
structure SupX (P : Program) (K : PySem.W.Frag) (mg : Str → Option Value) (D cc cda : Addr) : Prop where
  cell : ∃ cl cld csl, K.lookup cc = some ⟨cl, cld, .cell (some (.ref D)), csl⟩
  cls : ∃ cd, PySem.W.clsIn K D = some cd
  code : ∃ ccl cdd vs ccs file tf, K.lookup cda = some ⟨ccl, cdd, .fields vs, ccs⟩ ∧ vs[2]? = some (.str file tf) ∧ ((P.main.file : Str) == file) = true
  gl : mg "super" = none
  any : PySem.W.nsIn K cStatics "thirdparty.any" = some none
  top : (P.main.scope.names.lookup ("super" : Str)).isSome = false
/-- what the instance's class C has: D above it, and ValueError's __init__ behind D -/
structure SupC (K : PySem.W.Frag) (D C : Addr) : Prop where
  sub : PySem.W.mroIn K C (.ref D) = some true
  nx : PySem.W.ks_superIn K C D "__init__" = some (some (.builtin "ValueError.__init__"))
  ve : PySem.W.subIn K (.ref C) (.type "ValueError") = some true
section
variable {X : Cx} {pins : List (Addr × Obj)} {σ : L2.St} {H : Hp} {s : Shared} {D C cc cda f x u : Addr} {R : Hp → Prop}
/-- the bound __init__ called: nothing that is told changes -/
theorem call_mw {A : Around} {E : Value → Shared → Prop} {us : List Value} {Q : Value → Shared → Prop} (T : OexC X.K C) (I : Inv X pins σ H s) (hx : H x = some (exo x C none)) (hu : s.heap.get? u = some (PySem.W.kxs_mw "ValueError.__init__" x)) (hl : us.length ≤ sizeLine)
    (h : ∀ s', Inv X pins σ H s' → Q .none s') : wpAny (model X.prog X.w) A (call (.ref u) us) Q E s := by
  obtain ⟨nm, q, N, bs, bm, sn, sub, ab, col, dd, k0, k1, k2, k3, k5, hC, _⟩ := T.cls
  obtain ⟨t1, ho⟩ := exo_at I.hok hx
  obtain ⟨hp, g, d, t, os⟩ := s
  refine wpAny_call (codeAny_of_tree ?_)
  show wpAny _ A.in1 (callAny (.ref u) ⟨us, []⟩) _ _ _
  simp only [callAny]
  refine wpAny_bind (wpAny_load hu ?_)
  simp only [PySem.W.kxs_mw]
  rw [if_pos (by decide)]
  refine PySem.W.KFB.if_so (by decide) (wpAny_bind (PySem.W.check_bound_init F.excBase_ValueError.toExcCallFacts (I.kIn _ _ hC) ho rfl ?_))
  refine wpAny_bind (wpAny_pure (wpAny_pure ⟨PySem.plainId_quiet F.excBase_ValueError.init.plain _, codeAny_builtin F.excBase_ValueError.initEntry ?_⟩))
  refine PySem.W.exc_init_tree (cls := .ref C) (t0 := t1) (dv := none) (c2 := .none) (c3 := .none) (b4 := .bool false) ho hl fun h' k hx' _ => ?_
  have J := I.write (t' := t) (x := x) (e := x) (o := exo x C none) (by rw [hx]; exact True.intro) (.inl rfl) k ⟨_, hx'⟩ (exo_ok hx')
  have eu : upd H x (exo x C none) = H := funext fun b => by
    by_cases hb : b = x
    · rw [hb, upd_same, hx]
    · exact upd_ne hb
  rw [eu] at J
  exact h _ J
theorem mw_call1 {M : Model} {A : Around} {E : Value → Shared → Prop} {s : Shared} {pos : Pos} {env : Env} {e : Expr} {rest : List Expr} {Q : Value → Shared → Prop} {i : String}
    (h : wpAny M A (spliced (backTo pos (starEach (e :: rest) env))) (fun vs s₁ => PySem.W.KxsAt i u x s₁.heap ∧ wpAny M A (call (.ref u) vs) Q E s₁) E s)
    (he : starEach (e :: rest) env = (false, eval e env) :: starEach rest env) (hpl : (backTo pos (starEach rest env)).any (·.1) = false) : wpAny M A (callWith pos (.ref u) [] (backTo pos (starEach (e :: rest) env)) []) Q E s := by
  rw [he] at h ⊢
  exact PySem.W.kxs_callWith (i := i) (x := x) (by show (false || (backTo pos (starEach rest env)).any (·.1)) = false; rw [hpl]; rfl) (PySem.Calls.evalArgs_plain h)
theorem super_exc {pl : Sem Bool} {ta : TE} {p0 p1 p2 p3 p4 : Pos} {arg : Expr} {fd : FuncData} {of : Obj} {ar : Arg} (U : SupX X.prog X.K X.mg D cc cda) (UC : SupC X.K D C) (T : OexC X.K C)
    (hks : X.env.kindOf "super" = some .globalImplicit) (hkc : X.env.kindOf "__class__" = some .free) (hfu : X.env.func = some f) (hf : X.K.lookup f = some of) (hfd : of.data = .func fd)
    (hp : (fd.params.posonlyargs ++ fd.params.args).head? = some ar) (har : X.env.scope.names.lookup ar.arg = some .local) (hN : X.N[0]? = some ar.arg) (hco : X.env.code = .ref cda) (hcl : X.env.cells.lookup ("__class__" : Str) = some cc)
    (ha : PE X arg ta) (I : Inv X pins σ H s) (hσ : σ[0]? = some (some (.ref x))) (hx : H x = some (exo x C none))
    (h : ta σ H fun v H2 => [v].length = 1 ∧ H2 x = some (exo x C none) ∧ R H2)
    (he : starEach [arg] X.env = (false, eval arg X.env) :: starEach [] X.env := by rfl) (hpl : (backTo p3 (starEach ([] : List Expr) X.env)).any (·.1) = false := by rfl)
    (ht : eval (.Call (.Attribute (.Call (.Name "super" p0) [] [] p1) "__init__" p2) [arg] [] p3) X.env = (do
      let ov ← attributeBase (.Call (.Name "super" p0) [] [] p1) "__init__" X.env (eval (.Call (.Name "super" p0) [] [] p1) X.env)
      standAt p2.atName
      let (f, first) ← holding [ov] (getMethod ov "__init__" pl)
      callWith p3 f first (backTo p3 (starEach [arg] X.env)) []) := by rfl)
    (hi : interactive X.env = false := by rfl) (hs : swapsWith (.Call (.Attribute (.Call (.Name "super" p0) [] [] p1) "__init__" p2) [arg] [] p3) none p4.line X.env = pure false := by rfl) :
    PySem.wpAt (model X.prog X.w) X.A (.func body X.env) (exec (.Expr (.Call (.Attribute (.Call (.Name "super" p0) [] [] p1) "__init__" p2) [arg] [] p3) p4) X.env) (fun fl s' => fl = .next ∧ ∃ H', Inv X pins σ H' s' ∧ R H') X.xe s := by
  obtain ⟨cl, cld, csl, hcell⟩ := U.cell
  obtain ⟨cd, hD⟩ := U.cls
  obtain ⟨ccl, cdd, vs, ccs, file, tf, hcode, hvs, hfile⟩ := U.code
  have KX := I.kIn
  obtain ⟨oD, hD1, hD2⟩ : ∃ oD, s.heap.get? D = some oD ∧ oD.data = .cls cd := by
    have q := hD
    unfold PySem.W.clsIn at q
    split at q
    · rename_i ho
      cases q
      exact ⟨_, KX _ _ ho, rfl⟩
    · cases q
  obtain ⟨t1, ho⟩ := exo_at I.hok hx
  refine ks_wpAt_Expr_any ?_ hi hs
  refine ks_wpAt_MethodCall (pl := pl) ?_ ht
  refine ks_wpAt_super_base (env := X.env) hks hkc rfl hfu (KX _ _ hf) hfd hp hco (KX _ _ hcode) rfl hvs hfile U.top ?_
  obtain ⟨mb, h1, h2⟩ := I.mod.blt
  refine PySem.W.ks_loadName_global I.ok.kind hks (Calls.loadGlobal_builtin (by rw [I.ok.glob]; exact I.mod.glob.keeps I.bk) U.gl (by rw [I.ok.blt]; exact h1.keeps I.bk) ((h2 "super" (by decide)).trans (by decide +kernel)) ⟨rfl, ?_⟩)
  refine wpAny_loadName_free I.ok.kind hkc hcl ⟨_, KX _ _ hcell, rfl⟩ ?_
  obtain ⟨m, hn, hl⟩ := id I.loc
  obtain ⟨u, ru, lo⟩ := hl 0 ar.arg (.ref x) hN hσ (.inl har)
  cases (show u = Value.ref x from ru)
  have hm : m ar.arg = some (.ref x) := by
    rcases lo with ⟨_, hm⟩ | ⟨hk, _⟩
    · exact hm
    · exfalso
      rcases hk with hk | hk
      · have e : X.env.scope.names.lookup ar.arg = some .cell := hk
        rw [har] at e
        cases e
      · have e : X.env.scope.names.lookup ar.arg = some .free := hk
        rw [har] at e
        cases e
  refine wpAny_loadName_local I.ok.kind har hn hm ?_
  refine ks_wpAny_isType_cls hD1 hD2 ⟨rfl, ?_⟩
  obtain ⟨hh, g, d, t, os⟩ := s
  refine ks_wpAny_call_super (C := C) hD1 hD2 ho rfl (fun c e => by cases e) (PySem.W.looks_mroIn KX UC.sub) (fun h' e k => ?_)
  have I1 := pin_new (t' := t) I k (Nat.le_refl _) e (fun v z => by cases z)
  have KX1 := I1.kIn
  obtain ⟨nm, q, N, bs, bm, sn, sub, ab, col, dd, k0, k1, k2, k3, k5, hC, _⟩ := T.cls
  have hcC : PySem.W.clsIn X.K C = some { name := nm, bases := bs, mro := .ref C :: bm, ns := N, qualname := q, hasDict := true, slotNames := sn, subclasses := sub, abstract := ab, collection := col, hasDel := false } := by
    unfold PySem.W.clsIn
    rw [hC] <;> rfl
  have hnx := UC.nx
  unfold PySem.W.ks_superIn at hnx
  rw [hcC] at hnx
  have J : PySem.W.InstAt h' x { cls := .ref C, dict := none, data := .fields #[.ref t1, .none, .none, .none, .bool false, .none] } C none := ⟨k _ _ ho, rfl, rfl, trivial⟩
  refine PySem.W.kxs_getMethod PySem.W.kxs_ValueError e (PySem.W.looks_opaque KX1 U.any) (l₀ := .ref C :: bm) ?_ rfl KX1 hnx (J.type.andThen (PySem.W.looks_subIn KX1 UC.ve)) (PySem.W.ks_ne KX1 J hcC) (by decide) ?_
  · exact fun A Q E s k q => wpAny_bind ((PySem.W.looks_clsIn KX1 hcC) A _ E s k (wpAny_pure q))
  have I2 := pin_new (a := h'.objs.size) (o := PySem.W.kxs_mw "ValueError.__init__" x) (h' := h'.push (PySem.W.kxs_mw "ValueError.__init__" x)) (t' := t + 1) I1 (fun _ _ z => Heap.get?_push_of_some _ z) (Nat.le_refl _) (Heap.get?_push_size h' rfl) (fun v z => nomatch z)
  have h' : tCons ta tNil σ H (fun vs H2 => vs.length = 1 ∧ H2 x = some (exo x C none) ∧ R H2) := h
  refine mw_call1 (i := "ValueError.__init__") (x := x) ?_ he hpl
  refine thn ((pa_cons ha pa_nil he).run p3 _ _ σ H _ I2 h') fun us s3 ⟨vs', H2, I3, rv, hz, hx2, q2⟩ => ⟨pin_at I3, ?_⟩
  refine call_mw T I3 hx2 (pin_at I3) ?_ fun s4 I4 => ⟨rfl, H2, unpin (unpin I4), q2⟩
  show us.length ≤ sizeLine
  rw [← Paired.length rv, hz, sizeLine_eq]
  decide
end
/-- a def whose first statement is super().__init__(arg), self an exception being made, keeps its promise -/
theorem fnsupx {P : Program} {w : World} {K : PySem.W.Frag} {mg : Str → Option Value} {base : Heap} {name qual self : Str} {params : Arguments} {body rest : List Stmt} {scope : Scope} {f cc cda D : Addr} {fd : FuncData} {N ps : List Str} {k : Nat} {sp : Sp} {arg : Expr} {p0 p1 p2 p3 p4 : Pos} {ar : Arg}
    (F : FunS K name qual params body scope f fd cc cda) (U : SupX P K mg D cc cda)
    (hbody : body = .Expr (.Call (.Attribute (.Call (.Name "super" p0) [] [] p1) "__init__" p2) [arg] [] p3) p4 :: rest)
    (S : NScope N (self :: ps) ["__class__"] scope) (hks : scope.names.lookup ("super" : Str) = some .globalImplicit)
    (hp : (params.posonlyargs ++ params.args).head? = some ar) (hs : ar.arg = self) (hN : N[0]? = some self)
    (len : ∀ vs H Q E, sp vs H Q E → vs.length = (self :: ps).length)
    (hgo : ∀ (A : Around) (outer : List Env) (s : Shared) (H : Hp) (vs : List V) (Q : VK) (E : XK), Room k (A.deeper (envF ⟨name, qual, params, body, scope, [("__class__", cc)], cda⟩ f s.heap.objs.size)) → sp vs H Q E →
      ∃ (t : TS) (ta : TE) (x C : Addr), PE (ncx CX0 P w K mg base N ⟨name, qual, params, body, scope, [("__class__", cc)], cda⟩ f A outer s H E).nox arg ta ∧ PSs (ncx CX0 P w K mg base N ⟨name, qual, params, body, scope, [("__class__", cc)], cda⟩ f A outer s H E).nox rest t ∧
        (startF N vs [some (.ref D)])[0]? = some (some (.ref x)) ∧ H x = some (exo x C none) ∧ OexC K C ∧ SupC K D C ∧
        ta (startF N vs [some (.ref D)]) H fun v H2 => [v].length = 1 ∧ H2 x = some (exo x C none) ∧ t { nx := fun _ H' => Q .non H', rt := Q } (startF N vs [some (.ref D)]) H2)
    (hst : ∀ (X : Cx), starEach [arg] X.env = (false, eval arg X.env) :: starEach [] X.env := by intro _; rfl) (hpl : ∀ (X : Cx), (backTo p3 (starEach ([] : List Expr) X.env)).any (·.1) = false := by intro _; rfl)
    {pl : Cx → Sem Bool}
    (ht : ∀ (X : Cx), eval (.Call (.Attribute (.Call (.Name "super" p0) [] [] p1) "__init__" p2) [arg] [] p3) X.env = (do
      let ov ← attributeBase (.Call (.Name "super" p0) [] [] p1) "__init__" X.env (eval (.Call (.Name "super" p0) [] [] p1) X.env)
      standAt p2.atName
      let (f, first) ← holding [ov] (getMethod ov "__init__" (pl X))
      callWith p3 f first (backTo p3 (starEach [arg] X.env)) []) := by intro _; rfl)
    (hsw : ∀ (X : Cx), swapsWith (.Call (.Attribute (.Call (.Name "super" p0) [] [] p1) "__init__" p2) [arg] [] p3) none p4.line X.env = pure false := by intro _; rfl) :
    FnOk P w K mg base CX0 (k + 1) f fd (self :: ps) sp := by
  obtain ⟨oc, od, dV, kV, doc, pm, an, ct, osl, rfl, lk, hcd, _⟩ := F.ex
  refine ⟨len, fun A outer s H args us vs Q E hr e0 hb r hsp => ?_⟩
  have KX : K.In s.heap := e0.mod.kin.keeps fun b o e => (e0.bs b o e).1
  have hl := len _ _ _ _ hsp
  have lim : s.heap.NoLimit := e0.mod.nolimit.keeps fun b o e => (e0.bs b o e).1
  obtain ⟨cl, cld, csl, hcell⟩ := U.cell
  refine codeAny_call_function hr.depth (KX _ _ lk) rfl S.co S.gen rfl (PySem.W.codeRec_of KX hcd) (hb _ _ _ _ ?_)
  refine wpAny_newFunctionEnv S.nocell (fun ⟨n, _⟩ hy => S.par n (List.of_mem_zip hy).1) (fun h₁ hns hsb => ⟨lim.fresh _ hsb, ?_⟩) S.kind
  show codeAny _ _ (.func body (envF ⟨name, qual, params, body, scope, [("__class__", cc)], cda⟩ f s.heap.objs.size)) _ _
  refine ks_codeAny_funcAt ?_
  have kp : ∀ b o, s.heap.get? b = some o → h₁.get? b = some o := fun b o e => hsb.extBut b o (Nat.ne_of_lt (Heap.lt_size e)) (Heap.get?_push_of_some _ e)
  have hcc : H cc = none := (e0.bs _ _ (e0.mod.kin _ _ hcell)).2
  have look1 : ∀ y c, List.lookup y [(("__class__" : Str), cc)] = some c → y = "__class__" ∧ c = cc := fun y c e => by
    unfold List.lookup at e
    split at e
    · rename_i q
      cases e
      exact ⟨beq_iff_eq.mp q, rfl⟩
    · cases e
  have C0 : CellsAt [(("__class__" : Str), cc)] ["__class__"] [some (.ref D)] s.heap H := by
    refine ⟨rfl, fun y c e => ?_, fun x y c e e' => ?_, fun i y e => ?_⟩
    · obtain ⟨_, rfl⟩ := look1 y c e
      exact ⟨hcc, _, ⟨_, KX _ _ hcell, rfl⟩⟩
    · exact (look1 _ _ e).1.trans (look1 _ _ e').1.symm
    · rcases i with _ | i
      · cases e
        refine ⟨cc, by unfold List.lookup; rw [beq_self_eq_true], fun v e => ?_⟩
        cases e
        exact ⟨.ref D, rfl, ⟨_, KX _ _ hcell, rfl⟩⟩
      · cases e
  have hroom := hr.deeper (envF ⟨name, qual, params, body, scope, [("__class__", cc)], cda⟩ f s.heap.objs.size)
  obtain ⟨t, ta, x, C, h1, h2, hx0, hx, T, UC, h3⟩ := hgo A outer s H vs Q E hroom hsp
  have I : Inv (ncx CX0 P w K mg base N ⟨name, qual, params, body, scope, [("__class__", cc)], cda⟩ f A outer s H E) [] (startF N vs [some (.ref D)]) H { s with heap := h₁, toks := s.toks + ((self :: ps).zip us).length } := inv_startN S hr.hd e0 hl r C0 hns kp
  have ebody : execs body (envF ⟨name, qual, params, body, scope, [("__class__", cc)], cda⟩ f s.heap.objs.size) = execs (.Expr (.Call (.Attribute (.Call (.Name "super" p0) [] [] p1) "__init__" p2) [arg] [] p3) p4 :: rest) (envF ⟨name, qual, params, body, scope, [("__class__", cc)], cda⟩ f s.heap.objs.size) := congrArg (fun b => execs b _) hbody
  rw [ebody]
  have fin : ∀ {σ' : L2.St} {H' : Hp} {v : V} {u : Value} {s' : Shared}, Inv (ncx CX0 P w K mg base N ⟨name, qual, params, body, scope, [("__class__", cc)], cda⟩ f A outer s H E) [] σ' H' s' → L2.RelV v u → Q v H' → CE outer P w H s Q u s' :=
    fun {σ' H' v u s'} J rv q => ⟨v, H', J.os, J.bare, J.base, J.hok, rv, q⟩
  refine ks_wpAt_execs_cons (ks_wpAt_mono (super_exc (X := ncx CX0 P w K mg base N ⟨name, qual, params, body, scope, [("__class__", cc)], cda⟩ f A outer s H E) (f := f) (cda := cda) (cc := cc) (D := D) (C := C) (x := x) (R := fun H2 => t { nx := fun _ H' => Q .non H', rt := Q } (startF N vs [some (.ref D)]) H2) U UC T hks (S.frk _ List.mem_cons_self) rfl lk rfl hp (by rw [hs]; exact S.par _ List.mem_cons_self) (by rw [hs]; exact hN) rfl
    (by show List.lookup ("__class__" : Str) [(("__class__" : Str), cc)] = some cc; unfold List.lookup; rw [beq_self_eq_true]) h1.nox I hx0 hx h3 (hst _) (hpl _) (ht _) (by show interactive (envF ⟨name, qual, params, body, scope, [("__class__", cc)], cda⟩ f s.heap.objs.size) = false; unfold interactive; rw [show (envF ⟨name, qual, params, body, scope, [("__class__", cc)], cda⟩ f s.heap.objs.size).scope.kind = .function from S.kind]; first | rfl | decide) (hsw _)) (fun fl2 s2 h4 => ?_) fun e s2 h4 => h4)
  obtain ⟨rfl, H3, J3, q3⟩ := h4
  refine _root_.PySem.wpAt_of_wpAny (wpAny_mono (h2.nox.run [] _ _ H3 _ J3 q3) (fun fl s' hs' => ?_) fun e s' he => he)
  cases fl with
  | ret u =>
    obtain ⟨v, σ', H', J, rv, q⟩ := hs'
    exact fin J rv q
  | next =>
    obtain ⟨σ', H', J, q⟩ := hs'
    exact fin (v := .non) (u := Value.none) J rfl q
  | brk =>
    obtain ⟨_, _, _, q⟩ := hs'
    exact q.elim
  | cont =>
    obtain ⟨_, _, _, q⟩ := hs'
    exact q.elim
end XS
/-! what the written part must say, as a Bool -/
def oexB (K : PySem.W.Frag) (C : Addr) : Bool := (match K.lookup C with
  | some ⟨.type "type", _, .cls cd, sl⟩ => (match cd.mro, sl.toList with
    | .ref D :: bm, [_, _, _, _, some (.builtin n), _] => D == C && (n == "ValueError.__new__" && (!cd.hasDel && (cd.hasDict && PySem.HandSPX.refsVE bm)))
    | _, _ => false)
  | _ => false) && (He.eqO (PySem.W.findIn K (.ref C) "__setattr__") (some (some (.builtin "object.__setattr__"))) && (decide (PySem.W.subIn K (.ref C) (.type "BaseException") = some true) && (decide (PySem.W.typeIn K (.ref C) = some (.type "type")) && PySem.W.keepIn K (.ref C))))
theorem oexB_ok {K : PySem.W.Frag} {C : Addr} (h : oexB K C = true) : OexC K C := by
  unfold oexB at h
  simp only [Bool.and_eq_true] at h
  obtain ⟨h1, h2, h3, h4, h5⟩ := h
  refine ⟨?_, He.eqO_ok h2, of_decide_eq_true h3, of_decide_eq_true h4, h5⟩
  split at h1
  · rename_i dd cd sl ho
    split at h1
    · rename_i D bm k0 k1 k2 k3 n k5 hm hs
      simp only [Bool.and_eq_true, beq_iff_eq, Bool.not_eq_true'] at h1
      obtain ⟨rfl, rfl, e1, e2, e3⟩ := h1
      obtain ⟨nm, bs, mro, ns, qn, hd, sn, sub, ab, col, del⟩ := cd
      dsimp only at hm e1 e2
      subst hm e1 e2
      obtain ⟨l⟩ := sl
      dsimp only at hs
      subst hs
      exact ⟨nm, qn, ns, bs, bm, sn, sub, ab, col, dd, k0, k1, k2, k3, k5, ho, e3⟩
    · cases h1
  · cases h1
namespace XS
def supXB (mf : Str) (K : PySem.W.Frag) (D f : Addr) : Bool := cellB K (cellOf K f) D && ((PySem.W.clsIn K D).isSome && (codeB mf K (codeOf K f) && someNone (PySem.W.nsIn K cStatics "thirdparty.any")))
theorem supXB_ok {P : Program} {K : PySem.W.Frag} {mg : Str → Option Value} {D f : Addr} (mf : Str) (pf : ((P.main.file : Str) == mf) = true) (top : (P.main.scope.names.lookup ("super" : Str)).isSome = false) (gl : mg "super" = none) (h : supXB mf K D f = true) : SupX P K mg D (cellOf K f) (codeOf K f) := by
  unfold supXB at h
  simp only [Bool.and_eq_true] at h
  obtain ⟨h1, h2, h3, h4⟩ := h
  refine ⟨cellB_ok h1, Option.isSome_iff_exists.mp h2, ?_, gl, someNone_ok h4, top⟩
  rw [beq_iff_eq.mp pf]
  exact codeB_ok h3
def supCB (K : PySem.W.Frag) (D C : Addr) : Bool := decide (PySem.W.mroIn K C (.ref D) = some true) && (He.eqO (PySem.W.ks_superIn K C D "__init__") (some (some (.builtin "ValueError.__init__"))) && decide (PySem.W.subIn K (.ref C) (.type "ValueError") = some true))
theorem supCB_ok {K : PySem.W.Frag} {D C : Addr} (h : supCB K D C = true) : SupC K D C := by
  unfold supCB at h
  simp only [Bool.and_eq_true] at h
  exact ⟨of_decide_eq_true h.1, He.eqO_ok h.2.1, of_decide_eq_true h.2.2⟩
end XS
/-- an own exception class under its name, its __init__ with its promise -/
structure Xcl (P : Program) (w : World) (K : PySem.W.Frag) (mg : Str → Option Value) (base : Heap) (k : Nat) (x : Str) (C : Addr) (sp : Sp) : Prop where
  ex : ∃ (fI : Addr) (fd : FuncData) (ps : List Str), OexC K C ∧ PySem.W.findIn K (.ref C) "__init__" = some (some (.ref fI)) ∧ PySem.W.typeIn K (.ref fI) = some (.type "function") ∧ FnOk P w K mg base CX0 k fI fd ps sp ∧ mg x = some (.ref C) ∧ Binds K fd ps []
section
variable {X : Cx} {W : WX} {k j : Nat} {C : Addr} {x m : Str} {sp : Sp} {p pos pos' apos : Pos} {e o : Expr} {es : List Expr} {ta : TE} {t : TA}
def tRaise (C : Addr) (sp : Sp) (t : TA) (W : WX) : TS := fun _ σ H => tMkO C sp [] t σ H fun cls d H' => W cls d σ H'
/-- raise C(e, ..) -/
theorem praise (c : Xcl X.prog X.w X.K X.mg X.base k x C sp) (hr : Room j X.A) (hk : k + 1 ≤ j) (hc : X.calm = true) (tk : Takes X W) (hg : Gl X x) (ha : PA X (e :: es) t)
    (hdb : (x == ("__debug__" : Str)) = false := by decide) (he : starEach (e :: es) X.env = (false, eval e X.env) :: starEach es X.env := by rfl) (hpl : (backTo pos (starEach es X.env)).any (·.1) = false := by rfl) :
    PS X (.Raise (some (.Call (.Name x p) (e :: es) [] pos)) none pos') (tRaise C sp t W) := by
  obtain ⟨fI, fd, ps, T, iC, tI, F, hm, hb⟩ := c.ex
  exact ps_raise hc tk (pmk_oex T iC tI F (hr.mono hk) hb .nil (fun _ _ _ _ _ _ _ h => h.elim) hg hm ha hdb he hpl)
/-- o.m(e, ..), where what is raised is wished for at the caller's slots -/
def tMethS (C : Addr) (m : Str) (sp : Sp) (W : WX) (ta : TE) (t : TA) : TE := fun σ H Q => ta σ H fun y H1 => ∃ a dx fs, y = .ref a ∧ H1 a = some (.ins C dx fs) ∧ fs.lookup m = none ∧ t σ H1 fun vs H2 => sp (y :: vs) H2 Q (WE W σ)
theorem pmtS {pl : Sem Bool} (c : Mt X.prog X.w X.K X.mg X.base (L2.CX X.prog X.w) k C m sp) (hr : Room j X.A) (hk : k ≤ j) (tk : Takes X W) (ho : PE X o ta) (ha : PA X (e :: es) t)
    (he : starEach (e :: es) X.env = (false, eval e X.env) :: starEach es X.env := by rfl) (hpl : (backTo pos (starEach es X.env)).any (·.1) = false := by rfl)
    (ht : eval (.Call (.Attribute o m apos) (e :: es) [] pos) X.env = (do let ov ← eval o X.env; standAt apos.atName; let (f, first) ← holding [ov] (getMethod ov m pl); callWith pos f first (backTo pos (starEach (e :: es) X.env)) (backToKw pos (keywordEach [] X.env))) := by rfl) :
    PE X (.Call (.Attribute o m apos) (e :: es) [] pos) (tMethS C m sp W ta t) := by
  obtain ⟨f, fd, ps, cl, hm, F, hb⟩ := c.ex
  refine ⟨fun pins s σ H Q I h => ?_⟩
  refine PySem.W.methodCall_KW (pl := pl) (thn (ho.run pins s σ H _ I h) fun u s1 ⟨y, H1, I1, ry, a, dx, fs, ey, ea, l, q⟩ => ?_) ht
  subst ey
  obtain rfl : u = Value.ref a := ry
  refine getmeth_ok I1 ea cl hm l (PySem.W.callWith_K (first := [.ref a]) (h₀ := X.base) I.ok.mod.kin hm.kp (thn (ha.run pos pins s1 σ H1 _ I1 q) fun us s2 ⟨vs, H2, I2, r, q2⟩ => ⟨I2.kIn, ?_⟩) he hpl)
  exact run_fnS (E := WE W) (us := .ref a :: us) (vs := .ref a :: vs) F (hr.mono hk) hb (passAt tk σ) I2 (.cons rfl r) q2
/-- a call in a place where nothing is let out -/
theorem passN : Passes (L2.CX X.prog X.w) X E0 := fun _ _ _ _ _ _ _ ⟨_, _, _, _, _, _, _, _, _, _, _, _, h⟩ => h.elim
end
section
variable {P : Program} {w : World} {K : PySem.W.Frag} {mg : Str → Option Value} {base : Heap}
/-- a def that may let exceptions out -/
theorem fnokX {x qual : Str} {params : Arguments} {body : List Stmt} {scope : Scope} {dvs : List V} {f : Addr} {fd : FuncData} {N ps : List Str} {k : Nat} {sp : Sp}
    (F : FunD K x qual params body scope dvs [] f fd) (S : FnScope N ps scope) (len : ∀ vs H Q E, sp vs H Q E → vs.length = ps.length)
    (hbody : ∀ (cdv : Value) (A : Around) (outer : List Env) (s : Shared) (H : Hp) (vs : List V) (Q : VK) (E : XK), Room k (A.deeper (envOfC qual scope s.heap.objs.size f cdv)) → sp vs H Q E →
      Takes (cxOf (L2.CX P w) P w K mg base N qual scope f cdv A outer s H E) (fun cls d _ H => E cls d H) →
      ∃ t, PSs (cxOf (L2.CX P w) P w K mg base N qual scope f cdv A outer s H E) body t ∧ t { nx := fun _ H' => Q .non H', rt := Q } (start N vs) H) :
    FnOk P w K mg base (L2.CX P w) (k + 1) f fd ps sp := F.ok S len fun cdv A outer s H vs Q E hr h =>
  hbody cdv A outer s H vs Q E hr h (takes_of (X := cxOf (L2.CX P w) P w K mg base N qual scope f cdv A outer s H E) rfl rfl rfl rfl)
end
section
variable {K : PySem.W.Frag} {C : Addr} {H : Hp} {σ : L2.St}
/-- WrongThing(thing), WrongWord(word): one field -/
def spXI (K : PySem.W.Frag) (D : Addr) (f : Str) : Sp := sp2 fun self v H Q _ => ∃ x C, self = .ref x ∧ H x = some (exo x C none) ∧ OexC K C ∧ XS.SupC K D C ∧ PySem.W.findIn K (.ref C) f = some none ∧
  ∀ dx, H dx = none → dx ≠ x → Q .non (upd (upd H dx (exd dx [(f, v)])) x (exo x C (some dx)))
def MkOI (C : Addr) (sp : Sp) (vs : List V) (H1 : Hp) (Q : XK) : Prop := vs.length ≤ 1000 ∧ ∀ a, H1 a = none → sp (.ref a :: (vs ++ [])) (upd H1 a (exo a C none))
  (fun v H2 => v = .non ∧ ∃ (d : Addr) (fs : List (Str × V)), H2 a = some (exo a C (some d)) ∧ H2 d = some (exd d fs) ∧ H1 d = none ∧ Q (.ref C) (some d) (upd (del H2 a) d (.xd fs))) (fun _ _ _ => False)
theorem w_raise {sp : Sp} {W : WX} {D : Ends} {t : TA} (h : t σ H fun vs H1 => MkOI C sp vs H1 fun cls d H' => W cls d σ H') : tRaise C sp t W D σ H := h
theorem r_mkO {D : Addr} {f : Str} {v : V} {Q : XK} (T : OexC K C) (U : XS.SupC K D C) (hf : PySem.W.findIn K (.ref C) f = some none) (h : ∀ d H', H d = none → Ex H H' → H' d = some (.xd [(f, v)]) → Q (.ref C) (some d) H') : MkOI C (spXI K D f) [v] H Q := by
  refine ⟨(by decide : 1 ≤ 1000), fun a na => ⟨.ref a, v, rfl, a, C, rfl, upd_same, T, U, hf, fun dx ndx dne => ⟨rfl, dx, [(f, v)], upd_same, by rw [upd_ne dne]; exact upd_same, ?_, ?_⟩⟩⟩
  · rwa [upd_ne dne] at ndx
  · have nd : H dx = none := by rwa [upd_ne dne] at ndx
    have e : upd (del (upd (upd (upd H a (exo a C none)) dx (exd dx [(f, v)])) a (exo a C (some dx))) a) dx (.xd [(f, v)]) = upd H dx (.xd [(f, v)]) := funext fun b => by
      by_cases hb : b = dx
      · rw [hb, upd_same, upd_same]
      · rw [upd_ne hb, upd_ne hb]
        by_cases ha : b = a
        · rw [ha, del_same, na]
        · rw [del_ne ha, upd_ne ha, upd_ne hb, upd_ne ha]
    rw [e]
    exact h dx _ nd (Ex.new nd) upd_same
/-- try: .. except c as x: .. -/
def tTryAs (K : PySem.W.Frag) (c : Value) (i : Nat) (ts : Addr → Value → Option Addr → TS) (tb : WX → TS) : TS := fun D σ H => tb (wAs K c i ts (fun _ _ _ _ => False) D) D σ H
theorem w_tryAs {c : Value} {i : Nat} {ts : Addr → Value → Option Addr → TS} {tb : WX → TS} {D : Ends} (h : tb (wAs K c i ts (fun _ _ _ _ => False) D) D σ H) : tTryAs K c i ts tb D σ H := h
theorem w_was {c : Value} {i : Nat} {ts : Addr → Value → Option Addr → TS} {D : Ends} {cls : Value} {d : Option Addr} (e : PySem.W.exmOne K cls c = some true)
    (h : ∀ a, H a = none → ts a cls d { nx := fun σ' H' => D.nx (σ'.set i none) H', rt := D.rt, bk := fun σ' H' => D.bk (σ'.set i none) H', ct := fun σ' H' => D.ct (σ'.set i none) H' } (σ.set i (some (.ref a))) H) : wAs K c i ts (fun _ _ _ _ => False) D cls d σ H :=
  ⟨true, e, fun _ => h, fun z => by cases z⟩
theorem w_methS {m : Str} {F : V → V → Hp → VK → XK → Prop} {W : WX} {ta : TE} {t : TA} {Q : VK} (h : ta σ H fun y H1 => ∃ a dx fs, y = .ref a ∧ H1 a = some (.ins C dx fs) ∧ fs.lookup m = none ∧ t σ H1 fun vs H2 => sp2 F (y :: vs) H2 Q (WE W σ)) : tMethS C m (sp2 F) W ta t σ H Q := h
theorem w_xf {a dd : Addr} {cls : Value} {f : Str} {te : TE} {fs : List (Str × V)} {v : V} {Q : VK} (h : te σ H fun x H1 => x = .ref a ∧ cls = .ref C ∧ ∃ (dd' : Addr) (fs : List (Str × V)) (v : V), some dd = some dd' ∧ H1 dd' = some (.xd fs) ∧ fs.lookup f = some v ∧ Q v H1) : tXf a cls (some dd) C f te σ H Q := h
end
section
variable {X : Cx} {x n : Str} {c : Value} {i : Nat} {body suite : List Stmt} {b₀ : Stmt} {np pos pos' : Pos} {tb : WX → TS} {ts : Addr → Value → Option Addr → TS}
theorem ptryas (K : PySem.W.Frag) (hs : X.stack = X.env :: X.outer) (hf : X.env.frame = some X.env.locals) (hN : X.N.Nodup) (hi : X.N[i]? = some n) (hln : X.env.kindOf n = some .local) (hc : Names X x c)
    (hb : ∀ (W : WX) (pn : List (Addr × Obj)) (xe : Value → Shared → Prop), Takes (X.tr pn xe) W → PSs (X.tr pn xe) body (tb W))
    (hsu : ∀ (a : Addr) (oe : Obj) (cls : Value) (d : Option Addr) (pn : List (Addr × Obj)), Zc cls d oe → (∃ vs, oe.data = .fields vs) → PSs (X.suite a ((a, oe) :: pn)) (b₀ :: suite) (ts a cls d)) (hK : X.K = K := by rfl) :
    PS X (.Try body [.ExceptHandler (some (.Name x np)) (some n) (b₀ :: suite) pos'] [] [] pos) (tTryAs K c i ts tb) := by
  subst hK
  exact ps_try_as hs hf hN hi hln hc takes_none5 (fun W pn xe tk _ => hb W pn xe tk) hsu
end
theorem kNeS (K : PySem.W.Frag) {X : Cx} {a : Addr} {pn : List (Addr × Obj)} {j : Nat} (hr : Room j X.A) (h : X.K = K := by rfl) : OpR (X.suite a pn) (compareOp .NotEq) (rNeU K) := by
  subst h
  exact op_ne.or (op_neD (by have := hr.un; show X.A.units + 64 < cLine; omega))

end M
namespace M
open PySem PySem.Spec PyProof.Rows L2 Evl MS
--@import HandS.FStr
--@import HandS.Text
/-! own exceptions whose text is an f-string of a word -/
theorem sapp_len (a b : Str) : (a ++ b).length = a.length + b.length := by rw [TL.len_tl, TL.tl_append, List.length_append, ← TL.len_tl, ← TL.len_tl]
/-- WrongWord(word), TooMany(word): one field, a text -/
def spXS (K : PySem.W.Frag) (D : Addr) (f : Str) : Sp := sp2 fun self v H Q _ => ∃ x C, ∃ w : Str, self = .ref x ∧ v = .str w ∧ w.length ≤ 1000 ∧ H x = some (exo x C none) ∧ OexC K C ∧ XS.SupC K D C ∧ PySem.W.findIn K (.ref C) f = some none ∧
  ∀ dx, H dx = none → dx ≠ x → Q .non (upd (upd H dx (exd dx [(f, v)])) x (exo x C (some dx)))
theorem r_mkOS {K : PySem.W.Frag} {C : Addr} {H : Hp} {D : Addr} {f : Str} {w : Str} {Q : XK} (T : OexC K C) (U : XS.SupC K D C) (hf : PySem.W.findIn K (.ref C) f = some none) (hz : w.length ≤ 1000) (h : ∀ d H', H d = none → Ex H H' → H' d = some (.xd [(f, .str w)]) → Q (.ref C) (some d) H') : MkOI C (spXS K D f) [.str w] H Q := by
  obtain ⟨z, k⟩ := r_mkO (v := .str w) T U hf h
  refine ⟨z, fun a na => ?_⟩
  obtain ⟨s, v, e, x, C', h1, h2, h3, h4, h5, h6⟩ := k a na
  cases e
  exact ⟨_, _, rfl, x, C', w, h1, rfl, hz, h2, h3, h4, h5, h6⟩
section
variable {σ : L2.St} {H : Hp} {t : TE} {ts : List TE} {acc : Str} {Q : Str → Hp → Prop} {R : VK}
theorem w_js (h : t σ H fun x H1 => ∃ y : Str, x = .str y ∧ (acc ++ y).length ≤ sizeLine ∧ tJs ts (acc ++ y) σ H1 Q) : tJs (t :: ts) acc σ H Q := h
theorem w_js0 (h : Q acc H) : tJs [] acc σ H Q := h
theorem w_fmtV {i : Nat} {y : Str} (hv : σ[i]? = some (some (.str y))) (hz : y.length ≤ sizeLine) (q : R (.str y) H) : tFmt (tVar i) σ H R := ⟨.str y, hv, .inl ⟨y, rfl, hz, q⟩⟩
end

end M
namespace M
open PySem PySem.Spec PyProof.Rows L2 Evl MS
--@import KE.KExcIs
--@import HandS.ExcIs
--@import HandS.ExcField
/-! isinstance of a caught own exception that has fields -/
def rIsEd (K : PySem.W.Frag) (cls : Value) (d : Option Addr) (D a : Addr) : List V → Hp → VK → Prop := fun xs H Q => cls = .ref D ∧ ∃ dd, d = some dd ∧ (∃ fs, H dd = some (.xd fs)) ∧ rIsE K D a xs H Q
theorem isEd {X : Cx} {a D : Addr} {oe : Obj} {cls : Value} {d : Option Addr} {pn : List (Addr × Obj)} (C : ExcC X.K D) (hz : Zc cls d oe) (hf : ∃ vs, oe.data = .fields vs) :
    CallR (X.suite a ((a, oe) :: pn)) (.builtin "isinstance") (rIsEd X.K cls d D a) := by
  intro pins s σ H xs us Q I r h
  obtain ⟨rfl, dd, rfl, ⟨fs, ea⟩, c, cv, b, rfl, hcv, e, q⟩ := h
  cases r with
  | cons rx rr =>
    cases rr with
    | cons rt rr =>
      cases rr
      cases rx
      have ec := hcv _ rt
      subst ec
      obtain ⟨ha, _⟩ := I.pin (a, oe) (List.mem_append_left _ List.mem_cons_self)
      obtain ⟨vs, hd⟩ := hf
      have hx : ObjOk X.prog X.w H s.heap dd (.xd fs) := I.hok dd _ ea
      obtain ⟨mA, hns, hr⟩ := hx
      obtain ⟨od, ho, hl⟩ := lookIn_ns hns
      have J : PySem.W.InstAt s.heap a oe D (some od) := ⟨ha, hz.1, by unfold PySem.W.notCls; rw [hd] <;> rfl, by rw [hz.2]; exact ho⟩
      obtain ⟨cd, hc, _⟩ := PySem.W.any_some C.hd
      exact PySem.W.kia_one (PySem.W.kitx_exc (by rw [hc]; rfl) C.hg C.hk C.hs C.ha C.hn C.ht C.hm) I.kIn J e (fun z => nomatch z) fun tk => ⟨.bl b, H, I.kept (t' := tk) fun _ _ z => z, rfl, q⟩
theorem kIsEd (K : PySem.W.Frag) {X : Cx} {a D : Addr} {oe : Obj} {cls : Value} {d : Option Addr} {pn : List (Addr × Obj)} (C : ExcC K D) (hz : Zc cls d oe) (hf : ∃ vs, oe.data = .fields vs) (h : X.K = K := by rfl) :
    CallR (X.suite a ((a, oe) :: pn)) (.builtin "isinstance") (rIsEd K cls d D a) := by subst h; exact isEd C hz hf
def excB (K : PySem.W.Frag) (D : Addr) : Bool := He.eqO (PySem.W.findIn K (.ref D) "__getattribute__") (some (some (.builtin "BaseException.__getattribute__"))) && (someNone (PySem.W.findIn K (.ref D) "__getattr__") && (decide (PySem.W.subIn K (.ref D) (.type "BaseException") = some true) && (PySem.W.hasDictIn K D && (He.eqO (PySem.W.findIn K (.ref D) "__class__") (some (some (.builtin "object.__class__"))) && (He.eqO (PySem.W.specialIn K (.builtin "object.__class__") "__get__") (some (some (.builtin "getset_descriptor.__get__"))) && (decide (PySem.W.takesIn K (.builtin "object.__class__") = some true) && decide (PySem.W.mroIn K D (.type "object") = some true)))))))
theorem excB_ok {K : PySem.W.Frag} {D : Addr} (h : excB K D = true) : ExcC K D := by
  unfold excB at h
  simp only [Bool.and_eq_true] at h
  obtain ⟨h1, h2, h3, h4, h5, h6, h7, h8⟩ := h
  exact ⟨He.eqO_ok h1, someNone_ok h2, of_decide_eq_true h3, h4, He.eqO_ok h5, He.eqO_ok h6, of_decide_eq_true h7, of_decide_eq_true h8⟩
theorem r_isEd {K : PySem.W.Frag} {D C a dd : Addr} {b : Bool} {fs : List (Str × V)} {H : Hp} {Q : VK} (g : H dd = some (.xd fs)) (e : PySem.W.kitOne K (.ref D) (.ref C) = some b) (q : Q (.bl b) H) : rIsEd K (.ref D) (some dd) D a [.ref a, .ref C] H Q :=
  ⟨rfl, dd, rfl, ⟨fs, g⟩, .ref C, .ref C, b, rfl, fun u hu => hu, e, q⟩

end M
namespace M
open PySem PySem.Spec PyProof.Rows L2 Evl MS
def top (i : Nat) : Stmt := PySem.Challenge.pw_rosterneed_k66_whole_rosters.main.body.getD i (.Pass ⟨0, 0, 0, 0⟩)
def mainFile : Str := PySem.Challenge.pw_rosterneed_k66_whole_rosters.main.file
abbrev s_is_integer : Stmt := top 9
def d_is_integer : DX := ⟨fun K => He.ga K "is_integer", "is_integer", "is_integer", defArgs s_is_integer, defBody s_is_integer, defScope s_is_integer, [], false⟩
abbrev s_is_count : Stmt := top 10
def d_is_count : DX := ⟨fun K => He.ga K "is_count", "is_count", "is_count", defArgs s_is_count, defBody s_is_count, defScope s_is_count, [], false⟩
abbrev s_is_listed : Stmt := top 11
def d_is_listed : DX := ⟨fun K => He.ga K "is_listed", "is_listed", "is_listed", defArgs s_is_listed, defBody s_is_listed, defScope s_is_listed, [], false⟩
abbrev s_is_counts : Stmt := top 12
def d_is_counts : DX := ⟨fun K => He.ga K "is_counts", "is_counts", "is_counts", defArgs s_is_counts, defBody s_is_counts, defScope s_is_counts, [], false⟩
abbrev s_deep : Stmt := top 13
def d_deep : DX := ⟨fun K => He.ga K "deep", "deep", "deep", defArgs s_deep, defBody s_deep, defScope s_deep, [], false⟩
abbrev s_is_word : Stmt := top 14
def d_is_word : DX := ⟨fun K => He.ga K "is_word", "is_word", "is_word", defArgs s_is_word, defBody s_is_word, defScope s_is_word, [.bl false], false⟩
abbrev s_end_of : Stmt := top 21
def d_end_of : DX := ⟨fun K => He.ga K "end_of", "end_of", "end_of", defArgs s_end_of, defBody s_end_of, defScope s_end_of, [], false⟩
abbrev s_value_at : Stmt := top 22
def d_value_at : DX := ⟨fun K => He.ga K "value_at", "value_at", "value_at", defArgs s_value_at, defBody s_value_at, defScope s_value_at, [], false⟩
abbrev s_short_loop : Stmt := top 23
def d_short_loop : DX := ⟨fun K => He.ga K "short_loop", "short_loop", "short_loop", defArgs s_short_loop, defBody s_short_loop, defScope s_short_loop, [], false⟩
abbrev s_plain_form : Stmt := top 24
def d_plain_form : DX := ⟨fun K => He.ga K "plain_form", "plain_form", "plain_form", defArgs s_plain_form, defBody s_plain_form, defScope s_plain_form, [], false⟩
abbrev s_is_rising : Stmt := top 35
def d_is_rising : DX := ⟨fun K => He.ga K "is_rising", "is_rising", "is_rising", defArgs s_is_rising, defBody s_is_rising, defScope s_is_rising, [], false⟩
abbrev s_checked_table : Stmt := top 36
def d_checked_table : DX := ⟨fun K => He.ga K "checked_table", "checked_table", "checked_table", defArgs s_checked_table, defBody s_checked_table, defScope s_checked_table, [], false⟩
abbrev s_is_row_name : Stmt := top 40
def d_is_row_name : DX := ⟨fun K => He.ga K "is_row_name", "is_row_name", "is_row_name", defArgs s_is_row_name, defBody s_is_row_name, defScope s_is_row_name, [], false⟩
abbrev s_is_names : Stmt := top 42
def d_is_names : DX := ⟨fun K => He.ga K "is_names", "is_names", "is_names", defArgs s_is_names, defBody s_is_names, defScope s_is_names, [], false⟩
abbrev s_stood_ahead : Stmt := top 43
def d_stood_ahead : DX := ⟨fun K => He.ga K "stood_ahead", "stood_ahead", "stood_ahead", defArgs s_stood_ahead, defBody s_stood_ahead, defScope s_stood_ahead, [], false⟩
abbrev s__law_source : Stmt := top 46
def d__law_source : DX := ⟨fun K => He.ga K "_law_source", "_law_source", "_law_source", defArgs s__law_source, defBody s__law_source, defScope s__law_source, [], false⟩
abbrev s__law_pick : Stmt := top 47
def d__law_pick : DX := ⟨fun K => He.ga K "_law_pick", "_law_pick", "_law_pick", defArgs s__law_pick, defBody s__law_pick, defScope s__law_pick, [], false⟩
abbrev s__law_is_integer : Stmt := top 48
def d__law_is_integer : DX := ⟨fun K => He.ga K "_law_is_integer", "_law_is_integer", "_law_is_integer", defArgs s__law_is_integer, defBody s__law_is_integer, defScope s__law_is_integer, [], false⟩
abbrev s__law_is_count : Stmt := top 49
def d__law_is_count : DX := ⟨fun K => He.ga K "_law_is_count", "_law_is_count", "_law_is_count", defArgs s__law_is_count, defBody s__law_is_count, defScope s__law_is_count, [], false⟩
abbrev s__law_is_value : Stmt := top 50
def d__law_is_value : DX := ⟨fun K => He.ga K "_law_is_value", "_law_is_value", "_law_is_value", defArgs s__law_is_value, defBody s__law_is_value, defScope s__law_is_value, [], false⟩
abbrev s__law_plain : Stmt := top 51
def d__law_plain : DX := ⟨fun K => He.ga K "_law_plain", "_law_plain", "_law_plain", defArgs s__law_plain, defBody s__law_plain, defScope s__law_plain, [], false⟩
abbrev s__law_same : Stmt := top 52
def d__law_same : DX := ⟨fun K => He.ga K "_law_same", "_law_same", "_law_same", defArgs s__law_same, defBody s__law_same, defScope s__law_same, [], false⟩
abbrev s__law_stood : Stmt := top 53
def d__law_stood : DX := ⟨fun K => He.ga K "_law_stood", "_law_stood", "_law_stood", defArgs s__law_stood, defBody s__law_stood, defScope s__law_stood, [], false⟩
abbrev s__law_standing : Stmt := top 54
def d__law_standing : DX := ⟨fun K => He.ga K "_law_standing", "_law_standing", "_law_standing", defArgs s__law_standing, defBody s__law_standing, defScope s__law_standing, [], false⟩
abbrev s__law_stands : Stmt := top 55
def d__law_stands : DX := ⟨fun K => He.ga K "_law_stands", "_law_stands", "_law_stands", defArgs s__law_stands, defBody s__law_stands, defScope s__law_stands, [], false⟩
abbrev s__law_refused : Stmt := top 56
def d__law_refused : DX := ⟨fun K => He.ga K "_law_refused", "_law_refused", "_law_refused", defArgs s__law_refused, defBody s__law_refused, defScope s__law_refused, [], false⟩
abbrev s__law_tells : Stmt := top 57
def d__law_tells : DX := ⟨fun K => He.ga K "_law_tells", "_law_tells", "_law_tells", defArgs s__law_tells, defBody s__law_tells, defScope s__law_tells, [], false⟩
abbrev s_law : Stmt := top 58
def d_law : DX := ⟨fun K => He.ga K "law", "law", "law", defArgs s_law, defBody s_law, defScope s_law, [], false⟩
abbrev s_Table_init : Stmt := inClass (top 37) 0
def d_Table_init : DX := ⟨fun K => He.ma K (He.ga K "Table") "__init__", "__init__", "Table.__init__", defArgs s_Table_init, defBody s_Table_init, defScope s_Table_init, [.adr (He.dflAt ("Table", some "__init__") 0), .int 0], false⟩
abbrev s_Table_eq : Stmt := inClass (top 37) 7
def d_Table_eq : DX := ⟨fun K => He.ma K (He.ga K "Table") "__eq__", "__eq__", "Table.__eq__", defArgs s_Table_eq, defBody s_Table_eq, defScope s_Table_eq, [], false⟩
abbrev s_Roster_init : Stmt := inClass (top 44) 0
def d_Roster_init : DX := ⟨fun K => He.ma K (He.ga K "Roster") "__init__", "__init__", "Roster.__init__", defArgs s_Roster_init, defBody s_Roster_init, defScope s_Roster_init, [.adr (He.dflAt ("Roster", some "__init__") 0)], false⟩
abbrev s_Roster_eq : Stmt := inClass (top 44) 1
def d_Roster_eq : DX := ⟨fun K => He.ma K (He.ga K "Roster") "__eq__", "__eq__", "Roster.__eq__", defArgs s_Roster_eq, defBody s_Roster_eq, defScope s_Roster_eq, [], false⟩
abbrev s_Roster_number : Stmt := inClass (top 44) 2
def d_Roster_number : DX := ⟨fun K => He.ma K (He.ga K "Roster") "number", "number", "Roster.number", defArgs s_Roster_number, defBody s_Roster_number, defScope s_Roster_number, [], false⟩
abbrev s_Roster_ahead : Stmt := inClass (top 44) 3
def d_Roster_ahead : DX := ⟨fun K => He.ma K (He.ga K "Roster") "ahead", "ahead", "Roster.ahead", defArgs s_Roster_ahead, defBody s_Roster_ahead, defScope s_Roster_ahead, [], false⟩
abbrev s_WrongWord_init : Stmt := inClass (top 4) 0
def d_WrongWord_init : DX := ⟨fun K => He.ma K (He.ga K "WrongWord") "__init__", "__init__", "WrongWord.__init__", defArgs s_WrongWord_init, defBody s_WrongWord_init, defScope s_WrongWord_init, [], true⟩
def fn0 : List DX := [d_is_integer, d_is_count, d_is_listed, d_is_counts, d_deep, d_is_word, d_end_of, d_value_at, d_short_loop, d_plain_form, d_is_rising, d_checked_table]
def fn1 : List DX := [d_is_row_name, d_is_names, d_stood_ahead, d__law_source, d__law_pick, d__law_is_integer, d__law_is_count, d__law_is_value, d__law_plain, d__law_same, d__law_stood, d__law_standing]
def fn2 : List DX := [d__law_stands, d__law_refused, d__law_tells, d_law, d_Table_init, d_Table_eq, d_Roster_init, d_Roster_eq, d_Roster_number, d_Roster_ahead, d_WrongWord_init]
def fn : List DX := fn0 ++ fn1 ++ fn2
def fa0 : List He.Fa := [.free "abs", .free "all", .free "any", .free "bool", .free "enumerate", .free "int", .free "isinstance", .free "len", .free "list", .free "max", .free "min", .free "range"]
def fa1 : List He.Fa := [.free "str", .free "tuple", .glo "is_integer", .glo "is_count", .glo "is_listed", .glo "is_counts", .glo "deep", .glo "is_word", .glo "end_of", .glo "value_at", .glo "short_loop", .glo "plain_form"]
def fa2 : List He.Fa := [.glo "is_rising", .glo "checked_table", .glo "is_row_name", .glo "is_names", .glo "stood_ahead", .glo "_law_source", .glo "_law_pick", .glo "_law_is_integer", .glo "_law_is_count", .glo "_law_is_value", .glo "_law_plain", .glo "_law_same"]
def fa3 : List He.Fa := [.glo "_law_stood", .glo "_law_standing", .glo "_law_stands", .glo "_law_refused", .glo "_law_tells", .glo "law", .meth "Table" "__init__", .meth "Table" "__eq__", .meth "Roster" "__init__", .meth "Roster" "__eq__", .meth "Roster" "number", .meth "Roster" "ahead"]
def fa4 : List He.Fa := [.glo "Table", .cls "Table", .mkr "Table", .noat "Table" "head", .noat "Table" "loop", .noat "Table" "rise", .glo "Roster", .cls "Roster", .mkr "Roster", .noat "Roster" "first", .noat "Roster" "then", .glo "RosterneedError"]
def fa5 : List He.Fa := [.free "super", .glo "BadRoster"]
def fa : List He.Fa := fa0 ++ fa1 ++ fa2 ++ fa3 ++ fa4 ++ fa5
def exL0 : List (PySem.W.Frag → Bool) := [(insB "Table"), (kitSB "Table"), (fun K => PySem.W.notFirst K (He.ga K "Table") (.ref (He.ga K "Table"))), (fun K => He.eqO (PySem.W.findIn K (.ref (He.ga K "Table")) "__ne__") (some (some (.builtin "object.__ne__")))), (fun K => decide (PySem.W.mroIn K (He.ga K "Table") (.type "object") = some true)), (kitB "Table" "tuple" false), (nfB "Table" "tuple"), (kitB "Table" "list" false), (nfB "Table" "list"), (kitB "Table" "int" false), (nfB "Table" "int"), (kitB "Table" "NoneType" false)]
def exL1 : List (PySem.W.Frag → Bool) := [(nfB "Table" "NoneType"), (kitB "Table" "str" false), (nfB "Table" "str"), (kitB "Table" "bool" false), (nfB "Table" "bool"), (insB "Roster"), (kitSB "Roster"), (fun K => PySem.W.notFirst K (He.ga K "Roster") (.ref (He.ga K "Roster"))), (fun K => He.eqO (PySem.W.findIn K (.ref (He.ga K "Roster")) "__ne__") (some (some (.builtin "object.__ne__")))), (fun K => decide (PySem.W.mroIn K (He.ga K "Roster") (.type "object") = some true)), (kitB "Roster" "tuple" false), (nfB "Roster" "tuple")]
def exL2 : List (PySem.W.Frag → Bool) := [(kitB "Roster" "list" false), (nfB "Roster" "list"), (kitB "Roster" "int" false), (nfB "Roster" "int"), (kitB "Roster" "NoneType" false), (nfB "Roster" "NoneType"), (kitB "Roster" "str" false), (nfB "Roster" "str"), (kitB "Roster" "bool" false), (nfB "Roster" "bool"), (fun K => tup0B K (He.dflAt ("Table", some "__init__") 0 K)), (fun K => tup0B K (He.dflAt ("Roster", some "__init__") 0 K))]
def exL3 : List (PySem.W.Frag → Bool) := [(fun K => XS.supXB mainFile K (He.ga K "WrongWord") (d_WrongWord_init.adr K)), (fun K => oexB K (He.ga K "BadRoster")), (fun K => He.eqO (PySem.W.findIn K (.ref (He.ga K "BadRoster")) "__init__") (some (some (.ref (He.ma K (He.ga K "WrongWord") "__init__"))))), (fun K => decide (PySem.W.typeIn K (.ref (He.ma K (He.ga K "WrongWord") "__init__")) = some (.type "function"))), (fun K => XS.supCB K (He.ga K "WrongWord") (He.ga K "BadRoster")), (fun K => xfB K (He.ga K "BadRoster")), (fun K => someNone (PySem.W.findIn K (.ref (He.ga K "BadRoster")) "word")), (fun K => decide (PySem.W.exmOne K (.ref (He.ga K "BadRoster")) (.ref (He.ga K "BadRoster")) = some true)), (fun K => excB K (He.ga K "BadRoster")), (fun K => decide (PySem.W.kitOne K (.ref (He.ga K "BadRoster")) (.ref (He.ga K "RosterneedError")) = some true))]
def exL : List (PySem.W.Frag → Bool) := exL0 ++ exL1 ++ exL2 ++ exL3
def exB (K : PySem.W.Frag) : Bool := exL.all fun f => f K
/-- what the top has left -/
structure Env (P : Program) (K : PySem.W.Frag) (mg : Str → Option Value) : Prop where
  ex : ∃ h : Heap, K.In h ∧ h.Ns mainGlobals mg
  c : SaysM fa fn exB K
  pf : ((P.main.file : Str) == mainFile) = true ∧ (P.main.scope.names.lookup ("super" : Str)).isSome = false
theorem Env.x {P : Program} {K : PySem.W.Frag} {mg : Str → Option Value} (E : Env P K mg) (i : Nat) {f : PySem.W.Frag → Bool} (h : exL[i]? = some f) : f K = true := List.all_eq_true.mp (show (exL.all fun f => f K) = true from E.c.more) f (List.mem_of_getElem? h)
theorem Env.f_abs {P : Program} {K : PySem.W.Frag} {mg : Str → Option Value} (E : Env P K mg) : mg "abs" = none := by obtain ⟨h, X, G⟩ := E.ex; exact He.free_ok X G (E.c.fact 0 (f := .free "abs") rfl)
theorem Env.f_all {P : Program} {K : PySem.W.Frag} {mg : Str → Option Value} (E : Env P K mg) : mg "all" = none := by obtain ⟨h, X, G⟩ := E.ex; exact He.free_ok X G (E.c.fact 1 (f := .free "all") rfl)
theorem Env.f_any {P : Program} {K : PySem.W.Frag} {mg : Str → Option Value} (E : Env P K mg) : mg "any" = none := by obtain ⟨h, X, G⟩ := E.ex; exact He.free_ok X G (E.c.fact 2 (f := .free "any") rfl)
theorem Env.f_bool {P : Program} {K : PySem.W.Frag} {mg : Str → Option Value} (E : Env P K mg) : mg "bool" = none := by obtain ⟨h, X, G⟩ := E.ex; exact He.free_ok X G (E.c.fact 3 (f := .free "bool") rfl)
theorem Env.f_enumerate {P : Program} {K : PySem.W.Frag} {mg : Str → Option Value} (E : Env P K mg) : mg "enumerate" = none := by obtain ⟨h, X, G⟩ := E.ex; exact He.free_ok X G (E.c.fact 4 (f := .free "enumerate") rfl)
theorem Env.f_int {P : Program} {K : PySem.W.Frag} {mg : Str → Option Value} (E : Env P K mg) : mg "int" = none := by obtain ⟨h, X, G⟩ := E.ex; exact He.free_ok X G (E.c.fact 5 (f := .free "int") rfl)
theorem Env.f_isinstance {P : Program} {K : PySem.W.Frag} {mg : Str → Option Value} (E : Env P K mg) : mg "isinstance" = none := by obtain ⟨h, X, G⟩ := E.ex; exact He.free_ok X G (E.c.fact 6 (f := .free "isinstance") rfl)
theorem Env.f_len {P : Program} {K : PySem.W.Frag} {mg : Str → Option Value} (E : Env P K mg) : mg "len" = none := by obtain ⟨h, X, G⟩ := E.ex; exact He.free_ok X G (E.c.fact 7 (f := .free "len") rfl)
theorem Env.f_list {P : Program} {K : PySem.W.Frag} {mg : Str → Option Value} (E : Env P K mg) : mg "list" = none := by obtain ⟨h, X, G⟩ := E.ex; exact He.free_ok X G (E.c.fact 8 (f := .free "list") rfl)
theorem Env.f_max {P : Program} {K : PySem.W.Frag} {mg : Str → Option Value} (E : Env P K mg) : mg "max" = none := by obtain ⟨h, X, G⟩ := E.ex; exact He.free_ok X G (E.c.fact 9 (f := .free "max") rfl)
theorem Env.f_min {P : Program} {K : PySem.W.Frag} {mg : Str → Option Value} (E : Env P K mg) : mg "min" = none := by obtain ⟨h, X, G⟩ := E.ex; exact He.free_ok X G (E.c.fact 10 (f := .free "min") rfl)
theorem Env.f_range {P : Program} {K : PySem.W.Frag} {mg : Str → Option Value} (E : Env P K mg) : mg "range" = none := by obtain ⟨h, X, G⟩ := E.ex; exact He.free_ok X G (E.c.fact 11 (f := .free "range") rfl)
theorem Env.f_str {P : Program} {K : PySem.W.Frag} {mg : Str → Option Value} (E : Env P K mg) : mg "str" = none := by obtain ⟨h, X, G⟩ := E.ex; exact He.free_ok X G (E.c.fact 12 (f := .free "str") rfl)
theorem Env.f_tuple {P : Program} {K : PySem.W.Frag} {mg : Str → Option Value} (E : Env P K mg) : mg "tuple" = none := by obtain ⟨h, X, G⟩ := E.ex; exact He.free_ok X G (E.c.fact 13 (f := .free "tuple") rfl)
theorem Env.g_is_integer {P : Program} {K : PySem.W.Frag} {mg : Str → Option Value} (E : Env P K mg) : mg "is_integer" = some (.ref (He.ga K "is_integer")) := by obtain ⟨h, X, G⟩ := E.ex; exact He.glo_ok X G (E.c.fact 14 (f := .glo "is_integer") rfl)
theorem Env.g_is_count {P : Program} {K : PySem.W.Frag} {mg : Str → Option Value} (E : Env P K mg) : mg "is_count" = some (.ref (He.ga K "is_count")) := by obtain ⟨h, X, G⟩ := E.ex; exact He.glo_ok X G (E.c.fact 15 (f := .glo "is_count") rfl)
theorem Env.g_is_listed {P : Program} {K : PySem.W.Frag} {mg : Str → Option Value} (E : Env P K mg) : mg "is_listed" = some (.ref (He.ga K "is_listed")) := by obtain ⟨h, X, G⟩ := E.ex; exact He.glo_ok X G (E.c.fact 16 (f := .glo "is_listed") rfl)
theorem Env.g_is_counts {P : Program} {K : PySem.W.Frag} {mg : Str → Option Value} (E : Env P K mg) : mg "is_counts" = some (.ref (He.ga K "is_counts")) := by obtain ⟨h, X, G⟩ := E.ex; exact He.glo_ok X G (E.c.fact 17 (f := .glo "is_counts") rfl)
theorem Env.g_deep {P : Program} {K : PySem.W.Frag} {mg : Str → Option Value} (E : Env P K mg) : mg "deep" = some (.ref (He.ga K "deep")) := by obtain ⟨h, X, G⟩ := E.ex; exact He.glo_ok X G (E.c.fact 18 (f := .glo "deep") rfl)
theorem Env.g_is_word {P : Program} {K : PySem.W.Frag} {mg : Str → Option Value} (E : Env P K mg) : mg "is_word" = some (.ref (He.ga K "is_word")) := by obtain ⟨h, X, G⟩ := E.ex; exact He.glo_ok X G (E.c.fact 19 (f := .glo "is_word") rfl)
theorem Env.g_end_of {P : Program} {K : PySem.W.Frag} {mg : Str → Option Value} (E : Env P K mg) : mg "end_of" = some (.ref (He.ga K "end_of")) := by obtain ⟨h, X, G⟩ := E.ex; exact He.glo_ok X G (E.c.fact 20 (f := .glo "end_of") rfl)
theorem Env.g_value_at {P : Program} {K : PySem.W.Frag} {mg : Str → Option Value} (E : Env P K mg) : mg "value_at" = some (.ref (He.ga K "value_at")) := by obtain ⟨h, X, G⟩ := E.ex; exact He.glo_ok X G (E.c.fact 21 (f := .glo "value_at") rfl)
theorem Env.g_short_loop {P : Program} {K : PySem.W.Frag} {mg : Str → Option Value} (E : Env P K mg) : mg "short_loop" = some (.ref (He.ga K "short_loop")) := by obtain ⟨h, X, G⟩ := E.ex; exact He.glo_ok X G (E.c.fact 22 (f := .glo "short_loop") rfl)
theorem Env.g_plain_form {P : Program} {K : PySem.W.Frag} {mg : Str → Option Value} (E : Env P K mg) : mg "plain_form" = some (.ref (He.ga K "plain_form")) := by obtain ⟨h, X, G⟩ := E.ex; exact He.glo_ok X G (E.c.fact 23 (f := .glo "plain_form") rfl)
theorem Env.g_is_rising {P : Program} {K : PySem.W.Frag} {mg : Str → Option Value} (E : Env P K mg) : mg "is_rising" = some (.ref (He.ga K "is_rising")) := by obtain ⟨h, X, G⟩ := E.ex; exact He.glo_ok X G (E.c.fact 24 (f := .glo "is_rising") rfl)
theorem Env.g_checked_table {P : Program} {K : PySem.W.Frag} {mg : Str → Option Value} (E : Env P K mg) : mg "checked_table" = some (.ref (He.ga K "checked_table")) := by obtain ⟨h, X, G⟩ := E.ex; exact He.glo_ok X G (E.c.fact 25 (f := .glo "checked_table") rfl)
theorem Env.g_is_row_name {P : Program} {K : PySem.W.Frag} {mg : Str → Option Value} (E : Env P K mg) : mg "is_row_name" = some (.ref (He.ga K "is_row_name")) := by obtain ⟨h, X, G⟩ := E.ex; exact He.glo_ok X G (E.c.fact 26 (f := .glo "is_row_name") rfl)
theorem Env.g_is_names {P : Program} {K : PySem.W.Frag} {mg : Str → Option Value} (E : Env P K mg) : mg "is_names" = some (.ref (He.ga K "is_names")) := by obtain ⟨h, X, G⟩ := E.ex; exact He.glo_ok X G (E.c.fact 27 (f := .glo "is_names") rfl)
theorem Env.g_stood_ahead {P : Program} {K : PySem.W.Frag} {mg : Str → Option Value} (E : Env P K mg) : mg "stood_ahead" = some (.ref (He.ga K "stood_ahead")) := by obtain ⟨h, X, G⟩ := E.ex; exact He.glo_ok X G (E.c.fact 28 (f := .glo "stood_ahead") rfl)
theorem Env.g__law_source {P : Program} {K : PySem.W.Frag} {mg : Str → Option Value} (E : Env P K mg) : mg "_law_source" = some (.ref (He.ga K "_law_source")) := by obtain ⟨h, X, G⟩ := E.ex; exact He.glo_ok X G (E.c.fact 29 (f := .glo "_law_source") rfl)
theorem Env.g__law_pick {P : Program} {K : PySem.W.Frag} {mg : Str → Option Value} (E : Env P K mg) : mg "_law_pick" = some (.ref (He.ga K "_law_pick")) := by obtain ⟨h, X, G⟩ := E.ex; exact He.glo_ok X G (E.c.fact 30 (f := .glo "_law_pick") rfl)
theorem Env.g__law_is_integer {P : Program} {K : PySem.W.Frag} {mg : Str → Option Value} (E : Env P K mg) : mg "_law_is_integer" = some (.ref (He.ga K "_law_is_integer")) := by obtain ⟨h, X, G⟩ := E.ex; exact He.glo_ok X G (E.c.fact 31 (f := .glo "_law_is_integer") rfl)
theorem Env.g__law_is_count {P : Program} {K : PySem.W.Frag} {mg : Str → Option Value} (E : Env P K mg) : mg "_law_is_count" = some (.ref (He.ga K "_law_is_count")) := by obtain ⟨h, X, G⟩ := E.ex; exact He.glo_ok X G (E.c.fact 32 (f := .glo "_law_is_count") rfl)
theorem Env.g__law_is_value {P : Program} {K : PySem.W.Frag} {mg : Str → Option Value} (E : Env P K mg) : mg "_law_is_value" = some (.ref (He.ga K "_law_is_value")) := by obtain ⟨h, X, G⟩ := E.ex; exact He.glo_ok X G (E.c.fact 33 (f := .glo "_law_is_value") rfl)
theorem Env.g__law_plain {P : Program} {K : PySem.W.Frag} {mg : Str → Option Value} (E : Env P K mg) : mg "_law_plain" = some (.ref (He.ga K "_law_plain")) := by obtain ⟨h, X, G⟩ := E.ex; exact He.glo_ok X G (E.c.fact 34 (f := .glo "_law_plain") rfl)
theorem Env.g__law_same {P : Program} {K : PySem.W.Frag} {mg : Str → Option Value} (E : Env P K mg) : mg "_law_same" = some (.ref (He.ga K "_law_same")) := by obtain ⟨h, X, G⟩ := E.ex; exact He.glo_ok X G (E.c.fact 35 (f := .glo "_law_same") rfl)
theorem Env.g__law_stood {P : Program} {K : PySem.W.Frag} {mg : Str → Option Value} (E : Env P K mg) : mg "_law_stood" = some (.ref (He.ga K "_law_stood")) := by obtain ⟨h, X, G⟩ := E.ex; exact He.glo_ok X G (E.c.fact 36 (f := .glo "_law_stood") rfl)
theorem Env.g__law_standing {P : Program} {K : PySem.W.Frag} {mg : Str → Option Value} (E : Env P K mg) : mg "_law_standing" = some (.ref (He.ga K "_law_standing")) := by obtain ⟨h, X, G⟩ := E.ex; exact He.glo_ok X G (E.c.fact 37 (f := .glo "_law_standing") rfl)
theorem Env.g__law_stands {P : Program} {K : PySem.W.Frag} {mg : Str → Option Value} (E : Env P K mg) : mg "_law_stands" = some (.ref (He.ga K "_law_stands")) := by obtain ⟨h, X, G⟩ := E.ex; exact He.glo_ok X G (E.c.fact 38 (f := .glo "_law_stands") rfl)
theorem Env.g__law_refused {P : Program} {K : PySem.W.Frag} {mg : Str → Option Value} (E : Env P K mg) : mg "_law_refused" = some (.ref (He.ga K "_law_refused")) := by obtain ⟨h, X, G⟩ := E.ex; exact He.glo_ok X G (E.c.fact 39 (f := .glo "_law_refused") rfl)
theorem Env.g__law_tells {P : Program} {K : PySem.W.Frag} {mg : Str → Option Value} (E : Env P K mg) : mg "_law_tells" = some (.ref (He.ga K "_law_tells")) := by obtain ⟨h, X, G⟩ := E.ex; exact He.glo_ok X G (E.c.fact 40 (f := .glo "_law_tells") rfl)
theorem Env.g_law {P : Program} {K : PySem.W.Frag} {mg : Str → Option Value} (E : Env P K mg) : mg "law" = some (.ref (He.ga K "law")) := by obtain ⟨h, X, G⟩ := E.ex; exact He.glo_ok X G (E.c.fact 41 (f := .glo "law") rfl)
theorem Env.m_Table_init {P : Program} {K : PySem.W.Frag} {mg : Str → Option Value} (E : Env P K mg) : Meth K (He.ga K "Table") "__init__" (He.ma K (He.ga K "Table") "__init__") := He.meth_ok (E.c.fact 42 (f := .meth "Table" "__init__") rfl)
theorem Env.m_Table_eq {P : Program} {K : PySem.W.Frag} {mg : Str → Option Value} (E : Env P K mg) : Meth K (He.ga K "Table") "__eq__" (He.ma K (He.ga K "Table") "__eq__") := He.meth_ok (E.c.fact 43 (f := .meth "Table" "__eq__") rfl)
theorem Env.m_Roster_init {P : Program} {K : PySem.W.Frag} {mg : Str → Option Value} (E : Env P K mg) : Meth K (He.ga K "Roster") "__init__" (He.ma K (He.ga K "Roster") "__init__") := He.meth_ok (E.c.fact 44 (f := .meth "Roster" "__init__") rfl)
theorem Env.m_Roster_eq {P : Program} {K : PySem.W.Frag} {mg : Str → Option Value} (E : Env P K mg) : Meth K (He.ga K "Roster") "__eq__" (He.ma K (He.ga K "Roster") "__eq__") := He.meth_ok (E.c.fact 45 (f := .meth "Roster" "__eq__") rfl)
theorem Env.m_Roster_number {P : Program} {K : PySem.W.Frag} {mg : Str → Option Value} (E : Env P K mg) : Meth K (He.ga K "Roster") "number" (He.ma K (He.ga K "Roster") "number") := He.meth_ok (E.c.fact 46 (f := .meth "Roster" "number") rfl)
theorem Env.m_Roster_ahead {P : Program} {K : PySem.W.Frag} {mg : Str → Option Value} (E : Env P K mg) : Meth K (He.ga K "Roster") "ahead" (He.ma K (He.ga K "Roster") "ahead") := He.meth_ok (E.c.fact 47 (f := .meth "Roster" "ahead") rfl)
theorem Env.g_Table {P : Program} {K : PySem.W.Frag} {mg : Str → Option Value} (E : Env P K mg) : mg "Table" = some (.ref (He.ga K "Table")) := by obtain ⟨h, X, G⟩ := E.ex; exact He.glo_ok X G (E.c.fact 48 (f := .glo "Table") rfl)
theorem Env.c_Table {P : Program} {K : PySem.W.Frag} {mg : Str → Option Value} (E : Env P K mg) : Cls K (He.ga K "Table") := He.cls_ok (E.c.fact 49 (f := .cls "Table") rfl)
theorem Env.mk_Table {P : Program} {K : PySem.W.Frag} {mg : Str → Option Value} (E : Env P K mg) : Mk K (He.ga K "Table") (He.ma K (He.ga K "Table") "__init__") := He.mkr_ok (E.c.fact 50 (f := .mkr "Table") rfl)
theorem Env.na_Table_head {P : Program} {K : PySem.W.Frag} {mg : Str → Option Value} (E : Env P K mg) : NoAttr K (He.ga K "Table") "head" := He.noat_ok (E.c.fact 51 (f := .noat "Table" "head") rfl)
theorem Env.na_Table_loop {P : Program} {K : PySem.W.Frag} {mg : Str → Option Value} (E : Env P K mg) : NoAttr K (He.ga K "Table") "loop" := He.noat_ok (E.c.fact 52 (f := .noat "Table" "loop") rfl)
theorem Env.na_Table_rise {P : Program} {K : PySem.W.Frag} {mg : Str → Option Value} (E : Env P K mg) : NoAttr K (He.ga K "Table") "rise" := He.noat_ok (E.c.fact 53 (f := .noat "Table" "rise") rfl)
theorem Env.ins_Table {P : Program} {K : PySem.W.Frag} {mg : Str → Option Value} (E : Env P K mg) : insB "Table" K = true := (E.x 0 (f := insB "Table") rfl)
theorem Env.kit_Table_self {P : Program} {K : PySem.W.Frag} {mg : Str → Option Value} (E : Env P K mg) : PySem.W.kitOne K (.ref (He.ga K "Table")) (.ref (He.ga K "Table")) = some true := of_decide_eq_true (E.x 1 (f := kitSB "Table") rfl)
theorem Env.nf_Table_self {P : Program} {K : PySem.W.Frag} {mg : Str → Option Value} (E : Env P K mg) : PySem.W.notFirst K (He.ga K "Table") (.ref (He.ga K "Table")) = true := (E.x 2 (f := fun K => PySem.W.notFirst K (He.ga K "Table") (.ref (He.ga K "Table"))) rfl)
theorem Env.ne_Table {P : Program} {K : PySem.W.Frag} {mg : Str → Option Value} (E : Env P K mg) : PySem.W.findIn K (.ref (He.ga K "Table")) "__ne__" = some (some (.builtin "object.__ne__")) := He.eqO_ok (E.x 3 (f := fun K => He.eqO (PySem.W.findIn K (.ref (He.ga K "Table")) "__ne__") (some (some (.builtin "object.__ne__")))) rfl)
theorem Env.mo_Table {P : Program} {K : PySem.W.Frag} {mg : Str → Option Value} (E : Env P K mg) : PySem.W.mroIn K (He.ga K "Table") (.type "object") = some true := of_decide_eq_true (E.x 4 (f := fun K => decide (PySem.W.mroIn K (He.ga K "Table") (.type "object") = some true)) rfl)
theorem Env.kit_Table_tuple {P : Program} {K : PySem.W.Frag} {mg : Str → Option Value} (E : Env P K mg) : PySem.W.kitOne K (.type "tuple") (.ref (He.ga K "Table")) = some false := of_decide_eq_true (E.x 5 (f := kitB "Table" "tuple" false) rfl)
theorem Env.nf_Table_tuple {P : Program} {K : PySem.W.Frag} {mg : Str → Option Value} (E : Env P K mg) : PySem.W.notFirst K (He.ga K "Table") (.type "tuple") = true := (E.x 6 (f := nfB "Table" "tuple") rfl)
theorem Env.kit_Table_list {P : Program} {K : PySem.W.Frag} {mg : Str → Option Value} (E : Env P K mg) : PySem.W.kitOne K (.type "list") (.ref (He.ga K "Table")) = some false := of_decide_eq_true (E.x 7 (f := kitB "Table" "list" false) rfl)
theorem Env.nf_Table_list {P : Program} {K : PySem.W.Frag} {mg : Str → Option Value} (E : Env P K mg) : PySem.W.notFirst K (He.ga K "Table") (.type "list") = true := (E.x 8 (f := nfB "Table" "list") rfl)
theorem Env.kit_Table_int {P : Program} {K : PySem.W.Frag} {mg : Str → Option Value} (E : Env P K mg) : PySem.W.kitOne K (.type "int") (.ref (He.ga K "Table")) = some false := of_decide_eq_true (E.x 9 (f := kitB "Table" "int" false) rfl)
theorem Env.nf_Table_int {P : Program} {K : PySem.W.Frag} {mg : Str → Option Value} (E : Env P K mg) : PySem.W.notFirst K (He.ga K "Table") (.type "int") = true := (E.x 10 (f := nfB "Table" "int") rfl)
theorem Env.kit_Table_NoneType {P : Program} {K : PySem.W.Frag} {mg : Str → Option Value} (E : Env P K mg) : PySem.W.kitOne K (.type "NoneType") (.ref (He.ga K "Table")) = some false := of_decide_eq_true (E.x 11 (f := kitB "Table" "NoneType" false) rfl)
theorem Env.nf_Table_NoneType {P : Program} {K : PySem.W.Frag} {mg : Str → Option Value} (E : Env P K mg) : PySem.W.notFirst K (He.ga K "Table") (.type "NoneType") = true := (E.x 12 (f := nfB "Table" "NoneType") rfl)
theorem Env.kit_Table_str {P : Program} {K : PySem.W.Frag} {mg : Str → Option Value} (E : Env P K mg) : PySem.W.kitOne K (.type "str") (.ref (He.ga K "Table")) = some false := of_decide_eq_true (E.x 13 (f := kitB "Table" "str" false) rfl)
theorem Env.nf_Table_str {P : Program} {K : PySem.W.Frag} {mg : Str → Option Value} (E : Env P K mg) : PySem.W.notFirst K (He.ga K "Table") (.type "str") = true := (E.x 14 (f := nfB "Table" "str") rfl)
theorem Env.kit_Table_bool {P : Program} {K : PySem.W.Frag} {mg : Str → Option Value} (E : Env P K mg) : PySem.W.kitOne K (.type "bool") (.ref (He.ga K "Table")) = some false := of_decide_eq_true (E.x 15 (f := kitB "Table" "bool" false) rfl)
theorem Env.nf_Table_bool {P : Program} {K : PySem.W.Frag} {mg : Str → Option Value} (E : Env P K mg) : PySem.W.notFirst K (He.ga K "Table") (.type "bool") = true := (E.x 16 (f := nfB "Table" "bool") rfl)
theorem Env.g_Roster {P : Program} {K : PySem.W.Frag} {mg : Str → Option Value} (E : Env P K mg) : mg "Roster" = some (.ref (He.ga K "Roster")) := by obtain ⟨h, X, G⟩ := E.ex; exact He.glo_ok X G (E.c.fact 54 (f := .glo "Roster") rfl)
theorem Env.c_Roster {P : Program} {K : PySem.W.Frag} {mg : Str → Option Value} (E : Env P K mg) : Cls K (He.ga K "Roster") := He.cls_ok (E.c.fact 55 (f := .cls "Roster") rfl)
theorem Env.mk_Roster {P : Program} {K : PySem.W.Frag} {mg : Str → Option Value} (E : Env P K mg) : Mk K (He.ga K "Roster") (He.ma K (He.ga K "Roster") "__init__") := He.mkr_ok (E.c.fact 56 (f := .mkr "Roster") rfl)
theorem Env.na_Roster_first {P : Program} {K : PySem.W.Frag} {mg : Str → Option Value} (E : Env P K mg) : NoAttr K (He.ga K "Roster") "first" := He.noat_ok (E.c.fact 57 (f := .noat "Roster" "first") rfl)
theorem Env.na_Roster_then {P : Program} {K : PySem.W.Frag} {mg : Str → Option Value} (E : Env P K mg) : NoAttr K (He.ga K "Roster") "then" := He.noat_ok (E.c.fact 58 (f := .noat "Roster" "then") rfl)
theorem Env.ins_Roster {P : Program} {K : PySem.W.Frag} {mg : Str → Option Value} (E : Env P K mg) : insB "Roster" K = true := (E.x 17 (f := insB "Roster") rfl)
theorem Env.kit_Roster_self {P : Program} {K : PySem.W.Frag} {mg : Str → Option Value} (E : Env P K mg) : PySem.W.kitOne K (.ref (He.ga K "Roster")) (.ref (He.ga K "Roster")) = some true := of_decide_eq_true (E.x 18 (f := kitSB "Roster") rfl)
theorem Env.nf_Roster_self {P : Program} {K : PySem.W.Frag} {mg : Str → Option Value} (E : Env P K mg) : PySem.W.notFirst K (He.ga K "Roster") (.ref (He.ga K "Roster")) = true := (E.x 19 (f := fun K => PySem.W.notFirst K (He.ga K "Roster") (.ref (He.ga K "Roster"))) rfl)
theorem Env.ne_Roster {P : Program} {K : PySem.W.Frag} {mg : Str → Option Value} (E : Env P K mg) : PySem.W.findIn K (.ref (He.ga K "Roster")) "__ne__" = some (some (.builtin "object.__ne__")) := He.eqO_ok (E.x 20 (f := fun K => He.eqO (PySem.W.findIn K (.ref (He.ga K "Roster")) "__ne__") (some (some (.builtin "object.__ne__")))) rfl)
theorem Env.mo_Roster {P : Program} {K : PySem.W.Frag} {mg : Str → Option Value} (E : Env P K mg) : PySem.W.mroIn K (He.ga K "Roster") (.type "object") = some true := of_decide_eq_true (E.x 21 (f := fun K => decide (PySem.W.mroIn K (He.ga K "Roster") (.type "object") = some true)) rfl)
theorem Env.kit_Roster_tuple {P : Program} {K : PySem.W.Frag} {mg : Str → Option Value} (E : Env P K mg) : PySem.W.kitOne K (.type "tuple") (.ref (He.ga K "Roster")) = some false := of_decide_eq_true (E.x 22 (f := kitB "Roster" "tuple" false) rfl)
theorem Env.nf_Roster_tuple {P : Program} {K : PySem.W.Frag} {mg : Str → Option Value} (E : Env P K mg) : PySem.W.notFirst K (He.ga K "Roster") (.type "tuple") = true := (E.x 23 (f := nfB "Roster" "tuple") rfl)
theorem Env.kit_Roster_list {P : Program} {K : PySem.W.Frag} {mg : Str → Option Value} (E : Env P K mg) : PySem.W.kitOne K (.type "list") (.ref (He.ga K "Roster")) = some false := of_decide_eq_true (E.x 24 (f := kitB "Roster" "list" false) rfl)
theorem Env.nf_Roster_list {P : Program} {K : PySem.W.Frag} {mg : Str → Option Value} (E : Env P K mg) : PySem.W.notFirst K (He.ga K "Roster") (.type "list") = true := (E.x 25 (f := nfB "Roster" "list") rfl)
theorem Env.kit_Roster_int {P : Program} {K : PySem.W.Frag} {mg : Str → Option Value} (E : Env P K mg) : PySem.W.kitOne K (.type "int") (.ref (He.ga K "Roster")) = some false := of_decide_eq_true (E.x 26 (f := kitB "Roster" "int" false) rfl)
theorem Env.nf_Roster_int {P : Program} {K : PySem.W.Frag} {mg : Str → Option Value} (E : Env P K mg) : PySem.W.notFirst K (He.ga K "Roster") (.type "int") = true := (E.x 27 (f := nfB "Roster" "int") rfl)
theorem Env.kit_Roster_NoneType {P : Program} {K : PySem.W.Frag} {mg : Str → Option Value} (E : Env P K mg) : PySem.W.kitOne K (.type "NoneType") (.ref (He.ga K "Roster")) = some false := of_decide_eq_true (E.x 28 (f := kitB "Roster" "NoneType" false) rfl)
theorem Env.nf_Roster_NoneType {P : Program} {K : PySem.W.Frag} {mg : Str → Option Value} (E : Env P K mg) : PySem.W.notFirst K (He.ga K "Roster") (.type "NoneType") = true := (E.x 29 (f := nfB "Roster" "NoneType") rfl)
theorem Env.kit_Roster_str {P : Program} {K : PySem.W.Frag} {mg : Str → Option Value} (E : Env P K mg) : PySem.W.kitOne K (.type "str") (.ref (He.ga K "Roster")) = some false := of_decide_eq_true (E.x 30 (f := kitB "Roster" "str" false) rfl)
theorem Env.nf_Roster_str {P : Program} {K : PySem.W.Frag} {mg : Str → Option Value} (E : Env P K mg) : PySem.W.notFirst K (He.ga K "Roster") (.type "str") = true := (E.x 31 (f := nfB "Roster" "str") rfl)
theorem Env.kit_Roster_bool {P : Program} {K : PySem.W.Frag} {mg : Str → Option Value} (E : Env P K mg) : PySem.W.kitOne K (.type "bool") (.ref (He.ga K "Roster")) = some false := of_decide_eq_true (E.x 32 (f := kitB "Roster" "bool" false) rfl)
theorem Env.nf_Roster_bool {P : Program} {K : PySem.W.Frag} {mg : Str → Option Value} (E : Env P K mg) : PySem.W.notFirst K (He.ga K "Roster") (.type "bool") = true := (E.x 33 (f := nfB "Roster" "bool") rfl)
theorem Env.g_RosterneedError {P : Program} {K : PySem.W.Frag} {mg : Str → Option Value} (E : Env P K mg) : mg "RosterneedError" = some (.ref (He.ga K "RosterneedError")) := by obtain ⟨h, X, G⟩ := E.ex; exact He.glo_ok X G (E.c.fact 59 (f := .glo "RosterneedError") rfl)
theorem Env.t0_Table {P : Program} {K : PySem.W.Frag} {mg : Str → Option Value} (E : Env P K mg) : ∀ H, SqT K H (He.dflAt ("Table", some "__init__") 0 K) [] := tup0B_ok (E.x 34 (f := fun K => tup0B K (He.dflAt ("Table", some "__init__") 0 K)) rfl)
theorem Env.t0_Roster {P : Program} {K : PySem.W.Frag} {mg : Str → Option Value} (E : Env P K mg) : ∀ H, SqT K H (He.dflAt ("Roster", some "__init__") 0 K) [] := tup0B_ok (E.x 35 (f := fun K => tup0B K (He.dflAt ("Roster", some "__init__") 0 K)) rfl)
theorem Env.f_super {P : Program} {K : PySem.W.Frag} {mg : Str → Option Value} (E : Env P K mg) : mg "super" = none := by obtain ⟨h, X, G⟩ := E.ex; exact He.free_ok X G (E.c.fact 60 (f := .free "super") rfl)
theorem Env.supx_WrongWord {P : Program} {K : PySem.W.Frag} {mg : Str → Option Value} (E : Env P K mg) : XS.SupX P K mg (He.ga K "WrongWord") (cellOf K (d_WrongWord_init.adr K)) (codeOf K (d_WrongWord_init.adr K)) := XS.supXB_ok mainFile E.pf.1 E.pf.2 E.f_super (E.x 36 (f := fun K => XS.supXB mainFile K (He.ga K "WrongWord") (d_WrongWord_init.adr K)) rfl)
theorem Env.g_BadRoster {P : Program} {K : PySem.W.Frag} {mg : Str → Option Value} (E : Env P K mg) : mg "BadRoster" = some (.ref (He.ga K "BadRoster")) := by obtain ⟨h, X, G⟩ := E.ex; exact He.glo_ok X G (E.c.fact 61 (f := .glo "BadRoster") rfl)
theorem Env.ox_BadRoster {P : Program} {K : PySem.W.Frag} {mg : Str → Option Value} (E : Env P K mg) : OexC K (He.ga K "BadRoster") := oexB_ok (E.x 37 (f := fun K => oexB K (He.ga K "BadRoster")) rfl)
theorem Env.xi_BadRoster {P : Program} {K : PySem.W.Frag} {mg : Str → Option Value} (E : Env P K mg) : PySem.W.findIn K (.ref (He.ga K "BadRoster")) "__init__" = some (some (.ref (He.ma K (He.ga K "WrongWord") "__init__"))) := He.eqO_ok (E.x 38 (f := fun K => He.eqO (PySem.W.findIn K (.ref (He.ga K "BadRoster")) "__init__") (some (some (.ref (He.ma K (He.ga K "WrongWord") "__init__"))))) rfl)
theorem Env.xt_BadRoster {P : Program} {K : PySem.W.Frag} {mg : Str → Option Value} (E : Env P K mg) : PySem.W.typeIn K (.ref (He.ma K (He.ga K "WrongWord") "__init__")) = some (.type "function") := of_decide_eq_true (E.x 39 (f := fun K => decide (PySem.W.typeIn K (.ref (He.ma K (He.ga K "WrongWord") "__init__")) = some (.type "function"))) rfl)
theorem Env.xs_BadRoster {P : Program} {K : PySem.W.Frag} {mg : Str → Option Value} (E : Env P K mg) : XS.SupC K (He.ga K "WrongWord") (He.ga K "BadRoster") := XS.supCB_ok (E.x 40 (f := fun K => XS.supCB K (He.ga K "WrongWord") (He.ga K "BadRoster")) rfl)
theorem Env.xf_BadRoster {P : Program} {K : PySem.W.Frag} {mg : Str → Option Value} (E : Env P K mg) : XfC K (He.ga K "BadRoster") := xfB_ok (E.x 41 (f := fun K => xfB K (He.ga K "BadRoster")) rfl)
theorem Env.nf_BadRoster_word {P : Program} {K : PySem.W.Frag} {mg : Str → Option Value} (E : Env P K mg) : PySem.W.findIn K (.ref (He.ga K "BadRoster")) "word" = some none := someNone_ok (E.x 42 (f := fun K => someNone (PySem.W.findIn K (.ref (He.ga K "BadRoster")) "word")) rfl)
theorem Env.xe_BadRoster {P : Program} {K : PySem.W.Frag} {mg : Str → Option Value} (E : Env P K mg) : PySem.W.exmOne K (.ref (He.ga K "BadRoster")) (.ref (He.ga K "BadRoster")) = some true := of_decide_eq_true (E.x 43 (f := fun K => decide (PySem.W.exmOne K (.ref (He.ga K "BadRoster")) (.ref (He.ga K "BadRoster")) = some true)) rfl)
theorem Env.xc_BadRoster {P : Program} {K : PySem.W.Frag} {mg : Str → Option Value} (E : Env P K mg) : ExcC K (He.ga K "BadRoster") := excB_ok (E.x 44 (f := fun K => excB K (He.ga K "BadRoster")) rfl)
theorem Env.kit_RosterneedError_BadRoster {P : Program} {K : PySem.W.Frag} {mg : Str → Option Value} (E : Env P K mg) : PySem.W.kitOne K (.ref (He.ga K "BadRoster")) (.ref (He.ga K "RosterneedError")) = some true := of_decide_eq_true (E.x 45 (f := fun K => decide (PySem.W.kitOne K (.ref (He.ga K "BadRoster")) (.ref (He.ga K "RosterneedError")) = some true)) rfl)
theorem Env.dd_is_integer {P : Program} {K : PySem.W.Frag} {mg : Str → Option Value} (E : Env P K mg) : ∃ fd, FunD K "is_integer" "is_integer" (defArgs s_is_integer) (defBody s_is_integer) (defScope s_is_integer) (d_is_integer.dvs K) [] (d_is_integer.adr K) fd := E.c.def_ 0 (d := d_is_integer) rfl
theorem Env.dd_is_count {P : Program} {K : PySem.W.Frag} {mg : Str → Option Value} (E : Env P K mg) : ∃ fd, FunD K "is_count" "is_count" (defArgs s_is_count) (defBody s_is_count) (defScope s_is_count) (d_is_count.dvs K) [] (d_is_count.adr K) fd := E.c.def_ 1 (d := d_is_count) rfl
theorem Env.dd_is_listed {P : Program} {K : PySem.W.Frag} {mg : Str → Option Value} (E : Env P K mg) : ∃ fd, FunD K "is_listed" "is_listed" (defArgs s_is_listed) (defBody s_is_listed) (defScope s_is_listed) (d_is_listed.dvs K) [] (d_is_listed.adr K) fd := E.c.def_ 2 (d := d_is_listed) rfl
theorem Env.dd_is_counts {P : Program} {K : PySem.W.Frag} {mg : Str → Option Value} (E : Env P K mg) : ∃ fd, FunD K "is_counts" "is_counts" (defArgs s_is_counts) (defBody s_is_counts) (defScope s_is_counts) (d_is_counts.dvs K) [] (d_is_counts.adr K) fd := E.c.def_ 3 (d := d_is_counts) rfl
theorem Env.dd_deep {P : Program} {K : PySem.W.Frag} {mg : Str → Option Value} (E : Env P K mg) : ∃ fd, FunD K "deep" "deep" (defArgs s_deep) (defBody s_deep) (defScope s_deep) (d_deep.dvs K) [] (d_deep.adr K) fd := E.c.def_ 4 (d := d_deep) rfl
theorem Env.dd_is_word {P : Program} {K : PySem.W.Frag} {mg : Str → Option Value} (E : Env P K mg) : ∃ fd, FunD K "is_word" "is_word" (defArgs s_is_word) (defBody s_is_word) (defScope s_is_word) (d_is_word.dvs K) [] (d_is_word.adr K) fd := E.c.def_ 5 (d := d_is_word) rfl
theorem Env.dd_end_of {P : Program} {K : PySem.W.Frag} {mg : Str → Option Value} (E : Env P K mg) : ∃ fd, FunD K "end_of" "end_of" (defArgs s_end_of) (defBody s_end_of) (defScope s_end_of) (d_end_of.dvs K) [] (d_end_of.adr K) fd := E.c.def_ 6 (d := d_end_of) rfl
theorem Env.dd_value_at {P : Program} {K : PySem.W.Frag} {mg : Str → Option Value} (E : Env P K mg) : ∃ fd, FunD K "value_at" "value_at" (defArgs s_value_at) (defBody s_value_at) (defScope s_value_at) (d_value_at.dvs K) [] (d_value_at.adr K) fd := E.c.def_ 7 (d := d_value_at) rfl
theorem Env.dd_short_loop {P : Program} {K : PySem.W.Frag} {mg : Str → Option Value} (E : Env P K mg) : ∃ fd, FunD K "short_loop" "short_loop" (defArgs s_short_loop) (defBody s_short_loop) (defScope s_short_loop) (d_short_loop.dvs K) [] (d_short_loop.adr K) fd := E.c.def_ 8 (d := d_short_loop) rfl
theorem Env.dd_plain_form {P : Program} {K : PySem.W.Frag} {mg : Str → Option Value} (E : Env P K mg) : ∃ fd, FunD K "plain_form" "plain_form" (defArgs s_plain_form) (defBody s_plain_form) (defScope s_plain_form) (d_plain_form.dvs K) [] (d_plain_form.adr K) fd := E.c.def_ 9 (d := d_plain_form) rfl
theorem Env.dd_is_rising {P : Program} {K : PySem.W.Frag} {mg : Str → Option Value} (E : Env P K mg) : ∃ fd, FunD K "is_rising" "is_rising" (defArgs s_is_rising) (defBody s_is_rising) (defScope s_is_rising) (d_is_rising.dvs K) [] (d_is_rising.adr K) fd := E.c.def_ 10 (d := d_is_rising) rfl
theorem Env.dd_checked_table {P : Program} {K : PySem.W.Frag} {mg : Str → Option Value} (E : Env P K mg) : ∃ fd, FunD K "checked_table" "checked_table" (defArgs s_checked_table) (defBody s_checked_table) (defScope s_checked_table) (d_checked_table.dvs K) [] (d_checked_table.adr K) fd := E.c.def_ 11 (d := d_checked_table) rfl
theorem Env.dd_is_row_name {P : Program} {K : PySem.W.Frag} {mg : Str → Option Value} (E : Env P K mg) : ∃ fd, FunD K "is_row_name" "is_row_name" (defArgs s_is_row_name) (defBody s_is_row_name) (defScope s_is_row_name) (d_is_row_name.dvs K) [] (d_is_row_name.adr K) fd := E.c.def_ 12 (d := d_is_row_name) rfl
theorem Env.dd_is_names {P : Program} {K : PySem.W.Frag} {mg : Str → Option Value} (E : Env P K mg) : ∃ fd, FunD K "is_names" "is_names" (defArgs s_is_names) (defBody s_is_names) (defScope s_is_names) (d_is_names.dvs K) [] (d_is_names.adr K) fd := E.c.def_ 13 (d := d_is_names) rfl
theorem Env.dd_stood_ahead {P : Program} {K : PySem.W.Frag} {mg : Str → Option Value} (E : Env P K mg) : ∃ fd, FunD K "stood_ahead" "stood_ahead" (defArgs s_stood_ahead) (defBody s_stood_ahead) (defScope s_stood_ahead) (d_stood_ahead.dvs K) [] (d_stood_ahead.adr K) fd := E.c.def_ 14 (d := d_stood_ahead) rfl
theorem Env.dd__law_source {P : Program} {K : PySem.W.Frag} {mg : Str → Option Value} (E : Env P K mg) : ∃ fd, FunD K "_law_source" "_law_source" (defArgs s__law_source) (defBody s__law_source) (defScope s__law_source) (d__law_source.dvs K) [] (d__law_source.adr K) fd := E.c.def_ 15 (d := d__law_source) rfl
theorem Env.dd__law_pick {P : Program} {K : PySem.W.Frag} {mg : Str → Option Value} (E : Env P K mg) : ∃ fd, FunD K "_law_pick" "_law_pick" (defArgs s__law_pick) (defBody s__law_pick) (defScope s__law_pick) (d__law_pick.dvs K) [] (d__law_pick.adr K) fd := E.c.def_ 16 (d := d__law_pick) rfl
theorem Env.dd__law_is_integer {P : Program} {K : PySem.W.Frag} {mg : Str → Option Value} (E : Env P K mg) : ∃ fd, FunD K "_law_is_integer" "_law_is_integer" (defArgs s__law_is_integer) (defBody s__law_is_integer) (defScope s__law_is_integer) (d__law_is_integer.dvs K) [] (d__law_is_integer.adr K) fd := E.c.def_ 17 (d := d__law_is_integer) rfl
theorem Env.dd__law_is_count {P : Program} {K : PySem.W.Frag} {mg : Str → Option Value} (E : Env P K mg) : ∃ fd, FunD K "_law_is_count" "_law_is_count" (defArgs s__law_is_count) (defBody s__law_is_count) (defScope s__law_is_count) (d__law_is_count.dvs K) [] (d__law_is_count.adr K) fd := E.c.def_ 18 (d := d__law_is_count) rfl
theorem Env.dd__law_is_value {P : Program} {K : PySem.W.Frag} {mg : Str → Option Value} (E : Env P K mg) : ∃ fd, FunD K "_law_is_value" "_law_is_value" (defArgs s__law_is_value) (defBody s__law_is_value) (defScope s__law_is_value) (d__law_is_value.dvs K) [] (d__law_is_value.adr K) fd := E.c.def_ 19 (d := d__law_is_value) rfl
theorem Env.dd__law_plain {P : Program} {K : PySem.W.Frag} {mg : Str → Option Value} (E : Env P K mg) : ∃ fd, FunD K "_law_plain" "_law_plain" (defArgs s__law_plain) (defBody s__law_plain) (defScope s__law_plain) (d__law_plain.dvs K) [] (d__law_plain.adr K) fd := E.c.def_ 20 (d := d__law_plain) rfl
theorem Env.dd__law_same {P : Program} {K : PySem.W.Frag} {mg : Str → Option Value} (E : Env P K mg) : ∃ fd, FunD K "_law_same" "_law_same" (defArgs s__law_same) (defBody s__law_same) (defScope s__law_same) (d__law_same.dvs K) [] (d__law_same.adr K) fd := E.c.def_ 21 (d := d__law_same) rfl
theorem Env.dd__law_stood {P : Program} {K : PySem.W.Frag} {mg : Str → Option Value} (E : Env P K mg) : ∃ fd, FunD K "_law_stood" "_law_stood" (defArgs s__law_stood) (defBody s__law_stood) (defScope s__law_stood) (d__law_stood.dvs K) [] (d__law_stood.adr K) fd := E.c.def_ 22 (d := d__law_stood) rfl
theorem Env.dd__law_standing {P : Program} {K : PySem.W.Frag} {mg : Str → Option Value} (E : Env P K mg) : ∃ fd, FunD K "_law_standing" "_law_standing" (defArgs s__law_standing) (defBody s__law_standing) (defScope s__law_standing) (d__law_standing.dvs K) [] (d__law_standing.adr K) fd := E.c.def_ 23 (d := d__law_standing) rfl
theorem Env.dd__law_stands {P : Program} {K : PySem.W.Frag} {mg : Str → Option Value} (E : Env P K mg) : ∃ fd, FunD K "_law_stands" "_law_stands" (defArgs s__law_stands) (defBody s__law_stands) (defScope s__law_stands) (d__law_stands.dvs K) [] (d__law_stands.adr K) fd := E.c.def_ 24 (d := d__law_stands) rfl
theorem Env.dd__law_refused {P : Program} {K : PySem.W.Frag} {mg : Str → Option Value} (E : Env P K mg) : ∃ fd, FunD K "_law_refused" "_law_refused" (defArgs s__law_refused) (defBody s__law_refused) (defScope s__law_refused) (d__law_refused.dvs K) [] (d__law_refused.adr K) fd := E.c.def_ 25 (d := d__law_refused) rfl
theorem Env.dd__law_tells {P : Program} {K : PySem.W.Frag} {mg : Str → Option Value} (E : Env P K mg) : ∃ fd, FunD K "_law_tells" "_law_tells" (defArgs s__law_tells) (defBody s__law_tells) (defScope s__law_tells) (d__law_tells.dvs K) [] (d__law_tells.adr K) fd := E.c.def_ 26 (d := d__law_tells) rfl
theorem Env.dd_law {P : Program} {K : PySem.W.Frag} {mg : Str → Option Value} (E : Env P K mg) : ∃ fd, FunD K "law" "law" (defArgs s_law) (defBody s_law) (defScope s_law) (d_law.dvs K) [] (d_law.adr K) fd := E.c.def_ 27 (d := d_law) rfl
theorem Env.dd_Table_init {P : Program} {K : PySem.W.Frag} {mg : Str → Option Value} (E : Env P K mg) : ∃ fd, FunD K "__init__" "Table.__init__" (defArgs s_Table_init) (defBody s_Table_init) (defScope s_Table_init) (d_Table_init.dvs K) [] (d_Table_init.adr K) fd := E.c.def_ 28 (d := d_Table_init) rfl
theorem Env.dd_Table_eq {P : Program} {K : PySem.W.Frag} {mg : Str → Option Value} (E : Env P K mg) : ∃ fd, FunD K "__eq__" "Table.__eq__" (defArgs s_Table_eq) (defBody s_Table_eq) (defScope s_Table_eq) (d_Table_eq.dvs K) [] (d_Table_eq.adr K) fd := E.c.def_ 29 (d := d_Table_eq) rfl
theorem Env.dd_Roster_init {P : Program} {K : PySem.W.Frag} {mg : Str → Option Value} (E : Env P K mg) : ∃ fd, FunD K "__init__" "Roster.__init__" (defArgs s_Roster_init) (defBody s_Roster_init) (defScope s_Roster_init) (d_Roster_init.dvs K) [] (d_Roster_init.adr K) fd := E.c.def_ 30 (d := d_Roster_init) rfl
theorem Env.dd_Roster_eq {P : Program} {K : PySem.W.Frag} {mg : Str → Option Value} (E : Env P K mg) : ∃ fd, FunD K "__eq__" "Roster.__eq__" (defArgs s_Roster_eq) (defBody s_Roster_eq) (defScope s_Roster_eq) (d_Roster_eq.dvs K) [] (d_Roster_eq.adr K) fd := E.c.def_ 31 (d := d_Roster_eq) rfl
theorem Env.dd_Roster_number {P : Program} {K : PySem.W.Frag} {mg : Str → Option Value} (E : Env P K mg) : ∃ fd, FunD K "number" "Roster.number" (defArgs s_Roster_number) (defBody s_Roster_number) (defScope s_Roster_number) (d_Roster_number.dvs K) [] (d_Roster_number.adr K) fd := E.c.def_ 32 (d := d_Roster_number) rfl
theorem Env.dd_Roster_ahead {P : Program} {K : PySem.W.Frag} {mg : Str → Option Value} (E : Env P K mg) : ∃ fd, FunD K "ahead" "Roster.ahead" (defArgs s_Roster_ahead) (defBody s_Roster_ahead) (defScope s_Roster_ahead) (d_Roster_ahead.dvs K) [] (d_Roster_ahead.adr K) fd := E.c.def_ 33 (d := d_Roster_ahead) rfl
theorem Env.dd_WrongWord_init {P : Program} {K : PySem.W.Frag} {mg : Str → Option Value} (E : Env P K mg) : ∃ fd, FunS K "__init__" "WrongWord.__init__" (defArgs s_WrongWord_init) (defBody s_WrongWord_init) (defScope s_WrongWord_init) (d_WrongWord_init.adr K) fd (cellOf K (d_WrongWord_init.adr K)) (codeOf K (d_WrongWord_init.adr K)) := E.c.defS 34 (d := d_WrongWord_init) rfl

end M
namespace M
open PySem PySem.Spec PyProof.Rows L2 Evl MS
def nmL0 : List Str := ["_wall", "RosterneedError", "WrongThing", "WrongWord", "BadCount", "BadTable", "BadRoster", "is_integer", "is_count", "is_listed", "is_counts", "deep", "is_word", "at_most", "greater_of", "lesser_of", "common_divisor", "common_multiple", "end_of", "value_at", "short_loop", "plain_form", "formed", "until_never", "first_beyond"]
def nmL1 : List Str := ["behind_raw", "later_start", "joined_values", "joined_raw", "counts_below", "turned_raw", "is_rising", "checked_table", "Table", "table_from", "is_row_name", "is_names", "stood_ahead", "Roster", "_law_source", "_law_pick", "_law_is_integer", "_law_is_count", "_law_is_value", "_law_plain", "_law_same", "_law_stood", "_law_standing", "_law_stands", "_law_refused"]
def nmL2 : List Str := ["_law_tells"]
def nmL : List Str := nmL0 ++ nmL1 ++ nmL2
abbrev R : PySem.W.OpenRow := PySem.W.OpenLaw.row PySem.Challenge.rw_rosterneed_k66_whole_rosters
abbrev hk : PySem.W.Hook := hookM 6 fa fn exB
def ob (s : PySem.W.SharedT) : AlM := obsMG 6 fa fn exB (HandSHeadRun.getT s)
theorem ob_eq (s : PySem.W.SharedT) : ob s = hk.obs s.abs := obsMG_eq (HandSHeadRun.getT_eq s)
theorem run (w : World) : HandSHeadRun.RunEq R (PySem.W.view R.prog [58]) hk ob 6000 nmL w := by
  intro os
  kernel_rfl
end M

namespace M
open PySem PySem.Spec PyProof.Rows L2 Evl MS
local macro_rules | `(tactic| walk_at "ex") => `(tactic| first
  | exact Ex.refl _ | with_reducible assumption | (refine' Ex.trans ?a ?b; (case b => with_reducible assumption); (case a => walk_at "ex")))
local macro_rules | `(tactic| walk_at "hp") => `(tactic| first
  | with_reducible assumption
  | (with_reducible refine' st_of ?a; (case a => with_reducible assumption))
  | (with_reducible refine' sq_of ?a; (case a => with_reducible assumption))
  | (with_reducible refine' ex_t ?a ?b; (case a => with_reducible assumption); (case b => walk_at "hp"))
  | (with_reducible refine' ex_l ?a ?b; (case a => with_reducible assumption); (case b => walk_at "hp"))
  | (with_reducible refine' ex_e ?a ?b; (case a => with_reducible assumption); (case b => walk_at "hp")))
local macro_rules | `(tactic| walk_at "om") => `(tactic| first
  | with_reducible assumption | omega | (simp only [List.length_map, List.length_nil, List.length_cons, List.length_append, List.length_range] <;> omega))
local macro_rules | `(tactic| walk_at "sz") => `(tactic| first
  | (refine sz_of ?_; omega) | exact sz_of (by simp only [List.length_map, List.length_nil, List.length_cons, List.length_append, List.length_range] <;> omega))
local macro_rules | `(tactic| walk_at "ty") => `(tactic| first
  | exact .base (.int _) | exact .base .non | exact .base (.bl _) | exact .base (.str _) | (with_reducible refine' SqT.ty ?a; (case a => walk_at "hp")) | (with_reducible refine' SqL.ty ?a; (case a => walk_at "hp")) | (with_reducible refine' dp_ty ?a; (case a => with_reducible assumption)))
local macro_rules | `(tactic| walk_at "vv") => `(tactic| first | refine w_v0 ?_ | refine w_v1 ?_ | refine w_v2 ?_ | refine w_v3 ?_ | refine w_v4 ?_ | refine w_v5 ?_ | refine w_v6 ?_ | refine w_v7 ?_ | refine w_v8 ?_ | refine w_v9 ?_ | refine w_v10 ?_ | refine w_v11 ?_ | refine w_v12 ?_ | refine w_v13 ?_ | refine w_v14 ?_ | refine w_v15 ?_)
local macro_rules | `(tactic| walk_at "nn") => `(tactic| first | refine w_n0 ?_ | refine w_n1 ?_ | refine w_n2 ?_ | refine w_n3 ?_ | refine w_n4 ?_ | refine w_n5 ?_ | refine w_n6 ?_ | refine w_n7 ?_ | refine w_n8 ?_ | refine w_n9 ?_ | refine w_n10 ?_ | refine w_n11 ?_ | refine w_n12 ?_ | refine w_n13 ?_ | refine w_n14 ?_ | refine w_n15 ?_)
local macro_rules | `(tactic| walk_at "w1") => `(tactic| with_reducible first
  | refine w_cons ?_ | (refine w_vv ?_; walk_at "vv") | refine w_nil ?_ | refine w_op ?_ | refine w_c ?_ | refine w_cb ?_ | refine w_seq ?_ | refine w_asg ?_ | (refine w_nn ?_; walk_at "nn")
  | refine w_test ?_ | refine w_exbl2 ?_ | refine w_ifS ?_ | refine w_ret ?_
  | refine w_call ?_ | refine w_call1 ?_ | refine w_call2 ?_ | refine w_call3 ?_
  | refine w_and ?_ | refine w_or ?_ | refine w_not ?_ | refine w_andV ?_ | refine w_orV ?_ | refine w_notV ?_ | refine w_ifE ?_ | refine w_un ?_ | refine w_tB ?_ | refine w_tru ?_ | refine r_truB ?_ | refine r_truI ?_
  | refine w_tup ?_ | refine w_lst ?_ | refine w_sl ?_ | refine w_part ?_ | refine w_noPart ?_ | refine w_exint ?_ | refine w_drop ?_ | refine w_next ?_ | refine w_yes ?_
  | refine w_gcons ?_ | refine w_gnil ?_ | refine iteT ?_ | refine iteF ?_
  | refine w_lcJ ?_ | refine w_forJ ?_ | refine i_r1 ?_ | refine i_r2 ?_ | refine w_fld ?_ | refine w_fldS ?_ | refine w_prop ?_ | refine w_meth ?_ | refine w_make ?_ | refine w_callO ?_ | refine w_callOI ?_ | refine w_bm ?_ | refine w_retN ?_ | refine w_chain ?_ | refine w_break ?_ | refine w_gsub ?_ | refine w_par ?_ | refine w_call4 ?_ | refine w_call5 ?_)
local macro_rules | `(tactic| walk_at "w2") => `(tactic| first
  | with_reducible (first | refine r_addI ?_ | refine r_subI ?_ | refine r_eqI ?_ | refine r_neI ?_ | refine r_lt ?_ | refine r_le ?_ | refine r_gt ?_ | refine r_ge ?_ | refine r_neg ?_)
  | with_reducible (first | refine r_eqO ?_ | refine r_neO ?_ | refine r_eqB ?_ | refine r_isO ?_ | refine r_isNotO ?_ | refine r_isI ?_ | refine r_isN ?_ | refine r_isR ?_ | refine r_isNotI ?_ | refine r_isNotN ?_ | refine r_isNotR ?_)
  | with_reducible (first | refine r_int ?_ | refine r_abs ?_ | refine r_max2 ?_ | refine r_min2 ?_ | refine r_boolB ?_)
  | ((with_reducible refine' r_lenTI ?a ?q); (case a => walk_at "hp"))
  | ((with_reducible refine' r_lenLI ?a ?q); (case a => walk_at "hp"))
  | ((with_reducible refine' r_lenT ?a ?q); (case a => walk_at "hp"))
  | ((with_reducible refine' r_lenL ?a ?q); (case a => walk_at "hp"))
  | ((with_reducible refine' w_gtup ?a ?b ?q); (case a => walk_at "hp"); (case b => rfl))
  | ((with_reducible refine' r_modI ?a ?q); (case a => walk_at "om"))
  | ((with_reducible refine' r_divI ?a ?b ?q); (case a => walk_at "om"); (case b => walk_at "om"))
  | ((with_reducible refine' r_ixTI ?a ?b ?c ?q); (case a => walk_at "hp"); (case b => walk_at "om"); (case c => walk_at "om"))
  | ((with_reducible refine' r_ixTN ?a ?b ?c ?q); (case a => walk_at "hp"); (case b => walk_at "om"); (case c => walk_at "om"))
  | ((with_reducible refine' r_ixLI ?a ?b ?c ?q); (case a => walk_at "hp"); (case b => walk_at "om"); (case c => walk_at "om"))
  | ((with_reducible refine' r_ixLN ?a ?b ?c ?q); (case a => walk_at "hp"); (case b => walk_at "om"); (case c => walk_at "om"))
  | ((with_reducible refine' r_lenEI ?a ?q); (case a => walk_at "hp"))
  | ((with_reducible refine' r_ixEI ?a ?b ?c ?q); (case a => walk_at "hp"); (case b => walk_at "om"); (case c => walk_at "om"))
  | ((with_reducible refine' r_ixEN ?a ?b ?c ?q); (case a => walk_at "hp"); (case b => walk_at "om"); (case c => walk_at "om"))
  | ((with_reducible refine' r_ixT ?a ?b ?q); (case a => walk_at "hp"); (case b => exact rfl))
  | ((with_reducible refine' r_ixL ?a ?b ?q); (case a => walk_at "hp"); (case b => exact rfl))
  | ((with_reducible refine' r_shr ?a ?q); (case a => walk_at "om"))
  | ((with_reducible refine' r_pow ?a ?q); (case a => (exact ⟨by decide, by decide, by decide⟩)))
  | ((with_reducible refine' r_bmL ?a ?q); (case a => walk_at "hp"))
  | ((with_reducible refine' r_mulI ?a ?q); (case a => first | (left; walk_at "om") | (right; walk_at "om")))
  | ((with_reducible refine' r_eqT ?a ?b ?q); (case a => walk_at "hp"); (case b => walk_at "hp"))
  | ((with_reducible refine' r_neT ?a ?b ?q); (case a => walk_at "hp"); (case b => walk_at "hp"))
  | ((with_reducible refine' i_x1 ?a ?q); (case a => omega))
  | ((with_reducible refine' i_x2 ?a ?q); (case a => omega))
  | ((with_reducible refine' i_xT ?a ?q); (case a => walk_at "hp"))
  | ((with_reducible refine' i_xL ?a ?q); (case a => walk_at "hp"))
  | ((with_reducible refine' r_slTto ?a ?b ?q); (case a => walk_at "hp"); (case b => walk_at "om"))
  | ((with_reducible refine' r_slTfrom ?a ?b ?q); (case a => walk_at "hp"); (case b => walk_at "om"))
  | ((with_reducible refine' r_slLto ?a ?b ?q); (case a => walk_at "hp"); (case b => walk_at "om"))
  | ((with_reducible refine' r_slLfrom ?a ?b ?q); (case a => walk_at "hp"); (case b => walk_at "om"))
  | ((with_reducible refine' r_slLmid ?a ?b ?c ?d ?q); (case a => walk_at "hp"); (case b => walk_at "om"); (case c => walk_at "om"); (case d => walk_at "om"))
  | ((with_reducible refine' r_tupT ?a ?q); (case a => walk_at "hp"))
  | ((with_reducible refine' r_tupL ?a ?q); (case a => walk_at "hp"))
  | ((with_reducible refine' r_lstT ?a ?q); (case a => walk_at "hp"))
  | ((with_reducible refine' r_lstL ?a ?q); (case a => walk_at "hp"))
  | ((with_reducible refine' w_newT ?a ?q); (case a => walk_at "sz"))
  | ((with_reducible refine' w_newL ?a ?q); (case a => walk_at "sz"))
  | ((with_reducible refine' r_isi (b := true) ?a ?b ?q); (case a => walk_at "ty"); (case b => exact rfl))
  | ((with_reducible refine' r_isi (b := false) ?a ?b ?q); (case a => walk_at "ty"); (case b => exact rfl))
  | ((with_reducible refine' r_isiT (b := true) ?a ?b ?c ?q); (case a => walk_at "hp"); (case b => walk_at "ty"); (case c => exact rfl))
  | ((with_reducible refine' r_isiT (b := false) ?a ?b ?c ?q); (case a => walk_at "hp"); (case b => walk_at "ty"); (case c => exact rfl))
  | ((with_reducible refine' w_dT ?a ?q); (case a => walk_at "om"))
  | ((with_reducible refine' w_dF ?a ?q); (case a => walk_at "om"))
  | ((with_reducible refine' w_nT ?a ?q); (case a => walk_at "om"))
  | ((with_reducible refine' w_nF ?a ?q); (case a => walk_at "om"))
  | ((with_reducible refine' w_bT ?a ?q); (case a => exact rfl))
  | ((with_reducible refine' w_bF ?a ?q); (case a => exact rfl)))
local macro_rules | `(tactic| walk_at "w") => `(tactic| repeat (first | walk_at "w1" | walk_at "w2"))

section
def dIsInt : PyData → Bool
  | .int _ => true
  | _ => false
def dIsCount : PyData → Bool
  | .int i => decide (0 ≤ i)
  | _ => false
def dIsSeq : PyData → Bool
  | .list _ => true
  | .tuple _ => true
  | _ => false
theorem dp_nodict {K : PySem.W.Frag} {H : Hp} {v : V} {x : List (PyData × PyData)} (h : Dp K H v (.dict x)) : False := nomatch h
abbrev N_is_integer : List Str := ["thing"]
theorem sc_is_integer : FnScope N_is_integer ["thing"] (defScope s_is_integer) := ⟨rfl, rfl, rfl, by decide +kernel, rfl, by decide +kernel, by decide +kernel⟩
theorem ok_is_integer {P : Program} {w : World} {K : PySem.W.Frag} {mg : Str → Option Value} {base : Heap} (E : Env P K mg) : Fn P w K mg base CX0 1 "is_integer" (sp1 fun v H Q _ => ∃ d, Dp K H v d ∧ RetD K (.bool (dIsInt d)) H Q) := by
  obtain ⟨fd, F⟩ := E.dd_is_integer
  refine Fn.mk0 F E.g_is_integer sc_is_integer sp1_len (fun _ _ _ _ _ _ us hl => match us, hl with | [_], _ => rfl) (fun cdv A outer s H vs Q X hr h => ?_)
  have nd := sc_is_integer.nd
  obtain ⟨v0, rfl, h⟩ := h
  refine ⟨_, (pss_one (ps_ret (pe_and (pe_callB (kIsi K) (by rfl) E.f_isinstance (by decide +kernel) (pa_cons (pv 0) (pa_cons (pe_bltn (v := .ty "int") (by rfl) E.f_int (by decide +kernel) rfl) pa_nil))) (pe_one (pe_not (pe_callB (kIsi K) (by rfl) E.f_isinstance (by decide +kernel) (pa_cons (pv 0) (pa_cons (pe_bltn (v := .ty "bool") (by rfl) E.f_bool (by decide +kernel) rfl) pa_nil)))))))), ?_⟩
  change (_ : TS) _ [some v0] H
  try dsimp only [cxOf, Cx.nox, Cx.blk]
  obtain ⟨d, hd, k⟩ := h
  cases d with
  | dict x => exact (dp_nodict hd).elim
  | int i => cases hd; walk_at "w"; exact k.bl (by walk_at "ex")
  | _ => cases hd <;> (walk_at "w"; exact k.bl (by walk_at "ex"))
abbrev N_is_count : List Str := ["thing"]
theorem sc_is_count : FnScope N_is_count ["thing"] (defScope s_is_count) := ⟨rfl, rfl, rfl, by decide +kernel, rfl, by decide +kernel, by decide +kernel⟩
theorem ok_is_count {P : Program} {w : World} {K : PySem.W.Frag} {mg : Str → Option Value} {base : Heap} (E : Env P K mg) : Fn P w K mg base CX0 2 "is_count" (sp1 fun v H Q _ => ∃ d, Dp K H v d ∧ RetD K (.bool (dIsCount d)) H Q) := by
  obtain ⟨fd, F⟩ := E.dd_is_count
  refine Fn.mk0 F E.g_is_count sc_is_count sp1_len (fun _ _ _ _ _ _ us hl => match us, hl with | [_], _ => rfl) (fun cdv A outer s H vs Q X hr h => ?_)
  have nd := sc_is_count.nd
  obtain ⟨v0, rfl, h⟩ := h
  refine ⟨_, (pss_one (ps_ret (pe_and (pc (ok_is_integer E) hr (by decide) pass0 rfl (pa_cons (pv 0) pa_nil)) (pe_one (pe_cmpR op_ge (pv 0) (pe_int) (nomark _)))))), ?_⟩
  change (_ : TS) _ [some v0] H
  try dsimp only [cxOf, Cx.nox, Cx.blk]
  obtain ⟨d, hd, k⟩ := h
  walk_at "w"
  refine ⟨d, hd, fun v H1 e1 d1 => ?_⟩
  obtain rfl := dp_toBl d1
  cases d with
  | int i =>
    cases hd
    walk_at "w"
    exact k.bl (by walk_at "ex")
  | _ => walk_at "w"; exact k.bl (by walk_at "ex")
/-- data, or a dict -/
def DpX (K : PySem.W.Frag) (H : Hp) (v : V) (d : PyData) : Prop := Dp K H v d ∨ (d = .dict [] ∧ ∃ a kvs, v = .ref a ∧ H a = some (.dK kvs))
instance {K : PySem.W.Frag} {H : Hp} {v : V} {d : PyData} : Coe (Dp K H v d) (DpX K H v d) := ⟨.inl⟩
abbrev N_is_listed : List Str := ["thing"]
theorem sc_is_listed : FnScope N_is_listed ["thing"] (defScope s_is_listed) := ⟨rfl, rfl, rfl, by decide +kernel, rfl, by decide +kernel, by decide +kernel⟩
theorem ok_is_listed {P : Program} {w : World} {K : PySem.W.Frag} {mg : Str → Option Value} {base : Heap} (E : Env P K mg) : Fn P w K mg base CX0 1 "is_listed" (sp1 fun v H Q _ => ∃ d, DpX K H v d ∧ RetD K (.bool (dIsSeq d)) H Q) := by
  obtain ⟨fd, F⟩ := E.dd_is_listed
  refine Fn.mk0 F E.g_is_listed sc_is_listed sp1_len (fun _ _ _ _ _ _ us hl => match us, hl with | [_], _ => rfl) (fun cdv A outer s H vs Q X hr h => ?_)
  have nd := sc_is_listed.nd
  obtain ⟨v0, rfl, h⟩ := h
  refine ⟨_, (pss_one (ps_ret (pe_callB (kIsiT K) (by rfl) E.f_isinstance (by decide +kernel) (pa_cons (pv 0) (pa_cons (pe_tup (pa_cons (pe_bltn (v := .ty "tuple") (by rfl) E.f_tuple (by decide +kernel) rfl) (pa_cons (pe_bltn (v := .ty "list") (by rfl) E.f_list (by decide +kernel) rfl) pa_nil))) pa_nil))))), ?_⟩
  change (_ : TS) _ [some v0] H
  try dsimp only [cxOf, Cx.nox, Cx.blk]
  obtain ⟨d, hd | ⟨rfl, a, kvs, rfl, hk⟩, k⟩ := h
  case' inr =>
    walk_at "w"
    intro p H1 n1 e1 h1
    refine r_isiT (b := false) h1 (.base (.dK (e1 _ _ hk))) rfl ?_
    exact k.bl (by walk_at "ex")
  cases d with
  | dict x => exact (dp_nodict hd).elim
  | _ => cases hd <;> (walk_at "w"; intro p H1 n1 e1 h1; walk_at "w"; exact k.bl (by walk_at "ex"))

end
section
def endOf (l : List Int) (r : Int) : Option Int := if l = [] ∨ r > 0 then none else some (gI l (l.length - 1))
def vat (h l : List Int) (r p : Int) : Option Int :=
  if p = 0 then some 0 else if p ≤ h.length then some (gI h (p - 1)) else if l = [] then none
  else some (gI l ((p - h.length - 1) % l.length) + r * ((p - h.length - 1) / l.length))
def valueAt (h l : List Int) (r : Int) : Option Int → Option Int
  | none => endOf l r
  | some p => vat h l r p
/-- rises that fit a product -/
def RSm (h l : List Int) (r : Int) : Prop := -1152921504606846976 < r ∧ r < 1152921504606846976 ∧ h.length ≤ 50000 ∧ l.length ≤ 50000
abbrev N_end_of : List Str := ["raw", "head", "loop", "rise"]
theorem sc_end_of : FnScope N_end_of ["raw"] (defScope s_end_of) := ⟨rfl, rfl, rfl, by decide +kernel, rfl, by decide +kernel, by decide +kernel⟩
theorem ok_end_of {P : Program} {w : World} {K : PySem.W.Frag} {mg : Str → Option Value} {base : Heap} (E : Env P K mg) : Fn P w K mg base CX0 1 "end_of" (sp1 fun v H Q _ => ∃ h l r, Dp K H v (dRaw h l r) ∧ RetD K (dOpt (endOf l r)) H Q) := by
  obtain ⟨fd, F⟩ := E.dd_end_of
  refine Fn.mk0 F E.g_end_of sc_end_of sp1_len (fun _ _ _ _ _ _ us hl => match us, hl with | [_], _ => rfl) (fun cdv A outer s H vs Q X hr h => ?_)
  have nd := sc_end_of.nd
  obtain ⟨v0, rfl, h⟩ := h
  refine ⟨_, (pss_cons (ps_asg (pv 0) (kGtup K rfl (pgs_cons (pg_name (i := 1) nd rfl (.inl rfl)) (pgs_cons (pg_name (i := 2) nd rfl (.inl rfl)) (pgs_cons (pg_name (i := 3) nd rfl (.inl rfl)) (pgs_nil))))))
  (pss_cons (ps_if (PW.pt (pw_or (pt_cmpR (kEq K hr) (pe_callB (kLen K) (by rfl) E.f_len (by decide +kernel) (pa_cons (pv 2) pa_nil)) (pe_int) (nomark _)) (pw_or1 (pt_cmpR op_gt (pv 3) (pe_int) (nomark _)))))
   (pss_one (ps_ret (pe_non)))
   pss_nil)
  (pss_one (ps_ret (pe_ix (kIx K) (pv 2) (pe_un un_neg (pe_int)) (fun _ _ => rfl)))))), ?_⟩
  change (_ : TS) _ [some v0, none, none, none] H
  try dsimp only [cxOf, Cx.nox, Cx.blk]
  obtain ⟨hd, l, r, hD, k⟩ := h
  obtain ⟨a, th, tl, rfl, s1, s2, s3⟩ := dp_raw hD
  walk_at "w"
  by_cases h1 : l = []
  · subst h1
    walk_at "w"
    exact k.non (by walk_at "ex")
  · have h2 : 0 < l.length := List.length_pos_iff.mpr h1
    walk_at "w"
    unfold endOf at k
    by_cases h3 : 0 < r
    · walk_at "w"
      rw [if_pos (.inr h3)] at k
      exact k.non (by walk_at "ex")
    · walk_at "w"
      rw [if_neg (by rintro (h | h) <;> contradiction)] at k
      exact k.int (by walk_at "ex")
abbrev spValueAt (K : PySem.W.Frag) : Sp := sp2 fun a b H Q _ => ∃ h l r p, Dp K H a (dRaw h l r) ∧ Dp K H b (dOpt p) ∧ (∀ n, p = some n → 0 ≤ n) ∧ RSm h l r ∧ RetD K (dOpt (valueAt h l r p)) H Q
abbrev N_value_at : List Str := ["raw", "place", "head", "loop", "rise", "rest"]
theorem sc_value_at : FnScope N_value_at ["raw", "place"] (defScope s_value_at) := ⟨rfl, rfl, rfl, by decide +kernel, rfl, by decide +kernel, by decide +kernel⟩
theorem ok_value_at {P : Program} {w : World} {K : PySem.W.Frag} {mg : Str → Option Value} {base : Heap} (E : Env P K mg) : Fn P w K mg base CX0 2 "value_at" (spValueAt K) := by
  obtain ⟨fd, F⟩ := E.dd_value_at
  refine Fn.mk0 F E.g_value_at sc_value_at sp2_len (fun _ _ _ _ _ _ us hl => match us, hl with | [_, _], _ => rfl) (fun cdv A outer s H vs Q X hr h => ?_)
  have nd := sc_value_at.nd
  obtain ⟨v0, v1, rfl, h⟩ := h
  refine ⟨_, (pss_cons (ps_asg (pv 0) (kGtup K rfl (pgs_cons (pg_name (i := 2) nd rfl (.inl rfl)) (pgs_cons (pg_name (i := 3) nd rfl (.inl rfl)) (pgs_cons (pg_name (i := 4) nd rfl (.inl rfl)) (pgs_nil))))))
  (pss_cons (ps_if (pt_cmpR xIs (pv 1) (pe_non) (nomark _))
   (pss_one (ps_ret (pc (ok_end_of E) hr (by decide) pass0 rfl (pa_cons (pv 0) pa_nil))))
   pss_nil)
  (pss_cons (ps_if (pt_cmpR (kEq K hr) (pv 1) (pe_int) (nomark _))
   (pss_one (ps_ret (pe_int)))
   pss_nil)
  (pss_cons (ps_if (pt_cmpR op_le (pv 1) (pe_callB (kLen K) (by rfl) E.f_len (by decide +kernel) (pa_cons (pv 2) pa_nil)) (nomark _))
   (pss_one (ps_ret (pe_ix (kIx K) (pv 2) (pe_op xSub (pv 1) (pe_int)) (fun _ _ => rfl))))
   pss_nil)
  (pss_cons (ps_if (pt_cmpR (kEq K hr) (pe_callB (kLen K) (by rfl) E.f_len (by decide +kernel) (pa_cons (pv 3) pa_nil)) (pe_int) (nomark _))
   (pss_one (ps_ret (pe_non)))
   pss_nil)
  (pss_cons (ps_set (i := 5) nd rfl (.inl rfl) (pe_op xSub (pe_op xSub (pv 1) (pe_callB (kLen K) (by rfl) E.f_len (by decide +kernel) (pa_cons (pv 2) pa_nil))) (pe_int)))
  (pss_one (ps_ret (pe_op (kAdd K) (pe_ix (kIx K) (pv 3) (pe_op xMod (pv 5) (pe_callB (kLen K) (by rfl) E.f_len (by decide +kernel) (pa_cons (pv 3) pa_nil))) (fun _ _ => rfl)) (pe_op (kMul K) (pv 4) (pe_op xDiv (pv 5) (pe_callB (kLen K) (by rfl) E.f_len (by decide +kernel) (pa_cons (pv 3) pa_nil))))))))))))), ?_⟩
  change (_ : TS) _ [some v0, some v1, none, none, none, none] H
  try dsimp only [cxOf, Cx.nox, Cx.blk]
  obtain ⟨hd, l, r, p, hD, hp, hn, hr1, k⟩ := h
  obtain ⟨a, th, tl, rfl, s1, s2, s3⟩ := dp_raw hD
  obtain ⟨r1, r2, r3, r4⟩ := hr1
  cases p with
  | none =>
    obtain rfl := dp_toNon hp
    walk_at "w"
    exact ⟨hd, l, r, hD, k⟩
  | some p =>
    obtain rfl := dp_toInt hp
    have hn0 := hn p rfl
    walk_at "w"
    have k' : RetD K (dOpt (vat hd l r p)) H Q := k
    unfold vat at k'
    by_cases h0 : p = 0
    · walk_at "w"
      rw [if_pos h0] at k'
      exact k'.int (by walk_at "ex")
    · rw [if_neg h0] at k'
      walk_at "w"
      by_cases h1 : p ≤ hd.length
      · rw [if_pos h1] at k'
        walk_at "w"
        exact k'.int (by walk_at "ex")
      · rw [if_neg h1] at k'
        walk_at "w"
        by_cases h2 : l = []
        · rw [if_pos h2] at k'
          subst h2
          walk_at "w"
          exact k'.non (by walk_at "ex")
        · rw [if_neg h2] at k'
          have h3 : 0 < l.length := List.length_pos_iff.mpr h2
          have h4 : (p - hd.length - 1) % l.length < l.length := Int.emod_lt_of_pos _ (by omega)
          have h5 : 0 ≤ (p - hd.length - 1) % l.length := Int.emod_nonneg _ (by omega)
          walk_at "w"
          exact k'.int (by walk_at "ex")

end
section
/-- whether a loop goes on in the same way behind its first m entries -/
def slOk (l : List Int) (r : Int) (m : Nat) : Prop :=
  (l.length : Int) % m = 0 ∧ r % ((l.length : Int) / m) = 0 ∧ ∀ i : Nat, i + m < l.length → gI l (i + m) = gI l i + r / ((l.length : Int) / m)
open Classical in
noncomputable def shortLoop (l : List Int) (r : Int) : List Int × Int :=
  match (List.range' 1 (l.length - 1)).find? (fun m => decide (slOk l r m)) with
  | some m => (l.take m, r / ((l.length : Int) / m))
  | none => (l, r)
theorem shortLoop_some {l : List Int} {r : Int} {m : Nat} (h1 : 1 ≤ m) (h2 : m < l.length) (ho : slOk l r m) (hn : ∀ j, 1 ≤ j → j < m → ¬ slOk l r j) : shortLoop l r = (l.take m, r / ((l.length : Int) / m)) := by
  unfold shortLoop
  have e : (List.range' 1 (l.length - 1)).find? (fun m => @decide (slOk l r m) (Classical.propDecidable _)) = some m := by
    rw [List.find?_eq_some_iff_getElem]
    refine ⟨by simpa using ho, m - 1, by simp; omega, by simp; omega, fun j hj => ?_⟩
    simp
    exact hn (1 + j) (by omega) (by omega)
  rw [e]
theorem shortLoop_none {l : List Int} {r : Int} (hn : ∀ j, 1 ≤ j → j < l.length → ¬ slOk l r j) : shortLoop l r = (l, r) := by
  unfold shortLoop
  have e : (List.range' 1 (l.length - 1)).find? (fun m => @decide (slOk l r m) (Classical.propDecidable _)) = none := by
    rw [List.find?_eq_none]
    intro m hm
    simp at hm ⊢
    exact hn m (by omega) (by omega)
  rw [e]
abbrev N_short_loop : List Str := ["loop", "rise", "many", "step", "place"]
theorem sc_short_loop : FnScope N_short_loop ["loop", "rise"] (defScope s_short_loop) := ⟨rfl, rfl, rfl, by decide +kernel, rfl, by decide +kernel, by decide +kernel⟩
theorem ok_short_loop {P : Program} {w : World} {K : PySem.W.Frag} {mg : Str → Option Value} {base : Heap} (E : Env P K mg) : Fn P w K mg base CX0 1 "short_loop" (sp2 fun a b H Q _ => ∃ l r, Dp K H a (dInts l) ∧ Dp K H b (.int r) ∧ RSm [] l r ∧ RetD K (.tuple [dInts (shortLoop l r).1, .int (shortLoop l r).2]) H Q) := by
  obtain ⟨fd, F⟩ := E.dd_short_loop
  refine Fn.mk0 F E.g_short_loop sc_short_loop sp2_len (fun _ _ _ _ _ _ us hl => match us, hl with | [_, _], _ => rfl) (fun cdv A outer s H vs Q X hr h => ?_)
  have nd := sc_short_loop.nd
  obtain ⟨v0, v1, rfl, h⟩ := h
  refine ⟨_, (pss_cons (ps_for PassesOwn.never rfl (pi_range2 (by rfl) E.f_range (pa_cons (pe_int) (pa_cons (pe_callB (kLen K) (by rfl) E.f_len (by decide +kernel) (pa_cons (pv 0) pa_nil)) pa_nil))) (pg_name (i := 2) nd rfl (.inr rfl))
   (pss_one (ps_if (PW.pt (pw_and (pt_cmpR (kEq K hr) (pe_op xMod (pe_callB (kLen K) (by rfl) E.f_len (by decide +kernel) (pa_cons (pv 0) pa_nil)) (pv 2)) (pe_int) (nomark _)) (pw_and1 (pt_cmpR (kEq K hr) (pe_op xMod (pv 1) (pe_op xDiv (pe_callB (kLen K) (by rfl) E.f_len (by decide +kernel) (pa_cons (pv 0) pa_nil)) (pv 2))) (pe_int) (nomark _)))))
   (pss_cons (ps_set (i := 3) nd rfl (.inr rfl) (pe_op xDiv (pv 1) (pe_op xDiv (pe_callB (kLen K) (by rfl) E.f_len (by decide +kernel) (pa_cons (pv 0) pa_nil)) (pv 2))))
  (pss_one (ps_if (kTru K (pe_callB (kAll K rfl) (by rfl) E.f_all (by decide +kernel) (pa_cons (pe_lc (own := [("place", 4)]) (g := gName 4) (tt := tYes) rfl nd (pi_range1 (by rfl) E.f_range (pa_cons (pe_op xSub (pe_callB (kLen K) (by rfl) E.f_len (by decide +kernel) (pa_cons (pv 0) pa_nil)) (pv 2)) pa_nil)) (blkOk_by (N := N_short_loop) (sc := defScope s_short_loop) (by decide +kernel)) (fun _ _ _ _ _ => pg_name (i := 4) nd rfl (Or.inl rfl)) (fun _ _ _ _ _ => pts_nil) (fun _ _ _ _ _ => pe_cmpR (kEq K hr) (pe_ix (kIx K) (pv 0) (pe_op (kAdd K) (pv 4) (pv 2)) (fun _ _ => rfl)) (pe_op (kAdd K) (pe_ix (kIx K) (pv 0) (pv 4) (fun _ _ => rfl)) (pv 3)) (nomark _))) pa_nil)) (by intro _; rfl))
   (pss_one (ps_ret (pe_tup (pa_cons (pe_slice (kSl K) (pv 0) po_none (po_some (pv 2))) (pa_cons (pv 3) pa_nil)))))
   pss_nil)))
   pss_nil)))
  (pss_one (ps_ret (pe_tup (pa_cons (pv 0) (pa_cons (pv 1) pa_nil)))))), ?_⟩
  change (_ : TS) _ [some v0, some v1, none, none, none] H
  try dsimp only [cxOf, Cx.nox, Cx.blk]
  obtain ⟨l, r, hl, hri, ⟨r1, r2, r3, r4⟩, k⟩ := h
  obtain ⟨t, rfl, s1⟩ := dp_ints hl
  obtain rfl := dp_toInt hri
  walk_at "w"
  refine for_range (lo := 1) (Pv := fun i σ' H' => ∃ a b c, σ' = [some (.ref t), some (.int r), a, b, c] ∧ Ex H H' ∧ ∀ j : Nat, 1 ≤ j → j < 1 + i → ¬ slOk l r j) ⟨_, _, _, rfl, Ex.refl H, fun j h1 h2 => by omega⟩ ?_ ?_
  · rintro i σ' H' hi ⟨a, b, c, rfl, e, hnot⟩
    have hi' : 1 + i < l.length := by omega
    obtain ⟨m, hm⟩ : ∃ m : Nat, m = 1 + i := ⟨_, rfl⟩
    have hm0 : 0 < m := by omega
    rw [show (1 + (i : Int)) = (m : Int) by omega]
    have hq : 0 < (l.length : Int) / m := Int.le_ediv_of_mul_le (by omega) (by omega)
    have hq2 : (l.length : Int) / m ≤ l.length := Int.ediv_le_self _ (by omega)
    have hno : ¬ slOk l r m → ∀ j : Nat, 1 ≤ j → j < 1 + (i + 1) → ¬ slOk l r j := fun hn j h1 h2 => by
      by_cases hj : j = m
      · rw [hj]; exact hn
      · exact hnot j h1 (by omega)
    walk_at "w"
    by_cases c1 : (l.length : Int) % m = 0
    · walk_at "w"
      by_cases c2 : r % ((l.length : Int) / m) = 0
      · walk_at "w"
        refine lcJ_r0 (v := fun i => .bl (decide (gI l (i + m) = gI l i + r / ((l.length : Int) / m)))) (by omega) (fun x => [_, _, _, _, some x]) (fun x => rfl) (fun x => rfl) (fun j H1 Q' e1 hj hq => ?_) (fun p H2 np e2 hp => ?_)
        · walk_at "w"
          exact hq H1 (Ex.refl _)
        · rw [map_bl_range] at hp
          walk_at "w"
          refine r_all (sq_of hp) rfl ?_
          rw [all_range]
          walk_at "w"
          by_cases c3 : ∀ j : Nat, j < ((l.length : Int) - m).toNat → gI l (j + m) = gI l j + r / ((l.length : Int) / m)
          · walk_at "w"
            intro p3 H3 e3 s3
            walk_at "w"
            intro p4 H4 n4 e4 h4
            rw [shortLoop_some hm0 (by omega) ⟨c1, c2, fun j hj => c3 j (by omega)⟩ (fun j h1 h2 => hnot j h1 (by omega))] at k
            refine k _ _ (((e.trans e2).trans e3).trans e4) (.tup (st_of h4) (.cons (dp_of_ints (ex_t e4 ?_)) (.cons (.int _) .nil)))
            exact s3
          · walk_at "w"
            refine ⟨_, _, _, rfl, e.trans e2, hno fun h => c3 fun j hj => ?_⟩
            exact h.2.2 j (by omega)
      · walk_at "w"
        exact ⟨_, _, _, rfl, e, hno fun h => c2 h.2.1⟩
    · walk_at "w"
      exact ⟨_, _, _, rfl, e, hno fun h => c1 h.1⟩
  · rintro σ' H' ⟨a, b, c, rfl, e, hnot⟩
    walk_at "w"
    intro p H1 n1 e1 h1
    rw [shortLoop_none (fun j h1 h2 => hnot j h1 (by omega))] at k
    exact k _ _ (e.trans e1) (.tup (st_of h1) (.cons (dp_of_ints (ex_t e1 (ex_t e s1))) (.cons (.int r) .nil)))

end
section
theorem shortLoop_cases (l : List Int) (r : Int) : (shortLoop l r = (l, r)) ∨ ∃ m : Nat, 1 ≤ m ∧ m < l.length ∧ slOk l r m ∧ shortLoop l r = (l.take m, r / ((l.length : Int) / m)) := by
  by_cases h : ∃ m : Nat, 1 ≤ m ∧ m < l.length ∧ slOk l r m
  · have key : ∀ n : Nat, (∃ m : Nat, m ≤ n ∧ 1 ≤ m ∧ m < l.length ∧ slOk l r m) → ∃ m : Nat, 1 ≤ m ∧ m < l.length ∧ slOk l r m ∧ ∀ j, 1 ≤ j → j < m → ¬ slOk l r j := by
      intro n
      induction n with
      | zero => rintro ⟨m, h0, h1, _⟩; omega
      | succ n ih =>
        rintro ⟨m, h0, h1, h2, h3⟩
        by_cases q : ∃ m : Nat, m ≤ n ∧ 1 ≤ m ∧ m < l.length ∧ slOk l r m
        · exact ih q
        · exact ⟨m, h1, h2, h3, fun j j1 j2 j3 => q ⟨j, by omega, j1, by omega, j3⟩⟩
    obtain ⟨m, h1, h2, h3⟩ := h
    obtain ⟨m, h1, h2, h3, h4⟩ := key m ⟨m, Nat.le_refl _, h1, h2, h3⟩
    exact .inr ⟨m, h1, h2, h3, shortLoop_some h1 h2 h3 h4⟩
  · exact .inl (shortLoop_none fun j h1 h2 h3 => h ⟨j, h1, h2, h3⟩)
theorem shortLoop_len (l : List Int) (r : Int) : (shortLoop l r).1.length ≤ l.length ∧ (l ≠ [] → (shortLoop l r).1 ≠ []) := by
  rcases shortLoop_cases l r with e | ⟨m, h1, h2, _, e⟩
  · rw [e]; exact ⟨Nat.le_refl _, id⟩
  · rw [e]
    refine ⟨by show (l.take m).length ≤ _; rw [List.length_take]; omega, fun _ q => ?_⟩
    have : (l.take m).length = 0 := by rw [show l.take m = [] from q]; rfl
    rw [List.length_take] at this
    omega
theorem shortLoop_rise {l : List Int} {r : Int} (h : 0 ≤ r) : 0 ≤ (shortLoop l r).2 ∧ (shortLoop l r).2 ≤ r := by
  rcases shortLoop_cases l r with e | ⟨m, h1, h2, _, e⟩
  · rw [e]; exact ⟨h, Int.le_refl _⟩
  · rw [e]
    have hq : 0 < (l.length : Int) / m := Int.le_ediv_of_mul_le (by omega) (by omega)
    exact ⟨Int.ediv_nonneg h (by omega), Int.ediv_le_self _ h⟩
/-- what a loop going on backwards has back places ahead of itself -/
def bkV (l : List Int) (r back : Int) : Int := gI l (-1 - back % l.length + l.length) - r * (back / l.length + 1)
def cutH (h l : List Int) (r : Int) : Nat → Nat
  | 0 => 0
  | k + 1 => if gI h k = bkV l r (h.length - (k + 1)) then cutH h l r k else k + 1
noncomputable def plainF (h l : List Int) (r : Int) : List Int × List Int × Int :=
  if l = [] then (h, [], 0) else
    (h.take (cutH h (shortLoop l r).1 (shortLoop l r).2 h.length),
     (List.range (shortLoop l r).1.length).map fun i : Nat => (vat h (shortLoop l r).1 (shortLoop l r).2 (cutH h (shortLoop l r).1 (shortLoop l r).2 h.length + 1 + i)).getD 0,
     (shortLoop l r).2)
theorem cutH_le (h l : List Int) (r : Int) : ∀ k, cutH h l r k ≤ k
  | 0 => Nat.le_refl _
  | k + 1 => by
    unfold cutH
    split
    · exact Nat.le_succ_of_le (cutH_le h l r k)
    · exact Nat.le_refl _
theorem vat_some {h l : List Int} {r p : Int} (hl : l ≠ []) : vat h l r p = some ((vat h l r p).getD 0) := by
  unfold vat
  rw [if_neg hl]
  split
  · rfl
  · split <;> rfl
abbrev N_plain_form : List Str := ["head", "loop", "rise", "keep", "back", "told", "place"]
theorem sc_plain_form : FnScope N_plain_form ["head", "loop", "rise"] (defScope s_plain_form) := ⟨rfl, rfl, rfl, by decide +kernel, rfl, by decide +kernel, by decide +kernel⟩
theorem ok_plain_form {P : Program} {w : World} {K : PySem.W.Frag} {mg : Str → Option Value} {base : Heap} (E : Env P K mg) : Fn P w K mg base CX0 3 "plain_form" (sp3 fun a b c H Q _ => ∃ h l r, Dp K H a (dInts h) ∧ Dp K H b (dInts l) ∧ Dp K H c (.int r) ∧ 0 ≤ r ∧ RSm h l r ∧ RetD K (dRaw (plainF h l r).1 (plainF h l r).2.1 (plainF h l r).2.2) H Q) := by
  obtain ⟨fd, F⟩ := E.dd_plain_form
  refine Fn.mk0 F E.g_plain_form sc_plain_form sp3_len (fun _ _ _ _ _ _ us hl => match us, hl with | [_, _, _], _ => rfl) (fun cdv A outer s H vs Q X hr h => ?_)
  have nd := sc_plain_form.nd
  obtain ⟨v0, v1, v2, rfl, h⟩ := h
  refine ⟨_, (pss_cons (ps_if (pt_cmpR (kEq K hr) (pe_callB (kLen K) (by rfl) E.f_len (by decide +kernel) (pa_cons (pv 1) pa_nil)) (pe_int) (nomark _))
   (pss_one (ps_ret (pe_tup (pa_cons (pv 0) (pa_cons (pe_tup pa_nil) (pa_cons (pe_int) pa_nil))))))
   pss_nil)
  (pss_cons (ps_asg (pc (ok_short_loop E) hr (by decide) pass0 rfl (pa_cons (pv 1) (pa_cons (pv 2) pa_nil))) (kGtup K rfl (pgs_cons (pg_name (i := 1) nd rfl (.inl rfl)) (pgs_cons (pg_name (i := 2) nd rfl (.inl rfl)) (pgs_nil)))))
  (pss_cons (ps_set (i := 3) nd rfl (.inr rfl) (pe_callB (kLen K) (by rfl) E.f_len (by decide +kernel) (pa_cons (pv 0) pa_nil)))
  (pss_cut (ps_while PassesOwn.never (pt_cmpR op_gt (pv 3) (pe_int) (nomark _))
   (pss_cons (ps_set (i := 4) nd rfl (.inl rfl) (pe_op xSub (pe_callB (kLen K) (by rfl) E.f_len (by decide +kernel) (pa_cons (pv 0) pa_nil)) (pv 3)))
  (pss_cons (ps_if (pt_cmpR (kNe K hr) (pe_ix (kIx K) (pv 0) (pe_op xSub (pv 3) (pe_int)) (fun _ _ => rfl)) (pe_op xSub (pe_ix (kIx K) (pv 1) (pe_op xSub (pe_un un_neg (pe_int)) (pe_op xMod (pv 4) (pe_callB (kLen K) (by rfl) E.f_len (by decide +kernel) (pa_cons (pv 1) pa_nil)))) (fun _ _ => rfl)) (pe_op (kMul K) (pv 2) (pe_op (kAdd K) (pe_op xDiv (pv 4) (pe_callB (kLen K) (by rfl) E.f_len (by decide +kernel) (pa_cons (pv 1) pa_nil))) (pe_int)))) (nomark _))
   (pss_one (ps_break))
   pss_nil)
  (pss_one (ps_set (i := 3) nd rfl (.inr rfl) (pe_op xSub (pv 3) (pe_int)))))))
  (pss_cons (ps_set (i := 5) nd rfl (.inr rfl) (pe_tup (pa_cons (pv 0) (pa_cons (pv 1) (pa_cons (pv 2) pa_nil)))))
  (pss_one (ps_ret (pe_tup (pa_cons (pe_slice (kSl K) (pv 0) po_none (po_some (pv 3))) (pa_cons (pe_callTy (kTup K) (by rfl) E.f_tuple (by decide +kernel) (pa_cons (pe_lc (own := [("place", 6)]) (g := gName 6) (tt := tYes) rfl nd (pi_range1 (by rfl) E.f_range (pa_cons (pe_callB (kLen K) (by rfl) E.f_len (by decide +kernel) (pa_cons (pv 1) pa_nil)) pa_nil)) (blkOk_by (N := N_plain_form) (sc := defScope s_plain_form) (by decide +kernel)) (fun _ _ _ _ _ => pg_name (i := 6) nd rfl (Or.inl rfl)) (fun _ _ _ _ _ => pts_nil) (fun _ _ _ _ _ => pc (ok_value_at E) hr (by decide) pass0 rfl (pa_cons (pv 5) (pa_cons (pe_op (kAdd K) (pe_op (kAdd K) (pv 3) (pe_int)) (pv 6)) pa_nil)))) pa_nil)) (pa_cons (pv 2) pa_nil))))))))))), ?_⟩
  change (_ : TS) _ [some v0, some v1, some v2, none, none, none, none] H
  try dsimp only [cxOf, Cx.nox, Cx.blk]
  obtain ⟨h, l, r, hh, hl, hri, hr0, ⟨r1, r2, r3, r4⟩, k⟩ := h
  obtain ⟨th, rfl, s1⟩ := dp_ints hh
  obtain ⟨tl, rfl, s2⟩ := dp_ints hl
  obtain rfl := dp_toInt hri
  unfold plainF at k
  walk_at "w"
  by_cases hn : l = []
  · subst hn
    rw [if_pos rfl] at k
    walk_at "w"
    intro p1 H1 n1 e1 h1
    walk_at "w"
    intro p2 H2 n2 e2 h2
    exact k _ _ (e1.trans e2) (dp_of_raw (st_of h2) (ex_t e2 (ex_t e1 s1)) (ex_t e2 (st_of h1)))
  · rw [if_neg hn] at k
    have hl0 : 0 < l.length := List.length_pos_iff.mpr hn
    walk_at "w"
    refine ⟨l, r, dp_of_ints s2, .int r, ⟨r1, r2, by simp, r4⟩, fun v H1 e1 d1 => ?_⟩
    obtain ⟨pa, x, y, rfl, sp, dx, dy⟩ := dp_t2 d1
    obtain ⟨ta, rfl, sa⟩ := dp_ints dx
    obtain rfl := dp_toInt dy
    obtain ⟨q1, q2⟩ := shortLoop_len l r
    obtain ⟨q3, q4⟩ := shortLoop_rise (l := l) hr0
    have q5 := q2 hn
    have q5' := q5
    generalize shortLoop l r = sl at *
    obtain ⟨l', r'⟩ := sl
    dsimp only at *
    have hl1 : 0 < l'.length := List.length_pos_iff.mpr q5
    walk_at "w"
    refine w_cut (M := fun σ' H' => ∃ (m : Nat) (bk : Option V), σ' = [some (.ref th), some (.ref ta), some (.int r'), some (.int (m : Int)), bk, none, none] ∧ Ex H1 H' ∧ m ≤ h.length ∧ cutH h l' r' h.length = m) ?_ ?_
    · refine ⟨fun m σ' H' => ∃ bk, σ' = [some (.ref th), some (.ref ta), some (.int r'), some (.int (m : Int)), bk, none, none] ∧ Ex H1 H' ∧ m ≤ h.length ∧ cutH h l' r' h.length = cutH h l' r' m, ⟨h.length, none, rfl, Ex.refl _, Nat.le_refl _, rfl⟩, ?_⟩
      rintro m σ' H' ⟨bk, rfl, e2, hm, hc⟩
      walk_at "w"
      cases m with
      | zero =>
        walk_at "w"
        exact ⟨0, _, rfl, e2, hm, hc⟩
      | succ m =>
        walk_at "w"
        refine ⟨_, fun σ2 H2 h2 => ⟨m, Nat.lt_succ_self m, h2⟩, ?_⟩
        have hb0 : 0 ≤ ((h.length : Int) - (m + 1 : Nat)) % l'.length := Int.emod_nonneg _ (by omega)
        have hb1 : ((h.length : Int) - (m + 1 : Nat)) % l'.length < l'.length := Int.emod_lt_of_pos _ (by omega)
        walk_at "w"
        have hb : bkV l' r' ((h.length : Int) - (m + 1 : Nat)) = gI l' (-1 - (↑h.length - ↑(m + 1)) % ↑l'.length + ↑l'.length) - r' * ((↑h.length - ↑(m + 1)) / ↑l'.length + 1) := rfl
        rw [← hb, show ((m + 1 : Nat) : Int) - 1 = (m : Int) by omega]
        by_cases c : gI h m = bkV l' r' ((h.length : Int) - (m + 1 : Nat))
        · walk_at "w"
          rw [show ((m + 1 : Nat) : Int) - 1 = (m : Int) by omega]
          refine ⟨_, rfl, e2, by omega, ?_⟩
          rw [hc]
          exact if_pos c
        · walk_at "w"
          refine ⟨m + 1, _, rfl, e2, hm, ?_⟩
          rw [hc]
          exact if_neg c
    · rintro σ' H' ⟨m, bk, rfl, e2, hm, hc⟩
      walk_at "w"
      intro p1 H2 n2 e3 h3
      walk_at "w"
      intro p2 H3 e4 s4
      rw [Int.toNat_natCast] at s4
      walk_at "w"
      have hs : Dp K H3 (.ref p1) (dRaw h l' r') := dp_of_raw (ex_t e4 (st_of h3)) (by walk_at "hp") (by walk_at "hp")
      refine lcJ_r0 (v := fun i : Nat => .int ((vat h l' r' (m + 1 + i)).getD 0)) (by omega) (fun x => [_, _, _, _, _, _, some x]) (fun x => rfl) (fun x => rfl) (fun j H4 Q' e5 hj hq => ?_) (fun p4 H4 n4 e5 h5 => ?_)
      · walk_at "w"
        refine ⟨h, l', r', some (m + 1 + j), dp_ex e5 hs, .int _, fun n hn => by cases hn; omega, ⟨by omega, by omega, r3, by omega⟩, fun v H5 e6 d6 => ?_⟩
        obtain rfl := dp_toInt (by rw [show valueAt h l' r' (some (m + 1 + j)) = some _ from vat_some q5'] at d6; exact d6)
        exact hq _ e6
      · walk_at "w"
        intro p5 H5 e6 s6
        walk_at "w"
        intro p6 H6 n6 e7 h6
        rw [Int.toNat_natCast] at s6
        rw [hc] at k
        refine k _ _ (by walk_at "ex") (dp_of_raw (st_of h6) (by walk_at "hp") (ex_t e7 ?_))
        unfold vI
        rw [List.map_map]
        exact s6

end
section
def rising (ns : List Int) : Prop := ∀ i : Nat, i + 1 < ns.length → gI ns i ≤ gI ns (i + 1)
def allPos (ns : List Int) : Prop := ∀ n ∈ ns, 0 ≤ n
/-- a tuple or a list of ints -/
def dSeqI (b : Bool) (ns : List Int) : PyData := if b then dInts ns else dIntL ns
theorem dp_seqI {K : PySem.W.Frag} {H : Hp} {v : V} {b : Bool} {ns : List Int} (h : Dp K H v (dSeqI b ns)) : ∃ a, v = .ref a ∧ ((b = true ∧ SqT K H a (vI ns)) ∨ (b = false ∧ SqL K H a (vI ns))) := by
  cases b with
  | true => obtain ⟨a, e, s⟩ := dp_ints h; exact ⟨a, e, .inl ⟨rfl, s⟩⟩
  | false => obtain ⟨a, e, s⟩ := dp_intL h; exact ⟨a, e, .inr ⟨rfl, s⟩⟩
abbrev N_is_counts : List Str := ["thing", "one"]
theorem sc_is_counts : FnScope N_is_counts ["thing"] (defScope s_is_counts) := ⟨rfl, rfl, rfl, by decide +kernel, rfl, by decide +kernel, by decide +kernel⟩
theorem ok_is_counts {P : Program} {w : World} {K : PySem.W.Frag} {mg : Str → Option Value} {base : Heap} (E : Env P K mg) : Fn P w K mg base CX0 3 "is_counts" (sp1 fun v H Q _ => ∃ b ns, Dp K H v (dSeqI b ns) ∧ allPos ns ∧ ns.length ≤ 50000 ∧ RetD K (.bool true) H Q) := by
  obtain ⟨fd, F⟩ := E.dd_is_counts
  refine Fn.mk0 F E.g_is_counts sc_is_counts sp1_len (fun _ _ _ _ _ _ us hl => match us, hl with | [_], _ => rfl) (fun cdv A outer s H vs Q X hr h => ?_)
  have nd := sc_is_counts.nd
  obtain ⟨v0, rfl, h⟩ := h
  refine ⟨_, (pss_one (ps_ret (pe_and (pc (ok_is_listed E) hr (by decide) pass0 rfl (pa_cons (pv 0) pa_nil)) (pe_one (pe_callB (kAll K rfl) (by rfl) E.f_all (by decide +kernel) (pa_cons (pe_lc (own := [("one", 1)]) (g := gName 1) (tt := tYes) rfl nd (kSeq K (pv 0)) (blkOk_by (N := N_is_counts) (sc := defScope s_is_counts) (by decide +kernel)) (fun _ _ _ _ _ => pg_name (i := 1) nd rfl (Or.inl rfl)) (fun _ _ _ _ _ => pts_nil) (fun _ _ _ _ _ => pc (ok_is_count E) hr (by decide) pass0 rfl (pa_cons (pv 1) pa_nil))) pa_nil)))))), ?_⟩
  change (_ : TS) _ [some v0, none] H
  try dsimp only [cxOf, Cx.nox, Cx.blk]
  obtain ⟨b, ns, hd, hp, hz, k⟩ := h
  obtain ⟨a, rfl, hs⟩ := dp_seqI hd
  walk_at "w"
  refine ⟨_, .inl hd, fun v H1 e1 d1 => ?_⟩
  have e : dIsSeq (dSeqI b ns) = true := by cases b <;> rfl
  rw [e] at d1
  obtain rfl := dp_toBl d1
  walk_at "w"
  have key : ∀ (x : V) (H2 : Hp) (Q' : VK), x ∈ vI ns → (∀ H3, Ex H2 H3 → Q' (.bl true) H3) → ∃ d, Dp K H2 x d ∧ RetD K (.bool (dIsCount d)) H2 Q' := fun x H2 Q' hx hq => by
    obtain ⟨n, hn, rfl⟩ := List.mem_map.mp hx
    refine ⟨.int n, .int n, fun v H3 e3 d3 => ?_⟩
    rw [show dIsCount (.int n) = true from decide_eq_true (hp n hn)] at d3
    obtain rfl := dp_toBl d3
    exact hq H3 e3
  have fin : ∀ (p : Addr) (H2 : Hp), Ex H1 H2 → H2 p = some (.lst ((vI ns).map fun _ => V.bl true)) → rAll K [.ref p] H2 (fun v H => Q v H) := fun p H2 e2 hp => by
    refine r_all (bs := (vI ns).map fun _ => true) (sq_of hp) (by simp [Function.comp]) ?_
    have : ((vI ns).map fun _ => true).all id = true := by simp
    rw [this]
    exact k.bl (e1.trans e2)
  rcases hs with ⟨rfl, s⟩ | ⟨rfl, s⟩
  · refine i_seqT ?_
    walk_at "w"
    refine lcJ_tup (v := fun _ => .bl true) (ex_t e1 s) (by rw [List.length_map]; omega) (fun x => [_, some x]) (fun x => rfl) (fun x => rfl) (fun x H2 Q' e2 hx hq => ?_) (fun p H2 n2 e2 hp => ?_)
    · walk_at "w"
      exact key x H2 Q' hx hq
    · walk_at "w"
      exact fin p H2 e2 hp
  · refine i_seqL ?_
    walk_at "w"
    refine lcJ_list (v := fun _ => .bl true) (ex_l e1 s) (by rw [List.length_map]; omega) (fun x => [_, some x]) (fun x => rfl) (fun x => rfl) (fun x H2 Q' e2 hx hq => ?_) (fun p H2 n2 e2 hp => ?_)
    · walk_at "w"
      exact key x H2 Q' hx hq
    · walk_at "w"
      exact fin p H2 e2 hp
abbrev N_is_rising : List Str := ["counts", "place"]
theorem sc_is_rising : FnScope N_is_rising ["counts"] (defScope s_is_rising) := ⟨rfl, rfl, rfl, by decide +kernel, rfl, by decide +kernel, by decide +kernel⟩
theorem ok_is_rising {P : Program} {w : World} {K : PySem.W.Frag} {mg : Str → Option Value} {base : Heap} (E : Env P K mg) : Fn P w K mg base CX0 1 "is_rising" (sp1 fun v H Q _ => ∃ b ns, Dp K H v (dSeqI b ns) ∧ rising ns ∧ ns.length ≤ 50000 ∧ RetD K (.bool true) H Q) := by
  obtain ⟨fd, F⟩ := E.dd_is_rising
  refine Fn.mk0 F E.g_is_rising sc_is_rising sp1_len (fun _ _ _ _ _ _ us hl => match us, hl with | [_], _ => rfl) (fun cdv A outer s H vs Q X hr h => ?_)
  have nd := sc_is_rising.nd
  obtain ⟨v0, rfl, h⟩ := h
  refine ⟨_, (pss_one (ps_ret (pe_callB (kAll K rfl) (by rfl) E.f_all (by decide +kernel) (pa_cons (pe_lc (own := [("place", 1)]) (g := gName 1) (tt := tYes) rfl nd (pi_range1 (by rfl) E.f_range (pa_cons (pe_op xSub (pe_callB (kLen K) (by rfl) E.f_len (by decide +kernel) (pa_cons (pv 0) pa_nil)) (pe_int)) pa_nil)) (blkOk_by (N := N_is_rising) (sc := defScope s_is_rising) (by decide +kernel)) (fun _ _ _ _ _ => pg_name (i := 1) nd rfl (Or.inl rfl)) (fun _ _ _ _ _ => pts_nil) (fun _ _ _ _ _ => pe_cmpR op_le (pe_ix (kIx K) (pv 0) (pv 1) (fun _ _ => rfl)) (pe_ix (kIx K) (pv 0) (pe_op (kAdd K) (pv 1) (pe_int)) (fun _ _ => rfl)) (nomark _))) pa_nil)))), ?_⟩
  change (_ : TS) _ [some v0, none] H
  try dsimp only [cxOf, Cx.nox, Cx.blk]
  obtain ⟨b, ns, hd, hri, hz, k⟩ := h
  obtain ⟨a, rfl, hs⟩ := dp_seqI hd
  have fin : ∀ (p : Addr) (H2 : Hp), Ex H H2 → H2 p = some (.lst ((List.range ((ns.length : Int) - 1).toNat).map fun _ => V.bl true)) → rAll K [.ref p] H2 (fun v H => Q v H) := fun p H2 e2 hp => by
    refine r_all (bs := (List.range ((ns.length : Int) - 1).toNat).map fun _ => true) (sq_of hp) (by simp [Function.comp]) ?_
    have : ((List.range ((ns.length : Int) - 1).toNat).map fun _ => true).all id = true := by simp
    rw [this]
    exact k.bl e2
  have cmp : ∀ j : Nat, j < ((ns.length : Int) - 1).toNat → decide (gI ns j ≤ gI ns (j + 1)) = true := fun j hj => decide_eq_true (hri j (by omega))
  rcases hs with ⟨rfl, s⟩ | ⟨rfl, s⟩
  all_goals
    walk_at "w"
    refine lcJ_r0 (v := fun _ => .bl true) (by omega) (fun x => [_, some x]) (fun x => rfl) (fun x => rfl) (fun j H2 Q' e2 hj hq => ?_) (fun p H2 n2 e2 hp => ?_)
    · walk_at "w"
      rw [cmp j hj]
      exact hq _ (Ex.refl _)
    · walk_at "w"
      exact fin p H2 e2 hp

end
section
abbrev spDeep (K : PySem.W.Frag) (n : Nat) : Sp := sp1 fun v H Q _ => ∃ d, Dp K H v d ∧ shp n d = true ∧ RetD K (dDeep d) H Q
abbrev N_deep : List Str := ["thing", "one"]
theorem sc_deep : FnScope N_deep ["thing"] (defScope s_deep) := ⟨rfl, rfl, rfl, by decide +kernel, rfl, by decide +kernel, by decide +kernel⟩
--derivation of deep:
theorem deep_step {P : Program} {w : World} {K : PySem.W.Frag} {mg : Str → Option Value} {base : Heap} (E : Env P K mg) {k n : Nat} {sp : Sp} (hk1 : 1 ≤ k) (IH : Fn P w K mg base CX0 k "deep" sp)
    (hsp : ∀ (m : Nat), n = m + 1 → sp = spDeep K m) : Fn P w K mg base CX0 (k + 1) "deep" (spDeep K n) := by
  obtain ⟨fd, F⟩ := E.dd_deep
  refine Fn.mk0 F E.g_deep sc_deep sp1_len (fun _ _ _ _ _ _ us hl => match us, hl with | [_], _ => rfl) (fun cdv A outer s H vs Q X hr h => ?_)
  have nd := sc_deep.nd
  obtain ⟨v0, rfl, h⟩ := h
  refine ⟨_, (pss_cons (ps_if (kTru K (pc (ok_is_listed E) hr (by omega) pass0 rfl (pa_cons (pv 0) pa_nil)) (by intro _; rfl))
   (pss_one (ps_ret (pe_callTy (kTup K) (by rfl) E.f_tuple (by decide +kernel) (pa_cons (pe_lc (own := [("one", 1)]) (g := gName 1) (tt := tYes) rfl nd (kSeq K (pv 0)) (blkOk_by (N := N_deep) (sc := defScope s_deep) (by decide +kernel)) (fun _ _ _ _ _ => pg_name (i := 1) nd rfl (Or.inl rfl)) (fun _ _ _ _ _ => pts_nil) (fun _ _ _ _ _ => pc IH hr (by omega) pass0 rfl (pa_cons (pv 1) pa_nil))) pa_nil))))
   pss_nil)
  (pss_one (ps_ret (pv 0)))), ?_⟩
  change (_ : TS) _ [some v0, none] H
  obtain ⟨d, hd, hs, k⟩ := h
  walk_at "w"
  refine ⟨d, .inl hd, fun v H1 e1 d1 => ?_⟩
  obtain rfl := dp_toBl d1
  have h0 : ∀ (b : Bool), dIsSeq d = b → (b = false → dDeep d = d) := by
    intro b hb hb2
    subst hb2
    cases d with
    | list _ => exact nomatch hb
    | tuple _ => exact nomatch hb
    | dict _ => exact (dp_nodict hd).elim
    | _ => rfl
  cases hq : dIsSeq d with
  | false =>
    walk_at "w"
    rw [h0 false hq rfl] at k
    exact k _ _ e1 (dp_ex e1 hd)
  | true =>
    walk_at "w"
    cases n with
    | zero => cases d <;> first | (simp [dIsSeq] at hq; done) | (simp [shp] at hs; done)
    | succ n =>
      have esp := hsp n rfl
      subst esp
      have fin : ∀ (ds : List PyData) (p : Addr) (H2 : Hp) (ys : List V), dDeep d = .tuple (dDeepAll ds) → Ex H1 H2 → H2 p = some (.lst ys) → DpAll K H2 ys ((List.range ds.length).map fun i => dDeep (ds.getD i .none)) → ∀ (p3 : Addr) (H3 : Hp), Ex H2 H3 → SqT K H3 p3 ys → Q (.ref p3) H3 := fun ds p H2 ys he e2 hp hy p3 H3 e3 s3 => by
        rw [he] at k
        refine k _ _ (e1.trans (e2.trans e3)) (.tup s3 ?_)
        have el : (List.range ds.length).map (fun i => dDeep (ds.getD i .none)) = dDeepAll ds := by
          rw [dDeepAll_eq]
          apply List.ext_getElem
          · simp
          · intro i h1 h2
            simp at h1 h2
            simp [h2]
        rw [el] at hy
        exact dpAll_ex e3 hy
      have elt : ∀ (ds : List PyData) (xs : List V) (H1' : Hp) (i : Nat) (x : V) (Q' : VK) (h1 : DpAll K H xs ds) (hsh : shpAll n ds = true), Ex H H1' → xs[i]? = some x → (∀ y H2, Ex H1' H2 → Dp K H2 y (dDeep (ds.getD i .none)) → Q' y H2) → ∃ d, Dp K H1' x d ∧ shp n d = true ∧ RetD K (dDeep d) H1' Q' := by
        intro ds xs H1' i x Q' h1 hsh e hx hq
        obtain ⟨d', g1, g2⟩ := dpAll_get h1 hx
        refine ⟨d', dp_ex e g2, shpAll_get hsh g1, fun y H2 e2 d2 => hq y H2 e2 ?_⟩
        rw [List.getD_eq_getElem?_getD, g1]
        exact d2
      cases hd with
      | lst s a =>
        rename_i ad xs ds
        obtain ⟨hz, hsh⟩ := Bool.and_eq_true_iff.mp (show (decide (ds.length ≤ 50000) && shpAll n ds) = true from hs)
        have hz' := of_decide_eq_true hz
        have hl := dpAll_len a
        refine i_seqL ?_
        walk_at "w"
        refine lcD_list (fun i => dDeep (ds.getD i .none)) (fun i => imm_deep _) (ex_l e1 s) (by omega) (fun x => [_, some x]) (fun x => rfl) (fun x => rfl) (fun i x H2 Q' e2 hx hq => ?_) (fun p H2 ys n2 e2 hp hy => ?_)
        · walk_at "w"
          exact elt ds xs H2 i x Q' a hsh (e1.trans e2) hx hq
        · walk_at "w"
          rw [hl] at hy
          intro p3 H3 e3 s3
          exact fin ds p H2 ys rfl e2 hp hy p3 H3 e3 s3
      | tup s a =>
        rename_i ad xs ds
        obtain ⟨hz, hsh⟩ := Bool.and_eq_true_iff.mp (show (decide (ds.length ≤ 50000) && shpAll n ds) = true from hs)
        have hz' := of_decide_eq_true hz
        have hl := dpAll_len a
        refine i_seqT ?_
        walk_at "w"
        refine lcD_tup (fun i => dDeep (ds.getD i .none)) (fun i => imm_deep _) (ex_t e1 s) (by omega) (fun x => [_, some x]) (fun x => rfl) (fun x => rfl) (fun i x H2 Q' e2 hx hq => ?_) (fun p H2 ys n2 e2 hp hy => ?_)
        · walk_at "w"
          exact elt ds xs H2 i x Q' a hsh (e1.trans e2) hx hq
        · walk_at "w"
          rw [hl] at hy
          intro p3 H3 e3 s3
          exact fin ds p H2 ys rfl e2 hp hy p3 H3 e3 s3
      | _ => exact nomatch hq
theorem ok_deepN {P : Program} {w : World} {K : PySem.W.Frag} {mg : Str → Option Value} {base : Heap} (E : Env P K mg) : ∀ n : Nat, Fn P w K mg base CX0 (n + 2) "deep" (spDeep K n)
  | 0 => by
    obtain ⟨fd, F⟩ := E.dd_deep
    exact deep_step E (k := 1) (Nat.le_refl _) (Fn.never F E.g_deep (ps := ["thing"]) (fun _ _ _ _ _ _ us hl => match us, hl with | [_], _ => rfl)) (fun m e => nomatch e)
  | n + 1 => deep_step E (by omega) (ok_deepN E n) (fun m e => by cases e; rfl)
theorem ok_deep {P : Program} {w : World} {K : PySem.W.Frag} {mg : Str → Option Value} {base : Heap} (E : Env P K mg) : Fn P w K mg base CX0 8 "deep" (spDeep K 6) := ok_deepN E 6

end
section
/-- a head, a loop and a rise that make a table -/
structure Val (h l : List Int) (r : Int) : Prop where
  p1 : allPos h
  p2 : allPos l
  r1 : rising h
  r2 : rising l
  r0 : 0 ≤ r
  e0 : l = [] → r = 0
  hl : h ≠ [] → l ≠ [] → gI h (h.length - 1) ≤ gI l 0
  ll : l ≠ [] → gI l (l.length - 1) ≤ gI l 0 + r
  sm : RSm h l r
theorem dp_seqE {K : PySem.W.Frag} {H : Hp} {v : V} {b : Bool} {ns : List Int} (h : Dp K H v (dSeqI b ns)) : ∃ a, v = .ref a ∧ SqE K H a (vI ns) := by
  obtain ⟨a, e, h⟩ := dp_seqI h
  exact ⟨a, e, h.elim (fun h => .inr h.2) (fun h => .inl h.2)⟩
theorem deep_seq (b : Bool) (ns : List Int) : dDeep (dSeqI b ns) = dInts ns := by
  cases b <;> (show PyData.tuple (dDeepAll (ns.map .int)) = _; rw [dDeep_ints])
theorem shp_seq {b : Bool} {ns : List Int} (h : ns.length ≤ 50000) : shp 6 (dSeqI b ns) = true := by
  have key : ∀ ns : List Int, shpAll 5 (ns.map .int) = true := fun ns => by
    induction ns with
    | nil => rfl
    | cons n ns ih => show (shp 5 (.int n) && shpAll 5 (ns.map .int)) = true; rw [ih]; rfl
  cases b <;> (show (decide ((ns.map PyData.int).length ≤ 50000) && shpAll 5 (ns.map .int)) = true; rw [key, List.length_map, decide_eq_true h]; rfl)
noncomputable abbrev dPl (h l : List Int) (r : Int) : PyData := dRaw (plainF h l r).1 (plainF h l r).2.1 (plainF h l r).2.2
abbrev N_checked_table : List Str := ["head", "loop", "rise"]
theorem sc_checked_table : FnScope N_checked_table ["head", "loop", "rise"] (defScope s_checked_table) := ⟨rfl, rfl, rfl, by decide +kernel, rfl, by decide +kernel, by decide +kernel⟩
theorem ok_checked_table {P : Program} {w : World} {K : PySem.W.Frag} {mg : Str → Option Value} {base : Heap} (E : Env P K mg) : Fn P w K mg base CX0 9 "checked_table" (sp3 fun a b c H Q _ => ∃ b1 b2 h l r, Dp K H a (dSeqI b1 h) ∧ Dp K H b (dSeqI b2 l) ∧ Dp K H c (.int r) ∧ Val h l r ∧ RetD K (dPl h l r) H Q) := by
  obtain ⟨fd, F⟩ := E.dd_checked_table
  refine Fn.mk0 F E.g_checked_table sc_checked_table sp3_len (fun _ _ _ _ _ _ us hl => match us, hl with | [_, _, _], _ => rfl) (fun cdv A outer s H vs Q X hr h => ?_)
  have nd := sc_checked_table.nd
  obtain ⟨v0, v1, v2, rfl, h⟩ := h
  refine ⟨_, (pss_cut (ps_if (PW.pt (pw_or (pt_not (kTru K (pc (ok_is_counts E) hr (by decide) pass0 rfl (pa_cons (pv 0) pa_nil)) (by intro _; rfl))) (pw_or1 (pt_not (kTru K (pc (ok_is_rising E) hr (by decide) pass0 rfl (pa_cons (pv 0) pa_nil)) (by intro _; rfl))))))
   (pss_one (ps_never))
   pss_nil)
  (pss_cut (ps_if (PW.pt (pw_or (pt_not (kTru K (pc (ok_is_counts E) hr (by decide) pass0 rfl (pa_cons (pv 1) pa_nil)) (by intro _; rfl))) (pw_or1 (pt_not (kTru K (pc (ok_is_rising E) hr (by decide) pass0 rfl (pa_cons (pv 1) pa_nil)) (by intro _; rfl))))))
   (pss_one (ps_never))
   pss_nil)
  (pss_cut (ps_if (PW.pt (pw_and (pt_cmpR op_gt (pe_callB (kLen K) (by rfl) E.f_len (by decide +kernel) (pa_cons (pv 0) pa_nil)) (pe_int) (nomark _)) (pw_and (pt_cmpR op_gt (pe_callB (kLen K) (by rfl) E.f_len (by decide +kernel) (pa_cons (pv 1) pa_nil)) (pe_int) (nomark _)) (pw_and1 (pt_cmpR op_lt (pe_ix (kIx K) (pv 1) (pe_int) (fun _ _ => rfl)) (pe_ix (kIx K) (pv 0) (pe_un un_neg (pe_int)) (fun _ _ => rfl)) (nomark _))))))
   (pss_one (ps_never))
   pss_nil)
  (pss_cut (ps_if (PW.pt (pw_or (pt_not (kTru K (pc (ok_is_count E) hr (by decide) pass0 rfl (pa_cons (pv 2) pa_nil)) (by intro _; rfl))) (pw_or1 (PW.pt (pw_and (pt_cmpR (kEq K hr) (pe_callB (kLen K) (by rfl) E.f_len (by decide +kernel) (pa_cons (pv 1) pa_nil)) (pe_int) (nomark _)) (pw_and1 (pt_cmpR op_gt (pv 2) (pe_int) (nomark _))))))))
   (pss_one (ps_never))
   pss_nil)
  (pss_cut (ps_if (PW.pt (pw_and (pt_cmpR op_gt (pe_callB (kLen K) (by rfl) E.f_len (by decide +kernel) (pa_cons (pv 1) pa_nil)) (pe_int) (nomark _)) (pw_and1 (pt_cmpR op_gt (pe_ix (kIx K) (pv 1) (pe_un un_neg (pe_int)) (fun _ _ => rfl)) (pe_op (kAdd K) (pe_ix (kIx K) (pv 1) (pe_int) (fun _ _ => rfl)) (pv 2)) (nomark _)))))
   (pss_one (ps_never))
   pss_nil)
  (pss_one (ps_ret (pc (ok_plain_form E) hr (by decide) pass0 rfl (pa_cons (pc (ok_deep E) hr (by decide) pass0 rfl (pa_cons (pv 0) pa_nil)) (pa_cons (pc (ok_deep E) hr (by decide) pass0 rfl (pa_cons (pv 1) pa_nil)) (pa_cons (pv 2) pa_nil))))))))))), ?_⟩
  change (_ : TS) _ [some v0, some v1, some v2] H
  try dsimp only [cxOf, Cx.nox, Cx.blk]
  obtain ⟨b1, b2, h, l, r, d1, d2, d3, W, k⟩ := h
  obtain rfl := dp_toInt d3
  obtain ⟨z1, z2, z3, z4⟩ := W.sm
  have z5 := W.r0
  obtain ⟨a1, rfl, s1⟩ := dp_seqE d1
  obtain ⟨a2, rfl, s2⟩ := dp_seqE d2
  have hlast : h ≠ [] → l ≠ [] → gI h (-1 + h.length) ≤ gI l 0 := fun q1 q2 => by
    have := W.hl q1 q2
    rwa [show (h.length : Int) - 1 = -1 + h.length by omega] at this
  have llast : l ≠ [] → gI l (-1 + l.length) ≤ gI l 0 + r := fun q1 => by
    have := W.ll q1
    rwa [show (l.length : Int) - 1 = -1 + l.length by omega] at this
  have ne0 : ∀ {xs : List Int}, 0 < (xs.length : Int) → xs ≠ [] := fun q => List.length_pos_iff.mp (by omega)
  refine w_cut (M := fun σ' H' => σ' = [some (.ref a1), some (.ref a2), some (.int r)] ∧ Ex H H') ?_ ?_
  · walk_at "w"
    refine ⟨b1, h, d1, W.p1, z3, fun v H1 e1 q1 => ?_⟩
    obtain rfl := dp_toBl q1
    walk_at "w"
    refine ⟨b1, h, dp_ex e1 d1, W.r1, z3, fun v H2 e2 q1 => ?_⟩
    obtain rfl := dp_toBl q1
    walk_at "w"
    exact ⟨rfl, e1.trans e2⟩
  rintro σ' H0 ⟨rfl, e0⟩
  refine w_cut (M := fun σ' H' => σ' = [some (.ref a1), some (.ref a2), some (.int r)] ∧ Ex H H') ?_ ?_
  · walk_at "w"
    refine ⟨b2, l, dp_ex e0 d2, W.p2, z4, fun v H1 e1 q1 => ?_⟩
    obtain rfl := dp_toBl q1
    walk_at "w"
    refine ⟨b2, l, dp_ex (e0.trans e1) d2, W.r2, z4, fun v H2 e2 q1 => ?_⟩
    obtain rfl := dp_toBl q1
    walk_at "w"
    exact ⟨rfl, (e0.trans e1).trans e2⟩
  rintro σ' H1 ⟨rfl, e1⟩
  clear e0
  refine w_cut (M := fun σ' H' => σ' = [some (.ref a1), some (.ref a2), some (.int r)] ∧ Ex H H') ?_ ?_
  · walk_at "w"
    refine w_ite (fun q1 => ?_) (fun q1 => ?_)
    · walk_at "w"
      refine w_ite (fun q2 => ?_) (fun q2 => ?_)
      · have := hlast (ne0 q1) (ne0 q2)
        walk_at "w"
        exact ⟨rfl, e1⟩
      · walk_at "w"
        exact ⟨rfl, e1⟩
    · walk_at "w"
      exact ⟨rfl, e1⟩
  rintro σ' H2 ⟨rfl, e2⟩
  clear e1
  refine w_cut (M := fun σ' H' => σ' = [some (.ref a1), some (.ref a2), some (.int r)] ∧ Ex H H') ?_ ?_
  · walk_at "w"
    refine ⟨.int r, .int r, fun v H3 e3 q1 => ?_⟩
    rw [show dIsCount (.int r) = true from decide_eq_true z5] at q1
    obtain rfl := dp_toBl q1
    walk_at "w"
    refine w_ite (fun q1 => ?_) (fun q1 => ?_)
    · have := W.e0 (List.length_eq_zero_iff.mp (by omega))
      walk_at "w"
      exact ⟨rfl, e2.trans e3⟩
    · walk_at "w"
      exact ⟨rfl, e2.trans e3⟩
  rintro σ' H3 ⟨rfl, e3⟩
  clear e2
  refine w_cut (M := fun σ' H' => σ' = [some (.ref a1), some (.ref a2), some (.int r)] ∧ Ex H H') ?_ ?_
  · walk_at "w"
    refine w_ite (fun q1 => ?_) (fun q1 => ?_)
    · have := llast (ne0 q1)
      walk_at "w"
      exact ⟨rfl, e3⟩
    · walk_at "w"
      exact ⟨rfl, e3⟩
  rintro σ' H4 ⟨rfl, e4⟩
  clear e3
  walk_at "w"
  refine ⟨dSeqI b1 h, dp_ex e4 d1, shp_seq z3, fun v H5 e5 q5 => ?_⟩
  rw [deep_seq] at q5
  walk_at "w"
  refine ⟨dSeqI b2 l, dp_ex (e4.trans e5) d2, shp_seq z4, fun v2 H6 e6 q6 => ?_⟩
  rw [deep_seq] at q6
  walk_at "w"
  exact ⟨h, l, r, dp_ex e6 q5, q6, .int r, z5, W.sm, fun v H7 e7 q7 => k _ _ (by walk_at "ex") q7⟩

end
section
def tFlds (th tl : Addr) (r : Int) : List (Str × V) := putF "rise" (.int r) (putF "loop" (.ref tl) (putF "head" (.ref th) []))
theorem tn_hl : ¬ (("head" : Str) = "loop") := by decide +kernel
theorem tn_hr : ¬ (("head" : Str) = "rise") := by decide +kernel
theorem tn_lr : ¬ (("loop" : Str) = "rise") := by decide +kernel
theorem tFlds_head (th tl : Addr) (r : Int) : (tFlds th tl r).lookup ("head" : Str) = some (.ref th) := by
  unfold tFlds
  rw [lookup_putF, if_neg tn_hr, lookup_putF, if_neg tn_hl, lookup_putF, if_pos rfl]
theorem tFlds_loop (th tl : Addr) (r : Int) : (tFlds th tl r).lookup ("loop" : Str) = some (.ref tl) := by
  unfold tFlds
  rw [lookup_putF, if_neg tn_lr, lookup_putF, if_pos rfl]
theorem tFlds_rise (th tl : Addr) (r : Int) : (tFlds th tl r).lookup ("rise" : Str) = some (.int r) := by
  unfold tFlds
  rw [lookup_putF, if_pos rfl]
theorem putF_len (f : Str) (y : V) : ∀ fs : List (Str × V), (putF f y fs).length ≤ fs.length + 1
  | [] => Nat.le_refl _
  | (g, v) :: r => by
    show (if g = f then (g, y) :: r else (g, v) :: putF f y r).length ≤ _
    split
    · exact Nat.le_succ _
    · exact Nat.succ_le_succ (putF_len f y r)
/-- a table stands at x -/
def TabAt (K : PySem.W.Frag) (H : Hp) (x : Addr) (h l : List Int) (r : Int) : Prop := ∃ dx th tl, H x = some (.ins (He.ga K "Table") dx (tFlds th tl r)) ∧ SqT K H th (vI h) ∧ SqT K H tl (vI l)
theorem ex_tab {K : PySem.W.Frag} {H H' : Hp} {x : Addr} {h l : List Int} {r : Int} (e : Ex H H') (t : TabAt K H x h l r) : TabAt K H' x h l r := by
  obtain ⟨dx, th, tl, h1, h2, h3⟩ := t
  exact ⟨dx, th, tl, e _ _ h1, ex_t e h2, ex_t e h3⟩
section
variable {P : Program} {K : PySem.W.Frag} {mg : Str → Option Value} {H : Hp} {x : Addr} {h l : List Int} {r : Int} {Q : VK}
theorem r_tabHead (E : Env P K mg) (t : TabAt K H x h l r) (q : ∀ th, SqT K H th (vI h) → Q (.ref th) H) : GetF K "head" (.ref x) H Q := by
  obtain ⟨dx, th, tl, h1, h2, h3⟩ := t
  exact r_getF h1 E.c_Table E.na_Table_head (tFlds_head _ _ _) (q th h2)
theorem r_tabLoop (E : Env P K mg) (t : TabAt K H x h l r) (q : ∀ tl, SqT K H tl (vI l) → Q (.ref tl) H) : GetF K "loop" (.ref x) H Q := by
  obtain ⟨dx, th, tl, h1, h2, h3⟩ := t
  exact r_getF h1 E.c_Table E.na_Table_loop (tFlds_loop _ _ _) (q tl h3)
theorem r_tabRise (E : Env P K mg) (t : TabAt K H x h l r) (q : Q (.int r) H) : GetF K "rise" (.ref x) H Q := by
  obtain ⟨dx, th, tl, h1, h2, h3⟩ := t
  exact r_getF h1 E.c_Table E.na_Table_rise (tFlds_rise _ _ _) q
end
abbrev spInit (K : PySem.W.Frag) : Sp := sp4 fun x a b c H Q _ => ∃ p dx b1 b2 h l r, x = .ref p ∧ H p = some (.ins (He.ga K "Table") dx []) ∧ Dp K H a (dSeqI b1 h) ∧ Dp K H b (dSeqI b2 l) ∧ Dp K H c (.int r) ∧ Val h l r ∧ ∀ H', TabAt K H' p (plainF h l r).1 (plainF h l r).2.1 (plainF h l r).2.2 → (∀ a o, a ≠ p → H a = some o → H' a = some o) → Q .non H'
abbrev N_Table_init : List Str := ["self", "head", "loop", "rise", "told"]
theorem sc_Table_init : FnScope N_Table_init ["self", "head", "loop", "rise"] (defScope s_Table_init) := ⟨rfl, rfl, rfl, by decide +kernel, rfl, by decide +kernel, by decide +kernel⟩
theorem fx_Table_init {P : Program} {w : World} {K : PySem.W.Frag} {mg : Str → Option Value} {base : Heap} (E : Env P K mg) : ∃ fd, FunD K "__init__" "Table.__init__" (defArgs s_Table_init) (defBody s_Table_init) (defScope s_Table_init) (d_Table_init.dvs K) [] (d_Table_init.adr K) fd ∧ FnOk P w K mg base CX0 10 (d_Table_init.adr K) fd ["self", "head", "loop", "rise"] (spInit K) := by
  obtain ⟨fd, F⟩ := E.dd_Table_init
  refine ⟨fd, F, fnok0 F sc_Table_init sp4_len (fun cdv A outer s H vs Q X hr h => ?_)⟩
  have nd := sc_Table_init.nd
  obtain ⟨v0, v1, v2, v3, rfl, h⟩ := h
  refine ⟨_, (pss_cons (ps_set (i := 4) nd rfl (.inl rfl) (pc (ok_checked_table E) hr (by decide) pass0 rfl (pa_cons (pv 1) (pa_cons (pv 2) (pa_cons (pv 3) pa_nil)))))
  (pss_cons (kFldS K (ps_fld (pv 0) (pe_ix (kIx K) (pv 4) (pe_int) (fun _ _ => rfl)) rfl))
  (pss_cons (kFldS K (ps_fld (pv 0) (pe_ix (kIx K) (pv 4) (pe_int) (fun _ _ => rfl)) rfl))
  (pss_one (kFldS K (ps_fld (pv 0) (pe_ix (kIx K) (pv 4) (pe_int) (fun _ _ => rfl)) rfl)))))), ?_⟩
  change (_ : TS) _ [some v0, some v1, some v2, some v3, none] H
  try dsimp only [cxOf, Cx.nox, Cx.blk]
  obtain ⟨p, dx, b1, b2, h, l, r, rfl, hp, d1, d2, d3, W, k⟩ := h
  walk_at "w"
  refine ⟨b1, b2, h, l, r, d1, d2, d3, W, fun v H1 e1 q1 => ?_⟩
  obtain ⟨a, th, tl, rfl, s1, s2, s3⟩ := dp_raw q1
  have g1 : H1 p = some (.ins (He.ga K "Table") dx []) := e1 _ _ hp
  have nt : ∀ {a : Addr} {xs : List V} {H2 : Hp} {fs : List (Str × V)}, H2 p = some (.ins (He.ga K "Table") dx fs) → SqT K H2 a xs → ∀ o, SqT K (upd H2 p o) a xs := fun {a xs H2 fs} hp s o => by
    have key : ∀ u, H2 a = some u → (∃ o', u = .frz o' (.tup xs)) ∨ u = .tup xs → a ≠ p := by
      rintro u hu hc rfl
      rw [hp] at hu
      cases hu
      rcases hc with ⟨_, hc⟩ | hc <;> cases hc
    rcases s with (s | ⟨o', s⟩) | s
    · exact .inl (.inl (by rw [upd_ne (key _ s (.inr rfl))]; exact s))
    · exact .inl (.inr ⟨o', by rw [upd_ne (key _ s (.inl ⟨o', rfl⟩))]; exact s⟩)
    · exact .inr s
  have stp : ∀ {H2 : Hp} {fs : List (Str × V)} (o : HO), H2 p = some (.ins (He.ga K "Table") dx fs) → SqT K H2 a [.ref th, .ref tl, .int (plainF h l r).2.2] → SqT K H2 th (vI (plainF h l r).1) → SqT K H2 tl (vI (plainF h l r).2.1) →
      ∃ H3, upd H2 p o = H3 ∧ H3 p = some o ∧ SqT K H3 a [.ref th, .ref tl, .int (plainF h l r).2.2] ∧ SqT K H3 th (vI (plainF h l r).1) ∧ SqT K H3 tl (vI (plainF h l r).2.1) ∧ ∀ a u, a ≠ p → H2 a = some u → H3 a = some u :=
    fun {H2 fs} o hp t1 t2 t3 => ⟨_, rfl, upd_same, nt hp t1 o, nt hp t2 o, nt hp t3 o, fun a u ne e => by rw [upd_ne ne]; exact e⟩
  walk_at "w"
  refine r_putF g1 E.c_Table E.na_Table_head (by decide) ?_
  obtain ⟨H2, e2, g2, t1, t2, t3, k2⟩ := stp (.ins (He.ga K "Table") dx (putF "head" (.ref th) [])) g1 s1 s2 s3
  rw [e2]
  walk_at "w"
  refine r_putF g2 E.c_Table E.na_Table_loop (Nat.lt_of_le_of_lt (putF_len _ _ _) (by decide)) ?_
  obtain ⟨H3, e3, g3, t4, t5, t6, k3⟩ := stp (.ins (He.ga K "Table") dx (putF "loop" (.ref tl) (putF "head" (.ref th) []))) g2 t1 t2 t3
  rw [e3]
  walk_at "w"
  refine r_putF g3 E.c_Table E.na_Table_rise (Nat.lt_of_le_of_lt (Nat.le_trans (putF_len _ _ _) (Nat.succ_le_succ (putF_len _ _ _))) (by decide)) ?_
  obtain ⟨H4, e4, g4, t7, t8, t9, k4⟩ := stp (.ins (He.ga K "Table") dx (tFlds th tl (plainF h l r).2.2)) g3 t4 t5 t6
  refine k _ ⟨dx, th, tl, upd_same, ?_, ?_⟩ (fun a u ne e => ?_)
  · exact nt g3 t5 _
  · exact nt g3 t6 _
  · rw [upd_ne ne]
    exact k3 _ _ ne (k2 _ _ ne (e1 _ _ e))
/-- Table(..) made: from __init__'s promise to what a caller sees -/
theorem mk_tab {K : PySem.W.Frag} {H : Hp} {Q : VK} {a b c : V} {b1 b2 : Bool} {h l : List Int} {r : Int} {dvs ws : List V} (e : ws ++ dvs = [a, b, c]) (d1 : Dp K H a (dSeqI b1 h)) (d2 : Dp K H b (dSeqI b2 l)) (d3 : Dp K H c (.int r)) (W : Val h l r)
    (q : ∀ x H2, Ex H H2 → TabAt K H2 x (plainF h l r).1 (plainF h l r).2.1 (plainF h l r).2.2 → Q (.ref x) H2) :
    MakeI (He.ga K "Table") (spInit K) dvs E0 ws H Q := by
  intro x dx nx ndx ne
  rw [e]
  have ex : Ex H (upd (upd H dx (.own x)) x (.ins (He.ga K "Table") dx [])) := fun b o e => by
    rw [upd_ne (ne_of_none e nx), upd_ne (ne_of_none e ndx)]
    exact e
  refine ⟨_, _, _, _, rfl, x, dx, b1, b2, h, l, r, rfl, upd_same, dp_ex ex d1, dp_ex ex d2, dp_ex ex d3, W, fun H' t k => ⟨rfl, q x H' (fun b o e => ?_) t⟩⟩
  exact k b o (ne_of_none e nx) (ex b o e)
section
variable {P : Program} {w : World} {K : PySem.W.Frag} {mg : Str → Option Value} {base : Heap}
theorem ok_Table3 (E : Env P K mg) : Mkc P w K mg base CX0 10 "Table" (He.ga K "Table") (spInit K) [] := by
  obtain ⟨fd, F, k⟩ := fx_Table_init (P := P) (w := w) (base := base) E
  obtain ⟨ds, hd, hb⟩ := F.binds1 (ps := ["self", "head", "loop", "rise"]) 4 2 (List.cons_ne_nil _ _) rfl (fun T kV doc pm an cdv ct us its hu hi => match us, its, hu, hi with | [_, _, _, _], [_, _], _, _ => ⟨_, rfl, rfl⟩)
  exact ⟨_, fd, _, ds, E.mk_Table, k, E.g_Table, hb, hd⟩
end

end
section
section
variable {P : Program} {w : World} {K : PySem.W.Frag} {mg : Str → Option Value} {base : Heap}
theorem ok_Table2 (E : Env P K mg) : Mkc P w K mg base CX0 10 "Table" (He.ga K "Table") (spInit K) [.int 0] := by
  obtain ⟨fd, F, k⟩ := fx_Table_init (P := P) (w := w) (base := base) E
  obtain ⟨ds, hd, hb⟩ := F.binds1 (ps := ["self", "head", "loop", "rise"]) 3 1 (List.cons_ne_nil _ _) rfl (fun T kV doc pm an cdv ct us its hu hi => match us, its, hu, hi with | [_, _, _], [_, _], _, _ => ⟨_, rfl, rfl⟩)
  exact ⟨_, fd, _, ds, E.mk_Table, k, E.g_Table, hb, hd⟩
theorem ok_Table1 (E : Env P K mg) : Mkc P w K mg base CX0 10 "Table" (He.ga K "Table") (spInit K) [.ref (He.dflAt ("Table", some "__init__") 0 K), .int 0] := by
  obtain ⟨fd, F, k⟩ := fx_Table_init (P := P) (w := w) (base := base) E
  obtain ⟨ds, hd, hb⟩ := F.binds1 (ps := ["self", "head", "loop", "rise"]) 2 0 (List.cons_ne_nil _ _) rfl (fun T kV doc pm an cdv ct us its hu hi => match us, its, hu, hi with | [_, _], [_, _], _, _ => ⟨_, rfl, rfl⟩)
  exact ⟨_, fd, _, ds, E.mk_Table, k, E.g_Table, hb, hd⟩
end
local macro_rules | `(tactic| walk_at "hp") => `(tactic| first
  | with_reducible assumption
  | (with_reducible refine' ex_tab ?a ?b; (case a => with_reducible assumption); (case b => walk_at "hp")))
local macro_rules | `(tactic| walk_at "w2") => `(tactic| first
  | ((with_reducible refine' r_tabHead ?a ?b ?q); (case a => with_reducible assumption); (case b => walk_at "hp"))
  | ((with_reducible refine' r_tabLoop ?a ?b ?q); (case a => with_reducible assumption); (case b => walk_at "hp"))
  | ((with_reducible refine' r_tabRise ?a ?b ?q); (case a => with_reducible assumption); (case b => walk_at "hp")))
/-- gcd as the loop has it -/
def gcdI : Nat → Int → Int → Int
  | 0, a, _ => a
  | n + 1, a, b => if 0 < b then gcdI n b (a % b) else a
theorem tab_mine {K : PySem.W.Frag} {H : Hp} {x : Addr} {h l : List Int} {r : Int} (t : TabAt K H x h l r) : ∃ dx fs, H x = some (.ins (He.ga K "Table") dx fs) := by
  obtain ⟨dx, th, tl, h1, _⟩ := t
  exact ⟨dx, _, h1⟩
/-- the pair of rise and length in lowest terms -/
def rateOf (l : List Int) (r : Int) : PyData := if l = [] then .none else .tuple [.int (r / Int.gcd l.length r), .int ((l.length : Int) / Int.gcd l.length r)]
abbrev N_Table_eq : List Str := ["self", "other"]
theorem sc_Table_eq : FnScope N_Table_eq ["self", "other"] (defScope s_Table_eq) := ⟨rfl, rfl, rfl, by decide +kernel, rfl, by decide +kernel, by decide +kernel⟩
theorem fx_Table_eq {P : Program} {w : World} {K : PySem.W.Frag} {mg : Str → Option Value} {base : Heap} (E : Env P K mg) : ∃ fd, FunD K "__eq__" "Table.__eq__" (defArgs s_Table_eq) (defBody s_Table_eq) (defScope s_Table_eq) (d_Table_eq.dvs K) [] (d_Table_eq.adr K) fd ∧ FnOk P w K mg base CX0 1 (d_Table_eq.adr K) fd ["self", "other"] (sp2 fun x y H Q _ => ∃ p h l r, x = .ref p ∧ TabAt K H p h l r ∧ ((∃ q h' l' r', y = .ref q ∧ TabAt K H q h' l' r' ∧ RetD K (.bool (decide (h = h' ∧ l = l' ∧ r = r'))) H Q) ∨ (∃ n ∈ ["tuple", "list", "int", "NoneType", "str", "bool"], TyX K H y (.type n) ∧ RetD K (.bool false) H Q))) := by
  obtain ⟨fd, F⟩ := E.dd_Table_eq
  refine ⟨fd, F, fnok0 F sc_Table_eq sp2_len (fun cdv A outer s H vs Q X hr h => ?_)⟩
  have nd := sc_Table_eq.nd
  obtain ⟨v0, v1, rfl, h⟩ := h
  refine ⟨_, (pss_one (ps_ret (pe_and (pe_callB (kIsi K) (by rfl) E.f_isinstance (by decide +kernel) (pa_cons (pv 1) (pa_cons (pe_glob (v := .ref (He.ga K "Table")) (by rfl) E.g_Table rfl) pa_nil))) (pe_and (pe_cmpR (kEq K hr) (kFld K (pv 0) rfl) (kFld K (pv 1) rfl) (nomark _)) (pe_and (pe_cmpR (kEq K hr) (kFld K (pv 0) rfl) (kFld K (pv 1) rfl) (nomark _)) (pe_one (pe_cmpR (kEq K hr) (kFld K (pv 0) rfl) (kFld K (pv 1) rfl) (nomark _)))))))), ?_⟩
  change (_ : TS) _ [some v0, some v1] H
  try dsimp only [cxOf, Cx.nox, Cx.blk]
  obtain ⟨p, h, l, r, rfl, ht, h2⟩ := h
  rcases h2 with ⟨q, h', l', r', rfl, hu, k⟩ | ⟨n, hn, ty, k⟩
  · walk_at "w"
    refine r_isiC (insB_ok E.ins_Table E.c_Table (tab_mine hu).choose_spec.choose_spec) E.kit_Table_self ?_
    walk_at "w"
    intro th s1
    walk_at "w"
    intro th' s2
    walk_at "w"
    by_cases c1 : h = h'
    · walk_at "w"
      intro tl s3
      walk_at "w"
      intro tl' s4
      walk_at "w"
      by_cases c2 : l = l'
      · walk_at "w"
        rw [show decide (h = h' ∧ l = l' ∧ r = r') = decide (r = r') by simp [c1, c2]] at k
        exact k.bl (Ex.refl _)
      · walk_at "w"
        rw [show decide (h = h' ∧ l = l' ∧ r = r') = false by simp [c2]] at k
        exact k.bl (Ex.refl _)
    · walk_at "w"
      rw [show decide (h = h' ∧ l = l' ∧ r = r') = false by simp [c1]] at k
      exact k.bl (Ex.refl _)
  · walk_at "w"
    refine r_isiC (b := false) ty ?_ ?_
    · simp at hn
      rcases hn with rfl | rfl | rfl | rfl | rfl | rfl
      · exact E.kit_Table_tuple
      · exact E.kit_Table_list
      · exact E.kit_Table_int
      · exact E.kit_Table_NoneType
      · exact E.kit_Table_str
      · exact E.kit_Table_bool
    walk_at "w"
    exact k.bl (Ex.refl _)
theorem ok_Table_eq {P : Program} {w : World} {K : PySem.W.Frag} {mg : Str → Option Value} {base : Heap} (E : Env P K mg) : EqOf P w K mg base 1 (He.ga K "Table") (sp2 fun x y H Q _ => ∃ p h l r, x = .ref p ∧ TabAt K H p h l r ∧ ((∃ q h' l' r', y = .ref q ∧ TabAt K H q h' l' r' ∧ RetD K (.bool (decide (h = h' ∧ l = l' ∧ r = r'))) H Q) ∨ (∃ n ∈ ["tuple", "list", "int", "NoneType", "str", "bool"], TyX K H y (.type n) ∧ RetD K (.bool false) H Q))) := by
  obtain ⟨fd, F, k⟩ := fx_Table_eq (P := P) (w := w) (base := base) E
  exact ⟨_, fd, _, E.m_Table_eq.at_, E.m_Table_eq.fn, k, F.bindsN (fun _ _ _ _ _ _ us hl => match us, hl with | [_, _], _ => rfl)⟩

end
section
theorem ifBoundB_K {K : PySem.W.Frag} {M : Model} {A : Around} {E : Value → Shared → Prop} {s : Shared} {x C : Addr} {ox : Obj} {od : Option Obj} {name : Str} {id : String} {args : List Value} {Q : Option Value → Shared → Prop}
    (X : K.In s.heap) (I : PySem.W.InstAt s.heap x ox C od) (hs : PySem.W.findIn K (.ref C) name = some (some (.builtin id))) (S : Slot "object" name id)
    (h : wpAny M A (call (.builtin id) (.ref x :: args)) (fun v => Q (some v)) E s) : wpAny M A (callSpecialIfBound? (.ref x) name args) Q E s := by
  simp only [callSpecialIfBound?, bindSpecialIfBound?]
  refine wpAny_holding (wpAny_bind (wpAny_bind (wpAny_bind (I.type.here ((PySem.W.looks_findIn X hs).here ?_)))))
  simp only [S.bind]
  refine wpAny_bind (wpAny_askSetting (wpAny_ite ?_))
  have fin : wpAny M A (call (.builtin id) ([.ref x] ++ args) >>= fun v => pure (some v)) Q E s := wpAny_bind (wpAny_mono h (fun v s' h' => wpAny_pure h') fun _ _ h' => h')
  split
  · exact wpAny_bind (wpAny_pure (wpAny_pure fin))
  · exact wpAny_tryCatch (wpAny_bind (wpAny_pure (wpAny_pure fin)))
theorem check_ne_K {K : PySem.W.Frag} {M : Model} {A : Around} {E : Value → Shared → Prop} {s : Shared} {x C : Addr} {ox : Obj} {od : Option Obj} {u : Value} {Q : Unit → Shared → Prop}
    (X : K.In s.heap) (I : PySem.W.InstAt s.heap x ox C od) (hm : PySem.W.mroIn K C (.type "object") = some true) (hq : Q () s) : wpAny M A (checkBuiltinCall "object.__ne__" ⟨[.ref x, u], []⟩) Q E s := by
  have L0 := I.type (M := M)
  have L1 := PySem.W.looks_mroIn (M := M) X hm
  simp only [checkBuiltinCall, F.cmpKind_ne, F.cmpSplit_ne]
  refine wpAny_bind ?_
  · unfold isInstance
    refine wpAny_bind (L0.here (L1.here ?_))
    simp only [Bool.not_true, Bool.false_eq_true, if_false]
    have ha := F.cmpArgs_ne (.ref x) u
    cases hsig : Manifest.signature? "object.__ne__" with
    | none => exact wpAny_pure hq
    | some sig =>
      simp only [argsOk, hsig] at ha
      have h2 : Bind.checkArgs "object.__ne__" sig ⟨[.ref x, u], []⟩ = pure () := ha
      show wpAny M A (Bind.checkArgs "object.__ne__" sig ⟨[.ref x, u], []⟩) Q E _
      rw [h2]; exact wpAny_pure hq
theorem objNe_K {K : PySem.W.Frag} {prog : Program} {w : World} {A : Around} {E : Value → Shared → Prop} {s : Shared} {x C f : Addr} {ox : Obj} {od : Option Obj} {u : Value} {Q : Fin → Shared → Prop}
    (X : K.In s.heap) (I : PySem.W.InstAt s.heap x ox C od) (hs : PySem.W.findIn K (.ref C) "__eq__" = some (some (.ref f))) (hf : PySem.W.isFn K (.ref f) = true) (hu : A.units < cLine)
    (hcall : wpAny (model prog w) A (call (.ref f) [.ref x, u]) (fun v s' => ∃ b, v = .bool b ∧ Q (.done (.ret (.bool (!b)))) s') E s) :
    wpAny (model prog w) A (Builtin.«object.__ne__» ⟨[.ref x, u], []⟩) Q E s := by
  unfold Builtin.«object.__ne__»
  repeat (first
    | with_reducible refine wpAny_cRoomFor hu ?_
    | (refine wpAny_bind (m := callSpecialIfBound? (.ref x) (Str.ofString "__eq__") [u])
        (PySem.W.ifBound_K X I hs hf (wpAny_mono hcall (fun r s' hr => by
          obtain ⟨b, rfl, hq⟩ := hr
          repeat (first | exact hq | exact wpAny_pure hq | exact wpAny_truthy_bool hq | (refine wpAny_bind (m := truthy (.bool _)) (wpAny_truthy_bool ?_)) | wp_step)) fun _ _ e => e)))
    | wp_step)
theorem rich_ne_K {K : PySem.W.Frag} {prog : Program} {w : World} {A : Around} {E : Value → Shared → Prop} {s : Shared} {x C f : Addr} {ox : Obj} {od : Option Obj} {b tb : Value} {Q : Value → Shared → Prop}
    (X : K.In s.heap) (I : PySem.W.InstAt s.heap x ox C od) (hb : PySem.W.Looks (model prog w) s.heap (typeOf b) tb) (hn : PySem.W.notFirst K C tb = true)
    (hs : PySem.W.findIn K (.ref C) "__eq__" = some (some (.ref f))) (hf : PySem.W.isFn K (.ref f) = true) (hne : PySem.W.findIn K (.ref C) "__ne__" = some (some (.builtin "object.__ne__"))) (hm : PySem.W.mroIn K C (.type "object") = some true)
    (hu : A.units + 1 < cLine)
    (hcall : wpAny (model prog w) A.in1 (call (.ref f) [.ref x, b]) (fun v s' => ∃ b, v = .bool b ∧ Q (.bool (!b)) s') E s) :
    wpAny (model prog w) A (richCompare .NotEq (.ref x) b) Q E s := by
  have one : wpAny (model prog w) A (tryCompare (.ref x) "__ne__" b) (fun r s' => ∃ v, r = some v ∧ Q v s') E s := by
    simp only [tryCompare]
    refine wpAny_bind (ifBoundB_K X I hne F.cmp_object.ne (wpAny_call (codeAny_call_builtin F.cmp_object.ne.plain F.cmpEntry_ne
      (check_ne_K X I hm (objNe_K (A := A.in1) X I hs hf hu (wpAny_mono hcall (fun v s' hv => ?_) fun _ _ e => e))))))
    obtain ⟨b, rfl, hq⟩ := hv
    first | exact ⟨b, rfl, wpAny_pure ⟨_, rfl, hq⟩⟩ | exact ⟨b, rfl, wpAny_pure (wpAny_pure ⟨_, rfl, hq⟩)⟩
  unfold richCompare
  simp only [oneThing_ref]
  refine wpAny_holding (wpAny_bind (wpAny_cRoomFor (Nat.lt_of_succ_lt hu) ?_))
  rw [cmpInfo_NotEq]
  dsimp only
  refine wpAny_bind (I.type.here (wpAny_bind (hb.here ?_)))
  split
  · rename_i q
    have e : PySem.W.subIn K tb (.ref C) = some false := by
      rcases Bool.or_eq_true_iff.mp hn with e | e
      · rw [beq_iff_eq.mp e] at q; simp at q
      · exact beq_iff_eq.mp e
    refine wpAny_bind ((PySem.W.looks_subIn X e).here ?_)
    simp only [Bool.false_eq_true, if_false]
    refine wpAny_bind (wpAny_mono one (fun r s' z => ?_) fun _ _ e => e)
    obtain ⟨v, rfl, hq⟩ := z
    exact wpAny_pure hq
  · refine wpAny_bind (wpAny_pure ?_)
    simp only [Bool.false_eq_true, if_false]
    refine wpAny_bind (wpAny_mono one (fun r s' z => ?_) fun _ _ e => e)
    obtain ⟨v, rfl, hq⟩ := z
    exact wpAny_pure hq
section
variable {X : Cx} {n : Nat} {C : Addr} {sp : Sp}
theorem run_fnA {CX : CXT} {k : Nat} {f : Addr} {fd : FuncData} {ps : List Str} {sp : Sp} {dvs : List V} {ds : List Value} {E : XK} {pins : List (Addr × Obj)} {σ : L2.St} {H : Hp} {s : Shared} {Q : VK} {us : List Value} {vs : List V} (F : FnOk X.prog X.w X.K X.mg X.base CX k f fd ps sp) (hr : Room k X.A.in1) (hb : L2.Binds X.K fd ps ds) (hd : L2.Vals dvs ds) (hx : L2.Passes CX X E)
    (I : L2.Inv X pins σ H s) (r : L2.Vals vs us) (h : sp (vs ++ dvs) H Q E) : wpAny (model X.prog X.w) X.A.in1 (call (.ref f) us) (EP X pins σ Q) X.xe s := by
  have r2 : L2.Vals (vs ++ dvs) (us ++ ds) := r.append hd
  have hl : (us ++ ds).length = ps.length := by rw [← r2.length]; exact F.len _ _ _ _ h
  refine wpAny_call (codeAny_mono (F.run X.A.in1 X.stack s H ⟨us, []⟩ (us ++ ds) (vs ++ dvs) Q E hr I.env0.in1 (hb s us I.kIn hl) r2 h) fun r s' hq => ?_)
  cases r with
  | error e => exact hx pins σ H s e s' I hq
  | ok fl =>
    cases fl with
    | ret u => exact I.after hq
    | next => exact False.elim hq
    | brk => exact False.elim hq
    | cont => exact False.elim hq
/-- != over an own == -/
def rOwnNe (K : PySem.W.Frag) (C : Addr) (sp : Sp) : R2 := fun x y H Q => ∃ a dx fs t, x = .ref a ∧ H a = some (.ins C dx fs) ∧ TyX K H y t ∧ PySem.W.notFirst K C t = true ∧ PySem.W.findIn K (.ref C) "__ne__" = some (some (.builtin "object.__ne__")) ∧ PySem.W.mroIn K C (.type "object") = some true ∧ sp [x, y] H (fun v H' => ∃ b, v = .bl b ∧ Q (.bl (!b)) H') E0
theorem op_ownNe {j : Nat} (c : EqOf X.prog X.w X.K X.mg X.base n C sp) (hr : Room j X.A) (hn : n + 1 ≤ j) : OpR X (compareOp .NotEq) (rOwnNe X.K C sp) := by
  obtain ⟨g, fd, ps, hs, hf, F, hb⟩ := c.ex
  intro pins s σ H x y v u Q I rx ry h
  obtain ⟨a, dx, fs, t, rfl, ha, ty, hnf, hne, hm, q⟩ := h
  cases (show v = Value.ref a from rx)
  obtain ⟨mA, O, _⟩ := ins_get I.hok ha
  obtain ⟨od, J, _⟩ := O.look
  obtain ⟨Pk, kit, hk, _⟩ := kit_of I ry ty
  show wpAny _ _ (richCompare .NotEq (.ref a) u) _ _ _
  refine rich_ne_K (tb := t) I.kIn J (kit.ty _ _ I.kIn hk) hnf hs hf hne hm (by have := (hr.mono hn).un; omega) ?_
  refine wpAny_mono (run_fnA (us := [.ref a, u]) (vs := [.ref a, y]) (dvs := []) (ds := []) F (hr.mono hn).in1 hb .nil pass0 I (.cons rfl (.cons ry .nil)) q) (fun z s' hz => ?_) fun _ _ x => x
  obtain ⟨zv, H', I', rz, b, hzv, qz⟩ := hz
  subst hzv
  cases (show z = Value.bool b from rz)
  exact ⟨b, rfl, .bl (!b), H', I', rfl, qz⟩
def rNeO (K : PySem.W.Frag) (C : Addr) (sp : Sp) : R2 := fun x y H Q => rNeU K x y H Q ∨ rOwnNe K C sp x y H Q
end
theorem kNeO (K : PySem.W.Frag) {X : Cx} {n : Nat} {C : Addr} {sp : Sp} {j : Nat} (c : EqOf X.prog X.w X.K X.mg X.base n C sp) (hr : Room j X.A) (hn : n + 1 ≤ j) (h : X.K = K := by rfl) : OpR X (compareOp .NotEq) (rNeO K C sp) := by subst h; exact (xNe hr).or (op_ownNe c hr hn)
section
variable {K : PySem.W.Frag} {C : Addr} {sp : Sp} {H : Hp} {Q : VK} {x y : V}
theorem w_neO (h : rNeU K x y H Q) : rNeO K C sp x y H Q := .inl h
theorem r_ownNe {F} {a dx : Addr} {fs : List (Str × V)} {t : Value} (ha : H a = some (.ins C dx fs)) (ty : TyX K H y t) (hn : PySem.W.notFirst K C t = true) (hne : PySem.W.findIn K (.ref C) "__ne__" = some (some (.builtin "object.__ne__"))) (hm : PySem.W.mroIn K C (.type "object") = some true) (q : F (.ref a) y H (fun v H' => ∃ b, v = .bl b ∧ Q (.bl (!b)) H') E0) : rNeO K C (sp2 F) (.ref a) y H Q :=
  .inr ⟨a, dx, fs, t, rfl, ha, ty, hn, hne, hm, _, _, rfl, q⟩
end

end
section
abbrev N__law_pick : List Str := ["source", "many", "digit", "value"]
theorem sc__law_pick : FnScope N__law_pick ["source", "many"] (defScope s__law_pick) := ⟨rfl, rfl, rfl, by decide +kernel, rfl, by decide +kernel, by decide +kernel⟩
theorem ok__law_pick {P : Program} {w : World} {K : PySem.W.Frag} {mg : Str → Option Value} {base : Heap} (E : Env P K mg) : Fn P w K mg base CX0 1 "_law_pick" (sp2 fun s m H Q _ => ∃ (a : Addr) (n : Int), s = .ref a ∧ m = .int n ∧ 0 < n ∧ n < 4611686018427387904 ∧ SrcAt H a ∧ ∀ (r : Int) H', 0 ≤ r → r < n → SrcAt H' a → Fr a H H' → Q (.int r) H') := by
  obtain ⟨fd, F⟩ := E.dd__law_pick
  refine Fn.mk0 F E.g__law_pick sc__law_pick sp2_len (fun _ _ _ _ _ _ us hl => match us, hl with | [_, _], _ => rfl) (fun cdv A outer s H vs Q X hr h => ?_)
  have nd := sc__law_pick.nd
  obtain ⟨v0, v1, rfl, h⟩ := h
  refine ⟨_, (pss_cons (ps_if (pt_cmpR op_gt (pe_ix (kIx K) (pv 0) (pe_int) (fun _ _ => rfl)) (pe_int) (nomark _))
   (pss_cons (ps_set (i := 2) nd rfl (.inl rfl) (pe_op xMod (pe_callTy xInt (by rfl) E.f_int (by decide +kernel) (pa_cons (pe_ix (kIx K) (pv 0) (pe_int) (fun _ _ => rfl)) pa_nil)) (pv 1)))
  (pss_cons (ps_asg (pe_op xDiv (pe_ix (kIx K) (pv 0) (pe_int) (fun _ _ => rfl)) (pv 1)) (pg_sub (pv 0) (pe_int) set_list))
  (pss_one (ps_ret (pv 2)))))
   pss_nil)
  (pss_cons (ps_asg (pe_op (kAdd K) (pe_ix (kIx K) (pv 0) (pe_int) (fun _ _ => rfl)) (pe_int)) (pg_sub (pv 0) (pe_int) set_list))
  (pss_cons (ps_set (i := 3) nd rfl (.inl rfl) (pe_op xMod (pe_callTy xInt (by rfl) E.f_int (by decide +kernel) (pa_cons (pe_op (kMul K) (pe_op (kAdd K) (pe_ix (kIx K) (pv 0) (pe_int) (fun _ _ => rfl)) (pe_op (kMul K) (pe_int) (pe_ix (kIx K) (pv 0) (pe_int) (fun _ _ => rfl)))) (pe_int)) pa_nil)) (pe_int)))
  (pss_cons (ps_set (i := 3) nd rfl (.inl rfl) (pe_op xMod (pe_callTy xInt (by rfl) E.f_int (by decide +kernel) (pa_cons (pe_op (kAdd K) (pe_op (kAdd K) (pe_op (kMul K) (pv 3) (pv 3)) (pe_op (kMul K) (pe_int) (pe_ix (kIx K) (pv 0) (pe_int) (fun _ _ => rfl)))) (pe_ix (kIx K) (pv 0) (pe_int) (fun _ _ => rfl))) pa_nil)) (pe_int)))
  (pss_cons (ps_set (i := 3) nd rfl (.inl rfl) (pe_op xMod (pe_callTy xInt (by rfl) E.f_int (by decide +kernel) (pa_cons (pe_op (kAdd K) (pe_op (kMul K) (pv 3) (pe_int)) (pe_int)) pa_nil)) (pe_int)))
  (pss_cons (ps_set (i := 3) nd rfl (.inl rfl) (pe_op xMod (pe_callTy xInt (by rfl) E.f_int (by decide +kernel) (pa_cons (pe_op (kAdd K) (pe_op (kMul K) (pv 3) (pv 3)) (pv 3)) pa_nil)) (pe_int)))
  (pss_one (ps_ret (pe_op xMod (pe_callTy xInt (by rfl) E.f_int (by decide +kernel) (pa_cons (pe_op xDiv (pv 3) (pe_int)) pa_nil)) (pv 1)))))))))), ?_⟩
  change (_ : TS) _ [some v0, some v1, none, none] H
  try dsimp only [cxOf, Cx.nox, Cx.blk]
  obtain ⟨a, n, rfl, rfl, hn, hn2, hs, k⟩ := h
  obtain ⟨d, sd, c, h1, h2, h3, h4, h5⟩ := hs
  have s1 : SqL K H a [.int d, .int sd, .int c] := sq_of h1
  walk_at "w"
  by_cases c0 : 0 < d
  · walk_at "w"
    have hd0 : 0 ≤ d / n := Int.ediv_nonneg h2 (by omega)
    refine r_set (j := 0) h1 rfl ?_
    walk_at "w"
    exact k _ _ (Int.emod_nonneg _ (by omega)) (Int.emod_lt_of_pos _ hn) ⟨d / n, sd, c, upd_same, hd0, h3, h4, h5⟩ Fr.upd
  · walk_at "w"
    refine r_set (j := 2) h1 rfl ?_
    obtain ⟨H1, e1, g1, f1⟩ : ∃ H1, upd H a (.lst ([V.int d, .int sd, .int c].set 2 (.int (c + 1)))) = H1 ∧ H1 a = some (.lst [.int d, .int sd, .int (c + 1)]) ∧ Fr a H H1 := ⟨_, rfl, upd_same, Fr.upd⟩
    rw [e1]
    have s2 : SqL K H1 a [.int d, .int sd, .int (c + 1)] := sq_of g1
    walk_at "w"
    generalize hx1 : (sd + 104729 * (c + 1)) * 48271 % 2147483647 = x1
    have b1 : 0 ≤ x1 ∧ x1 < 2147483647 := by subst hx1; exact ⟨Int.emod_nonneg _ (by decide), Int.emod_lt_of_pos _ (by decide)⟩
    walk_at "w"
    generalize hx2 : (x1 * x1 + 7 * (c + 1) + sd) % 2147483629 = x2
    have b2 : 0 ≤ x2 ∧ x2 < 2147483629 := by subst hx2; exact ⟨Int.emod_nonneg _ (by decide), Int.emod_lt_of_pos _ (by decide)⟩
    walk_at "w"
    generalize hx3 : (x2 * 69621 + 5) % 2147483647 = x3
    have b3 : 0 ≤ x3 ∧ x3 < 2147483647 := by subst hx3; exact ⟨Int.emod_nonneg _ (by decide), Int.emod_lt_of_pos _ (by decide)⟩
    walk_at "w"
    exact k _ _ (Int.emod_nonneg _ (by omega)) (Int.emod_lt_of_pos _ hn) ⟨d, sd, c + 1, g1, h2, h3, h4, by omega⟩ f1

end
section
theorem bits_abs {z : Int} (h : Builtin.Int.intBits z ≤ 1048576) : ∃ n : Nat, n ≤ 1048577 ∧ z.natAbs < 2 ^ n := by
  refine ⟨z.natAbs.log2 + 1, ?_, Nat.lt_log2_self⟩
  unfold Builtin.Int.intBits at h
  split at h
  · rename_i h0
    have : z = 0 := by simpa using h0
    subst this
    decide
  · omega
theorem shl_of {z : Int} {j : Nat} (hj : j ≤ 100000) (hz : 0 ≤ z) (h : ∃ n : Nat, n ≤ 1048577 ∧ z.natAbs < 2 ^ n) (m : Nat) : CShl (z / 2 ^ m) (j : Int) := by
  obtain ⟨n, hn, hb⟩ := h
  refine shl_ok (n := n) (Nat.lt_of_le_of_lt ?_ hb) (by omega)
  have h1 : z / 2 ^ m ≤ z := Int.ediv_le_self _ hz
  have h2 : 0 ≤ z / 2 ^ m := Int.ediv_nonneg hz (Int.le_of_lt (Int.pow_pos (by decide)))
  omega
abbrev N__law_source : List Str := ["script", "place", "cell", "seed", "one", "number"]
theorem sc__law_source : FnScope N__law_source ["script", "place"] (defScope s__law_source) := ⟨rfl, rfl, rfl, by decide +kernel, rfl, by decide +kernel, by decide +kernel⟩
theorem ok__law_source {P : Program} {w : World} {K : PySem.W.Frag} {mg : Str → Option Value} {base : Heap} (E : Env P K mg) : Fn P w K mg base CX0 1 "_law_source" (sp2 fun s p H Q _ => ∃ (a : Addr) (ns : List Int) (i : Int), s = .ref a ∧ p = .int i ∧ SqL K H a (vI ns) ∧ (∀ z ∈ ns, Builtin.Int.intBits z ≤ 1048576) ∧ ns.length ≤ 63 ∧ 0 ≤ i ∧ i ≤ 100 ∧ ∀ x H', H x = none → Ex H H' → SrcAt H' x → Q (.ref x) H') := by
  obtain ⟨fd, F⟩ := E.dd__law_source
  refine Fn.mk0 F E.g__law_source sc__law_source sp2_len (fun _ _ _ _ _ _ us hl => match us, hl with | [_, _], _ => rfl) (fun cdv A outer s H vs Q X hr h => ?_)
  have nd := sc__law_source.nd
  obtain ⟨v0, v1, rfl, h⟩ := h
  refine ⟨_, (pss_cut (ps_set (i := 2) nd rfl (.inl rfl) (pe_ifExp (pt_cmpR op_lt (pv 1) (pe_callB (kLen K) (by rfl) E.f_len (by decide +kernel) (pa_cons (pv 0) pa_nil)) (nomark _)) (pe_ix (kIx K) (pv 0) (pv 1) (fun _ _ => rfl)) (pe_op (kAdd K) (pe_op (kMul K) (pe_int) (pv 1)) (pe_int))))
  (pss_cons (ps_set (i := 3) nd rfl (.inl rfl) (pe_op xMod (pe_callTy xInt (by rfl) E.f_int (by decide +kernel) (pa_cons (pe_op (kAdd K) (pe_op xMod (pe_callTy xInt (by rfl) E.f_int (by decide +kernel) (pa_cons (pv 2) pa_nil)) (pe_int)) (pe_op (kMul K) (pe_int) (pv 1))) pa_nil)) (pe_int)))
  (pss_cons (ps_for PassesOwn.never rfl (kSeq K (pe_slice (kSl K) (pv 0) po_none (po_some (pe_int)))) (pg_name (i := 4) nd rfl (.inl rfl))
   (pss_one (ps_set (i := 3) nd rfl (.inl rfl) (pe_op xMod (pe_callTy xInt (by rfl) E.f_int (by decide +kernel) (pa_cons (pe_op (kAdd K) (pe_op (kMul K) (pv 3) (pe_int)) (pe_op xMod (pe_callTy xInt (by rfl) E.f_int (by decide +kernel) (pa_cons (pv 4) pa_nil)) (pe_int))) pa_nil)) (pe_int)))))
  (pss_cons (ps_set (i := 5) nd rfl (.inl rfl) (pe_callB xAbs (by rfl) E.f_abs (by decide +kernel) (pa_cons (pv 2) pa_nil)))
  (pss_cons (ps_if (pt_cmpR op_lt (pv 5) (pe_op xPow (pe_int) (pe_int)) (nomark _))
   (pss_one (ps_ret (pe_lst (pa_cons (pe_int) (pa_cons (pv 3) (pa_cons (pe_int) pa_nil))))))
   pss_nil)
  (pss_cons (ps_if (pt_cmpR op_gt (pe_op xShr (pv 5) (pe_int)) (pe_int) (nomark _))
   (pss_one (ps_set (i := 5) nd rfl (.inl rfl) (pe_op xSub (pv 5) (pe_op xShl (pe_op xShr (pv 5) (pe_int)) (pe_int)))))
   pss_nil)
  (pss_one (ps_ret (pe_lst (pa_cons (pv 5) (pa_cons (pv 3) (pa_cons (pe_int) pa_nil)))))))))))), ?_⟩
  change (_ : TS) _ [some v0, some v1, none, none, none, none] H
  try dsimp only [cxOf, Cx.nox, Cx.blk]
  obtain ⟨a, ns, i, rfl, rfl, s0, hb, hz, hi, hi2, k⟩ := h
  have fin : ∀ (cell seed : Int) (H1 : Hp) (v : Option V), Ex H H1 → (∃ n : Nat, n ≤ 1048577 ∧ cell.natAbs < 2 ^ n) → 0 ≤ seed → seed < 2147483629 →
      tSeq (tAsg (tCB rAbsU (tCons (tVar 2) tNil)) (gName 5)) (tSeq (tIfS (tTest (tOp (rI0 fun i j => .bl (decide (i < j))) (tVar 5) (tOp rPow (tC (.int 10)) (tC (.int 18))))) (tRet (tLst (tCons (tC (.int 0)) (tCons (tVar 3) (tCons (tC (.int 0)) tNil))))) tNext)
        (tSeq (tIfS (tTest (tOp (rI0 fun i j => .bl (decide (j < i))) (tOp rShr (tVar 5) (tC (.int 4000))) (tC (.int 0)))) (tAsg (tOp rSubI (tVar 5) (tOp rShl (tOp rShr (tVar 5) (tC (.int 4000))) (tC (.int 4000)))) (gName 5)) tNext)
          (tRet (tLst (tCons (tVar 5) (tCons (tVar 3) (tCons (tC (.int 0)) tNil))))))) { nx := fun _ H' => Q .non H', rt := Q } [some (.ref a), some (.int i), some (.int cell), some (.int seed), v, none] H1 := by
    intro cell seed H1 v e1 hc h0 h1
    have ret : ∀ (d : Int), 0 ≤ d → NewL [.int d, .int seed, .int 0] H1 Q := fun d hd => w_newL (by walk_at "sz") fun p H2 n2 e2 h2 => k p H2 (fresh_back e1 n2) (e1.trans e2) ⟨d, seed, 0, h2, hd, h0, h1, Int.le_refl 0⟩
    repeat walk_at "w1"
    refine r_abs ?_
    repeat walk_at "w1"
    refine r_pow ⟨by decide, by decide, by decide⟩ ?_
    refine r_lt ?_
    repeat walk_at "w1"
    have hn0 : (0 : Int) ≤ (cell.natAbs : Int) := Int.natCast_nonneg _
    have hb : ∃ n : Nat, n ≤ 1048577 ∧ (cell.natAbs : Int).natAbs < 2 ^ n := hc
    generalize (10 : Int) ^ (18 : Int).toNat = B1
    generalize (cell.natAbs : Int) = num at *
    refine w_ite (fun _ => ?_) (fun _ => ?_)
    · repeat walk_at "w1"
      exact ret 0 (Int.le_refl 0)
    · repeat walk_at "w1"
      refine r_shr (by decide) ?_
      repeat walk_at "w1"
      refine r_gt ?_
      repeat walk_at "w1"
      refine w_ite (fun _ => ?_) (fun _ => ?_)
      · repeat walk_at "w1"
        refine r_shr (by decide) ?_
        repeat walk_at "w1"
        refine r_shl (shl_of (j := 4000) (by decide) hn0 hb _) ?_
        refine r_subI ?_
        repeat walk_at "w1"
        refine ret _ ?_
        have h4 : (4000 : Int).toNat = ((4000 : Nat) : Int).toNat := rfl
        generalize (4000 : Int).toNat = m at *
        rw [← h4]
        have h5 : num / 2 ^ m * 2 ^ m ≤ num := Int.ediv_mul_le num (Int.ne_of_gt (Int.pow_pos (by decide)))
        exact Int.sub_nonneg_of_le h5
      · repeat walk_at "w1"
        exact ret _ hn0
  refine w_cut (M := fun σ' H' => ∃ cell : Int, σ' = [some (.ref a), some (.int i), some (.int cell), none, none, none] ∧ H' = H ∧ ∃ n : Nat, n ≤ 1048577 ∧ cell.natAbs < 2 ^ n) ?_ ?_
  · walk_at "w"
    by_cases c : i < ns.length
    · walk_at "w"
      have hm : gI ns i ∈ ns := by
        unfold gI
        rw [List.getD_eq_getElem?_getD, List.getElem?_eq_getElem (show i.toNat < ns.length by omega)]
        exact List.getElem_mem _
      exact ⟨_, rfl, rfl, bits_abs (hb _ hm)⟩
    · walk_at "w"
      exact ⟨_, rfl, rfl, 10, by omega, by omega⟩
  rintro σ' H' ⟨cell, rfl, rfl, hc⟩
  walk_at "w"
  refine i_seqL ?_
  walk_at "w"
  intro p H1 n1 e1 h1
  walk_at "w"
  refine for_list (xs := vI (ns.take 2)) (Pv := fun _ σ' H2 => ∃ (sd : Int) (v : Option V), σ' = [some (.ref a), some (.int i), some (.int cell), some (.int sd), v, none] ∧ 0 ≤ sd ∧ sd < 2147483629 ∧ H2 = H1) ⟨_, _, rfl, Int.emod_nonneg _ (by decide), Int.emod_lt_of_pos _ (by decide), rfl⟩ (fun _ _ H2 _ q => by obtain ⟨_, _, _, _, _, rfl⟩ := q; exact sq_of h1) ?_ ?_
  · rintro j x σ' H2 hx ⟨sd, v, rfl, g0, g1, rfl⟩
    obtain ⟨z, _, rfl⟩ := List.mem_map.mp (List.mem_of_getElem? hx)
    walk_at "w"
    exact ⟨_, _, rfl, Int.emod_nonneg _ (by decide), Int.emod_lt_of_pos _ (by decide), rfl⟩
  · rintro σ' H2 ⟨sd, v, rfl, g0, g1, rfl⟩
    exact fin cell sd H2 v e1 hc g0 g1

end
section
/-- counts from lo on that do not fall, each step less than st -/
def Ris (ns : List Int) (lo st : Int) : Prop := rising ns ∧ (∀ n ∈ ns, lo ≤ n) ∧ ∀ n ∈ ns, n ≤ lo + ns.length * (st - 1)
theorem gI_app {ns : List Int} {v : Int} {i : Nat} : gI (ns ++ [v]) i = if i < ns.length then gI ns i else if i = ns.length then v else 0 := by
  unfold gI
  rw [Int.toNat_natCast, List.getD_eq_getElem?_getD, List.getD_eq_getElem?_getD]
  by_cases h : i < ns.length
  · rw [List.getElem?_append_left h, if_pos h]
  · rw [List.getElem?_append_right (by omega), if_neg h]
    by_cases h2 : i = ns.length
    · subst h2; simp
    · rw [if_neg h2, List.getElem?_eq_none (by simp; omega)]; rfl
theorem rising_app {ns : List Int} {v : Int} (h : rising ns) (hv : ∀ n ∈ ns, n ≤ v) : rising (ns ++ [v]) := by
  intro i hi
  rw [List.length_append, List.length_singleton] at hi
  have e : ((i : Int) + 1) = ((i + 1 : Nat) : Int) := rfl
  rw [e, gI_app, gI_app, if_pos (by omega)]
  by_cases h2 : i + 1 < ns.length
  · rw [if_pos h2]; exact h i h2
  · rw [if_neg h2, if_pos (by omega)]
    refine hv _ ?_
    unfold gI
    rw [Int.toNat_natCast, List.getD_eq_getElem?_getD, List.getElem?_eq_getElem (show i < ns.length by omega)]
    exact List.getElem_mem _

end
section
abbrev N__law_is_integer : List Str := ["thing"]
theorem sc__law_is_integer : FnScope N__law_is_integer ["thing"] (defScope s__law_is_integer) := ⟨rfl, rfl, rfl, by decide +kernel, rfl, by decide +kernel, by decide +kernel⟩
theorem ok__law_is_integer {P : Program} {w : World} {K : PySem.W.Frag} {mg : Str → Option Value} {base : Heap} (E : Env P K mg) : Fn P w K mg base CX0 1 "_law_is_integer" (sp1 fun v H Q _ => ∃ d, Dp K H v d ∧ RetD K (.bool (dIsInt d)) H Q) := by
  obtain ⟨fd, F⟩ := E.dd__law_is_integer
  refine Fn.mk0 F E.g__law_is_integer sc__law_is_integer sp1_len (fun _ _ _ _ _ _ us hl => match us, hl with | [_], _ => rfl) (fun cdv A outer s H vs Q X hr h => ?_)
  have nd := sc__law_is_integer.nd
  obtain ⟨v0, rfl, h⟩ := h
  refine ⟨_, (pss_one (ps_ret (pe_and (pe_callB (kIsi K) (by rfl) E.f_isinstance (by decide +kernel) (pa_cons (pv 0) (pa_cons (pe_bltn (v := .ty "int") (by rfl) E.f_int (by decide +kernel) rfl) pa_nil))) (pe_one (pe_not (pe_callB (kIsi K) (by rfl) E.f_isinstance (by decide +kernel) (pa_cons (pv 0) (pa_cons (pe_bltn (v := .ty "bool") (by rfl) E.f_bool (by decide +kernel) rfl) pa_nil)))))))), ?_⟩
  change (_ : TS) _ [some v0] H
  try dsimp only [cxOf, Cx.nox, Cx.blk]
  obtain ⟨d, hd, k⟩ := h
  cases d with
  | dict x => exact (dp_nodict hd).elim
  | int i => cases hd; walk_at "w"; exact k.bl (by walk_at "ex")
  | _ => cases hd <;> (walk_at "w"; exact k.bl (by walk_at "ex"))
abbrev N__law_is_count : List Str := ["thing"]
theorem sc__law_is_count : FnScope N__law_is_count ["thing"] (defScope s__law_is_count) := ⟨rfl, rfl, rfl, by decide +kernel, rfl, by decide +kernel, by decide +kernel⟩
theorem ok__law_is_count {P : Program} {w : World} {K : PySem.W.Frag} {mg : Str → Option Value} {base : Heap} (E : Env P K mg) : Fn P w K mg base CX0 2 "_law_is_count" (sp1 fun v H Q _ => ∃ d, Dp K H v d ∧ RetD K (.bool (dIsCount d)) H Q) := by
  obtain ⟨fd, F⟩ := E.dd__law_is_count
  refine Fn.mk0 F E.g__law_is_count sc__law_is_count sp1_len (fun _ _ _ _ _ _ us hl => match us, hl with | [_], _ => rfl) (fun cdv A outer s H vs Q X hr h => ?_)
  have nd := sc__law_is_count.nd
  obtain ⟨v0, rfl, h⟩ := h
  refine ⟨_, (pss_one (ps_ret (pe_and (pc (ok__law_is_integer E) hr (by decide) pass0 rfl (pa_cons (pv 0) pa_nil)) (pe_one (pe_cmpR op_ge (pv 0) (pe_int) (nomark _)))))), ?_⟩
  change (_ : TS) _ [some v0] H
  try dsimp only [cxOf, Cx.nox, Cx.blk]
  obtain ⟨d, hd, k⟩ := h
  walk_at "w"
  refine ⟨d, hd, fun v H1 e1 d1 => ?_⟩
  obtain rfl := dp_toBl d1
  cases d with
  | int i => cases hd; walk_at "w"; exact k.bl (by walk_at "ex")
  | _ => walk_at "w"; exact k.bl (by walk_at "ex")
abbrev N__law_is_value : List Str := ["thing"]
theorem sc__law_is_value : FnScope N__law_is_value ["thing"] (defScope s__law_is_value) := ⟨rfl, rfl, rfl, by decide +kernel, rfl, by decide +kernel, by decide +kernel⟩
theorem ok__law_is_value {P : Program} {w : World} {K : PySem.W.Frag} {mg : Str → Option Value} {base : Heap} (E : Env P K mg) : Fn P w K mg base CX0 3 "_law_is_value" (sp1 fun v H Q _ => ∃ o, v = optV o ∧ (∀ i, o = some i → 0 ≤ i) ∧ RetD K (.bool true) H Q) := by
  obtain ⟨fd, F⟩ := E.dd__law_is_value
  refine Fn.mk0 F E.g__law_is_value sc__law_is_value sp1_len (fun _ _ _ _ _ _ us hl => match us, hl with | [_], _ => rfl) (fun cdv A outer s H vs Q X hr h => ?_)
  have nd := sc__law_is_value.nd
  obtain ⟨v0, rfl, h⟩ := h
  refine ⟨_, (pss_one (ps_ret (pe_or (pe_cmpR xIs (pv 0) (pe_non) (nomark _)) (pe_one (pc (ok__law_is_count E) hr (by decide) pass0 rfl (pa_cons (pv 0) pa_nil)))))), ?_⟩
  change (_ : TS) _ [some v0] H
  try dsimp only [cxOf, Cx.nox, Cx.blk]
  obtain ⟨o, rfl, ho, k⟩ := h
  cases o with
  | none =>
    simp only [optV]
    walk_at "w"
    exact k.bl (by walk_at "ex")
  | some i =>
    simp only [optV]
    walk_at "w"
    refine ⟨.int i, .int i, fun v H1 e1 d1 => ?_⟩
    rw [show dIsCount (.int i) = true from decide_eq_true (ho i rfl)] at d1
    obtain rfl := dp_toBl d1
    exact k.bl e1

end
section
def Rng3 (R : It → Hp → Prop) (vs : List V) (H1 : Hp) : Prop := ∃ i j c n, vs = [V.int i, V.int j, V.int c] ∧ RgC i j c n ∧ R (Itc i c n) H1
theorem i_r3 {H : Hp} {ta : TA} {σ : L2.St} {R : It → Hp → Prop} (h : ta σ H fun vs H1 => Rng3 R vs H1) : iRng3 ta σ H R := h
theorem i_x3 {H : Hp} {i j c : Int} {n : Nat} {R : It → Hp → Prop} (hc : RgC i j c n) (h : R (Itc i c n) H) : Rng3 R [V.int i, V.int j, V.int c] H := ⟨i, j, c, n, rfl, hc, h⟩
theorem w_cont {D : Ends} {σ : L2.St} {H : Hp} (h : D.ct σ H) : tCont D σ H := h
/-- the cut of the row as the law has it: from c on, size s -/
def lcut (row : List Int) (s : Nat) (r : Int) : Nat → Nat
  | 0 => 0
  | c + 1 => if s < c + 1 ∧ gI row ((c : Int) - s) = gI row c - r then lcut row s r c else c + 1
theorem lcut_le (row : List Int) (s : Nat) (r : Int) : ∀ c, lcut row s r c ≤ c
  | 0 => Nat.le_refl _
  | c + 1 => by
    unfold lcut
    split
    · exact Nat.le_succ_of_le (lcut_le row s r c)
    · exact Nat.le_refl _
theorem lcut_ge (row : List Int) (s : Nat) (r : Int) : ∀ c, s ≤ c → s ≤ lcut row s r c
  | 0, h => h
  | c + 1, h => by
    unfold lcut
    split
    · rename_i q
      exact lcut_ge row s r c (by omega)
    · exact h
noncomputable def lawF (h l : List Int) (r : Int) : List Int × List Int × Int :=
  if l = [] then (h, [], 0) else
    ((h ++ (shortLoop l r).1).take (lcut (h ++ (shortLoop l r).1) (shortLoop l r).1.length (shortLoop l r).2 (h ++ (shortLoop l r).1).length - (shortLoop l r).1.length),
     ((h ++ (shortLoop l r).1).drop (lcut (h ++ (shortLoop l r).1) (shortLoop l r).1.length (shortLoop l r).2 (h ++ (shortLoop l r).1).length - (shortLoop l r).1.length)).take (shortLoop l r).1.length,
     (shortLoop l r).2)
section
variable {K : PySem.W.Frag} {H : Hp} {Q : VK}
theorem r_lstE {a : Addr} {xs : List V} (h : SqE K H a xs) (q : ∀ p H1, H p = none → Ex H H1 → H1 p = some (.lst xs) → Q (.ref p) H1) : rLstU K [.ref a] H Q := h.elim (fun h => r_lstL h q) (fun h => r_lstT h q)
theorem r_tupE {a : Addr} {xs : List V} (h : SqE K H a xs) (q : ∀ p H1, Ex H H1 → SqT K H1 p xs → Q (.ref p) H1) : rTupU K [.ref a] H Q := h.elim (fun h => r_tupL h q) (fun h => r_tupT h q)
theorem r_slEto {a : Addr} {xs : List Int} {i : Int} (h : SqE K H a (vI xs)) (h0 : 0 ≤ i) (q : ∀ p H1, Ex H H1 → SqE K H1 p (vI (xs.take i.toNat)) → Q (.ref p) H1) : rSl K (.ref a) none (some i) H Q := h.elim (fun h => r_slLto h h0 fun p H1 _ e g => q p H1 e (.inl (sq_of g))) (fun h => r_slTto h h0 fun p H1 e g => q p H1 e (.inr g))
theorem r_slEfrom {a : Addr} {xs : List Int} {i : Int} (h : SqE K H a (vI xs)) (h0 : 0 ≤ i) (q : ∀ p H1, Ex H H1 → SqE K H1 p (vI (xs.drop i.toNat)) → Q (.ref p) H1) : rSl K (.ref a) (some i) none H Q := h.elim (fun h => r_slLfrom h h0 fun p H1 _ e g => q p H1 e (.inl (sq_of g))) (fun h => r_slTfrom h h0 fun p H1 e g => q p H1 e (.inr g))
end
local macro_rules | `(tactic| walk_at "w2") => `(tactic| first
  | ((with_reducible refine' r_lstE ?a ?q); (case a => walk_at "hp"))
  | ((with_reducible refine' r_tupE ?a ?q); (case a => walk_at "hp"))
  | ((with_reducible refine' r_slEto ?a ?b ?q); (case a => walk_at "hp"); (case b => walk_at "om")))
abbrev N__law_plain : List Str := ["head", "loop", "rise", "size", "many", "turns", "step", "row", "cut", "k"]
theorem sc__law_plain : FnScope N__law_plain ["head", "loop", "rise"] (defScope s__law_plain) := ⟨rfl, rfl, rfl, by decide +kernel, rfl, by decide +kernel, by decide +kernel⟩
theorem ok__law_plain {P : Program} {w : World} {K : PySem.W.Frag} {mg : Str → Option Value} {base : Heap} (E : Env P K mg) : Fn P w K mg base CX0 1 "_law_plain" (sp3 fun a b c H Q _ => ∃ b1 b2 h l r, Dp K H a (dSeqI b1 h) ∧ Dp K H b (dSeqI b2 l) ∧ Dp K H c (.int r) ∧ 0 ≤ r ∧ RSm h l r ∧ RetD K (dRaw (lawF h l r).1 (lawF h l r).2.1 (lawF h l r).2.2) H Q) := by
  obtain ⟨fd, F⟩ := E.dd__law_plain
  refine Fn.mk0 F E.g__law_plain sc__law_plain sp3_len (fun _ _ _ _ _ _ us hl => match us, hl with | [_, _, _], _ => rfl) (fun cdv A outer s H vs Q X hr h => ?_)
  have nd := sc__law_plain.nd
  obtain ⟨v0, v1, v2, rfl, h⟩ := h
  refine ⟨_, (pss_cons (ps_if (pt_cmpR (kEq K hr) (pe_callB (kLen K) (by rfl) E.f_len (by decide +kernel) (pa_cons (pv 1) pa_nil)) (pe_int) (nomark _))
   (pss_one (ps_ret (pe_tup (pa_cons (pe_callTy (kTup K) (by rfl) E.f_tuple (by decide +kernel) (pa_cons (pv 0) pa_nil)) (pa_cons (pe_tup pa_nil) (pa_cons (pe_int) pa_nil))))))
   pss_nil)
  (pss_cons (ps_set (i := 3) nd rfl (.inl rfl) (pe_callB (kLen K) (by rfl) E.f_len (by decide +kernel) (pa_cons (pv 1) pa_nil)))
  (pss_cut (ps_for PassesOwn.never rfl (pi_range3 (by rfl) E.f_range (pa_cons (pe_callB (kLen K) (by rfl) E.f_len (by decide +kernel) (pa_cons (pv 1) pa_nil)) (pa_cons (pe_int) (pa_cons (pe_un un_neg (pe_int)) pa_nil)))) (pg_name (i := 4) nd rfl (.inr rfl))
   (pss_cons (ps_set (i := 5) nd rfl (.inl rfl) (pe_op xDiv (pe_callB (kLen K) (by rfl) E.f_len (by decide +kernel) (pa_cons (pv 1) pa_nil)) (pv 4)))
  (pss_cons (ps_if (PW.pt (pw_or (pt_cmpR (kNe K hr) (pe_op (kMul K) (pv 5) (pv 4)) (pe_callB (kLen K) (by rfl) E.f_len (by decide +kernel) (pa_cons (pv 1) pa_nil)) (nomark _)) (pw_or1 (pt_cmpR (kNe K hr) (pe_op xMod (pe_callTy xInt (by rfl) E.f_int (by decide +kernel) (pa_cons (pv 2) pa_nil)) (pv 5)) (pe_int) (nomark _)))))
   (pss_one (ps_continue))
   pss_nil)
  (pss_cons (ps_set (i := 6) nd rfl (.inr rfl) (pe_op xDiv (pv 2) (pv 5)))
  (pss_one (ps_if (kTru K (pe_callB (kAll K rfl) (by rfl) E.f_all (by decide +kernel) (pa_cons (pe_lc (own := [("k", 9)]) (g := gName 9) (tt := tYes) rfl nd (pi_range1 (by rfl) E.f_range (pa_cons (pe_op xSub (pe_callB (kLen K) (by rfl) E.f_len (by decide +kernel) (pa_cons (pv 1) pa_nil)) (pv 4)) pa_nil)) (blkOk_by (N := N__law_plain) (sc := defScope s__law_plain) (by decide +kernel)) (fun _ _ _ _ _ => pg_name (i := 9) nd rfl (Or.inl rfl)) (fun _ _ _ _ _ => pts_nil) (fun _ _ _ _ _ => pe_cmpR (kEq K hr) (pe_ix (kIx K) (pv 1) (pe_op (kAdd K) (pv 9) (pv 4)) (fun _ _ => rfl)) (pe_op (kAdd K) (pe_ix (kIx K) (pv 1) (pv 9) (fun _ _ => rfl)) (pv 6)) (nomark _))) pa_nil)) (by intro _; rfl))
   (pss_one (ps_set (i := 3) nd rfl (.inl rfl) (pv 4)))
   pss_nil))))))
  (pss_cons (ps_set (i := 2) nd rfl (.inl rfl) (pe_op xDiv (pv 2) (pe_op xDiv (pe_callB (kLen K) (by rfl) E.f_len (by decide +kernel) (pa_cons (pv 1) pa_nil)) (pv 3))))
  (pss_cons (ps_set (i := 7) nd rfl (.inl rfl) (pe_op (kAdd K) (pe_callTy (kLst K) (by rfl) E.f_list (by decide +kernel) (pa_cons (pv 0) pa_nil)) (pe_callTy (kLst K) (by rfl) E.f_list (by decide +kernel) (pa_cons (pe_slice (kSl K) (pv 1) po_none (po_some (pv 3))) pa_nil))))
  (pss_cons (ps_set (i := 8) nd rfl (.inl rfl) (pe_callB (kLen K) (by rfl) E.f_len (by decide +kernel) (pa_cons (pv 7) pa_nil)))
  (pss_cons (ps_while PassesOwn.never (PW.pt (pw_and (pt_cmpR op_gt (pv 8) (pv 3) (nomark _)) (pw_and1 (pt_cmpR (kEq K hr) (pe_ix (kIx K) (pv 7) (pe_op xSub (pe_op xSub (pv 8) (pe_int)) (pv 3)) (fun _ _ => rfl)) (pe_op xSub (pe_ix (kIx K) (pv 7) (pe_op xSub (pv 8) (pe_int)) (fun _ _ => rfl)) (pv 2)) (nomark _)))))
   (pss_one (ps_set (i := 8) nd rfl (.inl rfl) (pe_op xSub (pv 8) (pe_int)))))
  (pss_one (ps_ret (pe_tup (pa_cons (pe_callTy (kTup K) (by rfl) E.f_tuple (by decide +kernel) (pa_cons (pe_slice (kSl K) (pv 7) po_none (po_some (pe_op xSub (pv 8) (pv 3)))) pa_nil)) (pa_cons (pe_callTy (kTup K) (by rfl) E.f_tuple (by decide +kernel) (pa_cons (pe_slice (kSl K) (pv 7) (po_some (pe_op xSub (pv 8) (pv 3))) (po_some (pv 8))) pa_nil)) (pa_cons (pv 2) pa_nil))))))))))))), ?_⟩
  change (_ : TS) _ [some v0, some v1, some v2, none, none, none, none, none, none, none] H
  try dsimp only [cxOf, Cx.nox, Cx.blk]
  obtain ⟨b1, b2, h, l, r, hh, hl, hri, hr0, ⟨r1, r2, r3, r4⟩, k⟩ := h
  obtain ⟨th, rfl, s1⟩ := dp_seqE hh
  obtain ⟨tl, rfl, s2⟩ := dp_seqE hl
  obtain rfl := dp_toInt hri
  unfold lawF at k
  walk_at "w"
  by_cases hn : l = []
  · subst hn
    rw [if_pos rfl] at k
    walk_at "w"
    intro p0 H0 e0 s0
    walk_at "w"
    intro p1 H1 n1 e1 h1
    walk_at "w"
    intro p2 H2 n2 e2 h2
    exact k _ _ ((e0.trans e1).trans e2) (dp_of_raw (st_of h2) (ex_t e2 (ex_t e1 s0)) (ex_t e2 (st_of h1)))
  · rw [if_neg hn] at k
    have hl0 : 0 < l.length := List.length_pos_iff.mpr hn
    walk_at "w"
    refine w_cut (M := fun σ' H' => ∃ (s : Nat) (a b c : Option V), σ' = [some (.ref th), some (.ref tl), some (.int r), some (.int s), a, b, c, none, none, none] ∧ Ex H H' ∧ 1 ≤ s ∧ s ≤ l.length ∧ (s = l.length ∨ slOk l r s) ∧ ∀ j, 1 ≤ j → j < s → ¬ slOk l r j) ?_ ?_
    · walk_at "w"
      refine i_r3 ?_
      walk_at "w"
      have hrg : RgC (l.length : Int) 0 (-1) l.length := by
        have := RgC.neg (i := (l.length : Int)) (j := 0) (by omega) (by omega) (by omega) (by omega)
        rwa [show ((l.length : Int) - 0).toNat = l.length by omega] at this
      refine i_x3 (n := l.length) hrg ?_
      refine for_rangeC (lo := l.length) (c := -1) (n := l.length) (Pv := fun i σ' H' => ∃ (s : Nat) (a b c : Option V), σ' = [some (.ref th), some (.ref tl), some (.int r), some (.int s), a, b, c, none, none, none] ∧ Ex H H' ∧ 1 ≤ s ∧ s ≤ l.length ∧ (s = l.length ∨ slOk l r s) ∧ ∀ j, l.length < j + i → j < s → ¬ slOk l r j)
        ⟨l.length, _, _, _, rfl, Ex.refl H, by omega, Nat.le_refl _, .inl rfl, fun j h1 h2 => by omega⟩ ?_ ?_
      · rintro i σ' H' hi ⟨s, a, b, c, rfl, e, hs1, hs2, hs3, hnot⟩
        obtain ⟨m, hm⟩ : ∃ m : Nat, m + i = l.length := ⟨l.length - i, by omega⟩
        have hm0 : 0 < m := by omega
        rw [show ((l.length : Int) + (i : Int) * -1) = (m : Int) by omega]
        have hq : 0 < (l.length : Int) / m := Int.le_ediv_of_mul_le (by omega) (by omega)
        have hq2 : (l.length : Int) / m ≤ l.length := Int.ediv_le_self _ (by omega)
        have hme : (l.length : Int) % m + m * ((l.length : Int) / m) = l.length := Int.emod_add_mul_ediv ..
        have hno : ¬ slOk l r m → ∀ j, l.length < j + (i + 1) → j < s → ¬ slOk l r j := fun hn j h1 h2 => by
          by_cases hj : j = m
          · rw [hj]; exact hn
          · exact hnot j (by omega) h2
        walk_at "w"
        by_cases c1 : (l.length : Int) % m = 0
        · have c1' : (l.length : Int) / m * m = l.length := by rw [Int.mul_comm]; omega
          walk_at "w"
          by_cases c2 : r % ((l.length : Int) / m) = 0
          · walk_at "w"
            refine lcJ_r0 (v := fun i => .bl (decide (gI l (i + m) = gI l i + r / ((l.length : Int) / m)))) (by omega) (fun x => [_, _, _, _, _, _, _, _, _, some x]) (fun x => rfl) (fun x => rfl) (fun j H1 Q' e1 hj hq => ?_) (fun p H2 np e2 hp => ?_)
            · walk_at "w"
              exact hq H1 (Ex.refl _)
            · rw [map_bl_range] at hp
              walk_at "w"
              refine r_all (sq_of hp) rfl ?_
              rw [all_range]
              walk_at "w"
              by_cases c3 : ∀ j : Nat, j < ((l.length : Int) - m).toNat → gI l (j + m) = gI l j + r / ((l.length : Int) / m)
              · walk_at "w"
                exact ⟨m, _, _, _, rfl, e.trans e2, hm0, by omega, .inr ⟨c1, c2, fun j hj => c3 j (by omega)⟩, fun j h1 h2 => by omega⟩
              · walk_at "w"
                refine ⟨s, _, _, _, rfl, e.trans e2, hs1, hs2, hs3, hno fun h => c3 fun j hj => ?_⟩
                exact h.2.2 j (by omega)
          · walk_at "w"
            refine w_cont ?_
            exact ⟨s, _, _, _, rfl, e, hs1, hs2, hs3, hno fun h => c2 h.2.1⟩
        · have c1' : ¬ ((l.length : Int) / m * m = l.length) := by rw [Int.mul_comm]; omega
          walk_at "w"
          refine w_cont ?_
          exact ⟨s, _, _, _, rfl, e, hs1, hs2, hs3, hno fun h => c1 h.1⟩
      · rintro σ' H' ⟨s, a, b, c, rfl, e, hs1, hs2, hs3, hnot⟩
        exact ⟨s, a, b, c, rfl, e, hs1, hs2, hs3, fun j h1 h2 => hnot j (by omega) h2⟩
    rintro σ' H1 ⟨s, a, b, c, rfl, e1, hs1, hs2, hs3, hnot⟩
    have hsl : shortLoop l r = (l.take s, r / ((l.length : Int) / s)) := by
      by_cases q : s = l.length
      · rw [shortLoop_none (fun j h1 h2 => hnot j h1 (by omega)), q, List.take_length, Int.ediv_self (by omega), Int.ediv_one]
      · exact shortLoop_some hs1 (by omega) (hs3.resolve_left q) hnot
    have hq : 0 < (l.length : Int) / s := Int.le_ediv_of_mul_le (by omega) (by omega)
    have hq2 : (l.length : Int) / s ≤ l.length := Int.ediv_le_self _ (by omega)
    have hlen : (l.take s).length = s := by rw [List.length_take]; omega
    rw [hsl] at k
    dsimp only at k
    rw [hlen] at k
    walk_at "w"
    intro p2 H2 n2 e2 h2
    walk_at "w"
    intro p3 H3 e3 s3
    walk_at "w"
    intro p4 H4 n4 e4 h4
    rw [Int.toNat_natCast] at h4
    refine r_addL (e4 _ _ (e3 _ _ h2)) h4 (by walk_at "sz") fun p5 H5 n5 e5 h5 => ?_
    rw [show vI h ++ vI (l.take s) = vI (h ++ l.take s) from List.map_append.symm] at h5
    have hrl : (h ++ l.take s).length = h.length + s := by rw [List.length_append, hlen]
    generalize hrow : h ++ l.take s = row at *
    generalize hr' : r / ((l.length : Int) / s) = r' at *
    walk_at "w"
    refine ⟨fun m σ' H' => σ' = [some (.ref th), some (.ref tl), some (.int r'), some (.int s), a, b, c, some (.ref p5), some (.int (m : Int)), none] ∧ H' = H5 ∧ s ≤ m ∧ m ≤ row.length ∧ lcut row s r' row.length = lcut row s r' m, ⟨row.length, rfl, rfl, by omega, Nat.le_refl _, rfl⟩, ?_⟩
    rintro m σ' H' ⟨rfl, rfl, hm1, hm2, hc⟩
    walk_at "w"
    cases m with
    | zero => omega
    | succ m =>
      have fin : lcut row s r' (m + 1) = m + 1 → tRet (tTup (tCons (tCB (rTupU K) (tCons (tSl (rSl K) (tVar 7) tNoPart (tPart (tOp rSubI (tVar 8) (tVar 3)))) tNil)) (tCons (tCB (rTupU K) (tCons (tSl (rSl K) (tVar 7) (tPart (tOp rSubI (tVar 8) (tVar 3))) (tPart (tVar 8))) tNil)) (tCons (tVar 2) tNil))))
          { nx := fun _ H' => Q .non H', rt := Q } [some (.ref th), some (.ref tl), some (.int r'), some (.int s), a, b, c, some (.ref p5), some (.int ((m + 1 : Nat) : Int)), none] H' := by
        intro hf
        walk_at "w"
        intro p6 H6 n6 e6 h6
        walk_at "w"
        intro p7 H7 e7 s7
        walk_at "w"
        intro p8 H8 n8 e8 h8
        walk_at "w"
        intro p9 H9 e9 s9
        walk_at "w"
        intro p10 H10 n10 e10 h10
        rw [hc, hf] at k
        rw [show (((m + 1 : Nat) : Int) - s).toNat = m + 1 - s by omega] at s7 s9
        rw [show (((m + 1 : Nat) : Int) - (((m + 1 : Nat) : Int) - s)).toNat = s by omega] at s9
        exact k _ _ (by walk_at "ex") (dp_of_raw (st_of h10) (by walk_at "hp") (by walk_at "hp"))
      by_cases c1 : (s : Int) < ((m + 1 : Nat) : Int)
      · walk_at "w"
        rw [show ((m + 1 : Nat) : Int) - 1 = (m : Int) by omega]
        by_cases c2 : gI row ((m : Int) - s) = gI row m - r'
        · walk_at "w"
          refine ⟨_, fun σ2 H2 h2 => ⟨m, Nat.lt_succ_self m, h2⟩, ?_⟩
          walk_at "w"
          rw [show ((m + 1 : Nat) : Int) - 1 = (m : Int) by omega]
          refine ⟨rfl, rfl, by omega, by omega, ?_⟩
          rw [hc]
          exact if_pos ⟨by omega, c2⟩
        · refine w_dF c2 ?_
          exact fin (if_neg fun q => c2 q.2)
      · refine w_dF c1 ?_
        with_reducible refine w_bF rfl ?_
        exact fin (if_neg fun q => c1 (by omega))

end
section
/-- the loop going on both ways -/
def extL (l : List Int) (r : Int) (i : Int) : Int := gI l (i % l.length) + r * (i / l.length)
def Per (g : Int → Int) (s : Nat) (d : Int) : Prop := ∀ i : Int, g (i + s) = g i + d
theorem Per.mulN {g : Int → Int} {s : Nat} {d : Int} (p : Per g s d) : ∀ (z : Nat) (i : Int), g (i + s * z) = g i + d * z
  | 0, i => by simp
  | z + 1, i => by
    rw [show i + (s : Int) * ((z + 1 : Nat) : Int) = (i + s * z) + s by rw [Int.natCast_add, Int.mul_add]; omega, p, p.mulN z i, Int.natCast_add, Int.mul_add]
    omega
theorem Per.mul {g : Int → Int} {s : Nat} {d : Int} (p : Per g s d) (z i : Int) : g (i + s * z) = g i + d * z := by
  rcases Int.le_total 0 z with h | h
  · obtain ⟨n, rfl⟩ := Int.eq_ofNat_of_zero_le h
    exact p.mulN n i
  · obtain ⟨n, hn⟩ := Int.eq_ofNat_of_zero_le (show 0 ≤ -z by omega)
    obtain rfl : z = -(n : Int) := by omega
    have := p.mulN n (i + s * -(n : Int))
    rw [show i + (s : Int) * -(n : Int) + s * n = i by rw [Int.mul_neg]; omega] at this
    rw [this, Int.mul_neg, Int.mul_neg]
    omega
theorem Per.ext {g g' : Int → Int} {s : Nat} {d : Int} (hs : 1 ≤ s) (p : Per g s d) (p' : Per g' s d) (h : ∀ k : Nat, k < s → g k = g' k) (i : Int) : g i = g' i := by
  have e : i % s + s * (i / s) = i := Int.emod_add_mul_ediv ..
  have h0 := Int.emod_nonneg i (show (s : Int) ≠ 0 by omega)
  have h1 := Int.emod_lt_of_pos i (show (0 : Int) < s by omega)
  obtain ⟨k, hk⟩ := Int.eq_ofNat_of_zero_le h0
  rw [← e, p.mul, p'.mul, hk, h k (by omega)]
theorem Per.shift {g : Int → Int} {s : Nat} {d : Int} (p : Per g s d) (m : Int) : Per (fun i => g (i + m)) s d := fun i => by
  show g (i + s + m) = g (i + m) + d
  rw [show i + (s : Int) + m = i + m + s by omega, p]
theorem Per.unshift {g : Int → Int} {s : Nat} {d : Int} (m : Int) (p : Per (fun i => g (i + m)) s d) : Per g s d := fun i => by
  have := p (i - m)
  simp only at this
  rwa [show i - m + (s : Int) + m = i + s by omega, show i - m + m = i by omega] at this
theorem Per.val {g : Int → Int} {s : Nat} {d : Int} (p : Per g s d) : g s - g 0 = d := by
  have := p 0
  rw [Int.zero_add] at this
  omega
theorem extL_per {l : List Int} {r : Int} (hl : l ≠ []) : Per (extL l r) l.length r := fun i => by
  have h0 : 0 < l.length := List.length_pos_iff.mpr hl
  unfold extL
  rw [Int.add_emod_right, Int.add_ediv_of_dvd_right (Int.dvd_refl _), Int.ediv_self (by omega), Int.mul_add]
  omega
theorem extL_small {l : List Int} {r : Int} {k : Nat} (h : k < l.length) : extL l r k = gI l k := by
  unfold extL
  rw [Int.emod_eq_of_lt (by omega) (by omega), Int.ediv_eq_zero_of_lt (by omega) (by omega)]
  omega
theorem bkV_ext {l : List Int} {r : Int} (hl : l ≠ []) (back : Int) : bkV l r back = extL l r (-1 - back) := by
  have h0 : 0 < l.length := List.length_pos_iff.mpr hl
  have e : back % l.length + l.length * (back / l.length) = back := Int.emod_add_mul_ediv ..
  have h1 := Int.emod_nonneg back (show (l.length : Int) ≠ 0 by omega)
  have h2 := Int.emod_lt_of_pos back (show (0 : Int) < l.length by omega)
  have e2 : -1 - back = (-1 - back % l.length + l.length) + l.length * (-(back / l.length) - 1) := by
    rw [Int.mul_sub, Int.mul_neg]
    omega
  unfold extL bkV
  generalize back % (l.length : Int) = t at *
  generalize back / (l.length : Int) = q at *
  rw [e2, Int.add_mul_emod_self_left, Int.add_mul_ediv_left _ _ (by omega), Int.emod_eq_of_lt (by omega) (by omega), Int.ediv_eq_zero_of_lt (by omega) (by omega), Int.zero_add, Int.mul_sub, Int.mul_add, Int.mul_neg]
  omega
/-- the value behind j others -/
def fV (h l : List Int) (r : Int) (j : Nat) : Int := if j < h.length then gI h j else extL l r ((j : Int) - h.length)
theorem vat_fV {h l : List Int} {r : Int} (hl : l ≠ []) (j : Nat) : vat h l r ((j : Int) + 1) = some (fV h l r j) := by
  unfold vat fV
  rw [if_neg (by omega), if_neg hl]
  by_cases c : j < h.length
  · rw [if_pos (by omega), if_pos c, show (j : Int) + 1 - 1 = j by omega]
  · rw [if_neg (by omega), if_neg c]
    unfold extL
    rw [show (j : Int) + 1 - h.length - 1 = j - h.length by omega]
theorem fV_head {h l : List Int} {r : Int} {j : Nat} (c : j < h.length) : fV h l r j = gI h j := if_pos c
theorem fV_loop {h l : List Int} {r : Int} {j : Nat} (c : h.length ≤ j) : fV h l r j = extL l r ((j : Int) - h.length) := if_neg (by omega)
theorem slOk_per {l : List Int} {r : Int} {m : Nat} (hl : l ≠ []) (hm : 1 ≤ m) (h : slOk l r m) : Per (extL l r) m (r / ((l.length : Int) / m)) := by
  obtain ⟨h1, h2, h3⟩ := h
  have h0 : 0 < l.length := List.length_pos_iff.mpr hl
  obtain ⟨q, hq⟩ : m ∣ l.length := Int.natCast_dvd_natCast.mp (Int.dvd_of_emod_eq_zero h1)
  have hqL : (l.length : Int) / m = q := by
    rw [hq, Int.natCast_mul, Int.mul_ediv_cancel_left _ (by omega)]
  rw [hqL] at h2 h3 ⊢
  have hq0 : 0 < q := by
    rcases Nat.eq_zero_or_pos q with e | e
    · rw [e, Nat.mul_zero] at hq; omega
    · exact e
  obtain ⟨d, hd⟩ := Int.dvd_of_emod_eq_zero h2
  have hdq : r / (q : Int) = d := by rw [hd, Int.mul_ediv_cancel_left _ (by omega)]
  rw [hdq] at h3 ⊢
  have run : ∀ (k u : Nat), u + m * k < l.length → gI l ((u + m * k : Nat) : Int) = gI l u + d * k := by
    intro k
    induction k with
    | zero => intro u _; simp
    | succ k ih =>
      intro u hu
      rw [Nat.mul_add, Nat.mul_one, ← Nat.add_assoc] at hu ⊢
      rw [Int.natCast_add, h3 (u + m * k) hu, ih u (by omega), Int.natCast_add, Int.mul_add]
      omega
  have P := extL_per (r := r) hl
  intro i
  have e : i % l.length + l.length * (i / l.length) = i := Int.emod_add_mul_ediv ..
  have g0 := Int.emod_nonneg i (show (l.length : Int) ≠ 0 by omega)
  have g1 := Int.emod_lt_of_pos i (show (0 : Int) < l.length by omega)
  obtain ⟨t, ht⟩ := Int.eq_ofNat_of_zero_le g0
  rw [ht] at e g1
  generalize i / l.length = z at e
  subst e
  rw [show (t : Int) + l.length * z + m = ((t + m : Nat) : Int) + l.length * z by omega, P.mul, P.mul, extL_small (k := t) (by omega)]
  by_cases c : t + m < l.length
  · rw [extL_small c, Int.natCast_add, h3 t c]
    omega
  · have hu : t + m = (t + m - l.length) + l.length := by omega
    obtain ⟨q', rfl⟩ : ∃ q', q = q' + 1 := ⟨q - 1, by omega⟩
    have hq' : l.length = m * q' + m := by rw [hq, Nat.mul_add, Nat.mul_one]
    rw [hu, Int.natCast_add, P, extL_small (by omega)]
    have := run q' (t + m - l.length) (by omega)
    rw [show t + m - l.length + m * q' = t by omega] at this
    rw [this, hd, Int.natCast_add, Int.add_mul, Int.mul_comm d]
    simp only [Int.natCast_one, Int.one_mul]
    generalize (q' : Int) * d = y
    omega
theorem per_slOk {l : List Int} {r d : Int} {m q : Nat} (hm : 1 ≤ m) (hq : 1 ≤ q) (hL : l.length = m * q) (hr : r = d * q) (p : Per (extL l r) m d) : slOk l r m ∧ r / ((l.length : Int) / m) = d := by
  have hqL : (l.length : Int) / m = q := by
    rw [hL, Int.natCast_mul, Int.mul_ediv_cancel_left _ (by omega)]
  have hrq : r / (q : Int) = d := by rw [hr, Int.mul_ediv_cancel _ (by omega)]
  refine ⟨⟨by rw [hL, Int.natCast_mul, Int.mul_emod_right], by rw [hqL, hr, Int.mul_emod_left], fun i hi => ?_⟩, by rw [hqL, hrq]⟩
  rw [hqL, hrq]
  have := p i
  rw [extL_small (by omega), ← Int.natCast_add, extL_small hi] at this
  exact this
theorem per_dvd {g : Int → Int} {s L : Nat} {d r : Int} (hs : 1 ≤ s) (p : Per g s d) (hmin : ∀ t, 1 ≤ t → t < s → ∀ d, ¬ Per g t d) (P : Per g L r) : L = s * (L / s) ∧ r = d * ((L / s : Nat) : Int) := by
  have e : s * (L / s) + L % s = L := Nat.div_add_mod ..
  have hlt := Nat.mod_lt L hs
  have hz : L % s = 0 := by
    rcases Nat.eq_zero_or_pos (L % s) with h | h
    · exact h
    · refine (hmin _ h hlt (r - d * ((L / s : Nat) : Int)) fun i => ?_).elim
      have h1 := P i
      have h2 := p.mulN (L / s) (i + ((L % s : Nat) : Int))
      rw [show i + ((L % s : Nat) : Int) + (s : Int) * ((L / s : Nat) : Int) = i + L by
        rw [← Int.natCast_mul]; omega] at h2
      omega
  refine ⟨by omega, ?_⟩
  have h1 := P 0
  have h2 := p.mulN (L / s) 0
  rw [show (0 : Int) + (s : Int) * ((L / s : Nat) : Int) = 0 + L by rw [← Int.natCast_mul]; omega] at h2
  omega
theorem least_nat {p : Nat → Prop} {n : Nat} (h : p n) : ∃ m, m ≤ n ∧ p m ∧ ∀ j, j < m → ¬ p j := by
  induction n using Nat.strongRecOn with
  | _ n ih =>
    by_cases q : ∃ j, j < n ∧ p j
    · obtain ⟨j, h1, h2⟩ := q
      obtain ⟨m, h3, h4⟩ := ih j h1 h2
      exact ⟨m, by omega, h4⟩
    · exact ⟨n, Nat.le_refl _, h, fun j h1 h2 => q ⟨j, h1, h2⟩⟩
theorem shortLoop_char {l : List Int} {r : Int} (hl : l ≠ []) : ∃ s : Nat, 1 ≤ s ∧ s ≤ l.length ∧ shortLoop l r = (l.take s, extL l r s - extL l r 0) ∧ Per (extL l r) s (extL l r s - extL l r 0) ∧ ∀ t, 1 ≤ t → t < s → ∀ d, ¬ Per (extL l r) t d := by
  have h0 : 0 < l.length := List.length_pos_iff.mpr hl
  have P := extL_per (r := r) hl
  obtain ⟨s, hs, ⟨hs1, d, p⟩, hmin⟩ := least_nat (p := fun s => 1 ≤ s ∧ ∃ d, Per (extL l r) s d) (n := l.length) ⟨h0, r, P⟩
  have hmin' : ∀ t, 1 ≤ t → t < s → ∀ d, ¬ Per (extL l r) t d := fun t h1 h2 d h => hmin t h2 ⟨h1, d, h⟩
  refine ⟨s, hs1, hs, ?_, by rw [p.val]; exact p, hmin'⟩
  rw [p.val]
  have hno : ∀ j, 1 ≤ j → j < s → ¬ slOk l r j := fun j h1 h2 h => hmin' j h1 h2 _ (slOk_per hl h1 h)
  obtain ⟨e1, e2⟩ := per_dvd hs1 p hmin' P
  have hq : 1 ≤ l.length / s := Nat.div_pos hs hs1
  obtain ⟨o1, o2⟩ := per_slOk hs1 hq e1 e2 p
  by_cases c : s < l.length
  · rw [shortLoop_some hs1 c o1 hno, o2]
  · obtain rfl : s = l.length := by omega
    rw [shortLoop_none hno, List.take_length, ← p.val, P.val]
theorem gI_take {l : List Int} {s k : Nat} (h : k < s) : gI (l.take s) k = gI l k := by
  unfold gI
  rw [Int.toNat_natCast, List.getD_eq_getElem?_getD, List.getD_eq_getElem?_getD, List.getElem?_take_of_lt h]
theorem extL_take {l : List Int} {r d : Int} {s : Nat} (h1 : 1 ≤ s) (hs : s ≤ l.length) (p : Per (extL l r) s d) (i : Int) : extL (l.take s) d i = extL l r i := by
  have hl : (l.take s).length = s := by rw [List.length_take]; omega
  have P := extL_per (l := l.take s) (r := d) (by intro e; rw [e] at hl; simp at hl; omega)
  rw [hl] at P
  refine P.ext h1 p (fun k hk => ?_) i
  rw [extL_small (by omega), extL_small (by omega), gI_take hk]
theorem cutH_eq {h l : List Int} {r : Int} : ∀ k, ∀ j, cutH h l r k ≤ j → j < k → gI h j = bkV l r ((h.length : Int) - (j + 1))
  | 0, j, _, h2 => by omega
  | k + 1, j, h1, h2 => by
    unfold cutH at h1
    split at h1
    · rename_i c
      by_cases e : j = k
      · subst e; exact c
      · exact cutH_eq k j h1 (by omega)
    · omega
theorem cutH_ne {h l : List Int} {r : Int} : ∀ k c, cutH h l r k = c + 1 → gI h c ≠ bkV l r ((h.length : Int) - (c + 1))
  | 0, c, e => by simp [cutH] at e
  | k + 1, c, e => by
    unfold cutH at e
    split at e
    · exact cutH_ne k c e
    · rename_i q
      obtain rfl : k = c := by omega
      exact q

end
section
/-- the least period and the least head, from the values alone -/
structure PFat (f : Nat → Int) (g : Int → Int) (c s : Nat) (pf : List Int × List Int × Int) : Prop where
  s1 : 1 ≤ s
  per : Per g s (g s - g 0)
  min : ∀ t, 1 ≤ t → t < s → ∀ d, ¬ Per g t d
  eq : ∀ j : Nat, c ≤ j → f j = g j
  ne : ∀ c', c = c' + 1 → f c' ≠ g c'
  pf : pf = ((List.range c).map f, (List.range s).map fun i : Nat => g ((c + i : Nat) : Int), g s - g 0)
theorem PFat.uniq {f : Nat → Int} {g : Int → Int} {c s c' s' : Nat} {p q : List Int × List Int × Int} (a : PFat f g c s p) (b : PFat f g c' s' q) : p = q := by
  have e1 : s = s' := by
    rcases Nat.lt_trichotomy s s' with h | h | h
    · exact (b.min _ a.s1 h _ a.per).elim
    · exact h
    · exact (a.min _ b.s1 h _ b.per).elim
  have key : ∀ {c c' s s' : Nat} {p q : List Int × List Int × Int}, PFat f g c s p → PFat f g c' s' q → ¬ c < c' := fun {c c' s s' p q} a b h => by
    obtain ⟨m, rfl⟩ : ∃ m, c' = m + 1 := ⟨c' - 1, by omega⟩
    exact b.ne m rfl (a.eq m (by omega))
  have e2 : c = c' := by have := key a b; have := key b a; omega
  rw [a.pf, b.pf, e1, e2]
theorem gI_map_range {f : Nat → Int} {n k : Nat} (h : k < n) : gI ((List.range n).map f) k = f k := by
  unfold gI
  rw [Int.toNat_natCast, List.getD_eq_getElem?_getD, List.getElem?_map, List.getElem?_range h]
  rfl
theorem ext_gI {a b : List Int} (hl : a.length = b.length) (h : ∀ k : Nat, k < a.length → gI a k = gI b k) : a = b := by
  refine List.ext_getElem hl fun k h1 h2 => ?_
  have := h k h1
  unfold gI at this
  rw [Int.toNat_natCast, List.getD_eq_getElem?_getD, List.getD_eq_getElem?_getD, List.getElem?_eq_getElem h1, List.getElem?_eq_getElem h2] at this
  exact this
theorem plainF_at {h l : List Int} {r : Int} (hl : l ≠ []) : ∃ c s, c ≤ h.length ∧ s ≤ l.length ∧ PFat (fV h l r) (fun i => extL l r (i - h.length)) c s (plainF h l r) := by
  obtain ⟨s, h1, h2, e, p, hmin⟩ := shortLoop_char (r := r) hl
  have hs : (l.take s).length = s := by rw [List.length_take]; omega
  have hls : l.take s ≠ [] := fun e => by rw [e] at hs; simp at hs; omega
  have E := extL_take h1 h2 p
  have pv : ∀ m : Int, extL l r (s - m) - extL l r (0 - m) = extL l r s - extL l r 0 := fun m => by
    have q1 := p (0 - m)
    rw [show (0 : Int) - m + s = s - m by omega] at q1
    omega
  refine ⟨cutH h (l.take s) (extL l r s - extL l r 0) h.length, s, cutH_le _ _ _ _, h2, h1, ?_, ?_, fun j hj => ?_, fun c' hc => ?_, ?_⟩
  · show Per _ _ (extL l r (s - h.length) - extL l r (0 - h.length))
    rw [pv]
    intro i
    have := p (i - h.length)
    rwa [show i - (h.length : Int) + s = i + s - h.length by omega] at this
  · intro t t1 t2 d q
    refine hmin t t1 t2 d (Per.unshift (-(h.length : Int)) ?_)
    intro i
    have := q i
    simp only [Int.sub_eq_add_neg] at this ⊢
    exact this
  · by_cases c : j < h.length
    · rw [fV_head c, cutH_eq _ j hj c, bkV_ext hls, E]
      congr 1
      omega
    · exact fV_loop (by omega)
  · have hle := cutH_le h (l.take s) (extL l r s - extL l r 0) h.length
    have := cutH_ne _ c' hc
    rw [bkV_ext hls, E] at this
    rw [fV_head (by omega)]
    intro q
    refine this (q.trans ?_)
    congr 1
    omega
  · unfold plainF
    rw [if_neg hl, e]
    dsimp only
    have hle := cutH_le h (l.take s) (extL l r s - extL l r 0) h.length
    generalize hcd : cutH h (l.take s) (extL l r s - extL l r 0) h.length = c at *
    have hc1 : ∀ j, c ≤ j → j < h.length → gI h j = extL l r ((j : Int) - h.length) := fun j a b => by
      have := cutH_eq h.length j (by rw [hcd]; exact a) b
      rw [this, bkV_ext hls, E]
      congr 1
      omega
    rw [pv, hs]
    refine congr (congrArg _ ?_) (congr (congrArg _ ?_) rfl)
    · refine ext_gI (by rw [List.length_take, List.length_map, List.length_range]; omega) fun k hk => ?_
      rw [List.length_take] at hk
      rw [gI_take (by omega), gI_map_range (by omega), fV_head (by omega)]
    · refine List.map_congr_left fun i _ => ?_
      rw [show (c : Int) + 1 + i = ((c + i : Nat) : Int) + 1 by omega, vat_fV hls]
      show fV h (l.take s) _ (c + i) = _
      by_cases q : c + i < h.length
      · rw [fV_head q, hc1 _ (by omega) q]
      · rw [fV_loop (by omega), E]

end
section
theorem gI_append {a b : List Int} {k : Nat} : gI (a ++ b) k = if k < a.length then gI a k else gI b ((k - a.length : Nat) : Int) := by
  unfold gI
  rw [Int.toNat_natCast, Int.toNat_natCast, List.getD_eq_getElem?_getD, List.getD_eq_getElem?_getD, List.getD_eq_getElem?_getD]
  split
  · rename_i h
    rw [List.getElem?_append_left h]
  · rename_i h
    rw [List.getElem?_append_right (by omega)]
theorem gI_drop {a : List Int} {m k : Nat} : gI (a.drop m) k = gI a ((m + k : Nat) : Int) := by
  unfold gI
  rw [Int.toNat_natCast, Int.toNat_natCast, List.getD_eq_getElem?_getD, List.getD_eq_getElem?_getD, List.getElem?_drop]
theorem lcut_cutH {h l' : List Int} {r' : Int} {row : List Int} {s : Nat} (hs : 1 ≤ s) (hl : l' ≠ []) (hp : Per (extL l' r') s r')
    (h1 : ∀ k : Nat, k < h.length → gI row k = gI h k) (h2 : ∀ k : Nat, k < s → gI row ((h.length + k : Nat) : Int) = extL l' r' k) :
    ∀ k, k ≤ h.length → (∀ j : Nat, k ≤ j → j < h.length → gI h j = extL l' r' ((j : Int) - h.length)) → lcut row s r' (k + s) = cutH h l' r' k + s
  | 0, _, _ => by
    obtain ⟨s, rfl⟩ : ∃ t, s = t + 1 := ⟨s - 1, by omega⟩
    rw [Nat.zero_add]
    unfold lcut cutH
    rw [if_neg (by omega), Nat.zero_add]
  | k + 1, hk, hj => by
    have hkk : gI row ((k + s : Nat) : Int) = extL l' r' ((k : Int) - h.length) + r' := by
      have := hp ((k : Int) - h.length)
      rw [← this]
      by_cases c : k + s < h.length
      · rw [h1 _ c, hj _ (by omega) c]
        congr 1
        omega
      · have := h2 (k + s - h.length) (by omega)
        rw [show h.length + (k + s - h.length) = k + s by omega] at this
        rw [this]
        congr 1
        omega
    have e1 : gI row (((k + s : Nat) : Int) - s) = gI h k := by
      rw [show ((k + s : Nat) : Int) - s = (k : Int) by omega, h1 k (by omega)]
    have e2 : bkV l' r' ((h.length : Int) - (k + 1)) = extL l' r' ((k : Int) - h.length) := by
      rw [bkV_ext hl]
      congr 1
      omega
    rw [show k + 1 + s = (k + s) + 1 by omega]
    unfold lcut cutH
    rw [e1, hkk, e2]
    by_cases c : gI h k = extL l' r' ((k : Int) - h.length)
    · rw [if_pos ⟨by omega, by omega⟩, if_pos c]
      refine lcut_cutH hs hl hp h1 h2 k (by omega) fun j a b => ?_
      by_cases q : j = k
      · subst q; exact c
      · exact hj j (by omega) b
    · rw [if_neg (fun q => c (by omega)), if_neg c]
      omega
theorem lawF_eq (h l : List Int) (r : Int) : lawF h l r = plainF h l r := by
  by_cases hl : l = []
  · unfold lawF plainF
    rw [if_pos hl, if_pos hl]
  obtain ⟨s, h1, h2, e, p, hmin⟩ := shortLoop_char (r := r) hl
  have hs : (l.take s).length = s := by rw [List.length_take]; omega
  have hls : l.take s ≠ [] := fun e => by rw [e] at hs; simp at hs; omega
  have E := extL_take h1 h2 p
  have p' : Per (extL (l.take s) (extL l r s - extL l r 0)) s (extL l r s - extL l r 0) := fun i => by rw [E, E, p]
  unfold lawF plainF
  rw [if_neg hl, if_neg hl, e]
  dsimp only
  rw [hs, List.length_append, hs]
  have r1 : ∀ k : Nat, k < h.length → gI (h ++ l.take s) k = gI h k := fun k hk => by rw [gI_append, if_pos hk]
  have r2 : ∀ k : Nat, k < s → gI (h ++ l.take s) ((h.length + k : Nat) : Int) = extL (l.take s) (extL l r s - extL l r 0) k := fun k hk => by
    rw [gI_append, if_neg (by omega), show h.length + k - h.length = k by omega, extL_small (by omega)]
  have e3 := lcut_cutH h1 hls p' r1 r2 h.length (Nat.le_refl _) (fun j a b => by omega)
  have hle := cutH_le h (l.take s) (extL l r s - extL l r 0) h.length
  rw [e3, Nat.add_sub_cancel]
  have hc1 := fun j (a : cutH h (l.take s) (extL l r s - extL l r 0) h.length ≤ j) (b : j < h.length) => cutH_eq h.length j a b
  generalize cutH h (l.take s) (extL l r s - extL l r 0) h.length = c at *
  refine congr (congrArg _ ?_) (congr (congrArg _ ?_) rfl)
  · rw [List.take_append_of_le_length hle]
  · refine ext_gI (by rw [List.length_take, List.length_drop, List.length_append, hs, List.length_map, List.length_range]; omega) fun k hk => ?_
    rw [List.length_take, List.length_drop, List.length_append, hs] at hk
    have hk : k < s := by omega
    rw [gI_take hk, gI_drop, gI_map_range (f := fun i : Nat => (vat h (l.take s) (extL l r s - extL l r 0) ((c : Int) + 1 + i)).getD 0) hk, show (c : Int) + 1 + k = ((c + k : Nat) : Int) + 1 by omega, vat_fV hls]
    show _ = fV h (l.take s) _ (c + k)
    by_cases q : c + k < h.length
    · rw [r1 _ q, fV_head q]
    · have := r2 (c + k - h.length) (by omega)
      rw [show h.length + (c + k - h.length) = c + k by omega] at this
      rw [this, fV_loop (by omega)]
      congr 1
      omega
theorem gI_nn {a : List Int} (h : allPos a) (i : Int) : 0 ≤ gI a i := by
  unfold gI
  rw [List.getD_eq_getElem?_getD]
  by_cases c : i.toNat < a.length
  · rw [List.getElem?_eq_getElem c]
    exact h _ (List.getElem_mem _)
  · rw [List.getElem?_eq_none (by omega)]
    exact Int.le_refl _
theorem extL_nn {l : List Int} {r i : Int} (h : allPos l) (hr : 0 ≤ r) (hi : 0 ≤ i) : 0 ≤ extL l r i :=
  Int.add_nonneg (gI_nn h _) (Int.mul_nonneg hr (Int.ediv_nonneg hi (by omega)))
theorem fV_nn {h l : List Int} {r : Int} (V : Val h l r) (j : Nat) : 0 ≤ fV h l r j := by
  unfold fV
  split
  · exact gI_nn V.p1 _
  · exact extL_nn V.p2 V.r0 (by omega)
theorem extL_up {h l : List Int} {r : Int} (V : Val h l r) (hl : l ≠ []) (i : Int) : extL l r i ≤ extL l r (i + 1) := by
  have h0 : 0 < l.length := List.length_pos_iff.mpr hl
  have P := extL_per (r := r) hl
  have e : i % l.length + l.length * (i / l.length) = i := Int.emod_add_mul_ediv ..
  have g0 := Int.emod_nonneg i (show (l.length : Int) ≠ 0 by omega)
  have g1 := Int.emod_lt_of_pos i (show (0 : Int) < l.length by omega)
  obtain ⟨t, ht⟩ := Int.eq_ofNat_of_zero_le g0
  rw [ht] at e g1
  generalize i / l.length = z at e
  subst e
  rw [show (t : Int) + l.length * z + 1 = ((t + 1 : Nat) : Int) + l.length * z by omega, P.mul, P.mul, extL_small (k := t) (by omega)]
  by_cases c : t + 1 < l.length
  · rw [extL_small c]
    have := V.r2 t c
    rw [show ((t + 1 : Nat) : Int) = (t : Int) + 1 by omega]
    omega
  · have := V.ll hl
    have q := P 0
    have q0 := extL_small (r := r) (l := l) (k := 0) h0
    rw [Int.zero_add] at q
    rw [show (l.length : Int) - 1 = t by omega] at this
    rw [show t + 1 = l.length by omega, q, show (0 : Int) = ((0 : Nat) : Int) from rfl, q0]
    show gI l t + r * z ≤ gI l 0 + r + r * z
    omega
theorem fV_up {h l : List Int} {r : Int} (V : Val h l r) (hl : l ≠ []) (j : Nat) : fV h l r j ≤ fV h l r (j + 1) := by
  by_cases c : j + 1 < h.length
  · rw [fV_head c, fV_head (by omega)]
    exact V.r1 j c
  · by_cases d : j < h.length
    · rw [fV_head d, fV_loop (by omega)]
      have := V.hl (by intro e; rw [e] at d; simp at d) hl
      rw [show ((j + 1 : Nat) : Int) - h.length = ((0 : Nat) : Int) by omega, extL_small (List.length_pos_iff.mpr hl)]
      rw [show (h.length : Int) - 1 = j by omega] at this
      exact this
    · rw [fV_loop (by omega), fV_loop (by omega)]
      have := extL_up V hl ((j : Int) - h.length)
      rwa [show (j : Int) - h.length + 1 = ((j + 1 : Nat) : Int) - h.length by omega] at this
theorem tell_gI {f : Nat → Int} {n cut k : Nat} (h : cut + k < n) : gI (((List.range n).map f).drop cut) k = f (cut + k) := by
  rw [gI_drop, gI_map_range h]
theorem tell_gT {f : Nat → Int} {n cut k : Nat} (h : k < cut) (h2 : k < n) : gI (((List.range n).map f).take cut) k = f k := by
  rw [gI_take h, gI_map_range h2]
theorem tell_plain {h l : List Int} {r : Int} (hl : l ≠ []) (more turns : Nat) (ht : 1 ≤ turns) :
    plainF (((List.range (h.length + more + l.length * turns)).map (fV h l r)).take (h.length + more)) (((List.range (h.length + more + l.length * turns)).map (fV h l r)).drop (h.length + more)) (r * turns) = plainF h l r := by
  have h0 : 0 < l.length := List.length_pos_iff.mpr hl
  have hL : 0 < l.length * turns := Nat.mul_pos h0 ht
  have e1 : (((List.range (h.length + more + l.length * turns)).map (fV h l r)).take (h.length + more)).length = h.length + more := by
    rw [List.length_take, List.length_map, List.length_range]; omega
  have e2 : (((List.range (h.length + more + l.length * turns)).map (fV h l r)).drop (h.length + more)).length = l.length * turns := by
    rw [List.length_drop, List.length_map, List.length_range]; omega
  have g1 : ∀ k, k < h.length + more → gI (((List.range (h.length + more + l.length * turns)).map (fV h l r)).take (h.length + more)) k = fV h l r k := fun k hk => tell_gT hk (by omega)
  have g2 : ∀ k, k < l.length * turns → gI (((List.range (h.length + more + l.length * turns)).map (fV h l r)).drop (h.length + more)) k = fV h l r (h.length + more + k) := fun k hk => tell_gI (by omega)
  generalize ((List.range (h.length + more + l.length * turns)).map (fV h l r)).take (h.length + more) = h2 at *
  generalize ((List.range (h.length + more + l.length * turns)).map (fV h l r)).drop (h.length + more) = l2 at *
  have hl2 : l2 ≠ [] := fun e => by rw [e] at e2; simp at e2; omega
  have P2 := extL_per (r := r * turns) hl2
  have P1 : Per (fun i => extL l r (i + more)) l2.length (r * turns) := Per.shift (fun i => by
    rw [e2, Int.natCast_mul, (extL_per hl).mulN]) more
  have ee := P2.ext (by omega) P1 fun k hk => by
    rw [extL_small hk, g2 k (by omega), fV_loop (by omega)]
    congr 1
    omega
  have fe : fV h2 l2 (r * turns) = fV h l r := funext fun j => by
    by_cases c : j < h2.length
    · rw [fV_head c, g1 j (by omega)]
    · rw [fV_loop (by omega), ee, fV_loop (by omega), e1]
      congr 1
      omega
  have ge : (fun i : Int => extL l2 (r * turns) (i - h2.length)) = fun i => extL l r (i - h.length) := funext fun i => by
    rw [ee, e1]
    congr 1
    omega
  obtain ⟨c, s, _, _, A⟩ := plainF_at (h := h) (r := r) hl
  obtain ⟨c2, s2, _, _, B⟩ := plainF_at (h := h2) (r := r * turns) hl2
  rw [fe, ge] at B
  exact B.uniq A
theorem tell_val {h l : List Int} {r : Int} (V : Val h l r) (hl : l ≠ []) (more turns : Nat) (ht : 1 ≤ turns) (z1 : h.length + more ≤ 50000) (z2 : l.length * turns ≤ 50000) (z3 : r * turns < 1152921504606846976) :
    Val (((List.range (h.length + more + l.length * turns)).map (fV h l r)).take (h.length + more)) (((List.range (h.length + more + l.length * turns)).map (fV h l r)).drop (h.length + more)) (r * turns) := by
  have h0 : 0 < l.length := List.length_pos_iff.mpr hl
  have hL : 0 < l.length * turns := Nat.mul_pos h0 ht
  have e1 : (((List.range (h.length + more + l.length * turns)).map (fV h l r)).take (h.length + more)).length = h.length + more := by
    rw [List.length_take, List.length_map, List.length_range]; omega
  have e2 : (((List.range (h.length + more + l.length * turns)).map (fV h l r)).drop (h.length + more)).length = l.length * turns := by
    rw [List.length_drop, List.length_map, List.length_range]; omega
  have g1 : ∀ k, k < h.length + more → gI (((List.range (h.length + more + l.length * turns)).map (fV h l r)).take (h.length + more)) k = fV h l r k := fun k hk => tell_gT hk (by omega)
  have g2 : ∀ k, k < l.length * turns → gI (((List.range (h.length + more + l.length * turns)).map (fV h l r)).drop (h.length + more)) k = fV h l r (h.length + more + k) := fun k hk => tell_gI (by omega)
  have ps : ∀ n ∈ (List.range (h.length + more + l.length * turns)).map (fV h l r), 0 ≤ n := fun n hn => by
    obtain ⟨k, _, rfl⟩ := List.mem_map.mp hn
    exact fV_nn V k
  have p1 : allPos (((List.range (h.length + more + l.length * turns)).map (fV h l r)).take (h.length + more)) := fun n hn => ps n (List.mem_of_mem_take hn)
  have p2 : allPos (((List.range (h.length + more + l.length * turns)).map (fV h l r)).drop (h.length + more)) := fun n hn => ps n (List.mem_of_mem_drop hn)
  generalize ((List.range (h.length + more + l.length * turns)).map (fV h l r)).take (h.length + more) = h2 at *
  generalize ((List.range (h.length + more + l.length * turns)).map (fV h l r)).drop (h.length + more) = l2 at *
  have up := fV_up V hl
  have rt : 0 ≤ r * turns := Int.mul_nonneg V.r0 (by omega)
  refine ⟨p1, p2, fun i hi => ?_, fun i hi => ?_, rt, fun e => ?_, fun hne _ => ?_, fun _ => ?_, ⟨by omega, z3, by omega, by omega⟩⟩
  · rw [g1 i (by omega), show (i : Int) + 1 = ((i + 1 : Nat) : Int) by omega, g1 (i + 1) (by omega)]
    exact up i
  · rw [g2 i (by omega), show (i : Int) + 1 = ((i + 1 : Nat) : Int) by omega, g2 (i + 1) (by omega)]
    exact up (h.length + more + i)
  · rw [e] at e2; simp at e2; omega
  · have hp : 0 < h2.length := List.length_pos_iff.mpr hne
    rw [e1, show ((h.length + more : Nat) : Int) - 1 = ((h.length + more - 1 : Nat) : Int) by omega, g1 _ (by omega)]
    have := g2 0 hL
    rw [show (0 : Int) = ((0 : Nat) : Int) from rfl, this]
    have := up (h.length + more - 1)
    rwa [show h.length + more - 1 + 1 = h.length + more + 0 by omega] at this
  · rw [e2, show ((l.length * turns : Nat) : Int) - 1 = ((l.length * turns - 1 : Nat) : Int) by omega, g2 _ (by omega)]
    have q := g2 0 hL
    rw [show (0 : Int) = ((0 : Nat) : Int) from rfl, q]
    have u := up (h.length + more + (l.length * turns - 1))
    have P := (extL_per (r := r) hl).mulN turns ((more : Nat) : Int)
    rw [fV_loop (j := h.length + more + (l.length * turns - 1) + 1) (by omega)] at u
    rw [fV_loop (j := h.length + more + 0) (by omega), show (((h.length + more + 0 : Nat) : Int) - h.length) = more by omega, ← P]
    refine Int.le_trans u (Int.le_of_eq ?_)
    congr 1
    rw [← Int.natCast_mul]
    omega
/-- the plain form's parts are small and no less than 0 -/
theorem plainF_ok {h l : List Int} {r : Int} (V : Val h l r) : allPos (plainF h l r).1 ∧ allPos (plainF h l r).2.1 ∧ 0 ≤ (plainF h l r).2.2 ∧ (plainF h l r).2.2 ≤ r ∧ (plainF h l r).1.length ≤ h.length ∧ (plainF h l r).2.1.length ≤ l.length := by
  by_cases hl : l = []
  · unfold plainF
    rw [if_pos hl]
    exact ⟨V.p1, fun n hn => by simp at hn, Int.le_refl _, V.r0, Nat.le_refl _, Nat.zero_le _⟩
  · obtain ⟨q1, q2⟩ := shortLoop_len l r
    obtain ⟨q3, q4⟩ := shortLoop_rise (l := l) V.r0
    have q5 := q2 hl
    have pl : allPos (shortLoop l r).1 := by
      rcases shortLoop_cases l r with e | ⟨m, _, _, _, e⟩
      · rw [e]; exact V.p2
      · rw [e]; exact fun n hn => V.p2 n (List.mem_of_mem_take hn)
    unfold plainF
    rw [if_neg hl]
    refine ⟨fun n hn => V.p1 n (List.mem_of_mem_take hn), fun n hn => ?_, q3, q4, by show (h.take _).length ≤ _; rw [List.length_take]; omega, by show (List.map _ _).length ≤ _; rw [List.length_map, List.length_range]; exact q1⟩
    obtain ⟨i, _, rfl⟩ := List.mem_map.mp hn
    generalize cutH h (shortLoop l r).1 (shortLoop l r).2 h.length = c
    show 0 ≤ (vat h _ _ ((c : Int) + 1 + i)).getD 0
    rw [show (c : Int) + 1 + i = ((c + i : Nat) : Int) + 1 by omega, vat_fV q5]
    show 0 ≤ fV h _ _ (c + i)
    unfold fV
    split
    · exact gI_nn V.p1 _
    · exact extL_nn pl q3 (by omega)

end
section
/-- two tables with the same values have one plain form -/
theorem plain_ext {h l h' l' : List Int} {r r' : Int} (hl : l ≠ []) (hl' : l' ≠ []) (e : ∀ j, fV h l r j = fV h' l' r' j) : plainF h l r = plainF h' l' r' := by
  have l0 : 0 < l.length := List.length_pos_iff.mpr hl
  have l1 : 0 < l'.length := List.length_pos_iff.mpr hl'
  have P := (extL_per (r := r) hl)
  have P' := (extL_per (r := r') hl')
  have fe : fV h l r = fV h' l' r' := funext e
  have big : ∀ j : Nat, h.length ≤ j → h'.length ≤ j → extL l r ((j : Int) - h.length) = extL l' r' ((j : Int) - h'.length) := fun j a b => by
    rw [← fV_loop a, ← fV_loop b, e]
  have Q : Per (fun i => extL l r (i - h.length)) (l.length * l'.length) (r * l'.length) := fun i => by
    show extL l r (i + ((l.length * l'.length : Nat) : Int) - h.length) = extL l r (i - h.length) + _
    rw [← P.mulN, Int.natCast_mul]
    congr 1
    omega
  have Q' : Per (fun i => extL l' r' (i - h'.length)) (l.length * l'.length) (r' * l.length) := fun i => by
    show extL l' r' (i + ((l.length * l'.length : Nat) : Int) - h'.length) = extL l' r' (i - h'.length) + _
    rw [← P'.mulN, Int.natCast_mul, Int.mul_comm (l.length : Int)]
    congr 1
    omega
  generalize hM : h.length + h'.length = M at *
  have sl : r * l'.length = r' * l.length := by
    have a := Q M
    have b := Q' M
    have c := big M (by omega) (by omega)
    have d := big (M + l.length * l'.length) (by omega) (by omega)
    simp only at a b
    rw [Int.natCast_add] at d
    omega
  rw [← sl] at Q'
  have ge : (fun i : Int => extL l r (i - h.length)) = fun i => extL l' r' (i - h'.length) := by
    have key := (Q.shift M).ext (Nat.mul_pos l0 l1) (Q'.shift M) fun k _ => by
      have := big (k + M) (by omega) (by omega)
      rw [Int.natCast_add] at this
      exact this
    refine funext fun i => ?_
    have this : extL l r (i - M + M - h.length) = extL l' r' (i - M + M - h'.length) := key (i - M)
    rwa [show i - (M : Int) + M = i by omega] at this
  obtain ⟨c, s, _, _, A⟩ := plainF_at (h := h) (r := r) hl
  obtain ⟨c2, s2, _, _, B⟩ := plainF_at (h := h') (r := r') hl'
  rw [← fe, ← ge] at B
  exact A.uniq B
/-- a row of numbers that goes on evenly makes a table -/
theorem val_of {f : Nat → Int} {xs : List Int} {c s : Nat} {d : Int} (h0 : ∀ j, 0 ≤ f j) (up : ∀ j, f j ≤ f (j + 1)) (hs : 1 ≤ s) (per : ∀ j, c ≤ j → f (j + s) = f j + d)
    (hx : xs.length = c + s) (hf : ∀ k : Nat, k < c + s → gI xs k = f k) (zc : c ≤ 50000) (zs : s ≤ 50000) (zd : d < 1152921504606846976) :
    Val (xs.take c) (xs.drop c) d ∧ xs.drop c ≠ [] ∧ ∀ j, fV (xs.take c) (xs.drop c) d j = f j := by
  have e1 : (xs.take c).length = c := by rw [List.length_take]; omega
  have e2 : (xs.drop c).length = s := by rw [List.length_drop]; omega
  have g1 : ∀ k : Nat, k < c → gI (xs.take c) k = f k := fun k hk => by rw [gI_take hk, hf k (by omega)]
  have g2 : ∀ k : Nat, k < s → gI (xs.drop c) k = f (c + k) := fun k hk => by rw [gI_drop, hf _ (by omega)]
  have ps : ∀ n ∈ xs, 0 ≤ n := fun n hn => by
    obtain ⟨k, hk, rfl⟩ := List.getElem_of_mem hn
    have := hf k (by omega)
    unfold gI at this
    rw [Int.toNat_natCast, List.getD_eq_getElem?_getD, List.getElem?_eq_getElem hk] at this
    have e : xs[k] = f k := this
    rw [e]
    exact h0 k
  have p1 : allPos (xs.take c) := fun n hn => ps n (List.mem_of_mem_take hn)
  have p2 : allPos (xs.drop c) := fun n hn => ps n (List.mem_of_mem_drop hn)
  generalize xs.take c = h at *
  generalize xs.drop c = l at *
  have hl : l ≠ [] := fun e => by rw [e] at e2; simp at e2; omega
  have d0 : 0 ≤ d := by
    have a := per c (Nat.le_refl _)
    have mono : ∀ k, f c ≤ f (c + k) := fun k => by
      induction k with
      | zero => exact Int.le_refl _
      | succ k ih => exact Int.le_trans ih (up (c + k))
    have := mono s
    omega
  refine ⟨⟨p1, p2, fun i hi => ?_, fun i hi => ?_, d0, fun e => absurd e hl, fun hne _ => ?_, fun _ => ?_, ⟨by omega, zd, by omega, by omega⟩⟩, hl, fun j => ?_⟩
  · rw [g1 i (by omega), show (i : Int) + 1 = ((i + 1 : Nat) : Int) by omega, g1 (i + 1) (by omega)]
    exact up i
  · rw [g2 i (by omega), show (i : Int) + 1 = ((i + 1 : Nat) : Int) by omega, g2 (i + 1) (by omega)]
    exact up (c + i)
  · have hp : 0 < h.length := List.length_pos_iff.mpr hne
    rw [e1, show (c : Int) - 1 = ((c - 1 : Nat) : Int) by omega, g1 _ (by omega)]
    have q := g2 0 hs
    rw [show (0 : Int) = ((0 : Nat) : Int) from rfl, q]
    have := up (c - 1)
    rwa [show c - 1 + 1 = c + 0 by omega] at this
  · rw [e2, show (s : Int) - 1 = ((s - 1 : Nat) : Int) by omega, g2 _ (by omega)]
    have q := g2 0 hs
    rw [show (0 : Int) = ((0 : Nat) : Int) from rfl, q]
    have u := up (c + (s - 1))
    rw [show c + (s - 1) + 1 = c + 0 + s by omega, per (c + 0) (by omega)] at u
    exact u
  · by_cases hj : j < c
    · rw [fV_head (by omega), g1 j hj]
    · rw [fV_loop (by omega), e1]
      have pn : ∀ z k, f (c + k + s * z) = f (c + k) + d * z := fun z k => by
        induction z with
        | zero => simp
        | succ z ih =>
          rw [Nat.mul_succ, show c + k + (s * z + s) = (c + k + s * z) + s by omega, per _ (by omega), ih, Int.natCast_add, Int.mul_add]
          omega
      have P := (extL_per (r := d) hl).mulN ((j - c) / s) ((((j - c) % s : Nat)) : Int)
      have hm : (j - c) % s + s * ((j - c) / s) = j - c := Nat.mod_add_div ..
      have hlt : (j - c) % s < s := Nat.mod_lt _ hs
      rw [e2, extL_small (by omega), g2 _ hlt, ← Int.natCast_mul, ← Int.natCast_add, hm] at P
      rw [show (j : Int) - c = ((j - c : Nat) : Int) by omega, P, ← pn]
      congr 1
      omega
/-- the value behind j others, or none -/
def TV (h l : List Int) (r : Int) (j : Nat) : Option Int := if l = [] then h[j]? else some (fV h l r j)
theorem gI_get {h : List Int} {j : Nat} (c : j < h.length) : h[j]? = some (gI h j) := by
  unfold gI
  rw [Int.toNat_natCast, List.getD_eq_getElem?_getD, List.getElem?_eq_getElem c]
  rfl
theorem vat_TV {h l : List Int} {r : Int} (j : Nat) : vat h l r ((j : Int) + 1) = TV h l r j := by
  unfold TV
  by_cases hl : l = []
  · subst hl
    rw [if_pos rfl]
    unfold vat
    rw [if_neg (by omega)]
    by_cases c : j < h.length
    · rw [if_pos (by omega), gI_get c, show (j : Int) + 1 - 1 = j by omega]
    · rw [if_neg (by omega), if_pos rfl, List.getElem?_eq_none (by omega)]
  · rw [if_neg hl, vat_fV hl]
theorem plainF_nil {h : List Int} {r : Int} : plainF h [] r = (h, [], 0) := by
  unfold plainF
  rw [if_pos rfl]
/-- the plain form is a table with the same values, and stays -/
theorem plainF_val {h l : List Int} {r : Int} (V : Val h l r) : Val (plainF h l r).1 (plainF h l r).2.1 (plainF h l r).2.2 ∧ (∀ j, TV (plainF h l r).1 (plainF h l r).2.1 (plainF h l r).2.2 j = TV h l r j) ∧
    plainF (plainF h l r).1 (plainF h l r).2.1 (plainF h l r).2.2 = plainF h l r ∧ (plainF h l r).1.length ≤ h.length ∧
    (l ≠ [] → (plainF h l r).2.1 ≠ [] ∧ ∃ q : Nat, l.length = (plainF h l r).2.1.length * q ∧ r = (plainF h l r).2.2 * q) := by
  by_cases hl : l = []
  · subst hl
    have r0 := V.e0 rfl
    subst r0
    rw [plainF_nil]
    exact ⟨V, fun j => rfl, plainF_nil, Nat.le_refl _, fun e => absurd rfl e⟩
  · obtain ⟨c, s, hc, hs, A⟩ := plainF_at (h := h) (r := r) hl
    obtain ⟨z1, z2, z3, z4⟩ := V.sm
    have l0 : 0 < l.length := List.length_pos_iff.mpr hl
    have fr : ∀ j, c ≤ j → fV h l r (j + s) = fV h l r j + ((fun i => extL l r (i - h.length)) s - (fun i => extL l r (i - h.length)) 0) := fun j hj => by
      have a := A.eq (j + s) (by omega)
      have b := A.eq j hj
      have p := A.per (j : Int)
      rw [Int.natCast_add] at a
      rw [a, b]
      exact p
    have hG : Per (fun i => extL l r (i - h.length)) l.length r := fun i => by
      have := extL_per (r := r) hl (i - h.length)
      show extL l r (i + l.length - h.length) = _
      rw [show i + (l.length : Int) - h.length = i - h.length + l.length by omega, this]
    obtain ⟨k1, k2⟩ := per_dvd A.s1 A.per A.min hG
    generalize hd : ((fun i => extL l r (i - h.length)) s - (fun i => extL l r (i - h.length)) 0) = d at *
    have d0 : 0 ≤ d := by
      have mono : ∀ k, fV h l r c ≤ fV h l r (c + k) := fun k => by
        induction k with
        | zero => exact Int.le_refl _
        | succ k ih => exact Int.le_trans ih (fV_up V hl (c + k))
      have a := mono s
      have b := fr c (Nat.le_refl _)
      omega
    have q1 : 1 ≤ l.length / s := by
      rcases Nat.eq_zero_or_pos (l.length / s) with e | e
      · rw [e, Nat.mul_zero] at k1; omega
      · exact e
    have dr : d ≤ r := by
      have := Int.mul_le_mul_of_nonneg_left (show (1 : Int) ≤ ((l.length / s : Nat) : Int) by omega) d0
      rw [Int.mul_one] at this
      exact Int.le_trans this (Int.le_of_eq k2.symm)
    have B := val_of (f := fV h l r) (xs := (List.range (c + s)).map (fV h l r)) (c := c) (s := s) (d := d) (fV_nn V) (fV_up V hl) A.s1 fr (by rw [List.length_map, List.length_range]) (fun k hk => gI_map_range hk) (by omega) (by omega) (by omega)
    have t1 : ((List.range (c + s)).map (fV h l r)).take c = (List.range c).map (fV h l r) := by
      rw [← List.map_take, List.take_range]
      congr 2
      omega
    have t2 : ((List.range (c + s)).map (fV h l r)).drop c = (List.range s).map fun i : Nat => (fun i => extL l r (i - h.length)) ((c + i : Nat) : Int) := by
      refine ext_gI (by rw [List.length_drop, List.length_map, List.length_map, List.length_range, List.length_range]; omega) fun k hk => ?_
      rw [List.length_drop, List.length_map, List.length_range] at hk
      rw [tell_gI (by omega), gI_map_range (by omega), A.eq _ (by omega)]
    rw [t1, t2] at B
    have pf := A.pf
    rw [hd] at pf
    obtain ⟨B1, B2, B3⟩ := B
    have e1 : (plainF h l r).1 = (List.range c).map (fV h l r) := by rw [pf]
    have e2 : (plainF h l r).2.1 = (List.range s).map fun i : Nat => (fun i => extL l r (i - h.length)) ((c + i : Nat) : Int) := by rw [pf]
    have e3 : (plainF h l r).2.2 = d := by rw [pf]
    rw [e1, e2, e3]
    refine ⟨B1, fun j => ?_, ?_, by rw [List.length_map, List.length_range]; exact hc, fun _ => ⟨B2, l.length / s, by rw [List.length_map, List.length_range]; exact k1, k2⟩⟩
    · unfold TV
      rw [if_neg B2, if_neg hl, B3]
    · exact plain_ext B2 hl B3
/-- the plain form with these values -/
structure Pl (f : Nat → Option Int) (h l : List Int) (r : Int) : Prop where
  val : Val h l r
  pf : plainF h l r = (h, l, r)
  tv : ∀ j, TV h l r j = f j
theorem Pl.of {h l : List Int} {r : Int} (V : Val h l r) : Pl (TV h l r) (plainF h l r).1 (plainF h l r).2.1 (plainF h l r).2.2 := by
  obtain ⟨a, b, c, _⟩ := plainF_val V
  exact ⟨a, c, b⟩
theorem Pl.uniq {f : Nat → Option Int} {h l h' l' : List Int} {r r' : Int} (a : Pl f h l r) (b : Pl f h' l' r') : h = h' ∧ l = l' ∧ r = r' := by
  have e : ∀ j, TV h l r j = TV h' l' r' j := fun j => (a.tv j).trans (b.tv j).symm
  have nn : ∀ {h l h' l' : List Int} {r r' : Int}, (∀ j, TV h l r j = TV h' l' r' j) → l = [] → l' ≠ [] → False := fun {h l h' l' r r'} e c d => by
    have := e h.length
    unfold TV at this
    rw [if_pos c, if_neg d, List.getElem?_eq_none (Nat.le_refl _)] at this
    cases this
  by_cases c : l = []
  · by_cases d : l' = []
    · subst c; subst d
      refine ⟨List.ext_getElem? fun i => ?_, rfl, (a.val.e0 rfl).trans (b.val.e0 rfl).symm⟩
      have := e i
      unfold TV at this
      rwa [if_pos rfl, if_pos rfl] at this
    · exact (nn e c d).elim
  · by_cases d : l' = []
    · exact (nn (fun j => (e j).symm) d c).elim
    · have := plain_ext c d fun j => by
        have := e j
        unfold TV at this
        rw [if_neg c, if_neg d] at this
        exact Option.some.inj this
      rw [a.pf, b.pf] at this
      cases this
      exact ⟨rfl, rfl, rfl⟩

end
section
local macro_rules | `(tactic| walk_at "hp") => `(tactic| first
  | with_reducible assumption
  | (with_reducible refine' ex_tab ?a ?b; (case a => with_reducible assumption); (case b => walk_at "hp")))
local macro_rules | `(tactic| walk_at "w2") => `(tactic| first
  | ((with_reducible refine' r_tabHead ?a ?b ?q); (case a => with_reducible assumption); (case b => walk_at "hp"))
  | ((with_reducible refine' r_tabLoop ?a ?b ?q); (case a => with_reducible assumption); (case b => walk_at "hp"))
  | ((with_reducible refine' r_tabRise ?a ?b ?q); (case a => with_reducible assumption); (case b => walk_at "hp")))
abbrev N__law_same : List Str := ["table", "raw", "one"]
theorem sc__law_same : FnScope N__law_same ["table", "raw"] (defScope s__law_same) := ⟨rfl, rfl, rfl, by decide +kernel, rfl, by decide +kernel, by decide +kernel⟩
theorem ok__law_same {P : Program} {w : World} {K : PySem.W.Frag} {mg : Str → Option Value} {base : Heap} (E : Env P K mg) : Fn P w K mg base CX0 3 "_law_same" (sp2 fun a b H Q _ => ∃ x h l r, a = .ref x ∧ TabAt K H x h l r ∧ Dp K H b (dRaw h l r) ∧ allPos h ∧ allPos l ∧ 0 ≤ r ∧ h.length ≤ 50000 ∧ l.length ≤ 50000 ∧ RetD K (.bool true) H Q) := by
  obtain ⟨fd, F⟩ := E.dd__law_same
  refine Fn.mk0 F E.g__law_same sc__law_same sp2_len (fun _ _ _ _ _ _ us hl => match us, hl with | [_, _], _ => rfl) (fun cdv A outer s H vs Q X hr h => ?_)
  have nd := sc__law_same.nd
  obtain ⟨v0, v1, rfl, h⟩ := h
  refine ⟨_, (pss_cons (ps_if (PW.pt (pw_or (pt_not (kTru K (pe_callB (kIsi K) (by rfl) E.f_isinstance (by decide +kernel) (pa_cons (pv 0) (pa_cons (pe_glob (v := .ref (He.ga K "Table")) (by rfl) E.g_Table rfl) pa_nil))) (by intro _; rfl))) (pw_or (pt_cmpR (kNe K hr) (kFld K (pv 0) rfl) (pe_ix (kIx K) (pv 1) (pe_int) (fun _ _ => rfl)) (nomark _)) (pw_or1 (pt_cmpR (kNe K hr) (kFld K (pv 0) rfl) (pe_ix (kIx K) (pv 1) (pe_int) (fun _ _ => rfl)) (nomark _))))))
   (pss_one (ps_ret (pe_bl)))
   pss_nil)
  (pss_cons (ps_if (PW.pt (pw_or (pt_not (kTru K (pe_callB (kIsi K) (by rfl) E.f_isinstance (by decide +kernel) (pa_cons (kFld K (pv 0) rfl) (pa_cons (pe_bltn (v := .ty "tuple") (by rfl) E.f_tuple (by decide +kernel) rfl) pa_nil))) (by intro _; rfl))) (pw_or1 (pt_not (kTru K (pe_callB (kIsi K) (by rfl) E.f_isinstance (by decide +kernel) (pa_cons (kFld K (pv 0) rfl) (pa_cons (pe_bltn (v := .ty "tuple") (by rfl) E.f_tuple (by decide +kernel) rfl) pa_nil))) (by intro _; rfl))))))
   (pss_one (ps_ret (pe_bl)))
   pss_nil)
  (pss_cons (ps_if (pt_not (kTru K (pe_callB (kAll K rfl) (by rfl) E.f_all (by decide +kernel) (pa_cons (pe_lc (own := [("one", 2)]) (g := gName 2) (tt := tYes) rfl nd (kSeq K (pe_op (kAdd K) (kFld K (pv 0) rfl) (kFld K (pv 0) rfl))) (blkOk_by (N := N__law_same) (sc := defScope s__law_same) (by decide +kernel)) (fun _ _ _ _ _ => pg_name (i := 2) nd rfl (Or.inl rfl)) (fun _ _ _ _ _ => pts_nil) (fun _ _ _ _ _ => pc (ok__law_is_count E) hr (by decide) pass0 rfl (pa_cons (pv 2) pa_nil))) pa_nil)) (by intro _; rfl)))
   (pss_one (ps_ret (pe_bl)))
   pss_nil)
  (pss_one (ps_ret (pe_and (pc (ok__law_is_count E) hr (by decide) pass0 rfl (pa_cons (kFld K (pv 0) rfl) pa_nil)) (pe_one (pe_cmpR (kEq K hr) (kFld K (pv 0) rfl) (pe_ix (kIx K) (pv 1) (pe_int) (fun _ _ => rfl)) (nomark _))))))))), ?_⟩
  change (_ : TS) _ [some v0, some v1, none] H
  try dsimp only [cxOf, Cx.nox, Cx.blk]
  obtain ⟨x, h, l, r, rfl, t, hD, p1, p2, p3, z1, z2, k⟩ := h
  obtain ⟨a, th, tl, rfl, s1, s2, s3⟩ := dp_raw hD
  walk_at "w"
  refine r_isiC (insB_ok E.ins_Table E.c_Table (tab_mine t).choose_spec.choose_spec) E.kit_Table_self ?_
  walk_at "w"
  intro th1 q1
  walk_at "w"
  intro tl1 q2
  walk_at "w"
  intro th2 q3
  walk_at "w"
  intro tl2 q4
  walk_at "w"
  refine i_seqT ?_
  walk_at "w"
  intro th3 q5
  walk_at "w"
  intro tl3 q6
  walk_at "w"
  refine r_addT q5 q6 (by walk_at "sz") fun p5 H5 e5 h5 => ?_
  walk_at "w"
  rw [show vI h ++ vI l = vI (h ++ l) from List.map_append.symm] at h5
  have hp : ∀ n ∈ h ++ l, 0 ≤ n := fun n hn => (List.mem_append.mp hn).elim (p1 n) (p2 n)
  refine lcJ_tup (v := fun _ => .bl true) h5 (by rw [List.length_map, List.length_append]; omega) (fun x => [_, _, some x]) (fun x => rfl) (fun x => rfl) (fun x H2 Q' e2 hx hq => ?_) (fun p H2 n2 e2 hp => ?_)
  · walk_at "w"
    obtain ⟨n, hn, rfl⟩ := List.mem_map.mp hx
    refine ⟨.int n, .int n, fun v H3 e3 d3 => ?_⟩
    rw [show dIsCount (.int n) = true from decide_eq_true (hp n hn)] at d3
    obtain rfl := dp_toBl d3
    exact hq H3 e3
  · walk_at "w"
    refine r_all (bs := (vI (h ++ l)).map fun _ => true) (sq_of hp) (List.map_map ..).symm ?_
    have : ((vI (h ++ l)).map fun _ => true).all id = true := by simp
    rw [this]
    walk_at "w"
    refine ⟨.int r, .int r, fun v H3 e3 d3 => ?_⟩
    rw [show dIsCount (.int r) = true from decide_eq_true p3] at d3
    obtain rfl := dp_toBl d3
    walk_at "w"
    rw [decide_eq_true (rfl : r = r)]
    exact k.bl (by walk_at "ex")

end
section
/-- small letters -/
def lwr (c : Nat) : Bool := decide (97 ≤ c) && decide (c ≤ 122)
def wordD (lo hi : Int) : PyData → Bool
  | .str w => (decide (lo ≤ w.length) && decide ((w.length : Int) ≤ hi)) && w.cps.toList.all lwr
  | _ => false
theorem wordD_str {lo hi : Int} {w : Str} : wordD lo hi (.str w) = ((decide (lo ≤ w.length) && decide ((w.length : Int) ≤ hi)) && w.cps.toList.all lwr) := rfl
theorem w_contn {D : Ends} {σ : L2.St} {H : Hp} (h : D.ct σ H) : tCont D σ H := h
theorem r_eqSS {K : PySem.W.Frag} {x y : Str} {H : Hp} {Q : VK} (h : Q (.bl (decide (x = y))) H) : rEqU K (.str x) (.str y) H Q := .inl ⟨rfl, by
  rw [show decide (V.str x = V.str y) = decide (x = y) from decide_eq_decide.mpr ⟨V.str.inj, congrArg _⟩]
  exact h⟩
theorem le_a {c : Nat} : (!decide ((⟨#[c]⟩ : Str).cps.toList < ("a" : Str).cps.toList)) = decide (97 ≤ c) := by
  rw [show ("a" : Str).cps.toList = [97] by decide +kernel]
  show (!decide ([c] < [97])) = _
  by_cases h : 97 ≤ c
  · rw [decide_eq_true h, decide_eq_false]
    · rfl
    · intro q
      rcases List.cons_lt_cons_iff.mp q with q | ⟨_, q⟩
      · omega
      · cases q
  · rw [decide_eq_false h, decide_eq_true]
    · rfl
    · exact List.cons_lt_cons_iff.mpr (.inl (by omega))
theorem le_z {c : Nat} : (!decide (("z" : Str).cps.toList < (⟨#[c]⟩ : Str).cps.toList)) = decide (c ≤ 122) := by
  rw [show ("z" : Str).cps.toList = [122] by decide +kernel]
  show (!decide ([122] < [c])) = _
  by_cases h : c ≤ 122
  · rw [decide_eq_true h, decide_eq_false]
    · rfl
    · intro q
      rcases List.cons_lt_cons_iff.mp q with q | ⟨_, q⟩
      · omega
      · cases q
  · rw [decide_eq_false h, decide_eq_true]
    · rfl
    · exact List.cons_lt_cons_iff.mpr (.inl (by omega))
/-- a for over enumerate(text) -/
theorem for_enumS {x : Str} {g : TG} {tb : TS} {D : Ends} {σ : L2.St} {H : Hp} (Pv : Nat → L2.St → Hp → Prop) (h0 : Pv 0 σ H)
    (hs : ∀ i c σ H T, x.cps.toList[i]? = some c → Pv i σ H → H T = none → g (.ref T) σ (upd H T (.tup [.int (i : Nat), .str ⟨#[c]⟩])) fun σ2 H2 => tb { D with nx := Pv (i + 1), ct := Pv (i + 1), bk := D.nx } σ2 H2) (hd : ∀ σ H, Pv x.cps.toList.length σ H → D.nx σ H) : ForJ (Ites x) g tb D σ H := by
  have hsz : x.cps.toList.length = x.cps.size := Array.length_toList
  refine for_it (J := Ites x) (n := x.cps.size) (G := fun _ => True) (Y := fun i H v H' => ∃ T c, v = .ref T ∧ H T = none ∧ H' = upd H T (.tup [.int (i : Nat), .str ⟨#[c]⟩]) ∧ x.cps[i]? = some c) ⟨fun _ _ hi _ => hi, fun _ _ => Nat.le_refl _, fun _ _ _ _ _ _ y => y⟩ Pv h0 (fun _ _ _ _ _ => trivial) ?_ ?_
  · rintro i v σ H H' hi p ⟨T, c, rfl, hT, rfl, hc⟩
    exact hs i c σ H T (by rw [Array.getElem?_toList]; exact hc) p hT
  · intro σ H p
    exact hd σ H (by rw [hsz]; exact p)
theorem i_enumS {ta : TA} {σ : L2.St} {H : Hp} {R : It → Hp → Prop} (h : ta σ H fun vs H1 => ∃ x, vs = [.str x] ∧ R (Ites x) H1) : iEnumS ta σ H R := h
abbrev N_is_word : List Str := ["thing", "least", "most", "digits", "place", "sign"]
theorem sc_is_word : FnScope N_is_word ["thing", "least", "most", "digits"] (defScope s_is_word) := ⟨rfl, rfl, rfl, by decide +kernel, rfl, by decide +kernel, by decide +kernel⟩
theorem fx_is_word {P : Program} {w : World} {K : PySem.W.Frag} {mg : Str → Option Value} {base : Heap} (E : Env P K mg) : ∃ fd, FunD K "is_word" "is_word" (defArgs s_is_word) (defBody s_is_word) (defScope s_is_word) (d_is_word.dvs K) [] (d_is_word.adr K) fd ∧ FnOk P w K mg base CX0 1 (d_is_word.adr K) fd ["thing", "least", "most", "digits"] (sp4 fun v a b c H Q _ => ∃ (d : PyData) (lo hi : Int), Dp K H v d ∧ a = .int lo ∧ b = .int hi ∧ c = .bl false ∧ hi ≤ 100 ∧ (∀ w, d = .str w → w.length ≤ 100000) ∧ ∀ H', Ex H H' → Q (.bl (wordD lo hi d)) H') := by
  obtain ⟨fd, F⟩ := E.dd_is_word
  refine ⟨fd, F, fnok0 F sc_is_word sp4_len (fun cdv A outer s H vs Q X hr h => ?_)⟩
  have nd := sc_is_word.nd
  obtain ⟨v0, v1, v2, v3, rfl, h⟩ := h
  refine ⟨_, (pss_cons (ps_if (PW.pt (pw_or (pt_not (kTru K (pe_callB (kIsi K) (by rfl) E.f_isinstance (by decide +kernel) (pa_cons (pv 0) (pa_cons (pe_bltn (v := .ty "str") (by rfl) E.f_str (by decide +kernel) rfl) pa_nil))) (by intro _; rfl))) (pw_or1 (pt_not (pt_chain xLeS xLeS (pv 1) (pe_callB xLenS (by rfl) E.f_len (by decide +kernel) (pa_cons (pv 0) pa_nil)) (pv 2))))))
   (pss_one (ps_ret (pe_bl)))
   pss_nil)
  (pss_cons (ps_for PassesOwn.never rfl (pi_enumS (by rfl) E.f_enumerate (pa_cons (pv 0) pa_nil)) (kGtup K rfl (pgs_cons (pg_name (i := 4) nd rfl (.inl rfl)) (pgs_cons (pg_name (i := 5) nd rfl (.inl rfl)) (pgs_nil))))
   (pss_cons (ps_if (pt_chain xLeS xLeS (pe_str) (pv 5) (pe_str))
   (pss_one (ps_continue))
   pss_nil)
  (pss_one (ps_if (PW.pt (pw_or (pt_not (kTru K (pv 3) (by intro _; rfl))) (pw_or (pt_cmpR (kEq K hr) (pv 4) (pe_int) (nomark _)) (pw_or1 (pt_not (pt_chain xLeS xLeS (pe_str) (pv 5) (pe_str)))))))
   (pss_one (ps_ret (pe_bl)))
   pss_nil))))
  (pss_one (ps_ret (pe_bl))))), ?_⟩
  change (_ : TS) _ [some v0, some v1, some v2, some v3, none, none] H
  try dsimp only [cxOf, Cx.nox, Cx.blk]
  obtain ⟨d, lo, hi, dv, rfl, rfl, rfl, hh, zw, k⟩ := h
  cases dv with
  | str w =>
    have wl := zw w rfl
    have lz : w.length ≤ sizeLine := sz_of (by omega)
    walk_at "w"
    refine r_lenS lz ?_
    walk_at "w"
    refine r_leUI ?_
    by_cases c1 : lo ≤ w.length
    · walk_at "w"
      refine r_leUI ?_
      by_cases c2 : (w.length : Int) ≤ hi
      · walk_at "w"
        refine i_enumS ?_
        walk_at "w"
        refine ⟨w, rfl, ?_⟩
        refine for_enumS (Pv := fun i σ' H' => ∃ x y : Option V, σ' = [some (.str w), some (.int lo), some (.int hi), some (.bl false), x, y] ∧ Ex H H' ∧ ∀ j, j < i → ∀ c, w.cps.toList[j]? = some c → lwr c = true) ⟨_, _, rfl, Ex.refl _, fun j hj => by omega⟩ ?_ ?_
        · rintro i c σ' H' T hc ⟨x, y, rfl, e, hw⟩ hT
          have e' : Ex H (upd H' T (.tup [.int (i : Nat), .str ⟨#[c]⟩])) := e.trans (Ex.new hT)
          have st : SqT K (upd H' T (.tup [.int (i : Nat), .str ⟨#[c]⟩])) T [.int (i : Nat), .str ⟨#[c]⟩] := st_of upd_same
          walk_at "w"
          refine r_leUS ?_
          rw [le_a]
          have off : lwr c = false → Q (.bl false) (upd H' T (.tup [.int (i : Nat), .str ⟨#[c]⟩])) := fun hl => by
            have := k _ e'
            have e2 : wordD lo hi (.str w) = false := by
              rw [wordD_str]
              rw [Bool.and_eq_false_iff]
              right
              rw [Bool.eq_false_iff]
              intro h
              rw [List.all_eq_true.mp h c (List.mem_of_getElem? hc)] at hl
              cases hl
            rwa [e2] at this
          by_cases c3 : 97 ≤ c
          · walk_at "w"
            refine r_leUS ?_
            rw [le_z]
            by_cases c4 : c ≤ 122
            · walk_at "w"
              refine w_contn ?_
              refine ⟨_, _, rfl, e', fun j hj c' hc' => ?_⟩
              by_cases q : j = i
              · subst q
                rw [hc] at hc'
                cases hc'
                unfold lwr
                rw [decide_eq_true c3, decide_eq_true c4]
                rfl
              · exact hw j (by omega) c' hc'
            · walk_at "w"
              exact off (by unfold lwr; rw [decide_eq_false c4, Bool.and_false])
          · walk_at "w"
            exact off (by unfold lwr; rw [decide_eq_false c3, Bool.false_and])
        · rintro σ' H' ⟨x, y, rfl, e, hw⟩
          walk_at "w"
          have := k _ e
          have e2 : wordD lo hi (.str w) = true := by
            rw [wordD_str]
            rw [decide_eq_true c1, decide_eq_true c2, Bool.true_and, Bool.true_and, List.all_eq_true]
            intro c hc
            obtain ⟨j, hj, rfl⟩ := List.getElem_of_mem hc
            exact hw j hj _ (List.getElem?_eq_getElem hj)
          rwa [e2] at this
      · walk_at "w"
        have := k _ (Ex.refl _)
        have e2 : wordD lo hi (.str w) = false := by rw [wordD_str, decide_eq_false c2, Bool.and_false, Bool.false_and]
        rwa [e2] at this
    · walk_at "w"
      have := k _ (Ex.refl _)
      have e2 : wordD lo hi (.str w) = false := by rw [wordD_str, decide_eq_false c1, Bool.false_and, Bool.false_and]
      rwa [e2] at this
  | non => walk_at "w"; exact k _ (Ex.refl _)
  | bl b => walk_at "w"; exact k _ (Ex.refl _)
  | int i => walk_at "w"; exact k _ (Ex.refl _)
  | lst s q => walk_at "w"; exact k _ (Ex.refl _)
  | tup s q => walk_at "w"; exact k _ (Ex.refl _)
theorem ok_is_word3 {P : Program} {w : World} {K : PySem.W.Frag} {mg : Str → Option Value} {base : Heap} (E : Env P K mg) : FnD P w K mg base CX0 1 "is_word" (sp4 fun v a b c H Q _ => ∃ (d : PyData) (lo hi : Int), Dp K H v d ∧ a = .int lo ∧ b = .int hi ∧ c = .bl false ∧ hi ≤ 100 ∧ (∀ w, d = .str w → w.length ≤ 100000) ∧ ∀ H', Ex H H' → Q (.bl (wordD lo hi d)) H') [.bl false] := by
  obtain ⟨fd, F, k⟩ := fx_is_word (P := P) (w := w) (base := base) E
  obtain ⟨ds, hd, hb⟩ := F.binds1 (ps := ["thing", "least", "most", "digits"]) 3 0 (List.cons_ne_nil _ _) rfl (fun T kV doc pm an cdv ct us its hu hi => match us, its, hu, hi with | [_, _, _], [_], _, _ => ⟨_, rfl, rfl⟩)
  exact ⟨_, fd, _, ds, k, E.g_is_word, F.kp, hb, hd⟩


end
section
abbrev N_WrongWord_init : List Str := ["self", "word", "__class__"]
abbrev rest_WrongWord_init : List Stmt := (defBody s_WrongWord_init).drop 1
theorem sc_WrongWord_init : NdefX.NScope N_WrongWord_init ["self", "word"] ["__class__"] (defScope s_WrongWord_init) := NdefX.nscope_by (by decide +kernel)
theorem fx_WrongWord_init {P : Program} {w : World} {K : PySem.W.Frag} {mg : Str → Option Value} {base : Heap} (E : Env P K mg) : ∃ fd, FunS K "__init__" "WrongWord.__init__" (defArgs s_WrongWord_init) (defBody s_WrongWord_init) (defScope s_WrongWord_init) (d_WrongWord_init.adr K) fd (cellOf K (d_WrongWord_init.adr K)) (codeOf K (d_WrongWord_init.adr K)) ∧ FnOk P w K mg base CX0 1 (d_WrongWord_init.adr K) fd ["self", "word"] (spXS K (He.ga K "WrongWord") "word") := by
  obtain ⟨fd, F⟩ := E.dd_WrongWord_init
  refine ⟨fd, F, XS.fnsupx (rest := rest_WrongWord_init) (k := 0) F E.supx_WrongWord rfl sc_WrongWord_init (by decide +kernel) rfl rfl rfl sp2_len (fun A outer s H vs Q X hr h => ?_)⟩
  have nd := sc_WrongWord_init.nd
  obtain ⟨v0, v1, rfl, x, C, w, rfl, rfl, hw, hx, T, U, hf, k⟩ := h
  have js_len : ∀ {y : Str}, y.length ≤ 100000 → y.length ≤ sizeLine := fun q => sz_of q
  refine ⟨_, _, x, C, pe_joined (.cons pe_str (.cons (pe_fmt (pv 1)) (.cons pe_str (.nil)))), pss_one (ps_ost (pv 0) (pv 1)), rfl, hx, T, U, ?_⟩
  have lc0 : ("the " : Str).length = 4 := by decide +kernel
  have lc1 : (" does not have the form that is asked for" : Str).length = 41 := by decide +kernel
  have lce : (Str.empty).length = 0 := by decide +kernel
  refine w_js (w_c ⟨_, rfl, ?_, ?_⟩)
  · exact js_len (by simp only [sapp_len, lce, lc0, lc1]; omega)
  refine w_js (w_fmtV rfl (js_len (by omega)) ⟨_, rfl, ?_, ?_⟩)
  · exact js_len (by simp only [sapp_len, lce, lc0, lc1]; omega)
  refine w_js (w_c ⟨_, rfl, ?_, ?_⟩)
  · exact js_len (by simp only [sapp_len, lce, lc0, lc1]; omega)
  refine w_js0 ⟨rfl, hx, ?_⟩
  exact ⟨.str w, rfl, .ref x, rfl, x, C, rfl, T, hf, .inl ⟨hx, fun dx n1 n2 => k dx n1 n2⟩⟩
theorem ok_X_BadRoster {P : Program} {w : World} {K : PySem.W.Frag} {mg : Str → Option Value} {base : Heap} (E : Env P K mg) : Xcl P w K mg base 1 "BadRoster" (He.ga K "BadRoster") (spXS K (He.ga K "WrongWord") "word") := by
  obtain ⟨fd, F, k⟩ := fx_WrongWord_init (P := P) (w := w) (base := base) E
  exact ⟨_, fd, _, E.ox_BadRoster, E.xi_BadRoster, E.xt_BadRoster, k, E.g_BadRoster, F.bindsN (fun _ _ _ _ _ _ us hl => match us, hl with | [_, _], _ => rfl)⟩

end
section
/-- whether a value is a row's name -/
def wordV : V → Bool
  | .str w => (decide (1 ≤ (w.length : Int)) && decide ((w.length : Int) ≤ 8)) && w.cps.toList.all lwr
  | _ => false
theorem wordV_D {K : PySem.W.Frag} {H : Hp} {v : V} {d : PyData} (h : Dp K H v d) : wordD 1 8 d = wordV v := by cases h <;> rfl
/-- data whose own text is no long one -/
def SmS (d : PyData) : Prop := ∀ w, d = .str w → w.length ≤ 100000
abbrev N_is_row_name : List Str := ["thing"]
theorem sc_is_row_name : FnScope N_is_row_name ["thing"] (defScope s_is_row_name) := ⟨rfl, rfl, rfl, by decide +kernel, rfl, by decide +kernel, by decide +kernel⟩
theorem ok_is_row_name {P : Program} {w : World} {K : PySem.W.Frag} {mg : Str → Option Value} {base : Heap} (E : Env P K mg) : Fn P w K mg base CX0 2 "is_row_name" (sp1 fun v H Q _ => ∃ d, Dp K H v d ∧ SmS d ∧ ∀ H', Ex H H' → Q (.bl (wordV v)) H') := by
  obtain ⟨fd, F⟩ := E.dd_is_row_name
  refine Fn.mk0 F E.g_is_row_name sc_is_row_name sp1_len (fun _ _ _ _ _ _ us hl => match us, hl with | [_], _ => rfl) (fun cdv A outer s H vs Q X hr h => ?_)
  have nd := sc_is_row_name.nd
  obtain ⟨v0, rfl, h⟩ := h
  refine ⟨_, (pss_one (ps_ret (pcD (ok_is_word3 E) hr (by decide) pass0 rfl (pa_cons (pv 0) (pa_cons (pe_int) (pa_cons (pe_int) pa_nil)))))), ?_⟩
  change (_ : TS) _ [some v0] H
  try dsimp only [cxOf, Cx.nox, Cx.blk]
  obtain ⟨d, hd, sm, k⟩ := h
  walk_at "w"
  refine w_callD ?_
  walk_at "w"
  refine ⟨_, _, _, _, rfl, d, 1, 8, hd, rfl, rfl, rfl, by decide, sm, fun H' e => ?_⟩
  rw [wordV_D hd]
  exact k _ e
/-- names, or no tuple or list of names -/
def NmL (K : PySem.W.Frag) (H : Hp) (v : V) (b : Bool) : Prop := (∃ a xs, v = .ref a ∧ (SqT K H a xs ∨ SqL K H a xs) ∧ xs.length ≤ 100000 ∧ (∀ x ∈ xs, ∃ d, Dp K H x d ∧ SmS d) ∧ b = xs.all wordV) ∨ (b = false ∧ ∃ d, DpX K H v d ∧ dIsSeq d = false)
theorem dpX_seqT {K : PySem.W.Frag} {H : Hp} : ∀ {xs : List V}, (∀ x ∈ xs, ∃ d, Dp K H x d ∧ SmS d) → ∃ ds, DpAll K H xs ds
  | [], _ => ⟨[], .nil⟩
  | x :: xs, h => by
    obtain ⟨d, hd, _⟩ := h x List.mem_cons_self
    obtain ⟨ds, hs⟩ := dpX_seqT fun y hy => h y (List.mem_cons_of_mem _ hy)
    exact ⟨d :: ds, .cons hd hs⟩
abbrev N_is_names : List Str := ["thing", "one"]
theorem sc_is_names : FnScope N_is_names ["thing"] (defScope s_is_names) := ⟨rfl, rfl, rfl, by decide +kernel, rfl, by decide +kernel, by decide +kernel⟩
theorem ok_is_names {P : Program} {w : World} {K : PySem.W.Frag} {mg : Str → Option Value} {base : Heap} (E : Env P K mg) : Fn P w K mg base CX0 3 "is_names" (sp1 fun v H Q _ => ∃ b, NmL K H v b ∧ ∀ H', Ex H H' → Q (.bl b) H') := by
  obtain ⟨fd, F⟩ := E.dd_is_names
  refine Fn.mk0 F E.g_is_names sc_is_names sp1_len (fun _ _ _ _ _ _ us hl => match us, hl with | [_], _ => rfl) (fun cdv A outer s H vs Q X hr h => ?_)
  have nd := sc_is_names.nd
  obtain ⟨v0, rfl, h⟩ := h
  refine ⟨_, (pss_one (ps_ret (pe_and (pc (ok_is_listed E) hr (by decide) pass0 rfl (pa_cons (pv 0) pa_nil)) (pe_one (pe_callB (kAll K rfl) (by rfl) E.f_all (by decide +kernel) (pa_cons (pe_lc (own := [("one", 1)]) (g := gName 1) (tt := tYes) rfl nd (kSeq K (pv 0)) (blkOk_by (N := N_is_names) (sc := defScope s_is_names) (by decide +kernel)) (fun _ _ _ _ _ => pg_name (i := 1) nd rfl (Or.inl rfl)) (fun _ _ _ _ _ => pts_nil) (fun _ _ _ _ _ => pc (ok_is_row_name E) hr (by decide) pass0 rfl (pa_cons (pv 1) pa_nil))) pa_nil)))))), ?_⟩
  change (_ : TS) _ [some v0, none] H
  try dsimp only [cxOf, Cx.nox, Cx.blk]
  obtain ⟨b, ⟨a, xs, rfl, hs, hz, hx, rfl⟩ | ⟨rfl, d, hd, hn⟩, k⟩ := h
  · obtain ⟨ds, hds⟩ := dpX_seqT hx
    have key : ∀ H1, Ex H H1 → ∀ (x : V) (H2 : Hp) (Q' : VK), Ex H1 H2 → x ∈ xs → (∀ H3, Ex H2 H3 → Q' (.bl (wordV x)) H3) → ∃ d, Dp K H2 x d ∧ SmS d ∧ ∀ H', Ex H2 H' → Q' (.bl (wordV x)) H' := fun H1 e1 x H2 Q' e2 hm hq => by
      obtain ⟨d, hd, sm⟩ := hx x hm
      exact ⟨d, dp_ex (e1.trans e2) hd, sm, hq⟩
    have fin : ∀ (p : Addr) (H2 : Hp), Ex H H2 → H2 p = some (.lst (xs.map fun x => V.bl (wordV x))) → rAll K [.ref p] H2 (fun v H => Q v H) := fun p H2 e2 hp => by
      refine r_all (bs := xs.map wordV) (sq_of hp) (by rw [List.map_map]; rfl) ?_
      rw [List.all_map, show (id ∘ wordV) = wordV from rfl]
      exact k _ e2
    rcases hs with s | s
    · walk_at "w"
      refine ⟨.tuple ds, .inl (.tup s hds), fun v H1 e1 q1 => ?_⟩
      rw [show dIsSeq (.tuple ds) = true from rfl] at q1
      obtain rfl := dp_toBl q1
      walk_at "w"
      refine i_seqT ?_
      walk_at "w"
      refine lcJ_tup (v := fun x => .bl (wordV x)) (ex_t e1 s) hz (fun x => [_, some x]) (fun x => rfl) (fun x => rfl) (fun x H2 Q' e2 hm hq => ?_) (fun p H2 n2 e2 hp => ?_)
      · walk_at "w"
        exact key H1 e1 x H2 Q' e2 hm hq
      · walk_at "w"
        exact fin p H2 (e1.trans e2) hp
    · walk_at "w"
      refine ⟨.list ds, .inl (.lst s hds), fun v H1 e1 q1 => ?_⟩
      rw [show dIsSeq (.list ds) = true from rfl] at q1
      obtain rfl := dp_toBl q1
      walk_at "w"
      refine i_seqL ?_
      walk_at "w"
      refine lcJ_list (v := fun x => .bl (wordV x)) (ex_l e1 s) hz (fun x => [_, some x]) (fun x => rfl) (fun x => rfl) (fun x H2 Q' e2 hm hq => ?_) (fun p H2 n2 e2 hp => ?_)
      · walk_at "w"
        exact key H1 e1 x H2 Q' e2 hm hq
      · walk_at "w"
        exact fin p H2 (e1.trans e2) hp
  · walk_at "w"
    refine ⟨d, hd, fun v H1 e1 q1 => ?_⟩
    rw [hn] at q1
    obtain rfl := dp_toBl q1
    walk_at "w"
    exact k _ e1

end
section
/-- one name more -/
def stp (r o : Str) (s : List Int × Int) (w : Str) : List Int × Int := (if w = r then s.1 ++ [s.2] else s.1, if w = o then s.2 + 1 else s.2)
/-- how often o stands ahead of each place of r, and how often it stands at all -/
def stn (r o : Str) (ws : List Str) : List Int × Int := ws.foldl (stp r o) ([], 0)
theorem stn_snoc (r o : Str) (ws : List Str) (w : Str) : stn r o (ws ++ [w]) = stp r o (stn r o ws) w := by
  unfold stn
  rw [List.foldl_append]
  rfl
theorem stn_len (r o : Str) (ws : List Str) : (stn r o ws).1.length ≤ ws.length := by
  unfold stn
  suffices h : ∀ (ws : List Str) (s : List Int × Int), (ws.foldl (stp r o) s).1.length ≤ s.1.length + ws.length by
    have := h ws ([], 0)
    simpa using this
  intro ws
  induction ws with
  | nil => exact fun s => Nat.le_refl _
  | cons w ws ih =>
    intro s
    rw [List.foldl_cons]
    have a := ih (stp r o s w)
    have b : (stp r o s w).1.length ≤ s.1.length + 1 := by
      unfold stp
      by_cases c : w = r
      · rw [if_pos c, List.length_append]; exact Nat.le_refl _
      · rw [if_neg c]; exact Nat.le_succ _
    rw [List.length_cons]
    omega
abbrev spStood (K : PySem.W.Frag) : Sp := sp3 fun a b c H Q _ => ∃ (p : Addr) (ws : List Str) (r o : Str), a = .ref p ∧ b = .str r ∧ c = .str o ∧ SqT K H p (ws.map V.str) ∧ ws.length ≤ 100000 ∧ ∀ q t H', Ex H H' → SqT K H' q [.ref t, .int (stn r o ws).2] → H t = none → H' t = some (.lst (vI (stn r o ws).1)) → Q (.ref q) H'
abbrev N__law_stood : List Str := ["names", "row", "other", "told", "count", "name"]
theorem sc__law_stood : FnScope N__law_stood ["names", "row", "other"] (defScope s__law_stood) := ⟨rfl, rfl, rfl, by decide +kernel, rfl, by decide +kernel, by decide +kernel⟩
theorem ok__law_stood {P : Program} {w : World} {K : PySem.W.Frag} {mg : Str → Option Value} {base : Heap} (E : Env P K mg) : Fn P w K mg base CX0 1 "_law_stood" (spStood K) := by
  obtain ⟨fd, F⟩ := E.dd__law_stood
  refine Fn.mk0 F E.g__law_stood sc__law_stood sp3_len (fun _ _ _ _ _ _ us hl => match us, hl with | [_, _, _], _ => rfl) (fun cdv A outer s H vs Q X hr h => ?_)
  have nd := sc__law_stood.nd
  obtain ⟨v0, v1, v2, rfl, h⟩ := h
  refine ⟨_, (pss_cons (ps_set (i := 3) nd rfl (.inl rfl) (pe_lst (pa_nil)))
  (pss_cons (ps_set (i := 4) nd rfl (.inl rfl) (pe_int))
  (pss_cons (ps_for PassesOwn.never rfl (kSeq K (pv 0)) (pg_name (i := 5) nd rfl (.inl rfl))
   (pss_cons (ps_if (pt_cmpR (kEq K hr) (pv 5) (pv 1) (nomark _))
   (pss_one (ps_expr (kBM K (pe_bm PySem.F.plainAttrs_list PySem.F.slot_list_append PySem.F.type_list_append mt_append (pv 3) (pa_cons (pv 4) pa_nil)))))
   pss_nil)
  (pss_one (ps_if (pt_cmpR (kEq K hr) (pv 5) (pv 2) (nomark _))
   (pss_one (ps_set (i := 4) nd rfl (.inl rfl) (pe_op (kAdd K) (pv 4) (pe_int))))
   pss_nil))))
  (pss_one (ps_ret (pe_tup (pa_cons (pv 3) (pa_cons (pv 4) pa_nil)))))))), ?_⟩
  change (_ : TS) _ [some v0, some v1, some v2, none, none, none] H
  try dsimp only [cxOf, Cx.nox, Cx.blk]
  obtain ⟨p, ws, r, o, rfl, rfl, rfl, hs, hz, k⟩ := h
  walk_at "w"
  intro t H1 n1 e1 g1
  walk_at "w"
  refine i_seqT ?_
  walk_at "w"
  refine for_tup (xs := ws.map V.str) (Pv := fun i σ' H' => ∃ u : Option V, σ' = [some (.ref p), some (.str r), some (.str o), some (.ref t), some (.int (stn r o (ws.take i)).2), u] ∧ Ex H H' ∧ H' t = some (.lst (vI (stn r o (ws.take i)).1))) ⟨_, rfl, e1, g1⟩ (fun _ _ H' _ q => by obtain ⟨_, _, e, _⟩ := q; exact ex_t e hs) ?_ ?_
  · rintro i v σ' H' hi ⟨u, rfl, e, g⟩
    have hi2 := (List.getElem?_eq_some_iff.mp hi).1
    rw [List.length_map] at hi2
    rw [List.getElem?_map, List.getElem?_eq_getElem hi2] at hi
    obtain rfl : V.str ws[i] = v := Option.some.inj hi
    have e2 : stn r o (ws.take (i + 1)) = stp r o (stn r o (ws.take i)) ws[i] := by
      rw [List.take_add_one, List.getElem?_eq_getElem hi2]
      exact stn_snoc r o _ _
    have zl := stn_len r o (ws.take i)
    rw [List.length_take] at zl
    generalize ws[i] = w at *
    rw [e2]
    generalize stn r o (ws.take i) = s at *
    unfold stp
    have hsl : SqL K H' t (vI s.1) := sq_of g
    walk_at "w"
    refine r_eqSS ?_
    by_cases c : w = r
    · rw [decide_eq_true c, if_pos c]
      walk_at "w"
      refine r_app (K := K) g (sz_lt (by rw [List.length_map]; omega)) ?_
      walk_at "w"
      refine r_eqSS ?_
      have gg : upd H' t (.lst (vI s.1 ++ [.int s.2])) t = some (.lst (vI (s.1 ++ [s.2]))) := by
        rw [upd_same]
        show _ = some (HO.lst (List.map V.int _))
        rw [List.map_append]
        rfl
      by_cases c2 : w = o
      · rw [decide_eq_true c2, if_pos c2]
        walk_at "w"
        exact ⟨_, rfl, Ex.mut e n1, gg⟩
      · rw [decide_eq_false c2, if_neg c2]
        walk_at "w"
        exact ⟨_, rfl, Ex.mut e n1, gg⟩
    · rw [decide_eq_false c, if_neg c]
      walk_at "w"
      refine r_eqSS ?_
      by_cases c2 : w = o
      · rw [decide_eq_true c2, if_pos c2]
        walk_at "w"
        exact ⟨_, rfl, e, g⟩
      · rw [decide_eq_false c2, if_neg c2]
        walk_at "w"
        exact ⟨_, rfl, e, g⟩
  rintro σ' H' ⟨u, rfl, e, g⟩
  rw [List.length_map, List.take_length] at g
  rw [List.length_map, List.take_length]
  walk_at "w"
  intro q H2 n2 e2 g2
  exact k q t H2 (e.trans e2) (st_of g2) n1 (e2 _ _ g)

end
section
abbrev N_stood_ahead : List Str := ["names", "row", "other", "told", "count", "name"]
theorem sc_stood_ahead : FnScope N_stood_ahead ["names", "row", "other"] (defScope s_stood_ahead) := ⟨rfl, rfl, rfl, by decide +kernel, rfl, by decide +kernel, by decide +kernel⟩
theorem ok_stood_ahead {P : Program} {w : World} {K : PySem.W.Frag} {mg : Str → Option Value} {base : Heap} (E : Env P K mg) : Fn P w K mg base CX0 1 "stood_ahead" (spStood K) := by
  obtain ⟨fd, F⟩ := E.dd_stood_ahead
  refine Fn.mk0 F E.g_stood_ahead sc_stood_ahead sp3_len (fun _ _ _ _ _ _ us hl => match us, hl with | [_, _, _], _ => rfl) (fun cdv A outer s H vs Q X hr h => ?_)
  have nd := sc_stood_ahead.nd
  obtain ⟨v0, v1, v2, rfl, h⟩ := h
  refine ⟨_, (pss_cons (ps_set (i := 3) nd rfl (.inl rfl) (pe_lst (pa_nil)))
  (pss_cons (ps_set (i := 4) nd rfl (.inl rfl) (pe_int))
  (pss_cons (ps_for PassesOwn.never rfl (kSeq K (pv 0)) (pg_name (i := 5) nd rfl (.inl rfl))
   (pss_cons (ps_if (pt_cmpR (kEq K hr) (pv 5) (pv 1) (nomark _))
   (pss_one (ps_expr (kBM K (pe_bm PySem.F.plainAttrs_list PySem.F.slot_list_append PySem.F.type_list_append mt_append (pv 3) (pa_cons (pv 4) pa_nil)))))
   pss_nil)
  (pss_one (ps_if (pt_cmpR (kEq K hr) (pv 5) (pv 2) (nomark _))
   (pss_one (ps_aug (i := 4) nd rfl (.inl rfl) (pe_int) ip_add))
   pss_nil))))
  (pss_one (ps_ret (pe_tup (pa_cons (pv 3) (pa_cons (pv 4) pa_nil)))))))), ?_⟩
  change (_ : TS) _ [some v0, some v1, some v2, none, none, none] H
  try dsimp only [cxOf, Cx.nox, Cx.blk]
  obtain ⟨p, ws, r, o, rfl, rfl, rfl, hs, hz, k⟩ := h
  walk_at "w"
  intro t H1 n1 e1 g1
  walk_at "w"
  refine i_seqT ?_
  walk_at "w"
  refine for_tup (xs := ws.map V.str) (Pv := fun i σ' H' => ∃ u : Option V, σ' = [some (.ref p), some (.str r), some (.str o), some (.ref t), some (.int (stn r o (ws.take i)).2), u] ∧ Ex H H' ∧ H' t = some (.lst (vI (stn r o (ws.take i)).1))) ⟨_, rfl, e1, g1⟩ (fun _ _ H' _ q => by obtain ⟨_, _, e, _⟩ := q; exact ex_t e hs) ?_ ?_
  · rintro i v σ' H' hi ⟨u, rfl, e, g⟩
    have hi2 := (List.getElem?_eq_some_iff.mp hi).1
    rw [List.length_map] at hi2
    rw [List.getElem?_map, List.getElem?_eq_getElem hi2] at hi
    obtain rfl : V.str ws[i] = v := Option.some.inj hi
    have e2 : stn r o (ws.take (i + 1)) = stp r o (stn r o (ws.take i)) ws[i] := by
      rw [List.take_add_one, List.getElem?_eq_getElem hi2]
      exact stn_snoc r o _ _
    have zl := stn_len r o (ws.take i)
    rw [List.length_take] at zl
    generalize ws[i] = w at *
    rw [e2]
    generalize stn r o (ws.take i) = s at *
    unfold stp
    have hsl : SqL K H' t (vI s.1) := sq_of g
    walk_at "w"
    refine r_eqSS ?_
    by_cases c : w = r
    · rw [decide_eq_true c, if_pos c]
      walk_at "w"
      refine r_app (K := K) g (sz_lt (by rw [List.length_map]; omega)) ?_
      walk_at "w"
      refine r_eqSS ?_
      have gg : upd H' t (.lst (vI s.1 ++ [.int s.2])) t = some (.lst (vI (s.1 ++ [s.2]))) := by
        rw [upd_same]
        show _ = some (HO.lst (List.map V.int _))
        rw [List.map_append]
        rfl
      by_cases c2 : w = o
      · rw [decide_eq_true c2, if_pos c2]
        walk_at "w"
        refine ⟨_, rfl, ?_⟩
        walk_at "w"
        refine ⟨_, _, rfl, rfl, ?_⟩
        dsimp only [List.set]
        exact ⟨_, rfl, Ex.mut e n1, gg⟩
      · rw [decide_eq_false c2, if_neg c2]
        walk_at "w"
        exact ⟨_, rfl, Ex.mut e n1, gg⟩
    · rw [decide_eq_false c, if_neg c]
      walk_at "w"
      refine r_eqSS ?_
      by_cases c2 : w = o
      · rw [decide_eq_true c2, if_pos c2]
        walk_at "w"
        refine ⟨_, rfl, ?_⟩
        walk_at "w"
        refine ⟨_, _, rfl, rfl, ?_⟩
        dsimp only [List.set]
        exact ⟨_, rfl, e, g⟩
      · rw [decide_eq_false c2, if_neg c2]
        walk_at "w"
        exact ⟨_, rfl, e, g⟩
  rintro σ' H' ⟨u, rfl, e, g⟩
  rw [List.length_map, List.take_length] at g
  rw [List.length_map, List.take_length]
  walk_at "w"
  intro q H2 n2 e2 g2
  exact k q t H2 (e.trans e2) (st_of g2) n1 (e2 _ _ g)

end
section
--@import HandS.Deep
/-! tuples whose object is known: made by tuple(a list); their methods -/
def SqF (H : Hp) (a : Addr) (xs : List V) : Prop := ∃ o : Obj, H a = some (.frz o (.tup xs)) ∧ o.cls = .type "tuple" ∧ o.dict = none
theorem SqF.sq {K : PySem.W.Frag} {H : Hp} {a : Addr} {xs : List V} (h : SqF H a xs) : SqT K H a xs := by
  obtain ⟨o, h, _⟩ := h
  exact .inl (.inr ⟨o, h⟩)
theorem ex_f {H H' : Hp} {a : Addr} {xs : List V} (e : Ex H H') (h : SqF H a xs) : SqF H' a xs := by
  obtain ⟨o, h, r⟩ := h
  exact ⟨o, e _ _ h, r⟩
def rTupF (K : PySem.W.Frag) : List V → Hp → VK → Prop := fun xs H Q => ∃ p ys, xs = [.ref p] ∧ SqL K H p ys ∧ ∀ l H', H l = none → Ex H H' → SqF H' l ys → Q (.ref l) H'
theorem call_tupF {X : Cx} : CallR X (.type "tuple") (rTupF X.K) := by
  intro pins s σ H xs us Q I r h
  obtain ⟨p, ys, rfl, hq, q⟩ := h
  cases r with
  | cons rx rr =>
    cases rr
    cases rx
    obtain ⟨its, r', pl, hz⟩ := I.list hq
    have hlen := r'.length
    refine call_tuple_list pl.isList (fun h' kp => ?_) (by simp only [List.size_toArray] <;> omega)
    have I1 : Inv X pins σ H { s with heap := h' } := I.kept (t' := s.toks) kp
    have I2 : Inv X pins σ (upd H h'.objs.size (.frz { cls := .type "tuple", data := .seq its.toArray } (.tup ys))) { s with heap := h'.push { cls := .type "tuple", data := .seq its.toArray } } :=
      I1.laid (t' := s.toks) (fun b o e => Heap.get?_push_of_some _ e) (Nat.le_refl _) (show ObjOk X.prog X.w _ _ _ (.frz _ (.tup ys)) from ⟨Heap.get?_push_size h' rfl, hz, its, r', IsTup.new _ _⟩)
    have nw := I1.hok.fresh (Nat.le_refl h'.objs.size)
    exact ⟨.ref h'.objs.size, _, I2, rfl, q _ _ nw (Ex.new nw) ⟨_, upd_same, rfl, rfl⟩⟩
theorem kTupF (K : PySem.W.Frag) {X : Cx} (h : X.K = K := by rfl) : CallR X (.type "tuple") (rTupF K) := by subst h; exact call_tupF
def BmTI (r : V → List V → Hp → VK → Prop) (t : TA) (σ : L2.St) (x : V) (H1 : Hp) (Q : VK) : Prop := (∃ p xs, x = .ref p ∧ SqF H1 p xs) ∧ t σ H1 fun xs H2 => r x xs H2 Q
def tBMT (r : V → List V → Hp → VK → Prop) (to : TE) (t : TA) : TE := fun σ H Q => to σ H fun x H1 => BmTI r t σ x H1 Q
section
variable {X : Cx} {o e : Expr} {es : List Expr} {to : TE} {t : TA} {name : Str} {apos cpos : Pos} {id : String} {r : V → List V → Hp → VK → Prop}
theorem pe_bmT (slot : Slot "tuple" name id) (hty : typeOf (.builtin id) = pure (.type "method_descriptor")) (hm : MtR X id r) (ho : PE X o to) (ha : PA X (e :: es) t)
    (hbase : attributeBase o name X.env (eval o X.env) = eval o X.env := by rfl)
    (hfew : ((backTo cpos (starEach (e :: es) X.env)).all (fun x => !x.1) && (backToKw cpos (keywordEach [] X.env)).all (fun x => x.1.isSome)
      && decide ((e :: es).length + ([] : List Keyword).length + (if ([] : List Keyword).isEmpty then 0 else 1) < 30)) = true := by rfl)
    (hline : (apos.endLine == cpos.line) = true := by rfl) (hs : starEach (e :: es) X.env = (false, eval e X.env) :: starEach es X.env := by rfl) (hplain : (backTo cpos (starEach es X.env)).any (·.1) = false := by rfl) :
    PE X (.Call (.Attribute o name apos) (e :: es) [] cpos) (tBMT r to t) := by
  refine ⟨fun pins s σ H Q I h => ?_⟩
  refine wpAny_Call_method_late hbase hfew hline rfl (thn (ho.run pins s σ H _ I h) fun v s1 ⟨x, H1, I1, r1, ⟨p, xs, ex, ob, e1, e2, e3⟩, q1⟩ => ?_)
  subst ex
  cases r1
  have hx := I1.hok p _ e1
  have h1 : s1.TypeIs (.ref p) "tuple" := ⟨ob, hx.1, e2⟩
  refine ⟨"tuple", id, PySem.F.plainAttrs_tuple, slot, hty, h1, fun a e => by cases e; exact ⟨ob, hx.1, e3⟩, ?_⟩
  have hA := ha.run cpos pins s1 σ H1 _ I1 q1
  rw [hs] at hA ⊢
  refine Calls.callWith_builtin (by show (false || (backTo cpos (starEach es X.env)).any (·.1)) = false; rw [hplain] <;> rfl) (Calls.evalArgs_plain ?_)
  exact thn hA fun us s2 ⟨vs, H2, I2, r2, q2⟩ => hm pins s2 σ H2 (.ref p) vs _ us Q I2 rfl r2 q2
end
section
variable {r : V → List V → Hp → VK → Prop} {to : TE} {t : TA} {σ : L2.St} {H : Hp} {Q : VK}
theorem w_bmT (h : to σ H fun x H1 => BmTI r t σ x H1 Q) : tBMT r to t σ H Q := h
theorem r_bmT {p : Addr} {xs : List V} (h : SqF H p xs) (q : t σ H fun vs H2 => r (.ref p) vs H2 Q) : BmTI r t σ (.ref p) H Q := ⟨⟨p, xs, rfl, h⟩, q⟩
end

end
section
def okW (w : Str) : Bool := wordV (.str w)
theorem okW_len {w : Str} (h : okW w = true) : w.length ≤ 8 := by
  have h1 := (Bool.and_eq_true_iff.mp (show ((decide (1 ≤ (w.length : Int)) && decide ((w.length : Int) ≤ 8)) && w.cps.toList.all lwr) = true from h)).1
  have := of_decide_eq_true (Bool.and_eq_true_iff.mp h1).2
  omega
/-- a tuple or a list of names -/
def NmG (K : PySem.W.Frag) (H : Hp) (v : V) (ws : List Str) : Prop := ∃ a, v = .ref a ∧ SqE K H a (ws.map V.str) ∧ ws.length ≤ 50000 ∧ ∀ w ∈ ws, okW w = true
section
variable {K : PySem.W.Frag} {H H' : Hp} {v : V} {ws : List Str} {b : Bool}
theorem nmL_ex (e : Ex H H') (h : NmL K H v b) : NmL K H' v b := by
  rcases h with ⟨a, xs, rfl, s, z, hx, rfl⟩ | ⟨rfl, d, hd, hn⟩
  · exact .inl ⟨a, xs, rfl, s.imp (ex_t e) (ex_l e), z, fun x hm => (hx x hm).imp fun d q => ⟨dp_ex e q.1, q.2⟩, rfl⟩
  · refine .inr ⟨rfl, d, ?_, hn⟩
    rcases hd with hd | ⟨rfl, a, kvs, rfl, g⟩
    · exact .inl (dp_ex e hd)
    · exact .inr ⟨rfl, a, kvs, rfl, e _ _ g⟩
theorem NmG.ex (e : Ex H H') (h : NmG K H v ws) : NmG K H' v ws := by
  obtain ⟨a, rfl, s, r⟩ := h
  exact ⟨a, rfl, ex_e e s, r⟩
theorem NmG.nml (h : NmG K H v ws) : NmL K H v true := by
  obtain ⟨a, rfl, s, z, g⟩ := h
  refine .inl ⟨a, ws.map V.str, rfl, s.symm, by rw [List.length_map]; omega, fun x hx => ?_, ?_⟩
  · obtain ⟨w, hw, rfl⟩ := List.mem_map.mp hx
    exact ⟨.str w, .str w, fun w' e => by cases e; have := okW_len (g w hw); omega⟩
  · symm
    rw [List.all_eq_true]
    intro x hx
    obtain ⟨w, hw, rfl⟩ := List.mem_map.mp hx
    exact g w hw
theorem dpAll_of_strs : ∀ {ws : List Str}, DpAll K H (ws.map V.str) (ws.map .str)
  | [] => .nil
  | w :: _ => .cons (.str w) dpAll_of_strs
theorem dpAll_strs : ∀ {ws : List Str} {vs : List V}, DpAll K H vs (ws.map .str) → vs = ws.map V.str
  | [], _, .nil => rfl
  | _ :: _, _, .cons (.str _) r => by rw [dpAll_strs r]; rfl
theorem dp_strs (h : Dp K H v (.tuple (ws.map .str))) : ∃ a, v = .ref a ∧ SqT K H a (ws.map V.str) := by
  cases h with
  | tup h a => rw [dpAll_strs a] at h; exact ⟨_, rfl, h⟩
theorem dDeep_strs (ws : List Str) : dDeepAll (ws.map .str) = ws.map .str := by
  rw [dDeepAll_eq, List.map_map]; rfl
theorem shpAll_strs {n : Nat} : ∀ ws : List Str, shpAll n (ws.map .str) = true
  | [] => by unfold shpAll; rfl
  | w :: ws => by
    rw [List.map_cons]
    unfold shpAll
    rw [shpAll_strs ws, show shp n (.str w) = true by cases n <;> rfl]
    rfl
theorem NmG.dp (h : NmG K H v ws) : ∃ d, Dp K H v d ∧ shp 6 d = true ∧ dDeep d = .tuple (ws.map .str) := by
  obtain ⟨a, rfl, s, z, g⟩ := h
  have zz : decide ((ws.map PyData.str).length ≤ 50000) = true := by rw [List.length_map, decide_eq_true z]
  rcases s with s | s
  · exact ⟨.list (ws.map .str), .lst s dpAll_of_strs, by show (decide ((ws.map PyData.str).length ≤ 50000) && shpAll 5 (ws.map .str)) = true; rw [zz, shpAll_strs]; rfl, by show PyData.tuple (dDeepAll (ws.map .str)) = _; rw [dDeep_strs]⟩
  · exact ⟨.tuple (ws.map .str), .tup s dpAll_of_strs, by show (decide ((ws.map PyData.str).length ≤ 50000) && shpAll 5 (ws.map .str)) = true; rw [zz, shpAll_strs]; rfl, by show PyData.tuple (dDeepAll (ws.map .str)) = _; rw [dDeep_strs]⟩
end
theorem rn_ft : ¬ (("first" : Str) = "then") := by decide +kernel
def rF (a b : Addr) : List (Str × V) := putF "then" (.ref b) (putF "first" (.ref a) [])
section
variable {a b : Addr}
theorem rF_first : (rF a b).lookup ("first" : Str) = some (.ref a) := by
  unfold rF
  rw [lookup_putF, if_neg rn_ft, lookup_putF, if_pos rfl]
theorem rF_then : (rF a b).lookup ("then" : Str) = some (.ref b) := by
  unfold rF
  rw [lookup_putF, if_pos rfl]
theorem rF_no {m : Str} (h1 : ¬ m = "first") (h2 : ¬ m = "then") : (rF a b).lookup m = none := by
  unfold rF
  rw [lookup_putF, if_neg h2, lookup_putF, if_neg h1]
  rfl
end
/-- a roster stands at x -/
def RosAt (K : PySem.W.Frag) (H : Hp) (x : Addr) (fs us : List Str) : Prop := ∃ dx a b, H x = some (.ins (He.ga K "Roster") dx (rF a b)) ∧ SqF H a (fs.map V.str) ∧ SqF H b (us.map V.str)
theorem ex_ros {K : PySem.W.Frag} {H H' : Hp} {x : Addr} {fs us : List Str} (e : Ex H H') (t : RosAt K H x fs us) : RosAt K H' x fs us := by
  obtain ⟨dx, a, b, h1, h2, h3⟩ := t
  exact ⟨dx, a, b, e _ _ h1, ex_f e h2, ex_f e h3⟩
section
variable {P : Program} {K : PySem.W.Frag} {mg : Str → Option Value} {H : Hp} {x : Addr} {fs us : List Str} {Q : VK}
theorem r_rosFirst (E : Env P K mg) (t : RosAt K H x fs us) (q : ∀ a, SqF H a (fs.map V.str) → SqT K H a (fs.map V.str) → Q (.ref a) H) : GetF K "first" (.ref x) H Q := by
  obtain ⟨dx, a, b, h1, h2, h3⟩ := t
  exact r_getF h1 E.c_Roster E.na_Roster_first rF_first (q a h2 h2.sq)
theorem r_rosThen (E : Env P K mg) (t : RosAt K H x fs us) (q : ∀ a, SqF H a (us.map V.str) → SqT K H a (us.map V.str) → Q (.ref a) H) : GetF K "then" (.ref x) H Q := by
  obtain ⟨dx, a, b, h1, h2, h3⟩ := t
  exact r_getF h1 E.c_Roster E.na_Roster_then rF_then (q b h3 h3.sq)
end
theorem sq_fri {K : PySem.W.Frag} {H H' : Hp} {p a C dx : Addr} {fs : List (Str × V)} {xs : List V} (hp : H p = some (.ins C dx fs)) (f : Fr p H H') (s : SqT K H a xs) : SqT K H' a xs := by
  have key : ∀ u, H a = some u → (∃ o', u = .frz o' (.tup xs)) ∨ u = .tup xs → a ≠ p := by
    rintro u hu hc rfl
    rw [hp] at hu
    cases hu
    rcases hc with ⟨_, hc⟩ | hc <;> cases hc
  rcases s with (s | ⟨o', s⟩) | s
  · exact .inl (.inl (f _ _ (key _ s (.inr rfl)) s))
  · exact .inl (.inr ⟨o', f _ _ (key _ s (.inl ⟨o', rfl⟩)) s⟩)
  · exact .inr s
abbrev spDeepF (K : PySem.W.Frag) : Sp := sp1 fun v H Q _ => ∃ ws, NmG K H v ws ∧ ∀ p H', Ex H H' → SqF H' p (ws.map V.str) → Q (.ref p) H'
--derivation of deep:
theorem ok_deepF {P : Program} {w : World} {K : PySem.W.Frag} {mg : Str → Option Value} {base : Heap} (E : Env P K mg) : Fn P w K mg base CX0 4 "deep" (spDeepF K) := by
  have IH := ok_deepN (P := P) (w := w) (base := base) E 0
  obtain ⟨fd, F⟩ := E.dd_deep
  refine Fn.mk0 F E.g_deep sc_deep sp1_len (fun _ _ _ _ _ _ us hl => match us, hl with | [_], _ => rfl) (fun cdv A outer s H vs Q X hr h => ?_)
  have nd := sc_deep.nd
  obtain ⟨v0, rfl, h⟩ := h
  refine ⟨_, (pss_cons (ps_if (kTru K (pc (ok_is_listed E) hr (by decide) pass0 rfl (pa_cons (pv 0) pa_nil)) (by intro _; rfl))
   (pss_one (ps_ret (pe_callTy (kTupF K) (by rfl) E.f_tuple (by decide +kernel) (pa_cons (pe_lc (own := [("one", 1)]) (g := gName 1) (tt := tYes) rfl nd (kSeq K (pv 0)) (blkOk_by (N := N_deep) (sc := defScope s_deep) (by decide +kernel)) (fun _ _ _ _ _ => pg_name (i := 1) nd rfl (Or.inl rfl)) (fun _ _ _ _ _ => pts_nil) (fun _ _ _ _ _ => pc IH hr (by decide) pass0 rfl (pa_cons (pv 1) pa_nil))) pa_nil))))
   pss_nil)
  (pss_one (ps_ret (pv 0)))), ?_⟩
  change (_ : TS) _ [some v0, none] H
  obtain ⟨ws, g, k⟩ := h
  obtain ⟨d, hd, hs, q⟩ := g.dp
  have hq : dIsSeq d = true := by
    cases d with
    | list _ => rfl
    | tuple _ => rfl
    | _ => cases q
  walk_at "w"
  refine ⟨d, .inl hd, fun v H1 e1 d1 => ?_⟩
  rw [hq] at d1
  obtain rfl := dp_toBl d1
  walk_at "w"
  obtain ⟨a, rfl, s, z, okw⟩ := g
  have elt : ∀ (x : V) (H2 : Hp) (Q' : VK), x ∈ ws.map V.str → (∀ H3, Ex H2 H3 → Q' x H3) → ∃ d, Dp K H2 x d ∧ shp 0 d = true ∧ RetD K (dDeep d) H2 Q' := fun x H2 Q' hx hq => by
    obtain ⟨w', _, rfl⟩ := List.mem_map.mp hx
    exact ⟨.str w', .str w', rfl, fun v H3 e3 d3 => by cases d3; exact hq H3 e3⟩
  have fin : ∀ (p : Addr) (H2 : Hp), Ex H H2 → H2 p = some (.lst ((ws.map V.str).map fun x => x)) → rTupF K [.ref p] H2 (fun v H => Q v H) := fun p H2 e2 hp => by
    rw [List.map_id'] at hp
    exact ⟨p, _, rfl, sq_of hp, fun l H3 n3 e3 s3 => k l H3 (e2.trans e3) s3⟩
  rcases s with s | s
  · refine i_seqL ?_
    walk_at "w"
    refine lcJ_list (v := fun x => x) (ex_l e1 s) (by rw [List.length_map]; omega) (fun x => [_, some x]) (fun x => rfl) (fun x => rfl) (fun x H2 Q' e2 hx hq => ?_) (fun p H2 n2 e2 hp => ?_)
    · walk_at "w"
      exact elt x H2 Q' hx hq
    · walk_at "w"
      exact fin p H2 (e1.trans e2) hp
  · refine i_seqT ?_
    walk_at "w"
    refine lcJ_tup (v := fun x => x) (ex_t e1 s) (by rw [List.length_map]; omega) (fun x => [_, some x]) (fun x => rfl) (fun x => rfl) (fun x H2 Q' e2 hx hq => ?_) (fun p H2 n2 e2 hp => ?_)
    · walk_at "w"
      exact elt x H2 Q' hx hq
    · walk_at "w"
      exact fin p H2 (e1.trans e2) hp
theorem sqf_fri {H H' : Hp} {p a C dx : Addr} {fs : List (Str × V)} {xs : List V} (hp : H p = some (.ins C dx fs)) (f : Fr p H H') (s : SqF H a xs) : SqF H' a xs := by
  obtain ⟨o, h, r⟩ := s
  refine ⟨o, f _ _ (fun e => ?_) h, r⟩
  subst e
  rw [hp] at h
  cases h
abbrev spRos (K : PySem.W.Frag) : Sp := sp3 fun x a b H Q X => ∃ (p dx : Addr), x = .ref p ∧ H p = some (.ins (He.ga K "Roster") dx []) ∧
  ((NmL K H a false ∧ ∀ dd H', Ex H H' → H' dd = some (.xd [("word", .str "first")]) → X (.ref (He.ga K "BadRoster")) (some dd) H') ∨
   ∃ fs, NmG K H a fs ∧ ((NmL K H b false ∧ ∀ dd H', Ex H H' → H' dd = some (.xd [("word", .str "then")]) → X (.ref (He.ga K "BadRoster")) (some dd) H') ∨
     ∃ us, NmG K H b us ∧ ∀ H', RosAt K H' p fs us → Fr p H H' → Q .non H'))
abbrev N_Roster_init : List Str := ["self", "first", "then"]
theorem sc_Roster_init : FnScope N_Roster_init ["self", "first", "then"] (defScope s_Roster_init) := ⟨rfl, rfl, rfl, by decide +kernel, rfl, by decide +kernel, by decide +kernel⟩
theorem fx_Roster_init {P : Program} {w : World} {K : PySem.W.Frag} {mg : Str → Option Value} {base : Heap} (E : Env P K mg) : ∃ fd, FunD K "__init__" "Roster.__init__" (defArgs s_Roster_init) (defBody s_Roster_init) (defScope s_Roster_init) (d_Roster_init.dvs K) [] (d_Roster_init.adr K) fd ∧ FnOk P w K mg base (L2.CX P w) 9 (d_Roster_init.adr K) fd ["self", "first", "then"] (spRos K) := by
  obtain ⟨fd, F⟩ := E.dd_Roster_init
  refine ⟨fd, F, fnokX F sc_Roster_init sp3_len (fun cdv A outer s H vs Q X hr h tk => ?_)⟩
  have nd := sc_Roster_init.nd
  obtain ⟨v0, v1, v2, rfl, h⟩ := h
  refine ⟨_, (pss_cons (ps_if (pt_not (kTru K (pc (ok_is_names E) hr (by decide) pass0 rfl (pa_cons (pv 1) pa_nil)) (by intro _; rfl)))
   (pss_one (praise (ok_X_BadRoster E) hr (by decide) rfl tk rfl (pa_cons (pe_str) pa_nil)))
   pss_nil)
  (pss_cons (ps_if (pt_not (kTru K (pc (ok_is_names E) hr (by decide) pass0 rfl (pa_cons (pv 2) pa_nil)) (by intro _; rfl)))
   (pss_one (praise (ok_X_BadRoster E) hr (by decide) rfl tk rfl (pa_cons (pe_str) pa_nil)))
   pss_nil)
  (pss_cons (kFldS K (ps_fld (pv 0) (pc (ok_deepF E) hr (by decide) pass0 rfl (pa_cons (pv 1) pa_nil)) rfl))
  (pss_one (kFldS K (ps_fld (pv 0) (pc (ok_deepF E) hr (by decide) pass0 rfl (pa_cons (pv 2) pa_nil)) rfl)))))), ?_⟩
  change (_ : TS) _ [some v0, some v1, some v2] H
  try dsimp only [cxOf, Cx.nox, Cx.blk]
  obtain ⟨p, dx, rfl, hp, h⟩ := h
  rcases h with ⟨nb, k⟩ | ⟨fs, g1, h⟩
  · walk_at "w"
    refine ⟨false, nb, fun H1 e1 => ?_⟩
    walk_at "w"
    refine w_raise ?_
    walk_at "w"
    refine r_mkOS E.ox_BadRoster E.xs_BadRoster E.nf_BadRoster_word (by decide +kernel) fun dd H' n e g => ?_
    exact k dd H' (e1.trans e) g
  · walk_at "w"
    refine ⟨true, g1.nml, fun H1 e1 => ?_⟩
    rcases h with ⟨nb, k⟩ | ⟨us, g2, k⟩
    · walk_at "w"
      refine ⟨false, nmL_ex e1 nb, fun H2 e2 => ?_⟩
      walk_at "w"
      refine w_raise ?_
      walk_at "w"
      refine r_mkOS E.ox_BadRoster E.xs_BadRoster E.nf_BadRoster_word (by decide +kernel) fun dd H' n e g => ?_
      exact k dd H' ((e1.trans e2).trans e) g
    · walk_at "w"
      refine ⟨true, (g2.ex e1).nml, fun H2 e2 => ?_⟩
      walk_at "w"
      have e02 := e1.trans e2
      refine ⟨fs, g1.ex e02, fun a1 H3 e3 s1 => ?_⟩
      have e03 := e02.trans e3
      have hp3 := e03 _ _ hp
      walk_at "w"
      refine r_putF hp3 E.c_Roster E.na_Roster_first (by decide) ?_
      have F4 : Fr p H3 (upd H3 p (.ins (He.ga K "Roster") dx (putF "first" (.ref a1) []))) := Fr.upd
      have hp4 : upd H3 p (.ins (He.ga K "Roster") dx (putF "first" (.ref a1) [])) p = some (.ins (He.ga K "Roster") dx (putF "first" (.ref a1) [])) := upd_same
      have s4 := sqf_fri hp3 F4 s1
      have g4 : NmG K (upd H3 p (.ins (He.ga K "Roster") dx (putF "first" (.ref a1) []))) v2 us := by
        obtain ⟨a2, rfl, s2, z⟩ := g2.ex e03
        refine ⟨a2, rfl, ?_, z⟩
        rcases s2 with s2 | s2
        · refine .inl ?_
          have key : ∀ u, H3 a2 = some u → (∃ o', u = .frz o' (.lst (us.map V.str))) ∨ u = .lst (us.map V.str) → a2 ≠ p := by
            rintro u hu hc rfl
            rw [hp3] at hu
            cases hu
            rcases hc with ⟨_, hc⟩ | hc <;> cases hc
          rcases s2 with (s | ⟨o', s⟩) | s
          · exact .inl (.inl (F4 _ _ (key _ s (.inr rfl)) s))
          · exact .inl (.inr ⟨o', F4 _ _ (key _ s (.inl ⟨o', rfl⟩)) s⟩)
          · exact .inr s
        · exact .inr (sq_fri hp3 F4 s2)
      generalize upd H3 p (.ins (He.ga K "Roster") dx (putF "first" (.ref a1) [])) = H4 at *
      walk_at "w"
      refine ⟨us, g4, fun a2 H5 e5 s2 => ?_⟩
      have hp5 := e5 _ _ hp4
      walk_at "w"
      refine r_putF hp5 E.c_Roster E.na_Roster_then (Nat.lt_of_le_of_lt (putF_len _ _ _) (by decide)) ?_
      have F6 : Fr p H5 (upd H5 p (.ins (He.ga K "Roster") dx (rF a1 a2))) := Fr.upd
      refine k _ ⟨dx, a1, a2, upd_same, sqf_fri hp5 F6 (ex_f e5 s4), sqf_fri hp5 F6 s2⟩ ?_
      exact (((Fr.of e03).trans F4).trans (Fr.of e5)).trans F6
section
variable {P : Program} {w : World} {K : PySem.W.Frag} {mg : Str → Option Value} {base : Heap}
theorem ok_Roster2 (E : Env P K mg) : Mkc P w K mg base (L2.CX P w) 9 "Roster" (He.ga K "Roster") (spRos K) [] := by
  obtain ⟨fd, F, k⟩ := fx_Roster_init (P := P) (w := w) (base := base) E
  obtain ⟨ds, hd, hb⟩ := F.binds1 (ps := ["self", "first", "then"]) 3 1 (List.cons_ne_nil _ _) rfl (fun T kV doc pm an cdv ct us its hu hi => match us, its, hu, hi with | [_, _, _], [_], _, _ => ⟨_, rfl, rfl⟩)
  exact ⟨_, fd, _, ds, E.mk_Roster, k, E.g_Roster, hb, hd⟩
theorem ok_Roster1 (E : Env P K mg) : Mkc P w K mg base (L2.CX P w) 9 "Roster" (He.ga K "Roster") (spRos K) [.ref (He.dflAt ("Roster", some "__init__") 0 K)] := by
  obtain ⟨fd, F, k⟩ := fx_Roster_init (P := P) (w := w) (base := base) E
  obtain ⟨ds, hd, hb⟩ := F.binds1 (ps := ["self", "first", "then"]) 2 0 (List.cons_ne_nil _ _) rfl (fun T kV doc pm an cdv ct us its hu hi => match us, its, hu, hi with | [_, _], [_], _, _ => ⟨_, rfl, rfl⟩)
  exact ⟨_, fd, _, ds, E.mk_Roster, k, E.g_Roster, hb, hd⟩
end
theorem ex_make {H : Hp} {x dx C : Addr} (nx : H x = none) (ndx : H dx = none) : Ex H (upd (upd H dx (.own x)) x (.ins C dx [])) := fun b o e => by
  rw [upd_ne (ne_of_none e nx), upd_ne (ne_of_none e ndx)]
  exact e
section
variable {K : PySem.W.Frag} {H : Hp} {Q : VK} {a b : V} {fs us : List Str} {dvs ws : List V}
/-- Roster(..) made of names -/
theorem mk_ros (e : ws ++ dvs = [a, b]) (g1 : NmG K H a fs) (g2 : NmG K H b us) (q : ∀ x H2, Ex H H2 → RosAt K H2 x fs us → Q (.ref x) H2) : MakeI (He.ga K "Roster") (spRos K) dvs E0 ws H Q := by
  intro x dx nx ndx ne
  rw [e]
  have ex : Ex H (upd (upd H dx (.own x)) x (.ins (He.ga K "Roster") dx [])) := ex_make nx ndx
  refine ⟨_, _, _, rfl, x, dx, rfl, upd_same, .inr ⟨fs, g1.ex ex, .inr ⟨us, g2.ex ex, fun H' t k => ⟨rfl, q x H' (fun b o e => ?_) t⟩⟩⟩⟩
  exact k b o (ne_of_none e nx) (ex b o e)
/-- the same inside try: three ways -/
theorem mk_rosS {σ : L2.St} {W : WX} (e : ws = [a, b]) (h : (NmL K H a false ∧ ∀ dd H', Ex H H' → H' dd = some (.xd [("word", .str "first")]) → W (.ref (He.ga K "BadRoster")) (some dd) σ H') ∨
   ∃ fs, NmG K H a fs ∧ ((NmL K H b false ∧ ∀ dd H', Ex H H' → H' dd = some (.xd [("word", .str "then")]) → W (.ref (He.ga K "BadRoster")) (some dd) σ H') ∨
     ∃ us, NmG K H b us ∧ ∀ x H', Ex H H' → RosAt K H' x fs us → Q (.ref x) H')) :
    ∀ x dx, H x = none → H dx = none → dx ≠ x → (spRos K) (.ref x :: (ws ++ [])) (upd (upd H dx (.own x)) x (.ins (He.ga K "Roster") dx [])) (fun v H2 => v = .non ∧ Q (.ref x) H2) (WE W σ) := by
  intro x dx nx ndx ne
  subst e
  have ex : Ex H (upd (upd H dx (.own x)) x (.ins (He.ga K "Roster") dx [])) := ex_make nx ndx
  refine ⟨_, _, _, rfl, x, dx, rfl, upd_same, ?_⟩
  rcases h with ⟨n, k⟩ | ⟨fs, g1, ⟨n, k⟩ | ⟨us, g2, k⟩⟩
  · exact .inl ⟨nmL_ex ex n, fun dd H' e g => k dd H' (ex.trans e) g⟩
  · exact .inr ⟨fs, g1.ex ex, .inl ⟨nmL_ex ex n, fun dd H' e g => k dd H' (ex.trans e) g⟩⟩
  · exact .inr ⟨fs, g1.ex ex, .inr ⟨us, g2.ex ex, fun H' t kk => ⟨rfl, k x H' (fun b o e => kk b o (ne_of_none e nx) (ex b o e)) t⟩⟩⟩
end

end
section
section
variable {K : PySem.W.Frag} {H : Hp} {Q : VK}
/-- comprehensions with a test -/
theorem lcT_list {a : Addr} {xs : List V} {j : Nat} {tt : TT} {te : TE} {vs : List Nat} {σ : L2.St} (p : V → Bool) (v : V → V) (hx : SqL K H a xs) (hn : xs.length ≤ 100000) (σ' : V → L2.St) (hσ : ∀ x, (wipe σ vs).set j (some x) = σ' x) (hw : ∀ x, wipe ((wipe σ vs).set j (some x)) vs = wipe σ vs)
    (ht : ∀ (x : V) (H1 : Hp) (R : Bool → Hp → Prop), Ex H H1 → x ∈ xs → (∀ H2, Ex H1 H2 → R (p x) H2) → tt (σ' x) H1 R)
    (he : ∀ (x : V) (H1 : Hp) (Q' : VK), Ex H H1 → x ∈ xs → p x = true → (∀ H2, Ex H1 H2 → Q' (v x) H2) → te (σ' x) H1 Q')
    (hq : ∀ p' H2, H p' = none → Ex H H2 → H2 p' = some (.lst ((xs.filter p).map v)) → Q (.ref p') H2) : LcJ (Itl K a) (gName j) tt te vs σ H Q := fun D hD =>
  lc_list (xs := xs) (Pv := fun i H' => Ex H H' ∧ H' D = some (.lst (((xs.take i).filter p).map v))) ⟨Ex.new hD, upd_same⟩ (fun i H' _ q => ex_l q.1 hx) (fun i x H' hi q => ⟨hw _, by
    show tt ((wipe σ vs).set j _) H' _
    rw [hσ]
    have hi' := (List.getElem?_eq_some_iff.mp hi).1
    refine ht x H' _ q.1 (List.mem_of_getElem? hi) fun H2 e2 => ?_
    have g2 := e2 D _ q.2
    have hl : (((xs.take i).filter p).map v).length ≤ i := by
      rw [List.length_map]
      exact Nat.le_trans (List.length_filter_le ..) (by rw [List.length_take]; omega)
    cases c : p x with
    | true =>
      rw [if_pos rfl]
      refine he x H2 _ (q.1.trans e2) (List.mem_of_getElem? hi) c fun H3 e3 => ⟨_, e3 D _ g2, sz_lt (by omega), Ex.mut ((q.1.trans e2).trans e3) hD, ?_⟩
      rw [List.take_add_one, hi, List.filter_append, List.map_append]
      show upd H3 D _ D = some (.lst (_ ++ (List.filter p [x]).map v))
      rw [List.filter_cons_of_pos c]
      exact upd_same
    | false =>
      rw [if_neg (by decide)]
      refine ⟨q.1.trans e2, ?_⟩
      rw [List.take_add_one, hi, List.filter_append, List.map_append]
      show H2 D = some (.lst (_ ++ (List.filter p [x]).map v))
      rw [List.filter_cons_of_neg (by rw [c]; decide)]
      show H2 D = some (.lst (_ ++ []))
      rw [List.append_nil]
      exact g2⟩) fun H' q => hq D H' hD q.1 (by rw [List.take_length] at q; exact q.2)
theorem lcT_tup {a : Addr} {xs : List V} {j : Nat} {tt : TT} {te : TE} {vs : List Nat} {σ : L2.St} (p : V → Bool) (v : V → V) (hx : SqT K H a xs) (hn : xs.length ≤ 100000) (σ' : V → L2.St) (hσ : ∀ x, (wipe σ vs).set j (some x) = σ' x) (hw : ∀ x, wipe ((wipe σ vs).set j (some x)) vs = wipe σ vs)
    (ht : ∀ (x : V) (H1 : Hp) (R : Bool → Hp → Prop), Ex H H1 → x ∈ xs → (∀ H2, Ex H1 H2 → R (p x) H2) → tt (σ' x) H1 R)
    (he : ∀ (x : V) (H1 : Hp) (Q' : VK), Ex H H1 → x ∈ xs → p x = true → (∀ H2, Ex H1 H2 → Q' (v x) H2) → te (σ' x) H1 Q')
    (hq : ∀ p' H2, H p' = none → Ex H H2 → H2 p' = some (.lst ((xs.filter p).map v)) → Q (.ref p') H2) : LcJ (Itt K a) (gName j) tt te vs σ H Q := fun D hD =>
  lc_tup (xs := xs) (Pv := fun i H' => Ex H H' ∧ H' D = some (.lst (((xs.take i).filter p).map v))) ⟨Ex.new hD, upd_same⟩ (fun i H' _ q => ex_t q.1 hx) (fun i x H' hi q => ⟨hw _, by
    show tt ((wipe σ vs).set j _) H' _
    rw [hσ]
    have hi' := (List.getElem?_eq_some_iff.mp hi).1
    refine ht x H' _ q.1 (List.mem_of_getElem? hi) fun H2 e2 => ?_
    have g2 := e2 D _ q.2
    have hl : (((xs.take i).filter p).map v).length ≤ i := by
      rw [List.length_map]
      exact Nat.le_trans (List.length_filter_le ..) (by rw [List.length_take]; omega)
    cases c : p x with
    | true =>
      rw [if_pos rfl]
      refine he x H2 _ (q.1.trans e2) (List.mem_of_getElem? hi) c fun H3 e3 => ⟨_, e3 D _ g2, sz_lt (by omega), Ex.mut ((q.1.trans e2).trans e3) hD, ?_⟩
      rw [List.take_add_one, hi, List.filter_append, List.map_append]
      show upd H3 D _ D = some (.lst (_ ++ (List.filter p [x]).map v))
      rw [List.filter_cons_of_pos c]
      exact upd_same
    | false =>
      rw [if_neg (by decide)]
      refine ⟨q.1.trans e2, ?_⟩
      rw [List.take_add_one, hi, List.filter_append, List.map_append]
      show H2 D = some (.lst (_ ++ (List.filter p [x]).map v))
      rw [List.filter_cons_of_neg (by rw [c]; decide)]
      show H2 D = some (.lst (_ ++ []))
      rw [List.append_nil]
      exact g2⟩) fun H' q => hq D H' hD q.1 (by rw [List.take_length] at q; exact q.2)
theorem lcT_range {lo : Int} {n j : Nat} {tt : TT} {te : TE} {vs : List Nat} {σ : L2.St} (p : Nat → Bool) (v : Nat → V) (hn : n ≤ 100000) (σ' : V → L2.St) (hσ : ∀ x, (wipe σ vs).set j (some x) = σ' x) (hw : ∀ x, wipe ((wipe σ vs).set j (some x)) vs = wipe σ vs)
    (ht : ∀ (i : Nat) (H1 : Hp) (R : Bool → Hp → Prop), Ex H H1 → i < n → (∀ H2, Ex H1 H2 → R (p i) H2) → tt (σ' (.int (lo + (i : Int)))) H1 R)
    (he : ∀ (i : Nat) (H1 : Hp) (Q' : VK), Ex H H1 → i < n → p i = true → (∀ H2, Ex H1 H2 → Q' (v i) H2) → te (σ' (.int (lo + (i : Int)))) H1 Q')
    (hq : ∀ p' H2, H p' = none → Ex H H2 → H2 p' = some (.lst (((List.range n).filter p).map v)) → Q (.ref p') H2) : LcJ (Itr lo n) (gName j) tt te vs σ H Q := fun D hD =>
  lc_range (Pv := fun i H' => Ex H H' ∧ H' D = some (.lst (((List.range i).filter p).map v))) ⟨Ex.new hD, upd_same⟩ (fun i H' hi q => ⟨hw _, by
    show tt ((wipe σ vs).set j _) H' _
    rw [hσ]
    refine ht i H' _ q.1 hi fun H2 e2 => ?_
    have g2 := e2 D _ q.2
    have hl : (((List.range i).filter p).map v).length ≤ i := by
      rw [List.length_map]
      exact Nat.le_trans (List.length_filter_le ..) (by rw [List.length_range]; omega)
    cases c : p i with
    | true =>
      rw [if_pos rfl]
      refine he i H2 _ (q.1.trans e2) hi c fun H3 e3 => ⟨_, e3 D _ g2, sz_lt (by omega), Ex.mut ((q.1.trans e2).trans e3) hD, ?_⟩
      rw [List.range_succ, List.filter_append, List.map_append, List.filter_cons_of_pos c]
      exact upd_same
    | false =>
      rw [if_neg (by decide)]
      refine ⟨q.1.trans e2, ?_⟩
      rw [List.range_succ, List.filter_append, List.map_append, List.filter_cons_of_neg (by rw [c]; decide)]
      show H2 D = some (.lst (_ ++ []))
      rw [List.append_nil]
      exact g2⟩) fun H' q => hq D H' hD q.1 q.2
end

end
section
theorem okW_ok {w : Str} (h : okW w = true) : (PyData.str w).canLay0 = true := by
  have h1 := (Bool.and_eq_true_iff.mp (show ((decide (1 ≤ (w.length : Int)) && decide ((w.length : Int) ≤ 8)) && w.cps.toList.all lwr) = true from h)).2
  show w.cps.all (· < 0x110000) = true
  rw [← Array.all_toList, List.all_eq_true]
  intro c hc
  have := List.all_eq_true.mp h1 c hc
  unfold lwr at this
  simp at this
  simp
  omega
theorem okW_sh {w : Str} (h : okW w = true) : SeqAt.shaped (.str w) = true := by
  show ((PyData.str w).canLay0 && decide (0 ≤ 64)) = true
  rw [okW_ok h]
  rfl
theorem strs_lay {ws : List Str} (h : ∀ w ∈ ws, okW w = true) : PyData.canLayAll0 (ws.map .str) = true ∧ PyData.depthAll (ws.map .str) = 0 := by
  induction ws with
  | nil => exact ⟨rfl, rfl⟩
  | cons w ws ih =>
    obtain ⟨a, b⟩ := ih fun x hx => h x (List.mem_cons_of_mem _ hx)
    refine ⟨?_, ?_⟩
    · show ((PyData.str w).canLay0 && PyData.canLayAll0 (ws.map .str)) = true
      rw [a, okW_ok (h w List.mem_cons_self)]
      rfl
    · show max 0 (PyData.depthAll (ws.map .str)) = 0
      rw [b]
      rfl
theorem shaped_strs {ws : List Str} (h : ∀ w ∈ ws, okW w = true) : SeqAt.shaped (.tuple (ws.map .str)) = true := by
  show (PyData.canLayAll0 (ws.map .str) && decide (PyData.depthAll (ws.map .str) + 1 ≤ 64)) = true
  rw [(strs_lay h).1, (strs_lay h).2]
  rfl
theorem eqv_str (x y : Str) : PyData.eqv (.str x) (.str y) = decide (x = y) := by
  show (x == y) = _
  by_cases c : x = y <;> simp [c]
theorem eqv_strs : ∀ xs ys : List Str, PyData.eqvAll (xs.map .str) (ys.map .str) = decide (xs = ys)
  | [], [] => rfl
  | [], _ :: _ => rfl
  | _ :: _, [] => rfl
  | x :: xs, y :: ys => by
    show (PyData.eqv (.str x) (.str y) && PyData.eqvAll (xs.map .str) (ys.map .str)) = _
    rw [eqv_strs xs ys, eqv_str]
    by_cases h : x = y
    · subst h; simp
    · simp [h]
section
variable {K : PySem.W.Frag} {H : Hp} {a b : Addr} {xs ys : List Str} {Q : VK}
theorem dp_of_strs (h : SqT K H a (xs.map V.str)) : Dp K H (.ref a) (.tuple (xs.map .str)) := .tup h dpAll_of_strs
theorem r_eqTS (ha : SqT K H a (xs.map V.str)) (hb : SqT K H b (ys.map V.str)) (ox : ∀ w ∈ xs, okW w = true) (oy : ∀ w ∈ ys, okW w = true) (h : Q (.bl (decide (xs = ys))) H) : rEqU K (.ref a) (.ref b) H Q :=
  r_eqD (dp_of_strs ha) (dp_of_strs hb) (shaped_strs ox) (shaped_strs oy) (by rw [show PyData.eqv (.tuple (xs.map .str)) (.tuple (ys.map .str)) = decide (xs = ys) from eqv_strs xs ys]; exact h)
theorem r_neTS (ha : SqT K H a (xs.map V.str)) (hb : SqT K H b (ys.map V.str)) (ox : ∀ w ∈ xs, okW w = true) (oy : ∀ w ∈ ys, okW w = true) (h : Q (.bl (!decide (xs = ys))) H) : rNeU K (.ref a) (.ref b) H Q :=
  r_neD (dp_of_strs ha) (dp_of_strs hb) (shaped_strs ox) (shaped_strs oy) (by rw [show PyData.eqv (.tuple (xs.map .str)) (.tuple (ys.map .str)) = decide (xs = ys) from eqv_strs xs ys]; exact h)
end
/-- how often a name stands in a roster -/
def numR (fs us : List Str) (w : Str) : Option Int := if w ∈ us then none else some ((fs.countP fun x => decide (x = w) : Nat) : Int)
theorem any_strs (us : List Str) (w : Str) : ((us.map PyData.str).any fun z => PyData.eqv z (.str w)) = decide (w ∈ us) := by
  induction us with
  | nil => rfl
  | cons u us ih =>
    rw [List.map_cons, List.any_cons, ih, eqv_str, ← Bool.decide_or]
    exact decide_eq_decide.mpr ⟨fun h => h.elim (fun h => h ▸ List.mem_cons_self) (List.mem_cons_of_mem _), fun h => (List.mem_cons.mp h).imp Eq.symm id⟩
theorem cnt_strs (fs : List Str) (w : Str) : (fs.map PyData.str).countP (fun z => PyData.eqv z (.str w)) = fs.countP fun x => decide (x = w) := by
  rw [List.countP_map]
  congr 1
structure RosOk (fs us : List Str) : Prop where
  zf : fs.length ≤ 40000
  zu : us.length ≤ 40000
  okf : ∀ w ∈ fs, okW w = true
  oku : ∀ w ∈ us, okW w = true
abbrev N_Roster_number : List Str := ["self", "name"]
theorem sc_Roster_number : FnScope N_Roster_number ["self", "name"] (defScope s_Roster_number) := ⟨rfl, rfl, rfl, by decide +kernel, rfl, by decide +kernel, by decide +kernel⟩
theorem fx_Roster_number {P : Program} {w : World} {K : PySem.W.Frag} {mg : Str → Option Value} {base : Heap} (E : Env P K mg) : ∃ fd, FunD K "number" "Roster.number" (defArgs s_Roster_number) (defBody s_Roster_number) (defScope s_Roster_number) (d_Roster_number.dvs K) [] (d_Roster_number.adr K) fd ∧ FnOk P w K mg base CX0 1 (d_Roster_number.adr K) fd ["self", "name"] (sp2 fun x n H Q _ => ∃ p fs us w, x = .ref p ∧ RosAt K H p fs us ∧ RosOk fs us ∧ n = .str w ∧ okW w = true ∧ Q (optV (numR fs us w)) H) := by
  obtain ⟨fd, F⟩ := E.dd_Roster_number
  refine ⟨fd, F, fnok0 F sc_Roster_number sp2_len (fun cdv A outer s H vs Q X hr h => ?_)⟩
  have nd := sc_Roster_number.nd
  obtain ⟨v0, v1, rfl, h⟩ := h
  refine ⟨_, (pss_cons (ps_if (pt_cmpR (kInT K hr) (pv 1) (kFld K (pv 0) rfl) rfl)
   (pss_one (ps_ret (pe_non)))
   pss_nil)
  (pss_one (ps_ret (pe_bmT PySem.F.slot_tuple_count PySem.F.type_tuple_count (kCountT K hr) (kFld K (pv 0) rfl) (pa_cons (pv 1) pa_nil))))), ?_⟩
  change (_ : TS) _ [some v0, some v1] H
  try dsimp only [cxOf, Cx.nox, Cx.blk]
  obtain ⟨p, fs, us, w, rfl, ros, ok, rfl, hw, k⟩ := h
  unfold numR at k
  walk_at "w"
  refine r_rosThen E ros fun b sf st => ?_
  refine ⟨.str w, us.map .str, .str w, .tup st dpAll_of_strs, okW_sh hw, shaped_strs ok.oku, ?_⟩
  rw [any_strs]
  walk_at "w"
  by_cases c : w ∈ us
  · walk_at "w"
    rw [if_pos c] at k
    exact k
  · walk_at "w"
    rw [if_neg c] at k
    refine w_bmT ?_
    walk_at "w"
    refine r_rosFirst E ros fun a sf2 st2 => ?_
    refine r_bmT sf2 ?_
    walk_at "w"
    refine ⟨a, _, .str w, _, rfl, rfl, .tup st2 dpAll_of_strs, .str w, shaped_strs ok.okf, okW_sh hw, ?_⟩
    rw [cnt_strs]
    exact k
theorem ok_Roster_number {P : Program} {w : World} {K : PySem.W.Frag} {mg : Str → Option Value} {base : Heap} (E : Env P K mg) : Mt P w K mg base CX0 1 (He.ga K "Roster") "number" (sp2 fun x n H Q _ => ∃ p fs us w, x = .ref p ∧ RosAt K H p fs us ∧ RosOk fs us ∧ n = .str w ∧ okW w = true ∧ Q (optV (numR fs us w)) H) := by
  obtain ⟨fd, F, k⟩ := fx_Roster_number (P := P) (w := w) (base := base) E
  exact ⟨_, fd, _, E.c_Roster, E.m_Roster_number, k, F.bindsN (fun _ _ _ _ _ _ us hl => match us, hl with | [_, _], _ => rfl)⟩
theorem ros_mine {K : PySem.W.Frag} {H : Hp} {x : Addr} {fs us : List Str} (t : RosAt K H x fs us) : ∃ dx fl, H x = some (.ins (He.ga K "Roster") dx fl) := by
  obtain ⟨dx, a, b, h1, _⟩ := t
  exact ⟨dx, _, h1⟩
abbrev N_Roster_eq : List Str := ["self", "other"]
theorem sc_Roster_eq : FnScope N_Roster_eq ["self", "other"] (defScope s_Roster_eq) := ⟨rfl, rfl, rfl, by decide +kernel, rfl, by decide +kernel, by decide +kernel⟩
theorem fx_Roster_eq {P : Program} {w : World} {K : PySem.W.Frag} {mg : Str → Option Value} {base : Heap} (E : Env P K mg) : ∃ fd, FunD K "__eq__" "Roster.__eq__" (defArgs s_Roster_eq) (defBody s_Roster_eq) (defScope s_Roster_eq) (d_Roster_eq.dvs K) [] (d_Roster_eq.adr K) fd ∧ FnOk P w K mg base CX0 1 (d_Roster_eq.adr K) fd ["self", "other"] (sp2 fun x y H Q _ => ∃ p fs us, x = .ref p ∧ RosAt K H p fs us ∧ RosOk fs us ∧ ((∃ q fs' us', y = .ref q ∧ RosAt K H q fs' us' ∧ RosOk fs' us' ∧ RetD K (.bool (decide (fs = fs' ∧ us = us'))) H Q) ∨ (∃ n ∈ ["tuple", "list"], TyX K H y (.type n) ∧ RetD K (.bool false) H Q))) := by
  obtain ⟨fd, F⟩ := E.dd_Roster_eq
  refine ⟨fd, F, fnok0 F sc_Roster_eq sp2_len (fun cdv A outer s H vs Q X hr h => ?_)⟩
  have nd := sc_Roster_eq.nd
  obtain ⟨v0, v1, rfl, h⟩ := h
  refine ⟨_, (pss_one (ps_ret (pe_and (pe_callB (kIsi K) (by rfl) E.f_isinstance (by decide +kernel) (pa_cons (pv 1) (pa_cons (pe_glob (v := .ref (He.ga K "Roster")) (by rfl) E.g_Roster rfl) pa_nil))) (pe_and (pe_cmpR (kEq K hr) (kFld K (pv 0) rfl) (kFld K (pv 1) rfl) (nomark _)) (pe_one (pe_cmpR (kEq K hr) (kFld K (pv 0) rfl) (kFld K (pv 1) rfl) (nomark _))))))), ?_⟩
  change (_ : TS) _ [some v0, some v1] H
  try dsimp only [cxOf, Cx.nox, Cx.blk]
  obtain ⟨p, fs, us, rfl, ht, ok, h2⟩ := h
  rcases h2 with ⟨q, fs', us', rfl, hu, ok', k⟩ | ⟨n, hn, ty, k⟩
  · walk_at "w"
    refine r_isiC (insB_ok E.ins_Roster E.c_Roster (ros_mine hu).choose_spec.choose_spec) E.kit_Roster_self ?_
    walk_at "w"
    refine r_rosFirst E ht fun a _ sa => ?_
    walk_at "w"
    refine r_rosFirst E hu fun a' _ sa' => ?_
    refine r_eqTS sa sa' ok.okf ok'.okf ?_
    walk_at "w"
    by_cases c1 : fs = fs'
    · walk_at "w"
      refine r_rosThen E ht fun b _ sb => ?_
      walk_at "w"
      refine r_rosThen E hu fun b' _ sb' => ?_
      refine r_eqTS sb sb' ok.oku ok'.oku ?_
      walk_at "w"
      rw [show decide (fs = fs' ∧ us = us') = decide (us = us') by simp [c1]] at k
      exact k.bl (Ex.refl _)
    · walk_at "w"
      rw [show decide (fs = fs' ∧ us = us') = false by simp [c1]] at k
      exact k.bl (Ex.refl _)
  · walk_at "w"
    refine r_isiC (b := false) ty ?_ ?_
    · simp at hn
      rcases hn with rfl | rfl
      · exact E.kit_Roster_tuple
      · exact E.kit_Roster_list
    walk_at "w"
    exact k.bl (Ex.refl _)
theorem ok_Roster_eq {P : Program} {w : World} {K : PySem.W.Frag} {mg : Str → Option Value} {base : Heap} (E : Env P K mg) : EqOf P w K mg base 1 (He.ga K "Roster") (sp2 fun x y H Q _ => ∃ p fs us, x = .ref p ∧ RosAt K H p fs us ∧ RosOk fs us ∧ ((∃ q fs' us', y = .ref q ∧ RosAt K H q fs' us' ∧ RosOk fs' us' ∧ RetD K (.bool (decide (fs = fs' ∧ us = us'))) H Q) ∨ (∃ n ∈ ["tuple", "list"], TyX K H y (.type n) ∧ RetD K (.bool false) H Q))) := by
  obtain ⟨fd, F, k⟩ := fx_Roster_eq (P := P) (w := w) (base := base) E
  exact ⟨_, fd, _, E.m_Roster_eq.at_, E.m_Roster_eq.fn, k, F.bindsN (fun _ _ _ _ _ _ us hl => match us, hl with | [_, _], _ => rfl)⟩
/-- what stn gives -/
structure Stn (k : Nat) (s : List Int × Int) : Prop where
  ri : rising s.1
  lo : ∀ n ∈ s.1, 0 ≤ n ∧ n ≤ s.2
  c0 : 0 ≤ s.2
  cl : s.2 ≤ k
  ll : s.1.length ≤ k
theorem stp_ok {r o : Str} {k : Nat} {s : List Int × Int} (h : Stn k s) (w : Str) : Stn (k + 1) (stp r o s w) := by
  obtain ⟨h1, h2, h3, h4, h5⟩ := h
  have hs : s.2 ≤ (stp r o s w).2 ∧ (stp r o s w).2 ≤ s.2 + 1 := by
    unfold stp
    dsimp only
    split <;> omega
  have hl : (stp r o s w).1 = s.1 ∨ (stp r o s w).1 = s.1 ++ [s.2] := by
    unfold stp
    dsimp only
    split
    · exact .inr rfl
    · exact .inl rfl
  refine ⟨?_, fun n hn => ?_, by omega, by omega, ?_⟩
  · rcases hl with e | e
    · rw [e]; exact h1
    · rw [e]; exact rising_app h1 fun n hn => (h2 n hn).2
  · rcases hl with e | e
    · rw [e] at hn
      have := h2 n hn
      omega
    · rw [e] at hn
      rcases List.mem_append.mp hn with hn | hn
      · have := h2 n hn
        omega
      · rw [List.mem_singleton] at hn
        omega
  · rcases hl with e | e
    · rw [e]; omega
    · rw [e, List.length_append, List.length_singleton]; omega
theorem stn_ok (r o : Str) (ws : List Str) : Stn ws.length (stn r o ws) := by
  suffices h : ∀ (ws : List Str) (k : Nat) (s : List Int × Int), Stn k s → Stn (k + ws.length) (ws.foldl (stp r o) s) by
    have := h ws 0 ([], 0) ⟨fun i hi => absurd hi (by simp), fun n hn => absurd hn List.not_mem_nil, Int.le_refl _, Int.le_refl _, Nat.le_refl _⟩
    rwa [Nat.zero_add] at this
  intro ws
  induction ws with
  | nil => exact fun k s h => h
  | cons w ws ih =>
    intro k s h
    rw [List.foldl_cons, List.length_cons, show k + (ws.length + 1) = k + 1 + ws.length by omega]
    exact ih _ _ (stp_ok h w)
def rtH (r o : Str) (fs : List Str) : List Int := (stn r o fs).1
def rtL (r o : Str) (fs us : List Str) : List Int := (stn r o us).1.map ((stn r o fs).2 + ·)
def rtR (r o : Str) (us : List Str) : Int := if (stn r o us).1 = [] then 0 else (stn r o us).2
theorem gI_memR {ns : List Int} {r : Int} (r0 : 0 ≤ r) (r1 : r < ns.length) : gI ns r ∈ ns := by
  unfold gI
  rw [List.getD_eq_getElem?_getD, List.getElem?_eq_getElem (show r.toNat < ns.length by omega)]
  exact List.getElem_mem _
theorem gI_mapA {l : List Int} {c : Int} {i : Int} (h0 : 0 ≤ i) (h1 : i < l.length) : gI (l.map (c + ·)) i = c + gI l i := by
  unfold gI
  have h2 : i.toNat < l.length := by omega
  rw [List.getD_eq_getElem?_getD, List.getD_eq_getElem?_getD, List.getElem?_map, List.getElem?_eq_getElem h2]
  rfl
theorem rt_val {r o : Str} {fs us : List Str} (zf : fs.length ≤ 40000) (zu : us.length ≤ 40000) : Val (rtH r o fs) (rtL r o fs us) (rtR r o us) := by
  have A := stn_ok r o fs
  have B := stn_ok r o us
  unfold rtH rtL rtR
  generalize stn r o fs = s at *
  generalize stn r o us = t at *
  obtain ⟨a1, a2, a3, a4, a5⟩ := A
  obtain ⟨b1, b2, b3, b4, b5⟩ := B
  have ne : t.1.map (s.2 + ·) ≠ [] → t.1 ≠ [] := fun h e => h (by rw [e]; rfl)
  have r0 : (0 : Int) ≤ (if t.1 = [] then 0 else t.2) ∧ (if t.1 = [] then 0 else t.2) ≤ us.length := by split <;> omega
  have rr : t.1 ≠ [] → (if t.1 = [] then 0 else t.2) = t.2 := fun h => if_neg h
  refine ⟨fun n hn => (a2 n hn).1, fun n hn => ?_, a1, fun i hi => ?_, r0.1, fun e => if_pos (List.map_eq_nil_iff.mp e), fun h1 h2 => ?_, fun h2 => ?_, ⟨by omega, by omega, by omega, by rw [List.length_map]; omega⟩⟩
  · obtain ⟨m, hm, rfl⟩ := List.mem_map.mp hn
    have := (b2 m hm).1
    omega
  · rw [List.length_map] at hi
    rw [gI_mapA (by omega) (by omega), gI_mapA (by omega) (by omega)]
    have := b1 i hi
    omega
  · have l0 : 0 < t.1.length := List.length_pos_iff.mpr (ne h2)
    have h0 : 0 < s.1.length := List.length_pos_iff.mpr h1
    rw [gI_mapA (by omega) (by omega)]
    have x1 := (a2 _ (gI_memR (ns := s.1) (r := (s.1.length : Int) - 1) (by omega) (by omega))).2
    have x2 := (b2 _ (gI_memR (ns := t.1) (r := 0) (by omega) (by omega))).1
    omega
  · have l0 : 0 < t.1.length := List.length_pos_iff.mpr (ne h2)
    rw [List.length_map, gI_mapA (by omega) (by omega), gI_mapA (by omega) (by omega), rr (ne h2)]
    have x1 := (b2 _ (gI_memR (ns := t.1) (r := (t.1.length : Int) - 1) (by omega) (by omega))).2
    have x2 := (b2 _ (gI_memR (ns := t.1) (r := 0) (by omega) (by omega))).1
    omega
def cntV : V → Int
  | .int i => i
  | _ => 0
theorem map_cnt (c : Int) (l : List Int) : (vI l).map (fun x => V.int (c + cntV x)) = vI (l.map (c + ·)) := by
  show (l.map V.int).map (fun x => V.int (c + cntV x)) = (l.map (c + ·)).map V.int
  rw [List.map_map, List.map_map]
  rfl
abbrev spAhead (K : PySem.W.Frag) : Sp := sp3 fun x a b H Q _ => ∃ p fs us r o, x = .ref p ∧ RosAt K H p fs us ∧ RosOk fs us ∧ a = .str r ∧ b = .str o ∧
  ∀ t H2, Ex H H2 → TabAt K H2 t (plainF (rtH r o fs) (rtL r o fs us) (rtR r o us)).1 (plainF (rtH r o fs) (rtL r o fs us) (rtR r o us)).2.1 (plainF (rtH r o fs) (rtL r o fs us) (rtR r o us)).2.2 → Q (.ref t) H2
abbrev N_Roster_ahead : List Str := ["self", "row", "other", "head", "count", "loop", "rise", "more"]
theorem sc_Roster_ahead : FnScope N_Roster_ahead ["self", "row", "other"] (defScope s_Roster_ahead) := ⟨rfl, rfl, rfl, by decide +kernel, rfl, by decide +kernel, by decide +kernel⟩
theorem fx_Roster_ahead {P : Program} {w : World} {K : PySem.W.Frag} {mg : Str → Option Value} {base : Heap} (E : Env P K mg) : ∃ fd, FunD K "ahead" "Roster.ahead" (defArgs s_Roster_ahead) (defBody s_Roster_ahead) (defScope s_Roster_ahead) (d_Roster_ahead.dvs K) [] (d_Roster_ahead.adr K) fd ∧ FnOk P w K mg base CX0 12 (d_Roster_ahead.adr K) fd ["self", "row", "other"] (spAhead K) := by
  obtain ⟨fd, F⟩ := E.dd_Roster_ahead
  refine ⟨fd, F, fnok0 F sc_Roster_ahead sp3_len (fun cdv A outer s H vs Q X hr h => ?_)⟩
  have nd := sc_Roster_ahead.nd
  obtain ⟨v0, v1, v2, rfl, h⟩ := h
  refine ⟨_, (pss_cons (ps_asg (pc (ok_stood_ahead E) hr (by decide) pass0 rfl (pa_cons (kFld K (pv 0) rfl) (pa_cons (pv 1) (pa_cons (pv 2) pa_nil)))) (kGtup K rfl (pgs_cons (pg_name (i := 3) nd rfl (.inl rfl)) (pgs_cons (pg_name (i := 4) nd rfl (.inr rfl)) (pgs_nil)))))
  (pss_cons (ps_asg (pc (ok_stood_ahead E) hr (by decide) pass0 rfl (pa_cons (kFld K (pv 0) rfl) (pa_cons (pv 1) (pa_cons (pv 2) pa_nil)))) (kGtup K rfl (pgs_cons (pg_name (i := 5) nd rfl (.inl rfl)) (pgs_cons (pg_name (i := 6) nd rfl (.inl rfl)) (pgs_nil)))))
  (pss_cons (ps_if (pt_cmpR (kEq K hr) (pe_callB (kLen K) (by rfl) E.f_len (by decide +kernel) (pa_cons (pv 5) pa_nil)) (pe_int) (nomark _))
   (pss_one (ps_ret (pmk (ok_Table1 E) hr (by decide) pass0 rfl (pa_cons (pv 3) pa_nil))))
   pss_nil)
  (pss_one (ps_ret (pmk (ok_Table3 E) hr (by decide) pass0 rfl (pa_cons (pv 3) (pa_cons (pe_lc (own := [("more", 7)]) (g := gName 7) (tt := tYes) rfl nd (kSeq K (pv 5)) (blkOk_by (N := N_Roster_ahead) (sc := defScope s_Roster_ahead) (by decide +kernel)) (fun _ _ _ _ _ => pg_name (i := 7) nd rfl (Or.inl rfl)) (fun _ _ _ _ _ => pts_nil) (fun _ _ _ _ _ => pe_op (kAdd K) (pv 4) (pv 7))) (pa_cons (pv 6) pa_nil))))))))), ?_⟩
  change (_ : TS) _ [some v0, some v1, some v2, none, none, none, none, none] H
  try dsimp only [cxOf, Cx.nox, Cx.blk]
  obtain ⟨p, fs, us, r, o, rfl, ros, ok, rfl, rfl, k⟩ := h
  have zf := ok.zf
  have zu := ok.zu
  have W := rt_val (r := r) (o := o) zf zu
  walk_at "w"
  refine r_rosFirst E ros fun a sf sa => ?_
  walk_at "w"
  refine ⟨a, fs, r, o, rfl, rfl, rfl, sa, by omega, fun q t H1 e1 sq nt gt => ?_⟩
  walk_at "w"
  refine r_rosThen E (ex_ros e1 ros) fun b _ sb => ?_
  walk_at "w"
  refine ⟨b, us, r, o, rfl, rfl, rfl, sb, by omega, fun q2 t2 H2 e2 sq2 nt2 gt2 => ?_⟩
  have sl : SqL K H2 t2 (vI (stn r o us).1) := sq_of gt2
  have e02 := e1.trans e2
  have sh : SqL K H2 t (vI (stn r o fs).1) := sq_of (e2 _ _ gt)
  have z1 := (stn_ok r o us).ll
  unfold rtH rtL rtR at W k
  walk_at "w"
  by_cases c : (stn r o us).1 = []
  · rw [if_pos c, c] at W k
    have c0 : ((stn r o us).1.length : Int) = 0 := by rw [c]; rfl
    walk_at "w"
    exact mk_tab (b1 := false) (b2 := true) rfl (dp_of_intL sh) (dp_of_ints (ns := []) (E.t0_Table _)) (.int 0) W fun x H3 e3 T => k x H3 (e02.trans e3) T
  · rw [if_neg c] at W k
    have l0 : 0 < (stn r o us).1.length := List.length_pos_iff.mpr c
    walk_at "w"
    refine i_seqL ?_
    walk_at "w"
    refine lcJ_list (v := fun x => .int ((stn r o fs).2 + cntV x)) sl (by rw [List.length_map]; omega) (fun x => [_, _, _, _, _, _, _, some x]) (fun x => rfl) (fun x => rfl) (fun x H3 Q' e3 hx hq => ?_) (fun p3 H3 n3 e3 g3 => ?_)
    · obtain ⟨n, hn, rfl⟩ := List.mem_map.mp hx
      walk_at "w"
      exact hq _ (Ex.refl _)
    · rw [map_cnt] at g3
      walk_at "w"
      exact mk_tab (b1 := false) (b2 := false) rfl (dp_of_intL (ex_l e3 sh)) (dp_of_intL (sq_of g3)) (.int _) W fun x H4 e4 T => k x H4 ((e02.trans e3).trans e4) T
theorem ok_Roster_ahead {P : Program} {w : World} {K : PySem.W.Frag} {mg : Str → Option Value} {base : Heap} (E : Env P K mg) : Mt P w K mg base CX0 12 (He.ga K "Roster") "ahead" (spAhead K) := by
  obtain ⟨fd, F, k⟩ := fx_Roster_ahead (P := P) (w := w) (base := base) E
  exact ⟨_, fd, _, E.c_Roster, E.m_Roster_ahead, k, F.bindsN (fun _ _ _ _ _ _ us hl => match us, hl with | [_, _, _], _ => rfl)⟩

end
section
abbrev N__law_standing : List Str := ["first", "then", "row", "other", "head", "count", "loop", "rise", "more"]
theorem sc__law_standing : FnScope N__law_standing ["first", "then", "row", "other"] (defScope s__law_standing) := ⟨rfl, rfl, rfl, by decide +kernel, rfl, by decide +kernel, by decide +kernel⟩
theorem ok__law_standing {P : Program} {w : World} {K : PySem.W.Frag} {mg : Str → Option Value} {base : Heap} (E : Env P K mg) : Fn P w K mg base CX0 2 "_law_standing" (sp4 fun a b c d H Q _ => ∃ p q fs us r o, a = .ref p ∧ b = .ref q ∧ c = .str r ∧ d = .str o ∧ SqT K H p (fs.map V.str) ∧ SqT K H q (us.map V.str) ∧ fs.length ≤ 40000 ∧ us.length ≤ 40000 ∧ RetD K (dPl (rtH r o fs) (rtL r o fs us) (rtR r o us)) H Q) := by
  obtain ⟨fd, F⟩ := E.dd__law_standing
  refine Fn.mk0 F E.g__law_standing sc__law_standing sp4_len (fun _ _ _ _ _ _ us hl => match us, hl with | [_, _, _, _], _ => rfl) (fun cdv A outer s H vs Q X hr h => ?_)
  have nd := sc__law_standing.nd
  obtain ⟨v0, v1, v2, v3, rfl, h⟩ := h
  refine ⟨_, (pss_cons (ps_asg (pc (ok__law_stood E) hr (by decide) pass0 rfl (pa_cons (pv 0) (pa_cons (pv 2) (pa_cons (pv 3) pa_nil)))) (kGtup K rfl (pgs_cons (pg_name (i := 4) nd rfl (.inl rfl)) (pgs_cons (pg_name (i := 5) nd rfl (.inr rfl)) (pgs_nil)))))
  (pss_cons (ps_asg (pc (ok__law_stood E) hr (by decide) pass0 rfl (pa_cons (pv 1) (pa_cons (pv 2) (pa_cons (pv 3) pa_nil)))) (kGtup K rfl (pgs_cons (pg_name (i := 6) nd rfl (.inl rfl)) (pgs_cons (pg_name (i := 7) nd rfl (.inl rfl)) (pgs_nil)))))
  (pss_one (ps_ret (pc (ok__law_plain E) hr (by decide) pass0 rfl (pa_cons (pv 4) (pa_cons (pe_lc (own := [("more", 8)]) (g := gName 8) (tt := tYes) rfl nd (kSeq K (pv 6)) (blkOk_by (N := N__law_standing) (sc := defScope s__law_standing) (by decide +kernel)) (fun _ _ _ _ _ => pg_name (i := 8) nd rfl (Or.inl rfl)) (fun _ _ _ _ _ => pts_nil) (fun _ _ _ _ _ => pe_op (kAdd K) (pv 5) (pv 8))) (pa_cons (pe_ifExp (pt_cmpR op_gt (pe_callB (kLen K) (by rfl) E.f_len (by decide +kernel) (pa_cons (pv 6) pa_nil)) (pe_int) (nomark _)) (pv 7) (pe_int)) pa_nil)))))))), ?_⟩
  change (_ : TS) _ [some v0, some v1, some v2, some v3, none, none, none, none, none] H
  try dsimp only [cxOf, Cx.nox, Cx.blk]
  obtain ⟨p, q, fs, us, r, o, rfl, rfl, rfl, rfl, sa, sb, zf, zu, k⟩ := h
  have W := rt_val (r := r) (o := o) zf zu
  walk_at "w"
  refine ⟨p, fs, r, o, rfl, rfl, rfl, sa, by omega, fun q1 t H1 e1 sq nt gt => ?_⟩
  walk_at "w"
  refine ⟨q, us, r, o, rfl, rfl, rfl, ex_t e1 sb, by omega, fun q2 t2 H2 e2 sq2 nt2 gt2 => ?_⟩
  have sl : SqL K H2 t2 (vI (stn r o us).1) := sq_of gt2
  have e02 := e1.trans e2
  have sh : SqL K H2 t (vI (stn r o fs).1) := sq_of (e2 _ _ gt)
  have z1 := (stn_ok r o us).ll
  unfold rtH rtL rtR at W k
  walk_at "w"
  refine i_seqL ?_
  walk_at "w"
  refine lcJ_list (v := fun x => .int ((stn r o fs).2 + cntV x)) sl (by rw [List.length_map]; omega) (fun x => [_, _, _, _, _, _, _, _, some x]) (fun x => rfl) (fun x => rfl) (fun x H3 Q' e3 hx hq => ?_) (fun p3 H3 n3 e3 g3 => ?_)
  · obtain ⟨n, hn, rfl⟩ := List.mem_map.mp hx
    walk_at "w"
    exact hq _ (Ex.refl _)
  · rw [map_cnt] at g3
    have sl3 := ex_l e3 sl
    walk_at "w"
    by_cases c : (stn r o us).1 = []
    · rw [if_pos c] at W k
      have c0 : ((stn r o us).1.length : Int) = 0 := by rw [c]; rfl
      walk_at "w"
      refine ⟨false, false, _, _, 0, dp_of_intL (ex_l e3 sh), dp_of_intL (sq_of g3), .int 0, Int.le_refl 0, W.sm, fun v H4 e4 d4 => ?_⟩
      rw [lawF_eq] at d4
      exact k v H4 ((e02.trans e3).trans e4) d4
    · rw [if_neg c] at W k
      have l0 : 0 < (stn r o us).1.length := List.length_pos_iff.mpr c
      walk_at "w"
      refine ⟨false, false, _, _, _, dp_of_intL (ex_l e3 sh), dp_of_intL (sq_of g3), .int _, W.r0, W.sm, fun v H4 e4 d4 => ?_⟩
      rw [lawF_eq] at d4
      exact k v H4 ((e02.trans e3).trans e4) d4
def eqSt (w : Str) : V → Bool
  | .str x => decide (x = w)
  | _ => false
theorem len_filter (fs : List Str) (w : Str) : (((fs.map V.str).filter (eqSt w)).map fun x => x).length = fs.countP fun x => decide (x = w) := by
  rw [List.length_map, List.filter_map, List.length_map, ← List.countP_eq_length_filter]
  rfl
abbrev N__law_stands : List Str := ["first", "then", "name", "one"]
theorem sc__law_stands : FnScope N__law_stands ["first", "then", "name"] (defScope s__law_stands) := ⟨rfl, rfl, rfl, by decide +kernel, rfl, by decide +kernel, by decide +kernel⟩
theorem ok__law_stands {P : Program} {w : World} {K : PySem.W.Frag} {mg : Str → Option Value} {base : Heap} (E : Env P K mg) : Fn P w K mg base CX0 1 "_law_stands" (sp3 fun a b c H Q _ => ∃ p q fs us w, a = .ref p ∧ b = .ref q ∧ c = .str w ∧ SqT K H p (fs.map V.str) ∧ SqT K H q (us.map V.str) ∧ RosOk fs us ∧ okW w = true ∧ ∀ H', Ex H H' → Q (optV (numR fs us w)) H') := by
  obtain ⟨fd, F⟩ := E.dd__law_stands
  refine Fn.mk0 F E.g__law_stands sc__law_stands sp3_len (fun _ _ _ _ _ _ us hl => match us, hl with | [_, _, _], _ => rfl) (fun cdv A outer s H vs Q X hr h => ?_)
  have nd := sc__law_stands.nd
  obtain ⟨v0, v1, v2, rfl, h⟩ := h
  refine ⟨_, (pss_one (ps_ret (pe_ifExp (pt_cmpR (kInT K hr) (pv 2) (pv 1) rfl) (pe_non) (pe_callB (kLen K) (by rfl) E.f_len (by decide +kernel) (pa_cons (pe_lc (own := [("one", 3)]) (g := gName 3) rfl nd (kSeq K (pv 0)) (blkOk_by (N := N__law_stands) (sc := defScope s__law_stands) (by decide +kernel)) (fun _ _ _ _ _ => pg_name (i := 3) nd rfl (Or.inl rfl)) (fun _ _ _ _ _ => pts_one (pt_cmpR (kEq K hr) (pv 3) (pv 2) (nomark _))) (fun _ _ _ _ _ => pv 3)) pa_nil))))), ?_⟩
  change (_ : TS) _ [some v0, some v1, some v2, none] H
  try dsimp only [cxOf, Cx.nox, Cx.blk]
  obtain ⟨p, q, fs, us, w, rfl, rfl, rfl, sa, sb, ok, hw, k⟩ := h
  have zf := ok.zf
  unfold numR at k
  walk_at "w"
  refine ⟨.str w, us.map .str, .str w, .tup sb dpAll_of_strs, okW_sh hw, shaped_strs ok.oku, ?_⟩
  rw [any_strs]
  walk_at "w"
  by_cases c : w ∈ us
  · walk_at "w"
    rw [if_pos c] at k
    exact k _ (Ex.refl _)
  · rw [if_neg c] at k
    walk_at "w"
    refine i_seqT ?_
    walk_at "w"
    refine lcT_tup (eqSt w) (fun x => x) sa (by rw [List.length_map]; omega) (fun x => [_, _, _, some x]) (fun x => rfl) (fun x => rfl) (fun x H1 R e1 hx hr => ?_) (fun x H1 Q' e1 hx _ hq => ?_) (fun p2 H2 n2 e2 g2 => ?_)
    · obtain ⟨u, hu, rfl⟩ := List.mem_map.mp hx
      walk_at "w"
      refine r_eqSS ?_
      walk_at "w"
      exact hr _ (Ex.refl _)
    · walk_at "w"
      exact hq _ (Ex.refl _)
    · have sl : SqL K H2 p2 (((fs.map V.str).filter (eqSt w)).map fun x => x) := sq_of g2
      walk_at "w"
      rw [len_filter]
      exact k _ e2
abbrev spRef (K : PySem.W.Frag) : Sp := sp2 fun a b H Q _ => (NmL K H a false ∧ ∀ H', Ex H H' → Q (.str "first") H') ∨ ∃ fs, NmG K H a fs ∧ ((NmL K H b false ∧ ∀ H', Ex H H' → Q (.str "then") H') ∨ ∃ us, NmG K H b us ∧ ∀ H', Ex H H' → Q .non H')
abbrev N__law_refused : List Str := ["first", "then", "error"]
theorem sc__law_refused : FnScope N__law_refused ["first", "then"] (defScope s__law_refused) := ⟨rfl, rfl, rfl, by decide +kernel, rfl, by decide +kernel, by decide +kernel⟩
theorem ok__law_refused {P : Program} {w : World} {K : PySem.W.Frag} {mg : Str → Option Value} {base : Heap} (E : Env P K mg) : Fn P w K mg base CX0 11 "_law_refused" (spRef K) := by
  obtain ⟨fd, F⟩ := E.dd__law_refused
  refine Fn.mk0 F E.g__law_refused sc__law_refused sp2_len (fun _ _ _ _ _ _ us hl => match us, hl with | [_, _], _ => rfl) (fun cdv A outer s H vs Q X hr h => ?_)
  have nd := sc__law_refused.nd
  obtain ⟨v0, v1, rfl, h⟩ := h
  refine ⟨_, (pss_one (ptryas K (i := 2) rfl rfl nd rfl rfl ⟨rfl, rfl, .inl E.g_BadRoster⟩ (fun W pn xe tk =>
   (pss_cons (ps_expr (pmkS (ok_Roster2 E) hr (by decide) tk rfl (pa_cons (pv 0) (pa_cons (pv 1) pa_nil))))
  (pss_one (ps_ret (pe_non))))) (fun a oe cls d pn hz hf =>
   (pss_one (ps_ret (pe_ifExp (kTru K (pe_callB (kIsEd K E.xc_BadRoster hz hf) (by rfl) E.f_isinstance (by decide +kernel) (pa_cons (pv 2) (pa_cons (pe_glob (v := .ref (He.ga K "RosterneedError")) (by rfl) E.g_RosterneedError rfl) pa_nil))) (by intro _; rfl)) (pe_xf E.xf_BadRoster E.nf_BadRoster_word hz hf (pv 2)) (pe_str))))))), ?_⟩
  change (_ : TS) _ [some v0, some v1, none] H
  try dsimp only [cxOf, Cx.nox, Cx.blk]
  walk_at "w"
  refine w_tryAs ?_
  walk_at "w"
  refine w_makeS ?_
  walk_at "w"
  refine mk_rosS (Q := fun _ H' => Q .non H') rfl ?_
  rcases h with ⟨n, k⟩ | ⟨fs, g, ⟨n, k⟩ | ⟨us, g2, k⟩⟩
  · refine .inl ⟨n, fun dd H1 e1 g1 => ?_⟩
    refine w_was E.xe_BadRoster fun ae na => ?_
    dsimp only [List.set]
    walk_at "w"
    refine r_isEd g1 E.kit_RosterneedError_BadRoster ?_
    walk_at "w"
    refine w_xf (fs := []) (v := .non) ?_
    walk_at "w"
    refine ⟨rfl, rfl, dd, _, .str "first", rfl, g1, ?_, ?_⟩
    · simp only [List.lookup, beq_self_eq_true]
    exact k _ e1
  · refine .inr ⟨fs, g, .inl ⟨n, fun dd H1 e1 g1 => ?_⟩⟩
    refine w_was E.xe_BadRoster fun ae na => ?_
    dsimp only [List.set]
    walk_at "w"
    refine r_isEd g1 E.kit_RosterneedError_BadRoster ?_
    walk_at "w"
    refine w_xf (fs := []) (v := .non) ?_
    walk_at "w"
    refine ⟨rfl, rfl, dd, _, .str "then", rfl, g1, ?_, ?_⟩
    · simp only [List.lookup, beq_self_eq_true]
    exact k _ e1
  · exact .inr ⟨fs, g, .inr ⟨us, g2, fun x H1 e1 t1 => k _ e1⟩⟩
abbrev spTells (K : PySem.W.Frag) : Sp := sp4 fun a b c d H Q _ => ∃ (p q t m : Addr) (fs us ns : List Str), a = .ref p ∧ b = .ref q ∧ c = .ref t ∧ d = .ref m ∧ RosAt K H p fs us ∧ RosOk fs us ∧ SqT K H q (fs.map V.str) ∧ SqT K H t (us.map V.str) ∧ SqL K H m (ns.map V.str) ∧ (∀ n ∈ ns, okW n = true) ∧ ∀ H', Ex H H' → Q (.bl true) H'
abbrev N__law_tells : List Str := ["roster", "first", "then", "menu", "name", "told", "other"]
theorem sc__law_tells : FnScope N__law_tells ["roster", "first", "then", "menu"] (defScope s__law_tells) := ⟨rfl, rfl, rfl, by decide +kernel, rfl, by decide +kernel, by decide +kernel⟩
theorem ok__law_tells {P : Program} {w : World} {K : PySem.W.Frag} {mg : Str → Option Value} {base : Heap} (E : Env P K mg) : Fn P w K mg base CX0 13 "_law_tells" (spTells K) := by
  obtain ⟨fd, F⟩ := E.dd__law_tells
  refine Fn.mk0 F E.g__law_tells sc__law_tells sp4_len (fun _ _ _ _ _ _ us hl => match us, hl with | [_, _, _, _], _ => rfl) (fun cdv A outer s H vs Q X hr h => ?_)
  have nd := sc__law_tells.nd
  obtain ⟨v0, v1, v2, v3, rfl, h⟩ := h
  refine ⟨_, (pss_cons (ps_for PassesOwn.never rfl (kSeq K (pv 3)) (pg_name (i := 4) nd rfl (.inl rfl))
   (pss_cons (ps_set (i := 5) nd rfl (.inl rfl) (pmt (ok_Roster_number E) hr (by decide) pass0 (pv 0) (pa_cons (pv 4) pa_nil)))
  (pss_cons (ps_if (PW.pt (pw_or (pt_cmpR (kNe K hr) (pv 5) (pc (ok__law_stands E) hr (by decide) pass0 rfl (pa_cons (pv 1) (pa_cons (pv 2) (pa_cons (pv 4) pa_nil)))) (nomark _)) (pw_or1 (pt_not (kTru K (pc (ok__law_is_value E) hr (by decide) pass0 rfl (pa_cons (pv 5) pa_nil)) (by intro _; rfl))))))
   (pss_one (ps_ret (pe_bl)))
   pss_nil)
  (pss_one (ps_for PassesOwn.never rfl (kSeq K (pv 3)) (pg_name (i := 6) nd rfl (.inl rfl))
   (pss_one (ps_if (pt_not (kTru K (pc (ok__law_same E) hr (by decide) pass0 rfl (pa_cons (pmt (ok_Roster_ahead E) hr (by decide) pass0 (pv 0) (pa_cons (pv 4) (pa_cons (pv 6) pa_nil))) (pa_cons (pc (ok__law_standing E) hr (by decide) pass0 rfl (pa_cons (pv 1) (pa_cons (pv 2) (pa_cons (pv 4) (pa_cons (pv 6) pa_nil))))) pa_nil))) (by intro _; rfl)))
   (pss_one (ps_ret (pe_bl)))
   pss_nil)))))))
  (pss_one (ps_ret (pe_bl)))), ?_⟩
  change (_ : TS) _ [some v0, some v1, some v2, some v3, none, none, none] H
  try dsimp only [cxOf, Cx.nox, Cx.blk]
  obtain ⟨p, q, t, m, fs, us, ns, rfl, rfl, rfl, rfl, ros, ok, sa, sb, sm, hn, k⟩ := h
  have zf := ok.zf
  have zu := ok.zu
  walk_at "w"
  refine i_seqL ?_
  walk_at "w"
  refine for_list (xs := ns.map V.str) (Pv := fun _ σ' H' => ∃ x y z : Option V, σ' = [some (.ref p), some (.ref q), some (.ref t), some (.ref m), x, y, z] ∧ Ex H H') ⟨_, _, _, rfl, Ex.refl _⟩ (fun _ _ H' _ g => by obtain ⟨_, _, _, _, e⟩ := g; exact ex_l e sm) ?_ ?_
  · rintro i v σ' H1 hi ⟨x, y, z, rfl, e1⟩
    obtain ⟨w, hw, rfl⟩ := List.mem_map.mp (List.mem_of_getElem? hi)
    have hw := hn w hw
    walk_at "w"
    obtain ⟨dx, fl1, fl2, hp, hf1, hf2⟩ := id (ex_ros e1 ros)
    refine r_meth hp (rF_no (by decide +kernel) (by decide +kernel)) ?_
    walk_at "w"
    refine w_callM2 ⟨p, fs, us, w, rfl, ex_ros e1 ros, ok, rfl, hw, ?_⟩
    walk_at "w"
    refine ⟨q, t, fs, us, w, rfl, rfl, rfl, ex_t e1 sa, ex_t e1 sb, ok, hw, fun H2 e2 => ?_⟩
    walk_at "w"
    refine ⟨numR fs us w, rfl, fun i hi => ?_, fun v H3 e3 d3 => ?_⟩
    · unfold numR at hi
      split at hi
      · cases hi
      · cases hi
        omega
    obtain rfl := dp_toBl d3
    have e03 := (e1.trans e2).trans e3
    walk_at "w"
    refine i_seqL ?_
    walk_at "w"
    refine for_list (xs := ns.map V.str) (Pv := fun _ σ' H' => ∃ z : Option V, σ' = [some (.ref p), some (.ref q), some (.ref t), some (.ref m), some (.str w), some (optV (numR fs us w)), z] ∧ Ex H H') ⟨_, rfl, e03⟩ (fun _ _ H' _ g => by obtain ⟨_, _, e⟩ := g; exact ex_l e sm) ?_ ?_
    · rintro i2 v σ' H4 hi2 ⟨z2, rfl, e4⟩
      obtain ⟨o, ho, rfl⟩ := List.mem_map.mp (List.mem_of_getElem? hi2)
      walk_at "w"
      have ros4 := ex_ros e4 ros
      obtain ⟨dx4, fl3, fl4, hp4, hf3, hf4⟩ := id ros4
      refine r_meth hp4 (rF_no (by decide +kernel) (by decide +kernel)) ?_
      walk_at "w"
      refine w_callM3 ⟨p, fs, us, w, o, rfl, ros4, ok, rfl, rfl, fun tb H5 e5 T5 => ?_⟩
      walk_at "w"
      refine ⟨q, t, fs, us, w, o, rfl, rfl, rfl, rfl, ex_t e5 (ex_t e4 sa), ex_t e5 (ex_t e4 sb), zf, zu, fun v6 H6 e6 d6 => ?_⟩
      walk_at "w"
      have W := rt_val (r := w) (o := o) zf zu
      obtain ⟨o1, o2, o3, o4, o5, o6⟩ := plainF_ok W
      have z1 := W.sm.2.2.1
      have z2 := W.sm.2.2.2
      refine ⟨tb, _, _, _, rfl, ex_tab e6 T5, d6, o1, o2, o3, by omega, by omega, fun b H7 e7 d7 => ?_⟩
      obtain rfl := dp_toBl d7
      walk_at "w"
      exact ⟨_, rfl, ((e4.trans e5).trans e6).trans e7⟩
    · rintro σ' H4 ⟨z2, rfl, e4⟩
      exact ⟨_, _, _, rfl, e4⟩
  · rintro σ' H1 ⟨x, y, z, rfl, e1⟩
    walk_at "w"
    exact k _ e1

end
section
/-- all but lists stand -/
def Ls (H H' : Hp) : Prop := ∀ a o, H a = some o → (∀ zs, o ≠ .lst zs) → H' a = some o
section
variable {K : PySem.W.Frag} {H H' H2 : Hp} {a p x : Addr} {xs ys : List V} {fs us : List Str}
theorem Ls.of (e : Ex H H') : Ls H H' := fun a o h _ => e a o h
theorem Ls.trans (l : Ls H H') (m : Ls H' H2) : Ls H H2 := fun a o h n => m a o (l a o h n) n
theorem Ls.upd (h : H p = some (.lst xs)) : Ls H (upd H p (.lst ys)) := fun a o ha hn => by
  have : a ≠ p := by
    rintro rfl
    rw [h] at ha
    exact hn xs (Option.some.inj ha).symm
  rw [upd_ne this]
  exact ha
theorem Ls.fr (f : Fr a H H') (s : SrcAt H a) : Ls H H' := fun b o hb hn => by
  obtain ⟨d, s, c, h1, _⟩ := s
  have : b ≠ a := by
    rintro rfl
    rw [h1] at hb
    exact hn _ (Option.some.inj hb).symm
  exact f b o this hb
theorem ls_t (l : Ls H H') (s : SqT K H a xs) : SqT K H' a xs := by
  rcases s with (s | ⟨o', s⟩) | s
  · exact .inl (.inl (l _ _ s fun _ e => nomatch e))
  · exact .inl (.inr ⟨o', l _ _ s fun _ e => nomatch e⟩)
  · exact .inr s
theorem ls_f (l : Ls H H') (s : SqF H a xs) : SqF H' a xs := by
  obtain ⟨o, s, r⟩ := s
  exact ⟨o, l _ _ s (fun _ e => nomatch e), r⟩
theorem ls_ros (l : Ls H H') (s : RosAt K H a fs us) : RosAt K H' a fs us := by
  obtain ⟨dx, b, c, h1, h2, h3⟩ := s
  exact ⟨dx, b, c, l _ _ h1 (fun _ e => nomatch e), ls_f l h2, ls_f l h3⟩
end
/-- a comprehension over a range, whose element draws from the source at s -/
theorem lcS_range {K : PySem.W.Frag} {H : Hp} {Q : VK} {n j : Nat} {te : TE} {vs : List Nat} {σ : L2.St} {s : Addr} (P : V → Prop) (hn : n ≤ 100000) (hs : SrcAt H s) (σ' : V → L2.St) (hσ : ∀ x, (wipe σ vs).set j (some x) = σ' x) (hw : ∀ x, wipe ((wipe σ vs).set j (some x)) vs = wipe σ vs)
    (he : ∀ (i : Nat) (H1 : Hp) (Q' : VK), Fr s H H1 → SrcAt H1 s → i < n → (∀ v H2, P v → Fr s H1 H2 → SrcAt H2 s → Q' v H2) → te (σ' (.int (i : Int))) H1 Q')
    (hq : ∀ p H2 ys, H p = none → Fr s H H2 → SrcAt H2 s → H2 p = some (.lst ys) → ys.length = n → (∀ y ∈ ys, P y) → Q (.ref p) H2) : LcJ (Itr 0 n) (gName j) tYes te vs σ H Q := fun D hD =>
  lc_range (Pv := fun i H' => Fr s H H' ∧ SrcAt H' s ∧ ∃ ys, H' D = some (.lst ys) ∧ ys.length = i ∧ ∀ y ∈ ys, P y) ⟨Fr.of (Ex.new hD), hs.ex (Ex.new hD), [], upd_same, rfl, fun y hy => absurd hy List.not_mem_nil⟩ (fun i H' hi ⟨f, q, ys, g, hl, hp⟩ => ⟨hw _, by
    show te ((wipe σ vs).set j _) H' _
    rw [hσ, Int.zero_add]
    refine he i H' _ f q hi fun v H2 pv f2 q2 => ?_
    have hne : D ≠ s := hs.ne hD
    refine ⟨ys, f2 D _ hne g, sz_lt (by omega), fun b o nb hb => ?_, ?_, ys ++ [v], upd_same, by rw [List.length_append, hl]; rfl, fun y hy => ?_⟩
    · rw [upd_ne (ne_of_none hb hD)]
      exact f2 b o nb (f b o nb hb)
    · obtain ⟨d, s2, c, w1, w2⟩ := q2
      exact ⟨d, s2, c, by rw [upd_ne hne.symm]; exact w1, w2⟩
    · rcases List.mem_append.mp hy with hy | hy
      · exact hp y hy
      · rw [List.mem_singleton.mp hy]
        exact pv⟩) fun H' ⟨f, q, ys, g, hl, hp⟩ => hq D H' ys hD f q g hl hp
def isW (v : V) : Prop := ∃ w, v = .str w ∧ okW w = true
theorem isW_list : ∀ {ys : List V}, (∀ y ∈ ys, isW y) → ∃ ws : List Str, ys = ws.map V.str ∧ ∀ w ∈ ws, okW w = true
  | [], _ => ⟨[], rfl, fun w h => absurd h List.not_mem_nil⟩
  | y :: ys, h => by
    obtain ⟨w, rfl, hw⟩ := h y List.mem_cons_self
    obtain ⟨ws, rfl, hws⟩ := isW_list fun z hz => h z (List.mem_cons_of_mem _ hz)
    exact ⟨w :: ws, rfl, fun u hu => (List.mem_cons.mp hu).elim (fun e => e ▸ hw) (hws u)⟩
theorem atI_strs {xs : List Str} {i : Int} (h0 : 0 ≤ i) (h1 : i < xs.length) : ∃ w ∈ xs, atI (xs.map V.str) i = some (.str w) := by
  have hl : i.toNat < xs.length := by omega
  refine ⟨xs[i.toNat], List.getElem_mem _, atI_pos h0 ?_⟩
  rw [List.getElem?_map, List.getElem?_eq_getElem hl]
  rfl
def menuL : List Str := ["g", "x", "y", "row", "abcdefgh", "zz"]
theorem menu_ok : ∀ w ∈ menuL, okW w = true := List.all_eq_true.mp (by decide +kernel)
theorem r_neB {K : PySem.W.Frag} {i j : Bool} {H : Hp} {Q : VK} (h : Q (.bl (!decide (i = j))) H) : rNeU K (.bl i) (.bl j) H Q := .inl ⟨rfl, by
  rw [show decide (V.bl i = V.bl j) = decide (i = j) from decide_eq_decide.mpr ⟨V.bl.inj, congrArg _⟩]
  exact h⟩
theorem r_neSS {K : PySem.W.Frag} {x : Str} {H : Hp} {Q : VK} (h : Q (.bl false) H) : rNeU K (.str x) (.str x) H Q := .inl ⟨rfl, by
  rw [decide_eq_true rfl]
  exact h⟩
theorem r_repL {K : PySem.W.Frag} {l : Addr} {k : Int} {xs : List V} {H : Hp} {Q : VK} (h : H l = some (.lst xs)) (h1 : 0 ≤ k) (h2 : k < 1000) (hz : xs.length * k.toNat ≤ sizeLine) (q : ∀ p H1, H p = none → Ex H H1 → H1 p = some (.lst (List.replicate k.toNat xs).flatten) → Q (.ref p) H1) : rMul K (.ref l) (.int k) H Q :=
  .inr (.inl ⟨l, k, xs, rfl, rfl, h, by omega, by omega, hz, fun p hp => q p _ hp (Ex.new hp) upd_same⟩)
theorem flat_strs (n : Nat) (fs : List Str) : (List.replicate n (fs.map V.str)).flatten = ((List.replicate n fs).flatten).map V.str := by
  rw [List.map_flatten, List.map_replicate]
theorem flat_len (n : Nat) (fs : List Str) : ((List.replicate n fs).flatten).length = n * fs.length := by
  rw [List.length_flatten, List.map_replicate, List.sum_replicate_nat]
theorem flat_mem {n : Nat} {fs : List Str} {w : Str} (h : w ∈ (List.replicate n fs).flatten) : w ∈ fs := by
  obtain ⟨l, hl, hw⟩ := List.mem_flatten.mp h
  rw [(List.mem_replicate.mp hl).2] at hw
  exact hw
theorem r_ins {l : Addr} {xs : List V} {y : V} {H : Hp} {Q : VK} (h : H l = some (.lst xs)) (hz : xs.length < sizeLine) (q : Q .non (upd H l (.lst (y :: xs)))) :
    ∃ (l' : Addr) (xs' : List V) (i : Int) (y' : V), V.ref l = .ref l' ∧ [V.int 0, y] = [.int i, y'] ∧ H l' = some (.lst xs') ∧ xs'.length < sizeLine ∧ 0 ≤ i ∧ i < 2 ^ 63 ∧ Q .non (upd H l' (.lst (xs'.take i.toNat ++ [y'] ++ xs'.drop i.toNat))) :=
  ⟨l, xs, 0, y, rfl, rfl, h, hz, Int.le_refl _, by decide, q⟩

end
section
theorem dp_toOpt {K : PySem.W.Frag} {H : Hp} {v : V} {o : Option Int} (h : Dp K H v (dOpt o)) : v = optV o := by
  cases o with
  | none => exact dp_toNon h
  | some i => exact dp_toInt h
theorem l_fr {K : PySem.W.Frag} {a x : Addr} {H0 H H' : Hp} {xs : List V} (f : Fr x H H') (s0 : SqL K H0 a xs) (n : H0 x = none) (s : SqL K H a xs) : SqL K H' a xs := by
  rcases s0 with s0 | s0
  · have hne : a ≠ x := by
      rintro rfl
      rcases s0 with q | ⟨o', q⟩ <;> rw [n] at q <;> cases q
    rcases s with s | s
    · rcases s with q | ⟨o', q⟩
      · exact .inl (.inl (f _ _ hne q))
      · exact .inl (.inr ⟨o', f _ _ hne q⟩)
    · exact .inr s
  · exact .inr s0
theorem w_disp1 {σ : L2.St} {H : Hp} {Q : VK} {k : Str} {v : V} (q : ∀ p H' kvs, H p = none → Ex H H' → H' p = some (.dK kvs) → Q (.ref p) H') : tDisp [(tC (.str k), tC v)] σ H Q := fun p hp => by
  refine ⟨upd_same, [(.inr k, v)], rfl, (show 1 ≤ 15 by decide), q p _ _ hp (fun b o hb => ?_) upd_same⟩
  rw [upd_ne (ne_of_none hb hp), upd_ne (ne_of_none hb hp)]
  exact hb
theorem src_fr {x y : Addr} {H H' : Hp} (n : x ≠ y) (f : Fr y H H') (q : SrcAt H x) : SrcAt H' x := by
  obtain ⟨d, s, c, w1, w2⟩ := q
  exact ⟨d, s, c, f _ _ n w1, w2⟩
def flatD : V → Bool
  | .str w => decide (w.length ≤ 1000)
  | .int _ => true
  | .non => true
  | _ => false
theorem flatD_dp {K : PySem.W.Frag} {H : Hp} {x : V} (h : flatD x = true) : ∃ d, Dp K H x d ∧ SmS d := by
  cases x with
  | str w => exact ⟨.str w, .str w, fun u e => by cases e; have := of_decide_eq_true (show decide (w.length ≤ 1000) = true from h); omega⟩
  | int i => exact ⟨.int i, .int i, fun u e => nomatch e⟩
  | non => exact ⟨.none, .non, fun u e => nomatch e⟩
  | _ => cases h
theorem bad_t {K : PySem.W.Frag} {H : Hp} {a : Addr} {xs : List V} (h : SqT K H a xs ∨ SqL K H a xs) (hb : (decide (xs.length ≤ 100000) && (xs.all flatD && !xs.all wordV)) = true) : NmL K H (.ref a) false := by
  simp only [Bool.and_eq_true, Bool.not_eq_true', decide_eq_true_eq] at hb
  exact .inl ⟨a, xs, rfl, h, hb.1, fun x hx => flatD_dp (List.all_eq_true.mp hb.2.1 x hx), hb.2.2.symm⟩
/-- what is no source stands while the source is drawn from -/
theorem fr_ob {y p : Addr} {H H' : Hp} {o : HO} (f : Fr y H H') (s : SrcAt H y) (h : H p = some o) (n : ∀ d s c, o ≠ .lst [.int d, .int s, .int c]) : H' p = some o := by
  obtain ⟨d, s, c, w1, _⟩ := s
  refine f p o ?_ h
  rintro rfl
  rw [w1] at h
  exact n d s c (Option.some.inj h).symm
theorem atI_ex {xs : List V} {i : Int} (h0 : 0 ≤ i) (h1 : i < xs.length) : ∃ v ∈ xs, atI xs i = some v := by
  have hl : i.toNat < xs.length := by omega
  exact ⟨xs[i.toNat], List.getElem_mem _, atI_pos h0 (List.getElem?_eq_getElem hl)⟩
/-- the wrong things -/
def wrongV (p1 p2 p3 p4 p5 p7 p8 p9 : Addr) : List V := [.non, .int 5, .str "gx", .ref p1, .ref p2, .ref p3, .ref p4, .ref p5, .ref p7, .ref p8, .ref p9]
theorem wrong_bad {K : PySem.W.Frag} {H H' : Hp} {y p1 p2 p3 p4 p5 p6 p7 p8 p9 : Addr} {kvs : List (Key × V)} (s : SrcAt H y) (f : Fr y H H')
    (h1 : H p1 = some (.tup [.str "g", .int 5])) (h2 : H p2 = some (.tup [.str "G"])) (h3 : H p3 = some (.tup [.str ""])) (h4 : H p4 = some (.tup [.str "abcdefghi"])) (h5 : H p5 = some (.lst [.str "g", .str "x1"]))
    (h6 : H p6 = some (.tup [.str "g"])) (h7 : H p7 = some (.tup [.ref p6])) (h8 : H p8 = some (.tup [.str "g", .non])) (h9 : H p9 = some (.dK kvs)) : ∀ v ∈ wrongV p1 p2 p3 p4 p5 p7 p8 p9, NmL K H' v false := by
  have t : ∀ {p xs}, H p = some (.tup xs) → SqT K H' p xs := fun h => st_of (fr_ob f s h fun _ _ _ e => nomatch e)
  intro v hv
  unfold wrongV at hv
  simp only [List.mem_cons, List.not_mem_nil, or_false] at hv
  rcases hv with rfl | rfl | rfl | rfl | rfl | rfl | rfl | rfl | rfl | rfl | rfl
  · exact .inr ⟨rfl, .none, .inl .non, rfl⟩
  · exact .inr ⟨rfl, .int 5, .inl (.int 5), rfl⟩
  · exact .inr ⟨rfl, .str "gx", .inl (.str "gx"), rfl⟩
  · exact bad_t (.inl (t h1)) (by decide +kernel)
  · exact bad_t (.inl (t h2)) (by decide +kernel)
  · exact bad_t (.inl (t h3)) (by decide +kernel)
  · exact bad_t (.inl (t h4)) (by decide +kernel)
  · exact bad_t (.inr (sq_of (fr_ob f s h5 fun d _ _ e => by injection e with e; injection e with e _; cases e))) (by decide +kernel)
  · exact .inl ⟨p7, [.ref p6], rfl, .inl (t h7), (show 1 ≤ 100000 by decide), fun x hx => by
      rw [List.mem_singleton.mp hx]
      exact ⟨.tuple [.str "g"], .tup (t h6) (.cons (.str "g") .nil), fun w e => nomatch e⟩, rfl⟩
  · exact bad_t (.inl (t h8)) (by decide +kernel)
  · exact .inr ⟨rfl, .dict [], .inr ⟨rfl, p9, kvs, rfl, fr_ob f s h9 fun _ _ _ e => nomatch e⟩, rfl⟩
abbrev N_law : List Str := ["script", "source", "menu", "first", "drawer", "then", "copied", "roster", "alone", "wrong", "bad", "k"]
theorem sc_law : FnScope N_law ["script"] (defScope s_law) := ⟨rfl, rfl, rfl, by decide +kernel, rfl, by decide +kernel, by decide +kernel⟩
abbrev lawSp (K : PySem.W.Frag) : Sp := sp1 fun s H Q _ => ∃ (a : Addr) (ns : List Int), s = .ref a ∧ SqL K H a (vI ns) ∧ (∀ z ∈ ns, Builtin.Int.intBits z ≤ 1048576) ∧ ns.length ≤ 63 ∧ ∀ H', Q (.bl true) H'
theorem ok_law {P : Program} {w : World} {K : PySem.W.Frag} {mg : Str → Option Value} {base : Heap} (E : Env P K mg) {fd : FuncData} (F : FunD K "law" "law" (defArgs s_law) (defBody s_law) (defScope s_law) (d_law.dvs K) [] (d_law.adr K) fd) : FnOk P w K mg base CX0 14 (d_law.adr K) fd ["script"] (lawSp K) := by
  refine fnok0 F sc_law sp1_len (fun cdv A outer s H vs Q X hr h => ?_)
  have nd := sc_law.nd
  obtain ⟨v0, rfl, h⟩ := h
  refine ⟨_, (pss_cons (ps_set (i := 1) nd rfl (.inr rfl) (pc (ok__law_source E) hr (by decide) pass0 rfl (pa_cons (pv 0) (pa_cons (pe_int) pa_nil))))
  (pss_cons (ps_set (i := 2) nd rfl (.inr rfl) (pe_lst (pa_cons (pe_str) (pa_cons (pe_str) (pa_cons (pe_str) (pa_cons (pe_str) (pa_cons (pe_str) (pa_cons (pe_str) pa_nil))))))))
  (pss_cons (ps_setLc (i := 3) (own := [("k", 11)]) (g := gName 11) (tt := tYes) rfl nd rfl rfl (sw_true rfl rfl rfl (by decide +kernel)) (pi_range1 (by rfl) E.f_range (pa_cons (pc (ok__law_pick E) hr (by decide) pass0 rfl (pa_cons (pv 1) (pa_cons (pe_int) pa_nil))) pa_nil)) (blkOk_by (N := N_law) (sc := defScope s_law) (by decide +kernel)) (fun _ _ _ _ _ => pg_name (i := 11) nd rfl (Or.inl rfl)) (fun _ _ _ _ _ => pts_nil) (fun _ _ _ _ _ => pe_ix (kIx K) (pv 2) (pc (ok__law_pick E) hr (by decide) pass0 rfl (pa_cons (pv 1) (pa_cons (pe_int) pa_nil))) (fun _ _ => rfl)))
  (pss_cons (ps_set (i := 4) nd rfl (.inr rfl) (pc (ok__law_source E) hr (by decide) pass0 rfl (pa_cons (pv 0) (pa_cons (pe_int) pa_nil))))
  (pss_cons (ps_setLc (i := 5) (own := [("k", 11)]) (g := gName 11) (tt := tYes) rfl nd rfl rfl (sw_true rfl rfl rfl (by decide +kernel)) (pi_range1 (by rfl) E.f_range (pa_cons (pc (ok__law_pick E) hr (by decide) pass0 rfl (pa_cons (pv 4) (pa_cons (pe_int) pa_nil))) pa_nil)) (blkOk_by (N := N_law) (sc := defScope s_law) (by decide +kernel)) (fun _ _ _ _ _ => pg_name (i := 11) nd rfl (Or.inl rfl)) (fun _ _ _ _ _ => pts_nil) (fun _ _ _ _ _ => pe_ix (kIx K) (pv 2) (pc (ok__law_pick E) hr (by decide) pass0 rfl (pa_cons (pv 4) (pa_cons (pe_int) pa_nil))) (fun _ _ => rfl)))
  (pss_cut (ps_if (pt_cmpR (kEq K hr) (pc (ok__law_pick E) hr (by decide) pass0 rfl (pa_cons (pv 4) (pa_cons (pe_int) pa_nil))) (pe_int) (nomark _))
   (pss_one (ps_set (i := 3) nd rfl (.inl rfl) (pe_op (kMul K) (pv 3) (pe_int))))
   pss_nil)
  (pss_cons (ps_set (i := 6) nd rfl (.inl rfl) (pe_tup (pa_cons (pe_callTy (kTup K) (by rfl) E.f_tuple (by decide +kernel) (pa_cons (pv 3) pa_nil)) (pa_cons (pe_callTy (kTup K) (by rfl) E.f_tuple (by decide +kernel) (pa_cons (pv 5) pa_nil)) pa_nil))))
  (pss_cons (ps_set (i := 7) nd rfl (.inl rfl) (pmk (ok_Roster2 E) hr (by decide) passN rfl (pa_cons (pv 3) (pa_cons (pv 5) pa_nil))))
  (pss_cons (ps_expr (kBM K (pe_bm PySem.F.plainAttrs_list PySem.F.slot_list_append PySem.F.type_list_append mt_append (pv 3) (pa_cons (pe_str) pa_nil))))
  (pss_cons (ps_expr (kBM K (pe_bm PySem.F.plainAttrs_list PySem.F.slot_list_insert PySem.F.type_list_insert mt_insert (pv 5) (pa_cons (pe_int) (pa_cons (pe_str) pa_nil)))))
  (pss_cons (ps_if (PW.pt (pw_or (pt_cmpR (kNe K hr) (kFld K (pv 7) rfl) (pe_ix (kIx K) (pv 6) (pe_int) (fun _ _ => rfl)) (nomark _)) (pw_or (pt_cmpR (kNe K hr) (kFld K (pv 7) rfl) (pe_ix (kIx K) (pv 6) (pe_int) (fun _ _ => rfl)) (nomark _)) (pw_or1 (pt_not (kTru K (pe_callB (kIsi K) (by rfl) E.f_isinstance (by decide +kernel) (pa_cons (kFld K (pv 7) rfl) (pa_cons (pe_bltn (v := .ty "tuple") (by rfl) E.f_tuple (by decide +kernel) rfl) pa_nil))) (by intro _; rfl)))))))
   (pss_one (ps_ret (pe_bl)))
   pss_nil)
  (pss_cons (ps_if (PW.pt (pw_or (pt_not (kTru K (pe_callB (kIsi K) (by rfl) E.f_isinstance (by decide +kernel) (pa_cons (kFld K (pv 7) rfl) (pa_cons (pe_bltn (v := .ty "tuple") (by rfl) E.f_tuple (by decide +kernel) rfl) pa_nil))) (by intro _; rfl))) (pw_or1 (pt_not (kTru K (pc (ok__law_tells E) hr (by decide) pass0 rfl (pa_cons (pv 7) (pa_cons (pe_ix (kIx K) (pv 6) (pe_int) (fun _ _ => rfl)) (pa_cons (pe_ix (kIx K) (pv 6) (pe_int) (fun _ _ => rfl)) (pa_cons (pe_op (kAdd K) (pv 2) (pe_lst (pa_cons (pe_str) pa_nil))) pa_nil))))) (by intro _; rfl))))))
   (pss_one (ps_ret (pe_bl)))
   pss_nil)
  (pss_cons (ps_set (i := 8) nd rfl (.inl rfl) (pmk (ok_Roster1 E) hr (by decide) passN rfl (pa_cons (pe_ix (kIx K) (pv 6) (pe_int) (fun _ _ => rfl)) pa_nil)))
  (pss_cons (ps_if (PW.pt (pw_or (pt_cmpR (kNe K hr) (kFld K (pv 8) rfl) (pe_tup (pa_nil)) (nomark _)) (pw_or1 (pt_not (kTru K (pc (ok__law_tells E) hr (by decide) pass0 rfl (pa_cons (pv 8) (pa_cons (pe_ix (kIx K) (pv 6) (pe_int) (fun _ _ => rfl)) (pa_cons (pe_tup pa_nil) (pa_cons (pe_slice (kSl K) (pv 2) po_none (po_some (pe_int))) pa_nil))))) (by intro _; rfl))))))
   (pss_one (ps_ret (pe_bl)))
   pss_nil)
  (pss_cons (ps_if (PW.pt (pw_or (pt_not (pt_cmpR (kEqO K (ok_Roster_eq E) hr (by decide)) (pv 7) (pmk (ok_Roster2 E) hr (by decide) passN rfl (pa_cons (pe_callTy (kLst K) (by rfl) E.f_list (by decide +kernel) (pa_cons (pe_ix (kIx K) (pv 6) (pe_int) (fun _ _ => rfl)) pa_nil)) (pa_cons (pe_callTy (kLst K) (by rfl) E.f_list (by decide +kernel) (pa_cons (pe_ix (kIx K) (pv 6) (pe_int) (fun _ _ => rfl)) pa_nil)) pa_nil))) (nomark _))) (pw_or (pt_cmpR (kEqO K (ok_Roster_eq E) hr (by decide)) (pv 7) (pmk (ok_Roster2 E) hr (by decide) passN rfl (pa_cons (pv 3) (pa_cons (pe_ix (kIx K) (pv 6) (pe_int) (fun _ _ => rfl)) pa_nil))) (nomark _)) (pw_or1 (pt_cmpR (kEqO K (ok_Roster_eq E) hr (by decide)) (pv 7) (pv 6) (nomark _))))))
   (pss_one (ps_ret (pe_bl)))
   pss_nil)
  (pss_cons (ps_if (PW.pt (pw_or (pt_cmpR (kNe K hr) (pe_cmpR (kEqO K (ok_Roster_eq E) hr (by decide)) (pv 8) (pv 7) (nomark _)) (pe_cmpR (kEq K hr) (pe_callB (kLen K) (by rfl) E.f_len (by decide +kernel) (pa_cons (pe_ix (kIx K) (pv 6) (pe_int) (fun _ _ => rfl)) pa_nil)) (pe_int) (nomark _)) (nomark _)) (pw_or1 (pt_cmpR (kEqO K (ok_Roster_eq E) hr (by decide)) (pv 7) (pmk (ok_Roster2 E) hr (by decide) passN rfl (pa_cons (pe_ix (kIx K) (pv 6) (pe_int) (fun _ _ => rfl)) (pa_cons (pv 5) pa_nil))) (nomark _)))))
   (pss_one (ps_ret (pe_bl)))
   pss_nil)
  (pss_cons (ps_set (i := 9) nd rfl (.inl rfl) (pe_lst (pa_cons (pe_non) (pa_cons (pe_int) (pa_cons (pe_str) (pa_cons (pe_tup (pa_cons (pe_str) (pa_cons (pe_int) pa_nil))) (pa_cons (pe_tup (pa_cons (pe_str) pa_nil)) (pa_cons (pe_tup (pa_cons (pe_str) pa_nil)) (pa_cons (pe_tup (pa_cons (pe_str) pa_nil)) (pa_cons (pe_lst (pa_cons (pe_str) (pa_cons (pe_str) pa_nil))) (pa_cons (pe_tup (pa_cons (pe_tup (pa_cons (pe_str) pa_nil)) pa_nil)) (pa_cons (pe_tup (pa_cons (pe_str) (pa_cons (pe_non) pa_nil))) (pa_cons (pe_disp (pps_cons (pe_str) (pe_int) (pps_nil)) rfl rfl (List.cons_ne_nil _ _) (by decide)) pa_nil)))))))))))))
  (pss_cons (ps_for PassesOwn.never rfl (kSeq K (pv 9)) (pg_name (i := 10) nd rfl (.inl rfl))
   (pss_cons (ps_if (PW.pt (pw_or (pt_cmpR (kNe K hr) (pc (ok__law_refused E) hr (by decide) pass0 rfl (pa_cons (pv 10) (pa_cons (pe_ix (kIx K) (pv 6) (pe_int) (fun _ _ => rfl)) pa_nil))) (pe_str) (nomark _)) (pw_or1 (pt_cmpR (kNe K hr) (pc (ok__law_refused E) hr (by decide) pass0 rfl (pa_cons (pe_ix (kIx K) (pv 6) (pe_int) (fun _ _ => rfl)) (pa_cons (pv 10) pa_nil))) (pe_str) (nomark _)))))
   (pss_one (ps_ret (pe_bl)))
   pss_nil)
  (pss_one (ps_if (pt_cmpR (kNe K hr) (pc (ok__law_refused E) hr (by decide) pass0 rfl (pa_cons (pv 10) (pa_cons (pe_ix (kIx K) (pv 9) (pc (ok__law_pick E) hr (by decide) pass0 rfl (pa_cons (pv 4) (pa_cons (pe_callB (kLen K) (by rfl) E.f_len (by decide +kernel) (pa_cons (pv 9) pa_nil)) pa_nil))) (fun _ _ => rfl)) pa_nil))) (pe_str) (nomark _))
   (pss_one (ps_ret (pe_bl)))
   pss_nil))))
  (pss_one (ps_ret (pe_cmpR xIs (pc (ok__law_refused E) hr (by decide) pass0 rfl (pa_cons (pe_callTy (kLst K) (by rfl) E.f_list (by decide +kernel) (pa_cons (pe_ix (kIx K) (pv 6) (pe_int) (fun _ _ => rfl)) pa_nil)) (pa_cons (pe_ix (kIx K) (pv 6) (pe_int) (fun _ _ => rfl)) pa_nil))) (pe_non) (nomark _)))))))))))))))))))))), ?_⟩
  change (_ : TS) _ [some v0, none, none, none, none, none, none, none, none, none, none, none] H
  try dsimp only [cxOf, Cx.nox, Cx.blk]
  obtain ⟨sa, ns, rfl, s0, hb, hz, k⟩ := h
  walk_at "w"
  refine ⟨sa, ns, 0, rfl, rfl, s0, hb, hz, by decide, by decide, fun x H1 n1 e1 q1 => ?_⟩
  walk_at "w"
  intro pm H2 n2 e2 g2
  have m2 : H2 pm = some (.lst (menuL.map V.str)) := g2
  have q2 := q1.ex e2
  have pmx : pm ≠ x := q1.ne n2
  walk_at "w"
  refine ⟨x, 40, rfl, rfl, by decide, by decide, q2, fun r H3 r0 r1 q3 f3 => ?_⟩
  walk_at "w"
  refine lcS_range (K := K) (s := x) isW (by omega) q3 (fun v => [_, _, _, _, _, _, _, _, _, _, _, some v]) (fun _ => rfl) (fun _ => rfl) (fun i H4 Q' f4 q4 hi hq => ?_) (fun pf H4 ys n4 f4 q4 g4 hl hp => ?_)
  · walk_at "w"
    refine ⟨x, 6, rfl, rfl, by decide, by decide, q4, fun r2 H5 r20 r21 q5 f5 => ?_⟩
    walk_at "w"
    have m5 := f5 _ _ pmx (f4 _ _ pmx (f3 _ _ pmx m2))
    obtain ⟨w, hw, ha⟩ := atI_strs (xs := menuL) r20 r21
    refine r_ixL (sq_of m5) ha ?_
    exact hq _ _ ⟨w, rfl, menu_ok w hw⟩ f5 q5
  obtain ⟨fs0, rfl, okf0⟩ := isW_list hp
  have m4 := f4 _ _ pmx (f3 _ _ pmx m2)
  have pmf0 : pm ≠ pf := ne_of_none (f3 _ _ pmx m2) n4
  have s4 : SqL K H4 sa (vI ns) := l_fr (f3.trans f4) s0 n1 (ex_l e2 (ex_l e1 s0))
  have zf0 : fs0.length ≤ 39 := by rw [List.length_map] at hl; omega
  clear hp hl m2 g2
  dsimp only [List.set]
  walk_at "w"
  refine ⟨sa, ns, 1, rfl, rfl, s4, hb, hz, by decide, by decide, fun y H5 n5 e5 q5 => ?_⟩
  have m5 := e5 _ _ m4
  have g5 := e5 _ _ g4
  have pmy : pm ≠ y := (ne_of_none m4 n5)
  have pfy : pf ≠ y := (ne_of_none g4 n5)
  walk_at "w"
  refine ⟨y, 12, rfl, rfl, by decide, by decide, q5, fun r2 H6 r20 r21 q6 f6 => ?_⟩
  walk_at "w"
  refine lcS_range (K := K) (s := y) isW (by omega) q6 (fun v => [_, _, _, _, _, _, _, _, _, _, _, some v]) (fun _ => rfl) (fun _ => rfl) (fun i H7 Q' f7 q7 hi hq => ?_) (fun pt H7 ys n7 f7 q7 g7 hl hp => ?_)
  · walk_at "w"
    refine ⟨y, 6, rfl, rfl, by decide, by decide, q7, fun r3 H8 r30 r31 q8 f8 => ?_⟩
    walk_at "w"
    have m8 := f8 _ _ pmy (f7 _ _ pmy (f6 _ _ pmy m5))
    obtain ⟨w, hw, ha⟩ := atI_strs (xs := menuL) r30 r31
    refine r_ixL (sq_of m8) ha ?_
    exact hq _ _ ⟨w, rfl, menu_ok w hw⟩ f8 q8
  obtain ⟨us, rfl, oku⟩ := isW_list hp
  have m7 := f7 _ _ pmy (f6 _ _ pmy m5)
  have g7f := f7 _ _ pfy (f6 _ _ pfy g5)
  have pft : pf ≠ pt := ne_of_none (f6 _ _ pfy g5) n7
  have pty : pt ≠ y := q6.ne n7
  have pmt : pm ≠ pt := ne_of_none (f6 _ _ pmy m5) n7
  have zu : us.length ≤ 11 := by rw [List.length_map] at hl; omega
  clear hp hl
  dsimp only [List.set]
  refine w_cut (M := fun σ' H' => ∃ (pf' : Addr) (fs : List Str), σ' = [some (.ref sa), some (.ref x), some (.ref pm), some (.ref pf'), some (.ref y), some (.ref pt), none, none, none, none, none, none] ∧
      SrcAt H' y ∧ H' pm = some (.lst (menuL.map V.str)) ∧ H' pt = some (.lst (us.map V.str)) ∧ H' pf' = some (.lst (fs.map V.str)) ∧ pf' ≠ pt ∧ pf' ≠ y ∧ pm ≠ pf' ∧ (∀ w ∈ fs, okW w = true) ∧ fs.length ≤ 1950) ?_ ?_
  · dsimp only [List.set]
    walk_at "w"
    refine ⟨y, 9, rfl, rfl, by decide, by decide, q7, fun r3 H8 r30 r31 q8 f8 => ?_⟩
    walk_at "w"
    refine w_ite (fun c => ?_) (fun c => ?_)
    · walk_at "w"
      have g8 := f8 _ _ pfy g7f
      have g8t := f8 _ _ pty g7
      refine r_repL g8 (by decide) (by decide) (sz_of (by rw [List.length_map, show (50 : Int).toNat = 50 from rfl]; omega)) fun p H9 n9 e9 g9 => ?_
      rw [flat_strs] at g9
      walk_at "w"
      refine ⟨_, _, rfl, q8.ex e9, e9 _ _ (f8 _ _ pmy m7), e9 _ _ g8t, g9, fun e => ?_, q8.ne n9, ne_of_none (f8 _ _ pmy m7) n9, fun w hw => okf0 w (flat_mem hw), ?_⟩
      · subst e
        rw [g8t] at n9
        cases n9
      · rw [flat_len, show (50 : Int).toNat = 50 from rfl]
        omega
    · walk_at "w"
      exact ⟨_, _, rfl, q8, f8 _ _ pmy m7, f8 _ _ pty g7, f8 _ _ pfy g7f, pft, pfy, pmf0, okf0, by omega⟩
  clear q1 q2 q3 q4 q5 q6 q7 f3 f4 f6 f7 m4 m5 m7 g4 g5 g7 g7f s4 e1 e2 e5 n1 n2 n4 n5 n7 zf0 okf0 pft pfy
  rintro σ' G0 ⟨pf', fs, rfl, q, m, gt, gf, nft, nfy, pmf, okf, zf⟩
  have OK : RosOk fs us := ⟨by omega, by omega, okf, oku⟩
  have zsf : (fs.map V.str).length ≤ sizeLine := sz_of (by rw [List.length_map]; omega)
  have zsu : (us.map V.str).length ≤ sizeLine := sz_of (by rw [List.length_map]; omega)
  walk_at "w"
  intro ta G1 e1 sa1
  walk_at "w"
  intro tb G2 e2 sb2
  walk_at "w"
  intro cp G3 n3 e3 g3
  have E03 := (e1.trans e2).trans e3
  have sa3 := ex_t e3 (ex_t e2 sa1)
  have sb3 := ex_t e3 sb2
  have sc3 : SqT K G3 cp [.ref ta, .ref tb] := st_of g3
  have gf3 := E03 _ _ gf
  have gt3 := E03 _ _ gt
  have m3 := E03 _ _ m
  have q3 := q.ex E03
  clear e1 e2 e3 sa1 sb2 g3 n3 gf gt m q E03
  walk_at "w"
  refine mk_ros rfl (fs := fs) (us := us) ⟨pf', rfl, .inl (sq_of gf3), by omega, okf⟩ ⟨pt, rfl, .inl (sq_of gt3), by omega, oku⟩ fun ro G4 e4 ros => ?_
  have sa4 := ex_t e4 sa3
  have sb4 := ex_t e4 sb3
  have sc4 := ex_t e4 sc3
  have gf4 := e4 _ _ gf3
  have gt4 := e4 _ _ gt3
  have m4 := e4 _ _ m3
  have q4 := q3.ex e4
  clear e4 sa3 sb3 sc3 gf3 gt3 m3 q3
  have sl4 : SqL K G4 pf' (fs.map V.str) := sq_of gf4
  walk_at "w"
  refine r_app (K := K) gf4 (by rw [List.length_map]; exact sz_lt (by omega)) ?_
  have L5 : Ls G4 (upd G4 pf' (.lst (fs.map V.str ++ [V.str "x"]))) := Ls.upd gf4
  have gf5 : upd G4 pf' (.lst (fs.map V.str ++ [V.str "x"])) pf' = some (.lst ((fs ++ (["x"] : List Str)).map V.str)) := by
    rw [upd_same, List.map_append]
    rfl
  have gt5 : upd G4 pf' (.lst (fs.map V.str ++ [V.str "x"])) pt = some (.lst (us.map V.str)) := by rw [upd_ne nft.symm]; exact gt4
  have m5 : upd G4 pf' (.lst (fs.map V.str ++ [V.str "x"])) pm = some (.lst (menuL.map V.str)) := by rw [upd_ne pmf]; exact m4
  have q5 : SrcAt (upd G4 pf' (.lst (fs.map V.str ++ [V.str "x"]))) y := src_fr nfy.symm Fr.upd q4
  generalize upd G4 pf' (.lst (fs.map V.str ++ [V.str "x"])) = G5 at *
  have sl5 : SqL K G5 pt (us.map V.str) := sq_of gt5
  walk_at "w"
  refine ⟨pt, us.map V.str, 0, .str "g", rfl, rfl, gt5, (by rw [List.length_map]; exact sz_lt (by omega)), Int.le_refl _, by decide, ?_⟩
  rw [show (HO.lst (List.take (0 : Int).toNat (us.map V.str) ++ [V.str "g"] ++ List.drop (0 : Int).toNat (us.map V.str))) = .lst (V.str "g" :: us.map V.str) from rfl]
  have L6 : Ls G5 (upd G5 pt (.lst (V.str "g" :: us.map V.str))) := Ls.upd gt5
  have gt6 : upd G5 pt (.lst (V.str "g" :: us.map V.str)) pt = some (.lst ((("g" : Str) :: us).map V.str)) := upd_same
  have gf6 : upd G5 pt (.lst (V.str "g" :: us.map V.str)) pf' = some (.lst ((fs ++ (["x"] : List Str)).map V.str)) := by rw [upd_ne nft]; exact gf5
  have m6 : upd G5 pt (.lst (V.str "g" :: us.map V.str)) pm = some (.lst (menuL.map V.str)) := by rw [upd_ne pmt]; exact m5
  have q6 : SrcAt (upd G5 pt (.lst (V.str "g" :: us.map V.str))) y := src_fr pty.symm Fr.upd q5
  generalize upd G5 pt (.lst (V.str "g" :: us.map V.str)) = G6 at *
  have L46 := L5.trans L6
  have sa6 := ls_t L46 sa4
  have sb6 := ls_t L46 sb4
  have sc6 := ls_t L46 sc4
  have ros6 := ls_ros L46 ros
  clear L5 L6 L46 sa4 sb4 sc4 ros gf4 gf5 gt4 gt5 m4 m5 q4 q5 sl4 sl5
  walk_at "w"
  refine r_rosFirst E ros6 fun a1 _ s1 => ?_
  walk_at "w"
  refine r_neTS s1 sa6 okf okf ?_
  rw [decide_eq_true rfl]
  walk_at "w"
  refine r_rosThen E ros6 fun b1 _ s2 => ?_
  walk_at "w"
  refine r_neTS s2 sb6 oku oku ?_
  rw [decide_eq_true rfl]
  walk_at "w"
  refine r_rosFirst E ros6 fun a2 _ s3 => ?_
  walk_at "w"
  refine r_rosThen E ros6 fun b2 _ s4 => ?_
  walk_at "w"
  intro po G7 n7 e7 g7
  refine r_addL (e7 _ _ m6) g7 (sz_of (by decide +kernel)) fun pl G8 n8 e8 g8 => ?_
  rw [show menuL.map V.str ++ [V.str "other"] = (menuL ++ (["other"] : List Str)).map V.str from rfl] at g8
  have E8 := e7.trans e8
  walk_at "w"
  refine ⟨ro, ta, tb, pl, fs, us, menuL ++ (["other"] : List Str), rfl, rfl, rfl, rfl, ex_ros E8 ros6, OK, ex_t E8 sa6, ex_t E8 sb6, sq_of g8, List.all_eq_true.mp (by decide +kernel), fun G9 e9 => ?_⟩
  have E9 := E8.trans e9
  have ros9 := ex_ros E9 ros6
  have sa9 := ex_t E9 sa6
  have sb9 := ex_t E9 sb6
  have sc9 := ex_t E9 sc6
  have gf9 := E9 _ _ gf6
  have gt9 := E9 _ _ gt6
  have m9 := E9 _ _ m6
  have q9 := q6.ex E9
  clear e7 e8 e9 E8 E9 n7 n8 g7 g8 ros6 sa6 sb6 sc6 gf6 gt6 m6 q6 s1 s2 s3 s4
  walk_at "w"
  have nil_ok : ∀ w ∈ ([] : List Str), okW w = true := fun w h => absurd h List.not_mem_nil
  refine mk_ros rfl (fs := fs) (us := []) ⟨ta, rfl, .inr sa9, by omega, okf⟩ ⟨_, rfl, .inr (E.t0_Roster _), Nat.zero_le _, nil_ok⟩ fun al G10 e10 al10 => ?_
  walk_at "w"
  refine r_rosThen E al10 fun b3 _ s5 => ?_
  walk_at "w"
  intro pe1 G11 n11 e11 g11
  refine r_neTS (ys := []) (ex_t e11 s5) (st_of g11) nil_ok nil_ok ?_
  rw [decide_eq_true rfl]
  walk_at "w"
  intro pe2 G12 n12 e12 g12
  have E12 := (e10.trans e11).trans e12
  walk_at "w"
  refine r_slL (sq_of (E12 _ _ m9)) fun pm3 G13 n13 e13 g13 => ?_
  rw [cutV_to (by decide)] at g13
  have E13 := E12.trans e13
  walk_at "w"
  refine ⟨al, ta, pe2, pm3, fs, [], menuL.take 3, rfl, rfl, rfl, rfl, ex_ros ((e11.trans e12).trans e13) al10, ⟨by omega, Nat.zero_le _, okf, nil_ok⟩, ex_t E13 sa9, st_of (e13 _ _ g12), sq_of g13, fun w hw => menu_ok w (List.mem_of_mem_take hw), fun G14 e14 => ?_⟩
  have E14 := E13.trans e14
  have OKa : RosOk fs [] := ⟨by omega, Nat.zero_le _, okf, nil_ok⟩
  have al14 := ex_ros (((e11.trans e12).trans e13).trans e14) al10
  have ros14 := ex_ros E14 ros9
  have sa14 := ex_t E14 sa9
  have sb14 := ex_t E14 sb9
  have sc14 := ex_t E14 sc9
  have gf14 := E14 _ _ gf9
  have gt14 := E14 _ _ gt9
  have q14 := q9.ex E14
  clear e10 e11 e12 e13 e14 E12 E13 E14 n11 n12 n13 g11 g12 g13 s5 al10 ros9 sa9 sb9 sc9 gf9 gt9 m9 q9
  walk_at "w"
  have okx : ∀ w ∈ fs ++ (["x"] : List Str), okW w = true := fun w hw => (List.mem_append.mp hw).elim (okf w) fun h => by
    rw [List.mem_singleton.mp h]
    decide +kernel
  have okg : ∀ w ∈ ("g" : Str) :: us, okW w = true := fun w hw => (List.mem_cons.mp hw).elim (fun e => by rw [e]; decide +kernel) (oku w)
  have zx : (fs ++ (["x"] : List Str)).length ≤ 1951 := by rw [List.length_append, List.length_singleton]; omega
  have zg : (("g" : Str) :: us).length ≤ 12 := by rw [List.length_cons]; omega
  intro p15 G15 n15 e15 g15
  walk_at "w"
  intro p16 G16 n16 e16 g16
  walk_at "w"
  refine mk_ros rfl (fs := fs) (us := us) ⟨p15, rfl, .inl (sq_of (e16 _ _ g15)), by omega, okf⟩ ⟨p16, rfl, .inl (sq_of g16), by omega, oku⟩ fun r2 G17 e17 R2 => ?_
  have E17 := (e15.trans e16).trans e17
  have ros17 := ex_ros E17 ros14
  obtain ⟨dr, fr1, fr2, hi, _⟩ := id ros17
  obtain ⟨dr2, fr3, fr4, hj, _⟩ := id R2
  refine r_ownEq hi (insB_ok E.ins_Roster E.c_Roster hj) E.nf_Roster_self ?_
  refine ⟨ro, fs, us, rfl, ros17, OK, .inl ⟨r2, fs, us, rfl, R2, OK, fun b G18 e18 d18 => ?_⟩⟩
  rw [decide_eq_true ⟨rfl, rfl⟩] at d18
  obtain rfl := dp_toBl d18
  refine ⟨⟨_, rfl⟩, ?_⟩
  have E18 := E17.trans e18
  clear hi hj R2 ros17 d18 e15 e16 e17 e18 E17 n15 n16 g15 g16
  have ros18 := ex_ros E18 ros14
  have al18 := ex_ros E18 al14
  have sa18 := ex_t E18 sa14
  have sb18 := ex_t E18 sb14
  have sc18 := ex_t E18 sc14
  have gf18 := E18 _ _ gf14
  have gt18 := E18 _ _ gt14
  have q18 := q14.ex E18
  clear E18 ros14 al14 sa14 sb14 sc14 gf14 gt14 q14
  walk_at "w"
  refine mk_ros rfl (fs := fs ++ (["x"] : List Str)) (us := us) ⟨pf', rfl, .inl (sq_of gf18), by omega, okx⟩ ⟨tb, rfl, .inr sb18, by omega, oku⟩ fun r3 G19 e19 R3 => ?_
  have ros19 := ex_ros e19 ros18
  obtain ⟨dr, fr1, fr2, hi, _⟩ := id ros19
  obtain ⟨dr2, fr3, fr4, hj, _⟩ := id R3
  refine r_ownEq hi (insB_ok E.ins_Roster E.c_Roster hj) E.nf_Roster_self ?_
  refine ⟨ro, fs, us, rfl, ros19, OK, .inl ⟨r3, _, us, rfl, R3, ⟨by omega, by omega, okx, oku⟩, fun b G20 e20 d20 => ?_⟩⟩
  rw [decide_eq_false (fun h => absurd (congrArg List.length h.1) (by rw [List.length_append, List.length_singleton]; omega))] at d20
  obtain rfl := dp_toBl d20
  refine ⟨⟨_, rfl⟩, ?_⟩
  have E20 := e19.trans e20
  have ros20 := ex_ros E20 ros18
  have sc20 := ex_t E20 sc18
  clear hi hj R3 ros19 d20
  walk_at "w"
  obtain ⟨dr, fr1, fr2, hi, _⟩ := id ros20
  refine r_ownEq hi (SqT.ty sc20) E.nf_Roster_tuple ?_
  refine ⟨ro, fs, us, rfl, ros20, OK, .inr ⟨"tuple", by simp, SqT.ty sc20, fun b G21 e21 d21 => ?_⟩⟩
  obtain rfl := dp_toBl d21
  refine ⟨⟨_, rfl⟩, ?_⟩
  have E21 := E20.trans e21
  clear hi d21 ros20 sc20 e19 e20 e21 E20
  have ros21 := ex_ros E21 ros18
  have al21 := ex_ros E21 al18
  have sa21 := ex_t E21 sa18
  have sb21 := ex_t E21 sb18
  have sc21 := ex_t E21 sc18
  have gf21 := E21 _ _ gf18
  have gt21 := E21 _ _ gt18
  have q21 := q18.ex E21
  clear E21 ros18 al18 sa18 sb18 sc18 gf18 gt18 q18
  walk_at "w"
  obtain ⟨dr, fr1, fr2, hi, _⟩ := id al21
  obtain ⟨dr2, fr3, fr4, hj, _⟩ := id ros21
  refine r_ownEq hi (insB_ok E.ins_Roster E.c_Roster hj) E.nf_Roster_self ?_
  refine ⟨al, fs, [], rfl, al21, OKa, .inl ⟨ro, fs, us, rfl, ros21, OK, fun b G22 e22 d22 => ?_⟩⟩
  obtain rfl := dp_toBl d22
  refine ⟨⟨_, rfl⟩, ?_⟩
  have ros22 := ex_ros e22 ros21
  have sa22 := ex_t e22 sa21
  have sb22 := ex_t e22 sb21
  have sc22 := ex_t e22 sc21
  have gt22 := e22 _ _ gt21
  have q22 := q21.ex e22
  clear hi hj d22 e22 ros21 al21 sa21 sb21 sc21 gf21 gt21 q21
  walk_at "w"
  refine r_neB ?_
  rw [show decide (fs = fs ∧ ([] : List Str) = us) = decide (((us.map V.str).length : Int) = 0) by
    rw [List.length_map]
    cases us with
    | nil => simp
    | cons u us => simp; omega]
  rw [decide_eq_true rfl]
  walk_at "w"
  refine mk_ros rfl (fs := fs) (us := ("g" : Str) :: us) ⟨ta, rfl, .inr sa22, by omega, okf⟩ ⟨pt, rfl, .inl (sq_of gt22), by omega, okg⟩ fun r4 G23 e23 R4 => ?_
  have ros23 := ex_ros e23 ros22
  obtain ⟨dr, fr1, fr2, hi, _⟩ := id ros23
  obtain ⟨dr2, fr3, fr4, hj, _⟩ := id R4
  refine r_ownEq hi (insB_ok E.ins_Roster E.c_Roster hj) E.nf_Roster_self ?_
  refine ⟨ro, fs, us, rfl, ros23, OK, .inl ⟨r4, fs, _, rfl, R4, ⟨by omega, by omega, okf, okg⟩, fun b G24 e24 d24 => ?_⟩⟩
  rw [decide_eq_false (fun h => absurd (congrArg List.length h.2) (by rw [List.length_cons]; omega))] at d24
  obtain rfl := dp_toBl d24
  refine ⟨⟨_, rfl⟩, ?_⟩
  have E24 := e23.trans e24
  have sa24 := ex_t E24 sa22
  have sb24 := ex_t E24 sb22
  have sc24 := ex_t E24 sc22
  have q24 := q22.ex E24
  clear hi hj d24 e23 e24 E24 R4 ros22 ros23 sa22 sb22 sc22 gt22 q22
  walk_at "w"
  intro p1 J1 n1 e1 g1
  walk_at "w"
  intro p2 J2 n2 e2 g2
  walk_at "w"
  intro p3 J3 n3 e3 g3
  walk_at "w"
  intro p4 J4 n4 e4 g4
  walk_at "w"
  intro p5 J5 n5 e5 g5
  walk_at "w"
  intro p6 J6 n6 e6 g6
  walk_at "w"
  intro p7 J7 n7 e7 g7
  walk_at "w"
  intro p8 J8 n8 e8 g8
  walk_at "w"
  refine w_disp1 fun p9 J9 kvs n9 e9 g9 => ?_
  walk_at "w"
  intro pw J n10 e10 g10
  have c9 := e9.trans e10
  have c8 := e8.trans c9
  have c7 := e7.trans c8
  have c6 := e6.trans c7
  have c5 := e5.trans c6
  have c4 := e4.trans c5
  have c3 := e3.trans c4
  have c2 := e2.trans c3
  have c1 := e1.trans c2
  have h1 := c2 _ _ g1
  have h2 := c3 _ _ g2
  have h3 := c4 _ _ g3
  have h4 := c5 _ _ g4
  have h5 := c6 _ _ g5
  have h6 := c7 _ _ g6
  have h7 := c8 _ _ g7
  have h8 := c9 _ _ g8
  have h9 := e10 _ _ g9
  have saJ := ex_t c1 sa24
  have sbJ := ex_t c1 sb24
  have scJ := ex_t c1 sc24
  have qJ := q24.ex c1
  have bad : ∀ H', Fr y J H' → ∀ v ∈ wrongV p1 p2 p3 p4 p5 p7 p8 p9, NmL K H' v false := fun H' f => wrong_bad qJ f h1 h2 h3 h4 h5 h6 h7 h8 h9
  have gJ : J pw = some (.lst (wrongV p1 p2 p3 p4 p5 p7 p8 p9)) := g10
  have pwy : pw ≠ y := (q24.ex (e1.trans (e2.trans (e3.trans (e4.trans (e5.trans (e6.trans (e7.trans (e8.trans e9))))))))).ne n10
  clear c9 c8 c7 c6 c5 c4 c3 c2 c1 h1 h2 h3 h4 h5 h6 h7 h8 h9 g1 g2 g3 g4 g5 g6 g7 g8 g9 g10 e1 e2 e3 e4 e5 e6 e7 e8 e9 e10 n1 n2 n3 n4 n5 n6 n7 n8 n9 n10 sa24 sb24 sc24 q24
  have wz : (wrongV p1 p2 p3 p4 p5 p7 p8 p9).length = 11 := rfl
  generalize wrongV p1 p2 p3 p4 p5 p7 p8 p9 = ws at *
  walk_at "w"
  refine i_seqL ?_
  walk_at "w"
  refine for_list (xs := ws) (Pv := fun _ σ' H' => ∃ u : Option V, σ' = [some (.ref sa), some (.ref x), some (.ref pm), some (.ref pf'), some (.ref y), some (.ref pt), some (.ref cp), some (.ref ro), some (.ref al), some (.ref pw), u, none] ∧ Fr y J H' ∧ SrcAt H' y) ⟨_, rfl, Fr.refl _ _, qJ⟩ (fun _ _ H' _ g => by obtain ⟨_, _, f, _⟩ := g; exact sq_of (f _ _ pwy gJ)) ?_ ?_
  · rintro i v σ' A0 hi ⟨u, rfl, f0, q0⟩
    have hv := List.mem_of_getElem? hi
    have sa0 := fr_t f0 qJ saJ
    have sb0 := fr_t f0 qJ sbJ
    have sc0 := fr_t f0 qJ scJ
    walk_at "w"
    refine .inl ⟨bad _ f0 v hv, fun A1 e1 => ?_⟩
    walk_at "w"
    refine r_neSS ?_
    have f1 := f0.trans (Fr.of e1)
    have sc1 := ex_t e1 sc0
    walk_at "w"
    refine .inr ⟨fs, ⟨ta, rfl, .inr (ex_t e1 sa0), by omega, okf⟩, .inl ⟨bad _ f1 v hv, fun A2 e2 => ?_⟩⟩
    walk_at "w"
    refine r_neSS ?_
    have f2 := f1.trans (Fr.of e2)
    have q2 := (q0.ex e1).ex e2
    have gw2 : SqL K A2 pw ws := sq_of (f2 _ _ pwy gJ)
    walk_at "w"
    refine ⟨y, 11, rfl, by rw [wz]; rfl, by decide, by decide, q2, fun r5 A3 r50 r51 q3 f3 => ?_⟩
    have F3 := f2.trans f3
    obtain ⟨v2, _, ha⟩ := atI_ex (xs := ws) r50 (by rw [wz]; omega)
    walk_at "w"
    refine r_ixL (sq_of (F3 _ _ pwy gJ)) ha ?_
    walk_at "w"
    refine .inl ⟨bad _ F3 v hv, fun A4 e4 => ?_⟩
    walk_at "w"
    refine r_neSS ?_
    walk_at "w"
    exact ⟨_, rfl, F3.trans (Fr.of e4), q3.ex e4⟩
  · rintro σ' A0 ⟨u, rfl, f0, q0⟩
    have sa0 := fr_t f0 qJ saJ
    have sb0 := fr_t f0 qJ sbJ
    have sc0 := fr_t f0 qJ scJ
    walk_at "w"
    intro p5 A1 n1 e1 g1
    walk_at "w"
    refine .inr ⟨fs, ⟨p5, rfl, .inl (sq_of g1), by omega, okf⟩, .inr ⟨us, ⟨tb, rfl, .inr (ex_t e1 sb0), by omega, oku⟩, fun A2 e2 => ?_⟩⟩
    walk_at "w"
    exact k _

end
end M
namespace M
open PySem PySem.Spec PyProof.Rows L2 Evl MS
theorem facts {P : Program} {w : World} {K : PySem.W.Frag} {h : Heap} {mg : Str → Option Value} {f : Addr} (X : K.In h) (G : h.Ns mainGlobals mg) (hfa : mg ("law" : Str) = some (.ref f)) (c : SaysM fa fn exB K) (pf : ((P.main.file : Str) == mainFile) = true ∧ (P.main.scope.names.lookup ("super" : Str)).isSome = false) :
    ∃ fd : FuncData, (∀ (s : Shared) (v : Value), BindsTo s fd ⟨[v], []⟩ [("script", v)]) ∧ ∀ base : Heap, K.In base → base.Ns mainGlobals mg → FnOk P w K mg base CX0 14 f fd ["script"] (lawSp K) := by
  have E : Env P K mg := ⟨⟨h, X, G⟩, c, pf⟩
  obtain ⟨fd, F⟩ := E.dd_law
  have e := hfa.symm.trans E.g_law
  cases e
  have b := FunD.bindsA (ps := ["script"]) F fun _ _ _ _ _ _ us hl => match us, hl with | [_], _ => rfl
  exact ⟨fd, fun s v => b s [v] rfl, fun base _ _ => ok_law E F⟩
end M
open PySem PySem.W PySem.Calls PyProof.Rows
theorem PySem.Challenge.cw_rosterneed_k66_whole_rosters_holds : PySem.Challenge.rw_rosterneed_k66_whole_rosters.Holds := by
  w_on; o_law
  refine HandSHeadRun.head_any (r := OpenLaw.row PySem.Challenge.rw_rosterneed_k66_whole_rosters) (q := view (OpenLaw.row PySem.Challenge.rw_rosterneed_k66_whole_rosters).prog [58]) (H := M.hk) (ob := M.ob) (M := 6000) (loose := M.nmL) (d := HandSHeadRun.topDef (OpenLaw.row PySem.Challenge.rw_rosterneed_k66_whole_rosters).prog 58) (kwd := []) M.ob_eq
    (by kernel_rfl) (fun s => by kernel_rfl) M.run (by kernel_rfl) (by kernel_rfl) (by kernel_rfl) (by rfl) (by first | assumption | decide +kernel) (by decide +kernel) ⟨rfl, rfl, rfl, rfl, rfl, by decide +kernel⟩ ?hw ?hc
  case hw => w_witness2
  case hc =>
    refine Att.attach_callB (l := PySem.Challenge.rw_rosterneed_k66_whole_rosters) (n := 63) rfl (by kernel_rfl) fun w s₀ s₁ mg mb fa o pm cd doc a vs ns G Y ho hd hcd hmg0 hobj hints hlen hbits hg => ?_
    obtain ⟨K, KX, c⟩ := Y
    have hmg : mg ("law" : PySem.Str) = some (.ref fa) := by
      have e : (HandSHeadRun.topDef (OpenLaw.row PySem.Challenge.rw_rosterneed_k66_whole_rosters).prog 58).name = ("law" : PySem.Str) := by kernel_rfl
      rw [← e]
      exact hmg0
    obtain ⟨fd, hb, hF⟩ := M.facts (P := (PySem.Challenge.rw_rosterneed_k66_whole_rosters).prog) (w := w) KX G.T.g hmg c ⟨by kernel_rfl, by kernel_rfl⟩
    exact L2.law_call (CX := L2.CX0) KX G.T.g G.T.b G.T.builtins G.T.nolimit hg hobj hints (Nat.le_trans hlen (by decide)) ⟨rfl, by decide, by decide⟩ hF hb (fun H _ hS => ⟨_, rfl, a, ns, rfl, hS, hbits, hlen, fun _ => rfl⟩) fun _ _ _ z => z

