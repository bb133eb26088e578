import PyProof.Rows.All
import Wide.All
import OpenK.AllK
import Wide.FinOn
import KE.KStateDown
import HandS.ForMost
import HandS.Exc
import HandS.WordsExc
import HandS.Defaults
import HandS.Evl
import HandS.Flow
import HandS.Conv
import HandS.IsInst
import HandS.TupMul
import HandS.TupAny
import HandS.Wide
import HandS.WideBits
import HandS.Property
import HandS.Star
import HandS.OwnEq
import HandS.Flt
import KE.KSuper
import HandS.ClsMeth
import HandS.Nested
import HandS.Style
import HandS.Head0
import HandS.Head1
import HandS.Head2
import HandS.HeadEnd
import HandS.EndBits
import HandS.HeadHook1
import HandS.HeadHook2
import HandS.Text
import HandS.Iter
import HandS.Walk
import PyProof.Draws
import HandS.Deep
import KE.DataFind
import HandS.ExcOwn
import HandS.ExcInit
import HandS.ExcField
import HandS.TryMany
import KE.KExcSuper
import HandS.FStr
import KE.KExcIs
import HandS.ExcIs
import HandS.Codes
import PySem.Challenge.RW_rosterneed_k71_whole_roster_texts
set_option Elab.async false
set_option linter.all false
set_option maxRecDepth 100000
set_option maxHeartbeats 4000000
/-! ### part A: defs by name, calls, unions of rules (own layer over HandS) -/
namespace M
open PySem PySem.Spec PyProof.Rows L2 Evl

section
variable {P : Program} {w : World} {K : PySem.W.Frag} {mg : Str → Option Value} {base : Heap}
/-- a def of the module under its name, with its promise -/
structure Fn (P : Program) (w : World) (K : PySem.W.Frag) (mg : Str → Option Value) (base : Heap) (CX : CXT) (k : Nat) (x : Str) (sp : Sp) : Prop where
  ex : ∃ (f : Addr) (fd : FuncData) (ps : List Str), FnOk P w K mg base CX k f fd ps sp ∧ mg x = some (.ref f) ∧ PySem.W.keepIn K (.ref f) = true ∧ Binds K fd ps []
/-- a method of the class at C -/
structure Mt (P : Program) (w : World) (K : PySem.W.Frag) (mg : Str → Option Value) (base : Heap) (CX : CXT) (k : Nat) (C : Addr) (m : Str) (sp : Sp) : Prop where
  ex : ∃ (f : Addr) (fd : FuncData) (ps : List Str), Cls K C ∧ Meth K C m f ∧ FnOk P w K mg base CX k f fd ps sp ∧ Binds K fd ps []

def sp1 (F : V → Hp → VK → XK → Prop) : Sp := fun vs H Q E => ∃ a, vs = [a] ∧ F a H Q E
def sp2 (F : V → V → Hp → VK → XK → Prop) : Sp := fun vs H Q E => ∃ a b, vs = [a, b] ∧ F a b H Q E
def sp3 (F : V → V → V → Hp → VK → XK → Prop) : Sp := fun vs H Q E => ∃ a b c, vs = [a, b, c] ∧ F a b c H Q E
def sp4 (F : V → V → V → V → Hp → VK → XK → Prop) : Sp := fun vs H Q E => ∃ a b c d, vs = [a, b, c, d] ∧ F a b c d H Q E
def sp5 (F : V → V → V → V → V → Hp → VK → XK → Prop) : Sp := fun vs H Q E => ∃ a b c d e, vs = [a, b, c, d, e] ∧ F a b c d e H Q E

theorem sp1_len {F} {p : Str} : ∀ vs H Q E, sp1 F vs H Q E → vs.length = [p].length := fun vs H Q E ⟨a, e, _⟩ => by rw [e]; rfl
theorem sp2_len {F} {p q : Str} : ∀ vs H Q E, sp2 F vs H Q E → vs.length = [p, q].length := fun vs H Q E ⟨a, b, e, _⟩ => by rw [e]; rfl
theorem sp3_len {F} {p q r : Str} : ∀ vs H Q E, sp3 F vs H Q E → vs.length = [p, q, r].length := fun vs H Q E ⟨a, b, c, e, _⟩ => by rw [e]; rfl
theorem sp4_len {F} {p q r u : Str} : ∀ vs H Q E, sp4 F vs H Q E → vs.length = [p, q, r, u].length := fun vs H Q E ⟨a, b, c, d, e, _⟩ => by rw [e]; rfl
theorem sp5_len {F} {p q r u v : Str} : ∀ vs H Q E, sp5 F vs H Q E → vs.length = [p, q, r, u, v].length := fun vs H Q E ⟨a, b, c, d, _, e, _⟩ => by rw [e]; rfl

/-- a def of which nothing is promised (the floor of a recursion) -/
theorem Fn.never {x qual : Str} {params : Arguments} {body : List Stmt} {scope : Scope} {f : Addr} {fd : FuncData} {ps : List Str} {k : Nat}
    (F : FunD K x qual params body scope [] [] f fd) (hm : mg x = some (.ref f))
    (hb : ∀ (kV doc pm : Value) (an : Option Addr) (cdv ct : Value) (us : List Value), us.length = ps.length → bindArgs (PySem.W.fnOf x qual params body scope .none kV doc pm an cdv ct) ⟨us, []⟩ = pure (ps.zip us)) :
    Fn P w K mg base CX0 k x (fun _ _ _ _ => False) :=
  ⟨f, fd, ps, ⟨fun _ _ _ _ h => h.elim, fun _ _ _ _ _ _ _ _ _ _ _ _ _ h => h.elim⟩, hm, F.kp, F.bindsN hb⟩
theorem fnok0 {x qual : Str} {params : Arguments} {body : List Stmt} {scope : Scope} {dvs : List V} {f : Addr} {fd : FuncData} {N ps : List Str} {k : Nat} {sp : Sp}
    (F : FunD K x qual params body scope dvs [] f fd) (S : FnScope N ps scope) (len : ∀ vs H Q E, sp vs H Q E → vs.length = ps.length)
    (hbody : ∀ (cdv : Value) (A : Around) (outer : List Env) (s : Shared) (H : Hp) (vs : List V) (Q : VK) (E : XK), Room k (A.deeper (envOfC qual scope s.heap.objs.size f cdv)) → sp vs H Q E →
      ∃ t, PSs (cxOf CX0 P w K mg base N qual scope f cdv A outer s H E).nox body t ∧ t { nx := fun _ H' => Q .non H', rt := Q } (start N vs) H) :
    FnOk P w K mg base CX0 (k + 1) f fd ps sp := F.ok S len fun cdv A outer s H vs Q E hr h => by
  obtain ⟨t, h1, h2⟩ := hbody cdv A outer s H vs Q E hr h
  exact ⟨t, h1.nox, h2⟩
/-- a def that lets nothing out, by its body -/
theorem Fn.mk0 {x qual : Str} {params : Arguments} {body : List Stmt} {scope : Scope} {f : Addr} {fd : FuncData} {N ps : List Str} {k : Nat} {sp : Sp}
    (F : FunD K x qual params body scope [] [] f fd) (hm : mg x = some (.ref f)) (S : FnScope N ps scope) (len : ∀ vs H Q E, sp vs H Q E → vs.length = ps.length)
    (hb : ∀ (kV doc pm : Value) (an : Option Addr) (cdv ct : Value) (us : List Value), us.length = ps.length → bindArgs (PySem.W.fnOf x qual params body scope .none kV doc pm an cdv ct) ⟨us, []⟩ = pure (ps.zip us))
    (hbody : ∀ (cdv : Value) (A : Around) (outer : List Env) (s : Shared) (H : Hp) (vs : List V) (Q : VK) (E : XK), Room k (A.deeper (envOfC qual scope s.heap.objs.size f cdv)) → sp vs H Q E →
      ∃ t, PSs (cxOf CX0 P w K mg base N qual scope f cdv A outer s H E).nox body t ∧ t { nx := fun _ H' => Q .non H', rt := Q } (start N vs) H) :
    Fn P w K mg base CX0 (k + 1) x sp :=
  ⟨f, fd, ps, F.ok S len fun cdv A outer s H vs Q E hr h => by
    obtain ⟨t, h1, h2⟩ := hbody cdv A outer s H vs Q E hr h
    exact ⟨t, h1.nox, h2⟩, hm, F.kp, F.bindsN hb⟩
theorem Mt.mk0 {x qual : Str} {params : Arguments} {body : List Stmt} {scope : Scope} {f C : Addr} {fd : FuncData} {N ps : List Str} {k : Nat} {sp : Sp} {m : Str}
    (F : FunD K x qual params body scope [] [] f fd) (c : Cls K C) (hm : Meth K C m f) (S : FnScope N ps scope) (len : ∀ vs H Q E, sp vs H Q E → vs.length = ps.length)
    (hb : ∀ (kV doc pm : Value) (an : Option Addr) (cdv ct : Value) (us : List Value), us.length = ps.length → bindArgs (PySem.W.fnOf x qual params body scope .none kV doc pm an cdv ct) ⟨us, []⟩ = pure (ps.zip us))
    (hbody : ∀ (cdv : Value) (A : Around) (outer : List Env) (s : Shared) (H : Hp) (vs : List V) (Q : VK) (E : XK), Room k (A.deeper (envOfC qual scope s.heap.objs.size f cdv)) → sp vs H Q E →
      ∃ t, PSs (cxOf CX0 P w K mg base N qual scope f cdv A outer s H E).nox body t ∧ t { nx := fun _ H' => Q .non H', rt := Q } (start N vs) H) :
    Mt P w K mg base CX0 (k + 1) C m sp :=
  ⟨f, fd, ps, c, hm, F.ok S len fun cdv A outer s H vs Q E hr h => by
    obtain ⟨t, h1, h2⟩ := hbody cdv A outer s H vs Q E hr h
    exact ⟨t, h1.nox, h2⟩, F.bindsN hb⟩
end

section
variable {X : Cx} {CX : CXT} {k j : Nat} {C : Addr} {x m : Str} {sp : Sp} {E : XK} {p pos apos : Pos} {e o : Expr} {es : List Expr} {ta : TE} {t : TA}
theorem pc (c : Fn X.prog X.w X.K X.mg X.base CX k x sp) (hr : Room j X.A) (hk : k ≤ j) (hx : Passes CX X E) (hg : Gl X x) (ha : PA X (e :: es) t)
    (hdb : (x == ("__debug__" : Str)) = false := by decide) (he : starEach (e :: es) X.env = (false, eval e X.env) :: starEach es X.env := by rfl) (hpl : (backTo pos (starEach es X.env)).any (·.1) = false := by rfl) :
    PE X (.Call (.Name x p) (e :: es) [] pos) (tCall sp [] E t) := by
  obtain ⟨f, fd, ps, F, hm, hkp, hb⟩ := c.ex
  exact pe_call F (hr.mono hk) hg hm hkp hb .nil hx ha hdb he hpl
theorem pc0 (c : Fn X.prog X.w X.K X.mg X.base CX k x sp) (hr : Room j X.A) (hk : k ≤ j) (hx : Passes CX X E) (hg : Gl X x)
    (hdb : (x == ("__debug__" : Str)) = false := by decide) :
    PE X (.Call (.Name x p) [] [] pos) (tCall sp [] E tNil) := by
  obtain ⟨f, fd, ps, F, hm, hkp, hb⟩ := c.ex
  exact pe_call0 F (hr.mono hk) hg hm hkp hb .nil hx hdb
end

/-! unions -/
section
variable {X : Cx}
def rAdd (K : PySem.W.Frag) : R2 := fun x y H Q => (rI0 fun i j => .int (i + j)) x y H Q ∨ rCat x y H Q ∨ rCatA K x y H Q ∨ ∃ i j, x = .str i ∧ y = .str j ∧ i.length + j.length ≤ sizeLine ∧ Q (.str (i ++ j)) H
theorem xAdd : OpR X (binaryOp .Add) (rAdd X.K) := op_add.or (op_cat.or (op_catA.or op_add_str))
def rMul (K : PySem.W.Frag) : R2 := fun x y H Q => (rI CMul fun i j => .int (i * j)) x y H Q ∨ rRep x y H Q ∨ rRepT K x y H Q
theorem xMul : OpR X (binaryOp .Mult) (rMul X.K) := op_mul.or (op_rep.or op_repT)
abbrev rDiv : R2 := rI CDivW fun i j => .int (i / j)
theorem xDiv : OpR X (binaryOp .FloorDiv) rDiv := op_fdivW
abbrev rMod : R2 := rI (fun _ j => 0 < j) fun i j => .int (i % j)
theorem xMod : OpR X (binaryOp .Mod) rMod := op_mod
abbrev rSubI : R2 := rI0 fun i j => .int (i - j)
theorem xSub : OpR X (binaryOp .Sub) rSubI := op_sub
abbrev rShl : R2 := rI CShl fun i j => .int (i * 2 ^ j.toNat)
theorem xShl : OpR X (binaryOp .LShift) rShl := op_shlW
abbrev rShr : R2 := rI (fun _ j => 0 ≤ j) fun i j => .int (i / 2 ^ j.toNat)
theorem xShr : OpR X (binaryOp .RShift) rShr := op_shr
abbrev rPow : R2 := rI CPow fun i j => .int (i ^ j.toNat)
theorem xPow : OpR X (binaryOp .Pow) rPow := op_pow
def rEqU (K : PySem.W.Frag) : R2 := fun x y H Q => rEq x y H Q ∨ rEqD K x y H Q
theorem xEq {j : Nat} (hr : Room j X.A) : OpR X (compareOp .Eq) (rEqU X.K) := op_eq.or (op_eqD (by have := hr.un; omega))
def rNeU (K : PySem.W.Frag) : R2 := fun x y H Q => rNe x y H Q ∨ rNeD K x y H Q
theorem xNe {j : Nat} (hr : Room j X.A) : OpR X (compareOp .NotEq) (rNeU X.K) := op_ne.or (op_neD (by have := hr.un; omega))
def rSl (K : PySem.W.Frag) : V → Option Int → Option Int → Hp → VK → Prop := fun x lo hi H Q => rSlL K x lo hi H Q ∨ rSlA K x lo hi H Q ∨ rSlS x lo hi H Q
theorem xSl : SlR X (rSl X.K) := sl_list.or (sl_tupA.or sl_str)
theorem PI.or {tg iter : Expr} {w1 w2 : TI} (h1 : PI X tg iter w1) (h2 : PI X tg iter w2) : PI X tg iter (fun σ H R => w1 σ H R ∨ w2 σ H R) :=
  ⟨fun pins s σ H R I h => h.elim (h1.run pins s σ H R I) (h2.run pins s σ H R I)⟩
def iSeq (K : PySem.W.Frag) (tl : TE) : TI := fun σ H R => iList K tl σ H R ∨ iTup K tl σ H R
theorem pi_seq {tg l : Expr} {tl : TE} (hl : PE X l tl) : PI X tg l (iSeq X.K tl) := PI.or (pi_list hl) (pi_tup hl)
end
end M

/-! ### part B: readings step by step -/
namespace M
open PySem PySem.Spec PyProof.Rows L2 Evl
section
variable {K : PySem.W.Frag} {σ : L2.St} {H : Hp} {Q : VK} {D : Ends} {t u : TS} {te ta tb : TE} {tt tu : TT} {g : TG} {v : V} {r : R2}
theorem w_cut {M : L2.St → Hp → Prop} (h : t { nx := M, rt := D.rt, bk := D.bk, ct := D.ct } σ H) (h2 : ∀ σ' H', M σ' H' → u D σ' H') : tCut t u D σ H := ⟨M, h, h2⟩
theorem w_seq (h : t { nx := u D, rt := D.rt, bk := D.bk, ct := D.ct } σ H) : tSeq t u D σ H := h
theorem w_drop (h : te σ H fun _ H1 => D.nx σ H1) : tDrop te D σ H := h
theorem w_asg (h : te σ H fun x H1 => g x σ H1 D.nx) : tAsg te g D σ H := h
theorem w_ret (h : te σ H D.rt) : tRet te D σ H := h
theorem w_retN (h : D.rt .non H) : tRetN D σ H := h
theorem w_next (h : D.nx σ H) : tNext D σ H := h
theorem w_break (h : D.bk σ H) : tBreak D σ H := h
theorem w_ifS (h : tt σ H fun b H1 => if b = true then t D σ H1 else u D σ H1) : tIfS tt t u D σ H := h
theorem w_op (h : ta σ H fun x H1 => tb σ H1 fun y H2 => r x y H2 Q) : tOp r ta tb σ H Q := h
theorem w_un {r : V → Hp → VK → Prop} (h : ta σ H fun x H1 => r x H1 Q) : tUn r ta σ H Q := h
theorem w_c (h : Q v H) : tC v σ H Q := h
theorem w_test {Q : Bool → Hp → Prop} (h : te σ H fun x H' => ∃ k, x = .bl k ∧ Q k H') : tTest te σ H Q := h
theorem w_tB {Q : Bool → Hp → Prop} (h : te σ H fun x H' => ∃ k, x = .bl k ∧ Q k H') : tB te σ H Q := h
theorem w_exbl {Q : Bool → Hp → Prop} {b : Bool} (h : Q b H) : ∃ k, V.bl b = .bl k ∧ Q k H := ⟨b, rfl, h⟩
theorem w_exbl2 {Q : Bool → Prop} {b : Bool} (h : Q b) : ∃ k, V.bl b = .bl k ∧ Q k := ⟨b, rfl, h⟩
theorem w_and {Q : Bool → Hp → Prop} (h : tt σ H fun c H1 => if c = true then tu σ H1 Q else Q false H1) : tAnd tt tu σ H Q := h
theorem w_or {Q : Bool → Hp → Prop} (h : tt σ H fun c H1 => if c = true then Q true H1 else tu σ H1 Q) : tOr tt tu σ H Q := h
theorem w_not {Q : Bool → Hp → Prop} (h : tt σ H fun c H1 => Q (!c) H1) : tNot tt σ H Q := h
theorem w_andV (h : ta σ H fun x H1 => ∃ c, x = .bl c ∧ if c = true then tb σ H1 Q else Q (.bl false) H1) : tAndV ta tb σ H Q := h
theorem w_orV (h : ta σ H fun x H1 => ∃ c, x = .bl c ∧ if c = true then Q (.bl true) H1 else tb σ H1 Q) : tOrV ta tb σ H Q := h
theorem w_notV (h : ta σ H fun x H1 => ∃ c, x = .bl c ∧ Q (.bl (!c)) H1) : tNotV ta σ H Q := h
theorem w_ifE (h : tt σ H fun c H1 => if c = true then ta σ H1 Q else tb σ H1 Q) : tIf tt ta tb σ H Q := h
theorem w_chain {r' : R2} {tc : TE} (h : ta σ H fun x H1 => tb σ H1 fun y H2 => r x y H2 fun z H3 => ∃ k, z = .bl k ∧ (if k = true then tc σ H3 fun w' H4 => r' y w' H4 Q else Q (.bl false) H3)) : tChain r r' ta tb tc σ H Q := h
theorem w_nil {Q : List V → Hp → Prop} (h : Q [] H) : tNil σ H Q := h
theorem w_cons {tr : TA} {Q : List V → Hp → Prop} (h : ta σ H fun x H1 => tr σ H1 fun xs H2 => Q (x :: xs) H2) : tCons ta tr σ H Q := h
theorem w_cb {r : List V → Hp → VK → Prop} {t : TA} (h : t σ H fun vs H1 => r vs H1 Q) : tCB r t σ H Q := h
theorem w_call {sp : Sp} {E : XK} {t : TA} (h : t σ H fun vs H1 => sp (vs ++ []) H1 Q E) : tCall sp [] E t σ H Q := h
theorem w_call1 {F} {E : XK} {a : V} (h : F a H Q E) : sp1 F ([a] ++ []) H Q E := ⟨a, rfl, h⟩
theorem w_call2 {F} {E : XK} {a b : V} (h : F a b H Q E) : sp2 F ([a, b] ++ []) H Q E := ⟨a, b, rfl, h⟩
theorem w_call3 {F} {E : XK} {a b c : V} (h : F a b c H Q E) : sp3 F ([a, b, c] ++ []) H Q E := ⟨a, b, c, rfl, h⟩
theorem w_call4 {F} {E : XK} {a b c d : V} (h : F a b c d H Q E) : sp4 F ([a, b, c, d] ++ []) H Q E := ⟨a, b, c, d, rfl, h⟩
theorem w_call5 {F} {E : XK} {a b c d e : V} (h : F a b c d e H Q E) : sp5 F ([a, b, c, d, e] ++ []) H Q E := ⟨a, b, c, d, e, rfl, h⟩
theorem w_callM1 {F} {E : XK} {x : V} (h : F x H Q E) : sp1 F (x :: ([] ++ [])) H Q E := ⟨x, rfl, h⟩
theorem w_callM2 {F} {E : XK} {x a : V} (h : F x a H Q E) : sp2 F (x :: ([a] ++ [])) H Q E := ⟨x, a, rfl, h⟩
theorem w_callM3 {F} {E : XK} {x a b : V} (h : F x a b H Q E) : sp3 F (x :: ([a, b] ++ [])) H Q E := ⟨x, a, b, rfl, h⟩
theorem w_callM4 {F} {E : XK} {x a b c : V} (h : F x a b c H Q E) : sp4 F (x :: ([a, b, c] ++ [])) H Q E := ⟨x, a, b, c, rfl, h⟩
/-- a new tuple, a new list: what is asked, named -/
def NewT (xs : List V) (H : Hp) (Q : VK) : Prop := xs.length ≤ sizeLine ∧ ∀ p, H p = none → Q (.ref p) (upd H p (.tup xs))
def NewL (xs : List V) (H : Hp) (Q : VK) : Prop := xs.length ≤ sizeLine ∧ ∀ p, H p = none → Q (.ref p) (upd H p (.lst xs))
theorem w_tup {t : TA} (h : t σ H fun xs H1 => NewT xs H1 Q) : tTup t σ H Q := h
theorem w_lst {t : TA} (h : t σ H fun xs H1 => NewL xs H1 Q) : tLst t σ H Q := h
theorem w_newT {xs : List V} (hz : xs.length ≤ sizeLine) (h : ∀ p H1, H p = none → Ex H H1 → H1 p = some (.tup xs) → Q (.ref p) H1) : NewT xs H Q :=
  ⟨hz, fun p hp => h p _ hp (Ex.new hp) upd_same⟩
theorem w_newL {xs : List V} (hz : xs.length ≤ sizeLine) (h : ∀ p H1, H p = none → Ex H H1 → H1 p = some (.lst xs) → Q (.ref p) H1) : NewL xs H Q :=
  ⟨hz, fun p hp => h p _ hp (Ex.new hp) upd_same⟩
theorem w_sl {r : V → Option Int → Option Int → Hp → VK → Prop} {tl th : TO} (h : te σ H fun x H1 => tl σ H1 fun l H2 => th σ H2 fun u H3 => r x l u H3 Q) : tSl r te tl th σ H Q := h
theorem w_part {Q : Option Int → Hp → Prop} (h : te σ H fun x H1 => ∃ i, x = .int i ∧ Q (some i) H1) : tPart te σ H Q := h
theorem w_noPart {Q : Option Int → Hp → Prop} (h : Q none H) : tNoPart σ H Q := h
theorem w_exint {Q : Int → Prop} {i : Int} (h : Q i) : ∃ k, V.int i = .int k ∧ Q k := ⟨i, rfl, h⟩
theorem w_gsub {to ti : TE} {s : TSet} {Q : L2.St → Hp → Prop} (h : to σ H fun o H1 => ti σ H1 fun i H2 => s o i v H2 fun H3 => Q σ H3) : gSub to ti s v σ H Q := h
theorem w_par {i j : Nat} {ta : TA} (h : ta σ H fun vs H1 => ∃ v w, vs = [v, w] ∧ D.nx ((List.set σ i (some v)).set j (some w)) H1) : tPar i j ta D σ H := h
theorem w_yes {Q : Bool → Hp → Prop} (h : Q true H) : tYes σ H Q := h
/-! tuples unpacked -/
theorem w_gtup {n : Nat} {t : TGs} {a : Addr} {xs : List V} {Q : L2.St → Hp → Prop} (hs : SqT K H a xs) (hl : xs.length = n) (h : t xs σ H Q) : gTup K n t (.ref a) σ H Q := ⟨a, xs, rfl, hs, hl, h⟩
theorem w_gcons {g : TG} {us : TGs} {x : V} {xs : List V} {Q : L2.St → Hp → Prop} (h : g x σ H fun σ' H' => us xs σ' H' Q) : gCons g us (x :: xs) σ H Q := ⟨x, xs, rfl, h⟩
theorem w_gnil {Q : L2.St → Hp → Prop} (h : Q σ H) : gNil [] σ H Q := ⟨rfl, h⟩
/-! ifs -/
theorem w_ite {c A B : Prop} [Decidable c] (h1 : c → A) (h2 : ¬ c → B) : if decide c = true then A else B := by
  by_cases h : c
  · rw [if_pos (decide_eq_true h)]; exact h1 h
  · rw [if_neg (by rw [decide_eq_false h]; exact Bool.false_ne_true)]; exact h2 h
theorem w_iteN {c A B : Prop} [Decidable c] (h1 : ¬ c → A) (h2 : c → B) : if (!decide c) = true then A else B := by
  by_cases h : c
  · rw [decide_eq_true h, if_neg (by decide)]; exact h2 h
  · rw [decide_eq_false h, if_pos (by decide)]; exact h1 h
theorem w_dT {c A B : Prop} [Decidable c] (h : c) (h1 : A) : if decide c = true then A else B := w_ite (fun _ => h1) fun n => absurd h n
theorem w_dF {c A B : Prop} [Decidable c] (h : ¬ c) (h1 : B) : if decide c = true then A else B := w_ite (fun n => absurd n h) fun _ => h1
theorem w_nT {c A B : Prop} [Decidable c] (h : ¬ c) (h1 : A) : if (!decide c) = true then A else B := w_iteN (fun _ => h1) fun n => absurd n h
theorem w_nF {c A B : Prop} [Decidable c] (h : c) (h1 : B) : if (!decide c) = true then A else B := w_iteN (fun n => absurd h n) fun _ => h1
theorem w_bT {b : Bool} {A B : Prop} (h : b = true) (h1 : A) : if b = true then A else B := by rw [if_pos h]; exact h1
theorem w_bF {b : Bool} {A B : Prop} (h : b = false) (h1 : B) : if b = true then A else B := by rw [if_neg (by rw [h]; decide)]; exact h1
theorem w_b2 {b : Bool} {A B : Prop} (h1 : b = true → A) (h2 : b = false → B) : if b = true then A else B := by
  cases b
  · exact iteF (h2 rfl)
  · exact iteT (h1 rfl)

/-- a store, named -/
def SetN (i : Nat) (v : V) (l : L2.St) (H : Hp) (Q : L2.St → Hp → Prop) : Prop := Q (l.set i (some v)) H
theorem w_nn {i : Nat} {Q : L2.St → Hp → Prop} (h : SetN i v σ H Q) : gName i v σ H Q := h
def GetN (i : Nat) (l : L2.St) (H : Hp) (Q : VK) : Prop := ∃ v, l[i]? = some (some v) ∧ Q v H
theorem w_vv {i : Nat} (h : GetN i σ H Q) : tVar i σ H Q := h
theorem w_v0 {l : L2.St} (h : Q v H) : GetN 0 (some v :: l) H Q := ⟨v, rfl, h⟩
theorem w_n0 {y : Option V} {l : L2.St} {Q : L2.St → Hp → Prop} (h : Q (some v :: l) H) : SetN 0 v (y :: l) H Q := h
theorem w_v1 {x0 : Option V} {l : L2.St} (h : Q v H) : GetN 1 (x0 :: some v :: l) H Q := ⟨v, rfl, h⟩
theorem w_n1 {x0 : Option V} {y : Option V} {l : L2.St} {Q : L2.St → Hp → Prop} (h : Q (x0 :: some v :: l) H) : SetN 1 v (x0 :: y :: l) H Q := h
theorem w_v2 {x0 x1 : Option V} {l : L2.St} (h : Q v H) : GetN 2 (x0 :: x1 :: some v :: l) H Q := ⟨v, rfl, h⟩
theorem w_n2 {x0 x1 : Option V} {y : Option V} {l : L2.St} {Q : L2.St → Hp → Prop} (h : Q (x0 :: x1 :: some v :: l) H) : SetN 2 v (x0 :: x1 :: y :: l) H Q := h
theorem w_v3 {x0 x1 x2 : Option V} {l : L2.St} (h : Q v H) : GetN 3 (x0 :: x1 :: x2 :: some v :: l) H Q := ⟨v, rfl, h⟩
theorem w_n3 {x0 x1 x2 : Option V} {y : Option V} {l : L2.St} {Q : L2.St → Hp → Prop} (h : Q (x0 :: x1 :: x2 :: some v :: l) H) : SetN 3 v (x0 :: x1 :: x2 :: y :: l) H Q := h
theorem w_v4 {x0 x1 x2 x3 : Option V} {l : L2.St} (h : Q v H) : GetN 4 (x0 :: x1 :: x2 :: x3 :: some v :: l) H Q := ⟨v, rfl, h⟩
theorem w_n4 {x0 x1 x2 x3 : Option V} {y : Option V} {l : L2.St} {Q : L2.St → Hp → Prop} (h : Q (x0 :: x1 :: x2 :: x3 :: some v :: l) H) : SetN 4 v (x0 :: x1 :: x2 :: x3 :: y :: l) H Q := h
theorem w_v5 {x0 x1 x2 x3 x4 : Option V} {l : L2.St} (h : Q v H) : GetN 5 (x0 :: x1 :: x2 :: x3 :: x4 :: some v :: l) H Q := ⟨v, rfl, h⟩
theorem w_n5 {x0 x1 x2 x3 x4 : Option V} {y : Option V} {l : L2.St} {Q : L2.St → Hp → Prop} (h : Q (x0 :: x1 :: x2 :: x3 :: x4 :: some v :: l) H) : SetN 5 v (x0 :: x1 :: x2 :: x3 :: x4 :: y :: l) H Q := h
theorem w_v6 {x0 x1 x2 x3 x4 x5 : Option V} {l : L2.St} (h : Q v H) : GetN 6 (x0 :: x1 :: x2 :: x3 :: x4 :: x5 :: some v :: l) H Q := ⟨v, rfl, h⟩
theorem w_n6 {x0 x1 x2 x3 x4 x5 : Option V} {y : Option V} {l : L2.St} {Q : L2.St → Hp → Prop} (h : Q (x0 :: x1 :: x2 :: x3 :: x4 :: x5 :: some v :: l) H) : SetN 6 v (x0 :: x1 :: x2 :: x3 :: x4 :: x5 :: y :: l) H Q := h
theorem w_v7 {x0 x1 x2 x3 x4 x5 x6 : Option V} {l : L2.St} (h : Q v H) : GetN 7 (x0 :: x1 :: x2 :: x3 :: x4 :: x5 :: x6 :: some v :: l) H Q := ⟨v, rfl, h⟩
theorem w_n7 {x0 x1 x2 x3 x4 x5 x6 : Option V} {y : Option V} {l : L2.St} {Q : L2.St → Hp → Prop} (h : Q (x0 :: x1 :: x2 :: x3 :: x4 :: x5 :: x6 :: some v :: l) H) : SetN 7 v (x0 :: x1 :: x2 :: x3 :: x4 :: x5 :: x6 :: y :: l) H Q := h
theorem w_v8 {x0 x1 x2 x3 x4 x5 x6 x7 : Option V} {l : L2.St} (h : Q v H) : GetN 8 (x0 :: x1 :: x2 :: x3 :: x4 :: x5 :: x6 :: x7 :: some v :: l) H Q := ⟨v, rfl, h⟩
theorem w_n8 {x0 x1 x2 x3 x4 x5 x6 x7 : Option V} {y : Option V} {l : L2.St} {Q : L2.St → Hp → Prop} (h : Q (x0 :: x1 :: x2 :: x3 :: x4 :: x5 :: x6 :: x7 :: some v :: l) H) : SetN 8 v (x0 :: x1 :: x2 :: x3 :: x4 :: x5 :: x6 :: x7 :: y :: l) H Q := h
theorem w_v9 {x0 x1 x2 x3 x4 x5 x6 x7 x8 : Option V} {l : L2.St} (h : Q v H) : GetN 9 (x0 :: x1 :: x2 :: x3 :: x4 :: x5 :: x6 :: x7 :: x8 :: some v :: l) H Q := ⟨v, rfl, h⟩
theorem w_n9 {x0 x1 x2 x3 x4 x5 x6 x7 x8 : Option V} {y : Option V} {l : L2.St} {Q : L2.St → Hp → Prop} (h : Q (x0 :: x1 :: x2 :: x3 :: x4 :: x5 :: x6 :: x7 :: x8 :: some v :: l) H) : SetN 9 v (x0 :: x1 :: x2 :: x3 :: x4 :: x5 :: x6 :: x7 :: x8 :: y :: l) H Q := h
theorem w_v10 {x0 x1 x2 x3 x4 x5 x6 x7 x8 x9 : Option V} {l : L2.St} (h : Q v H) : GetN 10 (x0 :: x1 :: x2 :: x3 :: x4 :: x5 :: x6 :: x7 :: x8 :: x9 :: some v :: l) H Q := ⟨v, rfl, h⟩
theorem w_n10 {x0 x1 x2 x3 x4 x5 x6 x7 x8 x9 : Option V} {y : Option V} {l : L2.St} {Q : L2.St → Hp → Prop} (h : Q (x0 :: x1 :: x2 :: x3 :: x4 :: x5 :: x6 :: x7 :: x8 :: x9 :: some v :: l) H) : SetN 10 v (x0 :: x1 :: x2 :: x3 :: x4 :: x5 :: x6 :: x7 :: x8 :: x9 :: y :: l) H Q := h
theorem w_v11 {x0 x1 x2 x3 x4 x5 x6 x7 x8 x9 x10 : Option V} {l : L2.St} (h : Q v H) : GetN 11 (x0 :: x1 :: x2 :: x3 :: x4 :: x5 :: x6 :: x7 :: x8 :: x9 :: x10 :: some v :: l) H Q := ⟨v, rfl, h⟩
theorem w_n11 {x0 x1 x2 x3 x4 x5 x6 x7 x8 x9 x10 : Option V} {y : Option V} {l : L2.St} {Q : L2.St → Hp → Prop} (h : Q (x0 :: x1 :: x2 :: x3 :: x4 :: x5 :: x6 :: x7 :: x8 :: x9 :: x10 :: some v :: l) H) : SetN 11 v (x0 :: x1 :: x2 :: x3 :: x4 :: x5 :: x6 :: x7 :: x8 :: x9 :: x10 :: y :: l) H Q := h
theorem w_v12 {x0 x1 x2 x3 x4 x5 x6 x7 x8 x9 x10 x11 : Option V} {l : L2.St} (h : Q v H) : GetN 12 (x0 :: x1 :: x2 :: x3 :: x4 :: x5 :: x6 :: x7 :: x8 :: x9 :: x10 :: x11 :: some v :: l) H Q := ⟨v, rfl, h⟩
theorem w_n12 {x0 x1 x2 x3 x4 x5 x6 x7 x8 x9 x10 x11 : Option V} {y : Option V} {l : L2.St} {Q : L2.St → Hp → Prop} (h : Q (x0 :: x1 :: x2 :: x3 :: x4 :: x5 :: x6 :: x7 :: x8 :: x9 :: x10 :: x11 :: some v :: l) H) : SetN 12 v (x0 :: x1 :: x2 :: x3 :: x4 :: x5 :: x6 :: x7 :: x8 :: x9 :: x10 :: x11 :: y :: l) H Q := h
theorem w_v13 {x0 x1 x2 x3 x4 x5 x6 x7 x8 x9 x10 x11 x12 : Option V} {l : L2.St} (h : Q v H) : GetN 13 (x0 :: x1 :: x2 :: x3 :: x4 :: x5 :: x6 :: x7 :: x8 :: x9 :: x10 :: x11 :: x12 :: some v :: l) H Q := ⟨v, rfl, h⟩
theorem w_n13 {x0 x1 x2 x3 x4 x5 x6 x7 x8 x9 x10 x11 x12 : Option V} {y : Option V} {l : L2.St} {Q : L2.St → Hp → Prop} (h : Q (x0 :: x1 :: x2 :: x3 :: x4 :: x5 :: x6 :: x7 :: x8 :: x9 :: x10 :: x11 :: x12 :: some v :: l) H) : SetN 13 v (x0 :: x1 :: x2 :: x3 :: x4 :: x5 :: x6 :: x7 :: x8 :: x9 :: x10 :: x11 :: x12 :: y :: l) H Q := h
theorem w_v14 {x0 x1 x2 x3 x4 x5 x6 x7 x8 x9 x10 x11 x12 x13 : Option V} {l : L2.St} (h : Q v H) : GetN 14 (x0 :: x1 :: x2 :: x3 :: x4 :: x5 :: x6 :: x7 :: x8 :: x9 :: x10 :: x11 :: x12 :: x13 :: some v :: l) H Q := ⟨v, rfl, h⟩
theorem w_n14 {x0 x1 x2 x3 x4 x5 x6 x7 x8 x9 x10 x11 x12 x13 : Option V} {y : Option V} {l : L2.St} {Q : L2.St → Hp → Prop} (h : Q (x0 :: x1 :: x2 :: x3 :: x4 :: x5 :: x6 :: x7 :: x8 :: x9 :: x10 :: x11 :: x12 :: x13 :: some v :: l) H) : SetN 14 v (x0 :: x1 :: x2 :: x3 :: x4 :: x5 :: x6 :: x7 :: x8 :: x9 :: x10 :: x11 :: x12 :: x13 :: y :: l) H Q := h
theorem w_v15 {x0 x1 x2 x3 x4 x5 x6 x7 x8 x9 x10 x11 x12 x13 x14 : Option V} {l : L2.St} (h : Q v H) : GetN 15 (x0 :: x1 :: x2 :: x3 :: x4 :: x5 :: x6 :: x7 :: x8 :: x9 :: x10 :: x11 :: x12 :: x13 :: x14 :: some v :: l) H Q := ⟨v, rfl, h⟩
theorem w_n15 {x0 x1 x2 x3 x4 x5 x6 x7 x8 x9 x10 x11 x12 x13 x14 : Option V} {y : Option V} {l : L2.St} {Q : L2.St → Hp → Prop} (h : Q (x0 :: x1 :: x2 :: x3 :: x4 :: x5 :: x6 :: x7 :: x8 :: x9 :: x10 :: x11 :: x12 :: x13 :: x14 :: some v :: l) H) : SetN 15 v (x0 :: x1 :: x2 :: x3 :: x4 :: x5 :: x6 :: x7 :: x8 :: x9 :: x10 :: x11 :: x12 :: x13 :: x14 :: y :: l) H Q := h

/-! rules by values -/
theorem r_addI {i j : Int} (h : Q (.int (i + j)) H) : rAdd K (.int i) (.int j) H Q := .inl ⟨i, j, rfl, rfl, h⟩
theorem r_subI {i j : Int} (h : Q (.int (i - j)) H) : rSubI (.int i) (.int j) H Q := ⟨i, j, rfl, rfl, h⟩
theorem r_mulI {i j : Int} (hc : CMul i j) (h : Q (.int (i * j)) H) : rMul K (.int i) (.int j) H Q := .inl ⟨i, j, rfl, rfl, hc, h⟩
theorem r_divI {i j : Int} (h0 : 0 < j) (h1 : j < 2 ^ 62) (h : Q (.int (i / j)) H) : rDiv (.int i) (.int j) H Q := ⟨i, j, rfl, rfl, ⟨h0, by
  have h2 : j.natAbs < 2 ^ 62 := by omega
  have h3 : j.natAbs.log2 < 62 := (Nat.log2_lt (by omega)).mpr h2
  omega⟩, h⟩
theorem r_modI {i j : Int} (h0 : 0 < j) (h : Q (.int (i % j)) H) : rMod (.int i) (.int j) H Q := ⟨i, j, rfl, rfl, h0, h⟩
theorem r_addL {a b : Addr} {xs ys : List V} (ha : H a = some (.lst xs)) (hb : H b = some (.lst ys)) (hz : xs.length + ys.length ≤ sizeLine) (h : ∀ p H1, H p = none → Ex H H1 → H1 p = some (.lst (xs ++ ys)) → Q (.ref p) H1) : rAdd K (.ref a) (.ref b) H Q :=
  .inr (.inl ⟨a, b, xs, ys, rfl, rfl, ha, hb, hz, fun p hp => h p _ hp (Ex.new hp) upd_same⟩)
theorem r_addT {a b : Addr} {xs ys : List V} (ha : SqT K H a xs) (hb : SqT K H b ys) (hz : xs.length + ys.length ≤ sizeLine) (h : ∀ p H1, Ex H H1 → SqT K H1 p (xs ++ ys) → Q (.ref p) H1) : rAdd K (.ref a) (.ref b) H Q :=
  .inr (.inr (.inl ⟨a, b, xs, ys, rfl, rfl, ha, hb, hz, fun e => h b H (Ex.refl H) (by rw [e]; exact hb), fun _ e => h a H (Ex.refl H) (by rw [e, List.append_nil]; exact ha), fun _ _ p hp => h p _ (Ex.new hp) (st_of upd_same)⟩))
theorem r_neg {i : Int} (h : Q (.int (-i)) H) : (rU fun i => .int (-i)) (.int i) H Q := ⟨i, rfl, h⟩
theorem r_lt {i j : Int} (h : Q (.bl (decide (i < j))) H) : (rI0 fun i j => .bl (decide (i < j))) (.int i) (.int j) H Q := ⟨i, j, rfl, rfl, h⟩
theorem r_le {i j : Int} (h : Q (.bl (decide (i ≤ j))) H) : (rI0 fun i j => .bl (decide (i ≤ j))) (.int i) (.int j) H Q := ⟨i, j, rfl, rfl, h⟩
theorem r_gt {i j : Int} (h : Q (.bl (decide (j < i))) H) : (rI0 fun i j => .bl (decide (j < i))) (.int i) (.int j) H Q := ⟨i, j, rfl, rfl, h⟩
theorem r_ge {i j : Int} (h : Q (.bl (decide (j ≤ i))) H) : (rI0 fun i j => .bl (decide (j ≤ i))) (.int i) (.int j) H Q := ⟨i, j, rfl, rfl, h⟩
end
end M

/-! ### part C: data, equality, built-ins, comprehensions -/
namespace M
open PySem PySem.Spec PyProof.Rows L2 Evl

abbrev dInts (ns : List Int) : PyData := .tuple (ns.map .int)
abbrev dIntL (ns : List Int) : PyData := .list (ns.map .int)
def dOpt : Option Int → PyData
  | none => .none
  | some i => .int i
def optV : Option Int → V
  | none => .non
  | some i => .int i
abbrev vI (ns : List Int) : List V := ns.map V.int
abbrev dRaw (h l : List Int) (r : Int) : PyData := .tuple [dInts h, dInts l, .int r]

section
variable {K : PySem.W.Frag} {H H' : Hp} {v : V} {Q : VK}
mutual
theorem dp_ex (e : Ex H H') : ∀ {d : PyData} {v : V}, Dp K H v d → Dp K H' v d
  | _, _, .non => .non
  | _, _, .bl b => .bl b
  | _, _, .int i => .int i
  | _, _, .str x => .str x
  | _, _, .lst h a => .lst (ex_l e h) (dpAll_ex e a)
  | _, _, .tup h a => .tup (ex_t e h) (dpAll_ex e a)
theorem dpAll_ex (e : Ex H H') : ∀ {ds : List PyData} {vs : List V}, DpAll K H vs ds → DpAll K H' vs ds
  | _, _, .nil => .nil
  | _, _, .cons a r => .cons (dp_ex e a) (dpAll_ex e r)
end
theorem dpAll_ints : ∀ {ns : List Int} {vs : List V}, DpAll K H vs (ns.map .int) → vs = vI ns
  | [], _, .nil => rfl
  | _ :: _, _, .cons (.int _) r => by rw [dpAll_ints r]; rfl
theorem dpAll_of_ints : ∀ {ns : List Int}, DpAll K H (vI ns) (ns.map .int)
  | [] => .nil
  | n :: _ => .cons (.int n) dpAll_of_ints
theorem dp_ints {ns : List Int} (h : Dp K H v (dInts ns)) : ∃ a, v = .ref a ∧ SqT K H a (vI ns) := by
  cases h with
  | tup h a => rw [dpAll_ints a] at h; exact ⟨_, rfl, h⟩
theorem dp_intL {ns : List Int} (h : Dp K H v (dIntL ns)) : ∃ a, v = .ref a ∧ SqL K H a (vI ns) := by
  cases h with
  | lst h a => rw [dpAll_ints a] at h; exact ⟨_, rfl, h⟩
theorem dp_of_ints {a : Addr} {ns : List Int} (h : SqT K H a (vI ns)) : Dp K H (.ref a) (dInts ns) := .tup h dpAll_of_ints
theorem dp_of_intL {a : Addr} {ns : List Int} (h : SqL K H a (vI ns)) : Dp K H (.ref a) (dIntL ns) := .lst h dpAll_of_ints
theorem dp_opt {p : Option Int} (h : Dp K H v (dOpt p)) : v = optV p := by
  cases p with
  | none => cases h; rfl
  | some i => cases h; rfl
theorem dp_of_opt {p : Option Int} : Dp K H (optV p) (dOpt p) := by
  cases p with
  | none => exact .non
  | some i => exact .int i
theorem dp_toInt {i : Int} (h : Dp K H v (.int i)) : v = .int i := by cases h; rfl
theorem dp_toBl {b : Bool} (h : Dp K H v (.bool b)) : v = .bl b := by cases h; rfl
theorem dp_toNon (h : Dp K H v .none) : v = .non := by cases h; rfl
/-- a raw table: a triple of two tuples of ints and an int -/
structure RawAt (K : PySem.W.Frag) (H : Hp) (a : Addr) (h l : List Int) (r : Int) : Prop where
  ex : ∃ th tl, SqT K H a [.ref th, .ref tl, .int r] ∧ SqT K H th (vI h) ∧ SqT K H tl (vI l)
theorem dp_raw {h l : List Int} {r : Int} (d : Dp K H v (dRaw h l r)) : ∃ a th tl, v = .ref a ∧ SqT K H a [.ref th, .ref tl, .int r] ∧ SqT K H th (vI h) ∧ SqT K H tl (vI l) := by
  cases d with
  | tup s q =>
    cases q with
    | cons q1 q => cases q with
      | cons q2 q => cases q with
        | cons q3 q =>
          cases q
          cases q3
          obtain ⟨th, rfl, s1⟩ := dp_ints q1
          obtain ⟨tl, rfl, s2⟩ := dp_ints q2
          exact ⟨_, th, tl, rfl, s, s1, s2⟩
theorem dp_of_raw {a th tl : Addr} {h l : List Int} {r : Int} (s : SqT K H a [.ref th, .ref tl, .int r]) (s1 : SqT K H th (vI h)) (s2 : SqT K H tl (vI l)) : Dp K H (.ref a) (dRaw h l r) :=
  .tup s (.cons (dp_of_ints s1) (.cons (dp_of_ints s2) (.cons (.int r) .nil)))
theorem dp_t2 {d1 d2 : PyData} (d : Dp K H v (.tuple [d1, d2])) : ∃ a x y, v = .ref a ∧ SqT K H a [x, y] ∧ Dp K H x d1 ∧ Dp K H y d2 := by
  cases d with
  | tup s q => cases q with
    | cons q1 q => cases q with
      | cons q2 q => cases q; exact ⟨_, _, _, rfl, s, q1, q2⟩
theorem dp_t3 {d1 d2 d3 : PyData} (d : Dp K H v (.tuple [d1, d2, d3])) : ∃ a x y z, v = .ref a ∧ SqT K H a [x, y, z] ∧ Dp K H x d1 ∧ Dp K H y d2 ∧ Dp K H z d3 := by
  cases d with
  | tup s q => cases q with
    | cons q1 q => cases q with
      | cons q2 q => cases q with
        | cons q3 q => cases q; exact ⟨_, _, _, _, rfl, s, q1, q2, q3⟩
/-- what is wanted of a def that makes the value of d and leaves what stands -/
def RetD (K : PySem.W.Frag) (d : PyData) (H : Hp) (Q : VK) : Prop := ∀ v H', Ex H H' → Dp K H' v d → Q v H'
theorem RetD.int {i : Int} (k : RetD K (.int i) H Q) (e : Ex H H') : Q (.int i) H' := k _ _ e (.int i)
theorem RetD.bl {b : Bool} (k : RetD K (.bool b) H Q) (e : Ex H H') : Q (.bl b) H' := k _ _ e (.bl b)
theorem RetD.opt {p : Option Int} (k : RetD K (dOpt p) H Q) (e : Ex H H') : Q (optV p) H' := k _ _ e dp_of_opt
theorem RetD.non (k : RetD K .none H Q) (e : Ex H H') : Q .non H' := k _ _ e .non
end

/-! the type of data -/
def tyD : PyData → Value
  | .none => .type "NoneType"
  | .bool _ => .type "bool"
  | .int _ => .type "int"
  | .str _ => .type "str"
  | .list _ => .type "list"
  | .tuple _ => .type "tuple"
  | .dict _ => .type "dict"
section
variable {K : PySem.W.Frag} {H H' : Hp} {v : V} {Q : VK} {d : PyData}
theorem SqL.ty {a : Addr} {xs : List V} (h : SqL K H a xs) : TyX K H (.ref a) (.type "list") := by
  rcases h with (h | ⟨o, h⟩) | ⟨o, its, n, h, c, _⟩
  · exact .base (.lst h)
  · exact .base (.frz h)
  · exact .kList h c
theorem SqT.ty {a : Addr} {xs : List V} (h : SqT K H a xs) : TyX K H (.ref a) (.type "tuple") := by
  rcases h with (h | ⟨o, h⟩) | ⟨o, its, n, h, c, _⟩
  · exact .base (.tup h)
  · exact .fTuple h
  · exact .kTuple h c
theorem dp_ty (h : Dp K H v d) : TyX K H v (tyD d) := by
  cases h with
  | non => exact .base .non
  | bl b => exact .base (.bl b)
  | int i => exact .base (.int i)
  | str x => exact .base (.str x)
  | lst h a => exact SqL.ty h
  | tup h a => exact SqT.ty h
theorem r_isi {n : String} {b : Bool} {t : Value} (ty : TyX K H v t) (hb : PySem.W.kitOne K t (.type n) = some b) (h : Q (.bl b) H) : rIsi K [v, .ty n] H Q := ⟨v, .ty n, t, .type n, b, rfl, .ty n, ty, hb, h⟩
theorem r_isiC {C : Addr} {b : Bool} {t : Value} (ty : TyX K H v t) (hb : PySem.W.kitOne K t (.ref C) = some b) (h : Q (.bl b) H) : rIsi K [v, .ref C] H Q := ⟨v, .ref C, t, .ref C, b, rfl, .own C, ty, hb, h⟩
theorem r_isiT {tp : Addr} {n m : String} {b : Bool} {t : Value} (hT : H tp = some (.tup [.ty n, .ty m])) (ty : TyX K H v t) (hb : PySem.W.kitAny K t [.type n, .type m] = some b) (h : Q (.bl b) H) : rIsiT K [v, .ref tp] H Q :=
  ⟨v, tp, [.ty n, .ty m], t, [.type n, .type m], b, rfl, hT, .cons (.ty n) (.cons (.ty m) .nil), ty, hb, h⟩
end

/-! equality -/
theorem eqv_ints : ∀ xs ys : List Int, PyData.eqvAll (xs.map .int) (ys.map .int) = decide (xs = ys)
  | [], [] => rfl
  | [], _ :: _ => rfl
  | _ :: _, [] => rfl
  | x :: xs, y :: ys => by
    show (x == y && PyData.eqvAll (xs.map .int) (ys.map .int)) = _
    rw [eqv_ints xs ys]
    by_cases h : x = y
    · subst h; simp
    · simp [h]
theorem canLay_ints : ∀ xs : List Int, PyData.canLayAll0 (xs.map .int) = true
  | [] => rfl
  | x :: xs => by show (true && PyData.canLayAll0 (xs.map .int)) = true; rw [canLay_ints xs]; rfl
theorem depth_ints : ∀ xs : List Int, PyData.depthAll (xs.map .int) = 0
  | [] => rfl
  | x :: xs => by show max 0 (PyData.depthAll (xs.map .int)) = 0; rw [depth_ints xs]; rfl
theorem shaped_ints (xs : List Int) : SeqAt.shaped (dInts xs) = true := by
  show (PyData.canLayAll0 (xs.map .int) && decide (PyData.depthAll (xs.map .int) + 1 ≤ 64)) = true
  rw [canLay_ints, depth_ints]; rfl
theorem shaped_intL (xs : List Int) : SeqAt.shaped (dIntL xs) = true := by
  show (PyData.canLayAll0 (xs.map .int) && decide (PyData.depthAll (xs.map .int) + 1 ≤ 64)) = true
  rw [canLay_ints, depth_ints]; rfl
theorem shaped_raw (h l : List Int) (r : Int) : SeqAt.shaped (dRaw h l r) = true := by
  show (((PyData.canLayAll0 (h.map .int)) && ((PyData.canLayAll0 (l.map .int)) && (true && true))) && decide (max (PyData.depthAll (h.map .int) + 1) (max (PyData.depthAll (l.map .int) + 1) (max 0 0)) + 1 ≤ 64)) = true
  rw [canLay_ints, canLay_ints, depth_ints, depth_ints]; rfl
theorem eqv_raw (h l h' l' : List Int) (r r' : Int) : PyData.eqv (dRaw h l r) (dRaw h' l' r') = decide (h = h' ∧ l = l' ∧ r = r') := by
  show (PyData.eqvAll (h.map .int) (h'.map .int) && (PyData.eqvAll (l.map .int) (l'.map .int) && (r == r' && true))) = _
  rw [eqv_ints, eqv_ints]
  by_cases h1 : h = h' <;> by_cases h2 : l = l' <;> by_cases h3 : r = r' <;> simp [h1, h2, h3]
section
variable {K : PySem.W.Frag} {H H' : Hp} {x y : V} {Q : VK} {d e : PyData}
theorem r_eqI {i j : Int} (h : Q (.bl (decide (i = j))) H) : rEqU K (.int i) (.int j) H Q := .inl ⟨rfl, by
  have q : decide (V.int i = V.int j) = decide (i = j) := decide_eq_decide.mpr ⟨V.int.inj, congrArg _⟩
  rw [q]; exact h⟩
theorem r_neI {i j : Int} (h : Q (.bl (!decide (i = j))) H) : rNeU K (.int i) (.int j) H Q := .inl ⟨rfl, by
  have q : decide (V.int i = V.int j) = decide (i = j) := decide_eq_decide.mpr ⟨V.int.inj, congrArg _⟩
  rw [q]; exact h⟩
theorem r_eqB {i j : Bool} (h : Q (.bl (decide (i = j))) H) : rEqU K (.bl i) (.bl j) H Q := .inl ⟨rfl, by
  have q : decide (V.bl i = V.bl j) = decide (i = j) := decide_eq_decide.mpr ⟨V.bl.inj, congrArg _⟩
  rw [q]; exact h⟩
theorem optV_inj {p q : Option Int} : optV p = optV q ↔ p = q := by
  cases p <;> cases q <;> simp [optV]
theorem scal_opt (p q : Option Int) : scal (optV p) (optV q) = true := by cases p <;> cases q <;> rfl
theorem r_eqO {p q : Option Int} (h : Q (.bl (decide (p = q))) H) : rEqU K (optV p) (optV q) H Q := .inl ⟨scal_opt p q, by
  have z : decide (optV p = optV q) = decide (p = q) := decide_eq_decide.mpr optV_inj
  rw [z]; exact h⟩
theorem r_neO {p q : Option Int} (h : Q (.bl (!decide (p = q))) H) : rNeU K (optV p) (optV q) H Q := .inl ⟨scal_opt p q, by
  have z : decide (optV p = optV q) = decide (p = q) := decide_eq_decide.mpr optV_inj
  rw [z]; exact h⟩
theorem r_eqD (hd : Dp K H x d) (he : Dp K H y e) (sd : SeqAt.shaped d = true) (se : SeqAt.shaped e = true) (h : Q (.bl (PyData.eqv d e)) H) : rEqU K x y H Q := .inr ⟨d, e, hd, he, sd, se, h⟩
theorem r_neD (hd : Dp K H x d) (he : Dp K H y e) (sd : SeqAt.shaped d = true) (se : SeqAt.shaped e = true) (h : Q (.bl (!PyData.eqv d e)) H) : rNeU K x y H Q := .inr ⟨d, e, hd, he, sd, se, h⟩
theorem r_eqT {a b : Addr} {xs ys : List Int} (ha : SqT K H a (vI xs)) (hb : SqT K H b (vI ys)) (h : Q (.bl (decide (xs = ys))) H) : rEqU K (.ref a) (.ref b) H Q :=
  r_eqD (dp_of_ints ha) (dp_of_ints hb) (shaped_ints _) (shaped_ints _) (by rw [show PyData.eqv (dInts xs) (dInts ys) = decide (xs = ys) from eqv_ints xs ys]; exact h)
theorem r_neT {a b : Addr} {xs ys : List Int} (ha : SqT K H a (vI xs)) (hb : SqT K H b (vI ys)) (h : Q (.bl (!decide (xs = ys))) H) : rNeU K (.ref a) (.ref b) H Q :=
  r_neD (dp_of_ints ha) (dp_of_ints hb) (shaped_ints _) (shaped_ints _) (by rw [show PyData.eqv (dInts xs) (dInts ys) = decide (xs = ys) from eqv_ints xs ys]; exact h)
theorem r_neL {a b : Addr} {xs ys : List Int} (ha : SqL K H a (vI xs)) (hb : SqL K H b (vI ys)) (h : Q (.bl (!decide (xs = ys))) H) : rNeU K (.ref a) (.ref b) H Q :=
  r_neD (dp_of_intL ha) (dp_of_intL hb) (shaped_intL _) (shaped_intL _) (by rw [show PyData.eqv (dIntL xs) (dIntL ys) = decide (xs = ys) from eqv_ints xs ys]; exact h)
/-! is None -/
def rIs : R2 := fun x y H Q => y = .non ∧ Q (.bl (decide (x = .non))) H
def rIsNot : R2 := fun x y H Q => y = .non ∧ Q (.bl (!decide (x = .non))) H
theorem xIs {X : Cx} : OpR X (compareOp .Is) rIs := op_isN
theorem xIsNot {X : Cx} : OpR X (compareOp .IsNot) rIsNot := op_notN
theorem r_isO {p : Option Int} (h : Q (.bl (decide (p = none))) H) : rIs (optV p) .non H Q := ⟨rfl, by
  have z : decide (optV p = V.non) = decide (p = none) := decide_eq_decide.mpr (by cases p <;> simp [optV])
  rw [z]; exact h⟩
theorem r_isNotO {p : Option Int} (h : Q (.bl (!decide (p = none))) H) : rIsNot (optV p) .non H Q := ⟨rfl, by
  have z : decide (optV p = V.non) = decide (p = none) := decide_eq_decide.mpr (by cases p <;> simp [optV])
  rw [z]; exact h⟩
theorem r_isI {i : Int} (h : Q (.bl false) H) : rIs (.int i) .non H Q := ⟨rfl, h⟩
theorem r_isN (h : Q (.bl true) H) : rIs .non .non H Q := ⟨rfl, h⟩
theorem r_isR {a : Addr} (h : Q (.bl false) H) : rIs (.ref a) .non H Q := ⟨rfl, h⟩
theorem r_isNotI {i : Int} (h : Q (.bl true) H) : rIsNot (.int i) .non H Q := ⟨rfl, h⟩
theorem r_isNotN (h : Q (.bl false) H) : rIsNot .non .non H Q := ⟨rfl, h⟩
theorem r_isNotR {a : Addr} (h : Q (.bl true) H) : rIsNot (.ref a) .non H Q := ⟨rfl, h⟩
end

/-! built-ins by names of our own -/
section
variable {X : Cx} {K : PySem.W.Frag} {H : Hp} {Q : VK}
def rLenU (K : PySem.W.Frag) : List V → Hp → VK → Prop := fun xs H Q => ∃ x n, xs = [x] ∧ LenV K x H n ∧ Q (.int n) H
theorem xLen : CallR X (.builtin "len") (rLenU X.K) := call_len
theorem r_lenT {a : Addr} {xs : List V} (h : SqT K H a xs) (q : Q (.int (xs.length : Int)) H) : rLenU K [.ref a] H Q := ⟨_, xs.length, rfl, .inr ⟨xs, h, rfl⟩, q⟩
theorem r_lenL {a : Addr} {xs : List V} (h : SqL K H a xs) (q : Q (.int (xs.length : Int)) H) : rLenU K [.ref a] H Q := ⟨_, xs.length, rfl, .inl ⟨xs, h, rfl⟩, q⟩
theorem r_lenTI {a : Addr} {xs : List Int} (h : SqT K H a (vI xs)) (q : Q (.int (xs.length : Int)) H) : rLenU K [.ref a] H Q := r_lenT h (by rw [List.length_map]; exact q)
theorem r_lenLI {a : Addr} {xs : List Int} (h : SqL K H a (vI xs)) (q : Q (.int (xs.length : Int)) H) : rLenU K [.ref a] H Q := r_lenL h (by rw [List.length_map]; exact q)
def rAbsU : List V → Hp → VK → Prop := fun xs H Q => ∃ i, xs = [.int i] ∧ Q (.int (if i < 0 then -i else i)) H
theorem xAbs : CallR X (.builtin "abs") rAbsU := call_abs
theorem r_abs {i : Int} (q : Q (.int (i.natAbs : Int)) H) : rAbsU [.int i] H Q := ⟨i, rfl, by
  have e : (if i < 0 then -i else i) = (i.natAbs : Int) := by split <;> omega
  rw [e]; exact q⟩
def rMax2U : List V → Hp → VK → Prop := fun xs H Q => ∃ i j, xs = [.int i, .int j] ∧ Q (.int (if j > i then j else i)) H
theorem xMax2 (hc : X.calm = true) : CallR X (.builtin "max") rMax2U := call_max2 hc
theorem r_max2 {i j : Int} (q : Q (.int (max i j)) H) : rMax2U [.int i, .int j] H Q := ⟨i, j, rfl, by
  have e : (if j > i then j else i) = max i j := by split <;> omega
  rw [e]; exact q⟩
def rMin2U : List V → Hp → VK → Prop := fun xs H Q => ∃ i j, xs = [.int i, .int j] ∧ Q (.int (if j < i then j else i)) H
theorem xMin2 (hc : X.calm = true) : CallR X (.builtin "min") rMin2U := call_min2 hc
theorem r_min2 {i j : Int} (q : Q (.int (min i j)) H) : rMin2U [.int i, .int j] H Q := ⟨i, j, rfl, by
  have e : (if j < i then j else i) = min i j := by split <;> omega
  rw [e]; exact q⟩
def rIntU : List V → Hp → VK → Prop := fun xs H Q => (∃ i, xs = [.int i] ∧ Q (.int i) H) ∨ ∃ k, xs = [.bl k] ∧ Q (.int (if k then 1 else 0)) H
theorem xInt : CallR X (.type "int") rIntU := call_int1
theorem r_int {i : Int} (q : Q (.int i) H) : rIntU [.int i] H Q := .inl ⟨i, rfl, q⟩
def rBoolU : List V → Hp → VK → Prop := fun xs H Q => (∃ i, xs = [.int i] ∧ Q (.bl (i != 0)) H) ∨ ∃ k, xs = [.bl k] ∧ Q (.bl k) H
theorem xBool : CallR X (.type "bool") rBoolU := call_bool1
theorem r_boolB {b : Bool} (q : Q (.bl b) H) : rBoolU [.bl b] H Q := .inr ⟨b, rfl, q⟩
def rLstU (K : PySem.W.Frag) : List V → Hp → VK → Prop := fun xs H Q => ∃ p ys, xs = [.ref p] ∧ (SqL K H p ys ∨ SqT K H p ys) ∧ ∀ l, H l = none → Q (.ref l) (upd H l (.lst ys))
theorem xLst : CallR X (.type "list") (rLstU X.K) := call_list_of
theorem r_lstL {a : Addr} {xs : List V} (h : SqL K H a xs) (q : ∀ p H1, H p = none → Ex H H1 → H1 p = some (.lst xs) → Q (.ref p) H1) : rLstU K [.ref a] H Q := ⟨a, xs, rfl, .inl h, fun p hp => q p _ hp (Ex.new hp) upd_same⟩
theorem r_lstT {a : Addr} {xs : List V} (h : SqT K H a xs) (q : ∀ p H1, H p = none → Ex H H1 → H1 p = some (.lst xs) → Q (.ref p) H1) : rLstU K [.ref a] H Q := ⟨a, xs, rfl, .inr h, fun p hp => q p _ hp (Ex.new hp) upd_same⟩
def rTupU (K : PySem.W.Frag) : List V → Hp → VK → Prop := fun xs H Q => ∃ p ys, xs = [.ref p] ∧ ((SqL K H p ys ∧ ∀ l, H l = none → Q (.ref l) (upd H l (.tup ys))) ∨ (SqT K H p ys ∧ Q (.ref p) H))
theorem xTup : CallR X (.type "tuple") (rTupU X.K) := call_tuple_of
theorem r_tupL {a : Addr} {xs : List V} (h : SqL K H a xs) (q : ∀ p H1, Ex H H1 → SqT K H1 p xs → Q (.ref p) H1) : rTupU K [.ref a] H Q := ⟨a, xs, rfl, .inl ⟨h, fun p hp => q p _ (Ex.new hp) (st_of upd_same)⟩⟩
theorem r_tupT {a : Addr} {xs : List V} (h : SqT K H a xs) (q : ∀ p H1, Ex H H1 → SqT K H1 p xs → Q (.ref p) H1) : rTupU K [.ref a] H Q := ⟨a, xs, rfl, .inr ⟨h, q a H (Ex.refl H) h⟩⟩
theorem r_all {a : Addr} {bs : List Bool} {xs : List V} (h : SqL K H a xs) (e : xs = bs.map V.bl) (q : Q (.bl (bs.all id)) H) : rAll K [.ref a] H Q := ⟨a, bs, rfl, by rw [← e]; exact h, q⟩
theorem r_any {a : Addr} {bs : List Bool} {xs : List V} (h : SqL K H a xs) (e : xs = bs.map V.bl) (q : Q (.bl (bs.any id)) H) : rAny K [.ref a] H Q := ⟨a, bs, rfl, by rw [← e]; exact h, q⟩
/-! indices -/
theorem atI_pos {α : Type} {xs : List α} {i : Int} {v : α} (h0 : 0 ≤ i) (h : xs[i.toNat]? = some v) : atI xs i = some v := by
  have hl : i.toNat < xs.length := (List.getElem?_eq_some_iff.mp h).1
  unfold atI ixN
  rw [if_pos h0, if_pos (by omega)]
  exact h
theorem atI_neg {α : Type} {xs : List α} {i : Int} {v : α} (h0 : i < 0) (h1 : -(xs.length : Int) ≤ i) (h : xs[(i + xs.length).toNat]? = some v) : atI xs i = some v := by
  unfold atI ixN
  rw [if_neg (by omega), if_pos h1]
  exact h
/-- the int at a place of a list of ints -/
def gI (xs : List Int) (i : Int) : Int := xs.getD i.toNat 0
theorem atI_ints {xs : List Int} {i : Int} (h0 : 0 ≤ i) (h1 : i < xs.length) : atI (vI xs) i = some (V.int (gI xs i)) := by
  refine atI_pos h0 ?_
  have hl : i.toNat < xs.length := by omega
  rw [List.getElem?_map, List.getElem?_eq_getElem hl]
  show some (V.int xs[i.toNat]) = some (V.int (xs.getD i.toNat 0))
  rw [List.getD_eq_getElem?_getD, List.getElem?_eq_getElem hl]; rfl
theorem atI_intsN {xs : List Int} {i : Int} (h0 : i < 0) (h1 : -(xs.length : Int) ≤ i) : atI (vI xs) i = some (V.int (gI xs (i + xs.length))) := by
  have hl : (i + xs.length).toNat < xs.length := by omega
  refine atI_neg h0 (by rw [List.length_map]; exact h1) ?_
  rw [List.length_map, List.getElem?_map, List.getElem?_eq_getElem hl]
  show some (V.int xs[(i + xs.length).toNat]) = some (V.int (xs.getD (i + xs.length).toNat 0))
  rw [List.getD_eq_getElem?_getD, List.getElem?_eq_getElem hl]; rfl
theorem r_ixT {a : Addr} {xs : List V} {i : Int} {v : V} (h : SqT K H a xs) (ha : atI xs i = some v) (q : Q v H) : rIx K (.ref a) (.int i) H Q := .inr (.inl ⟨a, xs, i, v, rfl, rfl, h, ha, q⟩)
theorem r_ixL {a : Addr} {xs : List V} {i : Int} {v : V} (h : SqL K H a xs) (ha : atI xs i = some v) (q : Q v H) : rIx K (.ref a) (.int i) H Q := .inl ⟨a, xs, i, v, rfl, rfl, h, ha, q⟩
theorem r_ixTI {a : Addr} {xs : List Int} {i : Int} (h : SqT K H a (vI xs)) (h0 : 0 ≤ i) (h1 : i < xs.length) (q : Q (.int (gI xs i)) H) : rIx K (.ref a) (.int i) H Q := r_ixT h (atI_ints h0 h1) q
theorem r_ixTN {a : Addr} {xs : List Int} {i : Int} (h : SqT K H a (vI xs)) (h0 : i < 0) (h1 : -(xs.length : Int) ≤ i) (q : Q (.int (gI xs (i + xs.length))) H) : rIx K (.ref a) (.int i) H Q := r_ixT h (atI_intsN h0 h1) q
theorem r_ixLI {a : Addr} {xs : List Int} {i : Int} (h : SqL K H a (vI xs)) (h0 : 0 ≤ i) (h1 : i < xs.length) (q : Q (.int (gI xs i)) H) : rIx K (.ref a) (.int i) H Q := r_ixL h (atI_ints h0 h1) q
theorem r_ixLN {a : Addr} {xs : List Int} {i : Int} (h : SqL K H a (vI xs)) (h0 : i < 0) (h1 : -(xs.length : Int) ≤ i) (q : Q (.int (gI xs (i + xs.length))) H) : rIx K (.ref a) (.int i) H Q := r_ixL h (atI_intsN h0 h1) q
/-! slices -/
def rSlI (xs : List Int) (lo hi : Option Int) : List Int := (xs.drop (HT.sIx xs.length 0 lo)).take (HT.sIx xs.length xs.length hi - HT.sIx xs.length 0 lo)
theorem cut_ints (xs : List Int) (lo hi : Option Int) : cutV (vI xs) lo hi = vI (rSlI xs lo hi) := by
  unfold cutV rSlI
  rw [List.length_map, ← List.map_drop, ← List.map_take]
theorem r_slL {a : Addr} {xs : List V} {lo hi : Option Int} (h : SqL K H a xs) (q : ∀ p H1, H p = none → Ex H H1 → H1 p = some (.lst (cutV xs lo hi)) → Q (.ref p) H1) : rSl K (.ref a) lo hi H Q :=
  .inl ⟨a, xs, rfl, h, fun p hp => q p _ hp (Ex.new hp) upd_same⟩
theorem cut_whole {xs : List V} {lo hi : Option Int} (h1 : HT.sIx xs.length 0 lo = 0) (h2 : HT.sIx xs.length xs.length hi = xs.length) : cutV xs lo hi = xs := by
  unfold cutV
  rw [h1, h2, List.drop_zero, Nat.sub_zero, List.take_length]
theorem r_slT {a : Addr} {xs : List V} {lo hi : Option Int} (h : SqT K H a xs) (q : ∀ p H1, Ex H H1 → SqT K H1 p (cutV xs lo hi) → Q (.ref p) H1) : rSl K (.ref a) lo hi H Q :=
  .inr (.inl ⟨a, xs, rfl, h, fun e => q a H (Ex.refl H) (by rw [cut_whole e.1 e.2]; exact h), fun _ p hp => q p _ (Ex.new hp) (st_of upd_same)⟩)
theorem cutV_to {α : Type} {xs : List α} {i : Int} (h : 0 ≤ i) (f : α → V) : cutV (xs.map f) none (some i) = (xs.take i.toNat).map f := by
  have e : cutV (xs.map f) none (some i) = ((xs.map f).drop 0).take (HT.sIx (xs.map f).length (xs.map f).length (some i) - 0) := rfl
  have e2 : HT.sIx (xs.map f).length (xs.map f).length (some i) = min i.toNat (xs.map f).length := if_neg (by omega)
  rw [e, e2, List.drop_zero, Nat.sub_zero, List.map_take]
  rcases Nat.le_total i.toNat (xs.map f).length with h1 | h1
  · rw [Nat.min_eq_left h1]
  · rw [Nat.min_eq_right h1, List.take_length, List.take_of_length_le h1]
theorem cutV_from {α : Type} {xs : List α} {i : Int} (h : 0 ≤ i) (f : α → V) : cutV (xs.map f) (some i) none = (xs.drop i.toNat).map f := by
  have e : cutV (xs.map f) (some i) none = ((xs.map f).drop (HT.sIx (xs.map f).length 0 (some i))).take ((xs.map f).length - HT.sIx (xs.map f).length 0 (some i)) := rfl
  have e2 : HT.sIx (xs.map f).length 0 (some i) = min i.toNat (xs.map f).length := if_neg (by omega)
  rw [e, e2, List.map_drop]
  rcases Nat.le_total i.toNat (xs.map f).length with h1 | h1
  · rw [Nat.min_eq_left h1, List.take_of_length_le (by rw [List.length_drop]; omega)]
  · rw [Nat.min_eq_right h1, List.drop_eq_nil_of_le h1, List.drop_eq_nil_of_le (Nat.le_refl _), List.take_nil]
theorem cutV_mid {α : Type} {xs : List α} {i j : Int} (h : 0 ≤ i) (hij : i ≤ j) (hj : j ≤ xs.length) (f : α → V) : cutV (xs.map f) (some i) (some j) = ((xs.drop i.toNat).take (j - i).toNat).map f := by
  have e : cutV (xs.map f) (some i) (some j) = ((xs.map f).drop (HT.sIx (xs.map f).length 0 (some i))).take (HT.sIx (xs.map f).length (xs.map f).length (some j) - HT.sIx (xs.map f).length 0 (some i)) := rfl
  have e2 : HT.sIx (xs.map f).length 0 (some i) = min i.toNat (xs.map f).length := if_neg (by omega)
  have e3 : HT.sIx (xs.map f).length (xs.map f).length (some j) = min j.toNat (xs.map f).length := if_neg (by omega)
  rw [e, e2, e3, List.length_map, Nat.min_eq_left (by omega), Nat.min_eq_left (by omega), List.map_take, List.map_drop, show (j - i).toNat = j.toNat - i.toNat by omega]

theorem r_slTto {a : Addr} {xs : List Int} {i : Int} (h : SqT K H a (vI xs)) (h0 : 0 ≤ i) (q : ∀ p H1, Ex H H1 → SqT K H1 p (vI (xs.take i.toNat)) → Q (.ref p) H1) : rSl K (.ref a) none (some i) H Q := r_slT h (by rw [cutV_to h0]; exact q)
theorem r_slTfrom {a : Addr} {xs : List Int} {i : Int} (h : SqT K H a (vI xs)) (h0 : 0 ≤ i) (q : ∀ p H1, Ex H H1 → SqT K H1 p (vI (xs.drop i.toNat)) → Q (.ref p) H1) : rSl K (.ref a) (some i) none H Q := r_slT h (by rw [cutV_from h0]; exact q)
theorem r_slLto {a : Addr} {xs : List Int} {i : Int} (h : SqL K H a (vI xs)) (h0 : 0 ≤ i) (q : ∀ p H1, H p = none → Ex H H1 → H1 p = some (.lst (vI (xs.take i.toNat))) → Q (.ref p) H1) : rSl K (.ref a) none (some i) H Q := r_slL h (by rw [cutV_to h0]; exact q)
theorem r_slLfrom {a : Addr} {xs : List Int} {i : Int} (h : SqL K H a (vI xs)) (h0 : 0 ≤ i) (q : ∀ p H1, H p = none → Ex H H1 → H1 p = some (.lst (vI (xs.drop i.toNat))) → Q (.ref p) H1) : rSl K (.ref a) (some i) none H Q := r_slL h (by rw [cutV_from h0]; exact q)
theorem r_slLmid {a : Addr} {xs : List Int} {i j : Int} (h : SqL K H a (vI xs)) (h0 : 0 ≤ i) (hij : i ≤ j) (hj : j ≤ xs.length) (q : ∀ p H1, H p = none → Ex H H1 → H1 p = some (.lst (vI ((xs.drop i.toNat).take (j - i).toNat))) → Q (.ref p) H1) : rSl K (.ref a) (some i) (some j) H Q := r_slL h (by rw [cutV_mid h0 hij hj]; exact q)
/-! comprehensions whose parts leave what stands -/
theorem w_lc {wi : TI} {g : TG} {tt : TT} {te : TE} {vs : List Nat} {σ : L2.St} (h : wi σ H fun J H1 => ∀ D, H1 D = none → ∃ W : Nat → Nat → Hp → Prop, (∃ m, W 0 m (upd H1 D (.lst []))) ∧ ∀ i m H, W i m H →
  (J.stop i H ∧ Q (.ref D) H) ∨ (J.go i H ∧ ∃ Nx : Hp → Prop, (∀ H', Nx H' → ∃ m', m' < m ∧ W (i + 1) m' H') ∧ ∀ x H', J.yld i H x H' → g x (wipe σ vs) H' fun σ2 H2 => wipe σ2 vs = wipe σ vs ∧ tt σ2 H2 fun b H3 =>
    if b = true then te σ2 H3 fun y H4 => ∃ acc, H4 D = some (.lst acc) ∧ acc.length < sizeLine ∧ Nx (upd H4 D (.lst (acc ++ [y]))) else Nx H3)) : tLc wi g tt te vs σ H Q := h
/-- what a comprehension over J asks, J named -/
def LcJ (J : It) (g : TG) (tt : TT) (te : TE) (vs : List Nat) (σ : L2.St) (H1 : Hp) (Q : VK) : Prop := ∀ D, H1 D = none → ∃ W : Nat → Nat → Hp → Prop, (∃ m, W 0 m (upd H1 D (.lst []))) ∧ ∀ i m H, W i m H →
  (J.stop i H ∧ Q (.ref D) H) ∨ (J.go i H ∧ ∃ Nx : Hp → Prop, (∀ H', Nx H' → ∃ m', m' < m ∧ W (i + 1) m' H') ∧ ∀ x H', J.yld i H x H' → g x (wipe σ vs) H' fun σ2 H2 => wipe σ2 vs = wipe σ vs ∧ tt σ2 H2 fun b H3 =>
    if b = true then te σ2 H3 fun y H4 => ∃ acc, H4 D = some (.lst acc) ∧ acc.length < sizeLine ∧ Nx (upd H4 D (.lst (acc ++ [y]))) else Nx H3)
theorem w_lcJ {wi : TI} {g : TG} {tt : TT} {te : TE} {vs : List Nat} {σ : L2.St} (h : wi σ H fun J H1 => LcJ J g tt te vs σ H1 Q) : tLc wi g tt te vs σ H Q := h
/-- over a range, every item kept, item i giving v i -/
theorem lcJ_range {lo : Int} {n j : Nat} {te : TE} {vs : List Nat} {σ : L2.St} (v : Nat → V) (hn : n ≤ 100000) (σ' : V → L2.St) (hσ : ∀ x, (wipe σ vs).set j (some x) = σ' x) (hw : ∀ x, wipe ((wipe σ vs).set j (some x)) vs = wipe σ vs)
    (he : ∀ (i : Nat) (H1 : Hp) (Q' : VK), Ex H H1 → i < n → (∀ H2, Ex H1 H2 → Q' (v i) H2) → te (σ' (.int (lo + (i : Int)))) H1 Q')
    (hq : ∀ p H2, H p = none → Ex H H2 → H2 p = some (.lst ((List.range n).map v)) → Q (.ref p) H2) : LcJ (Itr lo n) (gName j) tYes te vs σ H Q := fun D hD =>
  lc_range (Pv := fun i H' => Ex H H' ∧ H' D = some (.lst ((List.range i).map v))) ⟨Ex.new hD, upd_same⟩ (fun i H' hi p => ⟨hw _, by
    show te ((wipe σ vs).set j _) H' _
    rw [hσ]
    refine he i H' _ p.1 hi fun H2 e2 => ⟨(List.range i).map v, e2 D _ p.2, sz_lt (by simp only [List.length_map, List.length_range]; omega), Ex.mut (p.1.trans e2) hD, ?_⟩
    rw [List.range_succ, List.map_append]
    exact upd_same⟩) fun H' p => hq D H' hD p.1 p.2
theorem lcJ_r0 {n j : Nat} {te : TE} {vs : List Nat} {σ : L2.St} (v : Nat → V) (hn : n ≤ 100000) (σ' : V → L2.St) (hσ : ∀ x, (wipe σ vs).set j (some x) = σ' x) (hw : ∀ x, wipe ((wipe σ vs).set j (some x)) vs = wipe σ vs)
    (he : ∀ (i : Nat) (H1 : Hp) (Q' : VK), Ex H H1 → i < n → (∀ H2, Ex H1 H2 → Q' (v i) H2) → te (σ' (.int (i : Int))) H1 Q')
    (hq : ∀ p H2, H p = none → Ex H H2 → H2 p = some (.lst ((List.range n).map v)) → Q (.ref p) H2) : LcJ (Itr 0 n) (gName j) tYes te vs σ H Q :=
  lcJ_range v hn σ' hσ hw (fun i H1 Q' e hi k => by rw [Int.zero_add]; exact he i H1 Q' e hi k) hq
/-- over a list or a tuple -/
theorem lcJ_list {a : Addr} {xs : List V} {j : Nat} {te : TE} {vs : List Nat} {σ : L2.St} (v : V → V) (hx : SqL K H a xs) (hn : xs.length ≤ 100000) (σ' : V → L2.St) (hσ : ∀ x, (wipe σ vs).set j (some x) = σ' x) (hw : ∀ x, wipe ((wipe σ vs).set j (some x)) vs = wipe σ vs)
    (he : ∀ (x : V) (H1 : Hp) (Q' : VK), Ex H H1 → x ∈ xs → (∀ H2, Ex H1 H2 → Q' (v x) H2) → te (σ' x) H1 Q')
    (hq : ∀ p H2, H p = none → Ex H H2 → H2 p = some (.lst (xs.map v)) → Q (.ref p) H2) : LcJ (Itl K a) (gName j) tYes te vs σ H Q := fun D hD =>
  lc_list (xs := xs) (Pv := fun i H' => Ex H H' ∧ H' D = some (.lst ((xs.take i).map v))) ⟨Ex.new hD, upd_same⟩ (fun i H' _ p => ex_l p.1 hx) (fun i x H' hi p => ⟨hw _, by
    show te ((wipe σ vs).set j _) H' _
    rw [hσ]
    refine he x H' _ p.1 (List.mem_of_getElem? hi) fun H2 e2 => ⟨(xs.take i).map v, e2 D _ p.2, sz_lt (by rw [List.length_map, List.length_take]; have := (List.getElem?_eq_some_iff.mp hi).1; omega), Ex.mut (p.1.trans e2) hD, ?_⟩
    rw [List.take_add_one, hi, List.map_append]
    exact upd_same⟩) fun H' p => hq D H' hD p.1 (by rw [List.take_length] at p; exact p.2)
theorem lcJ_tup {a : Addr} {xs : List V} {j : Nat} {te : TE} {vs : List Nat} {σ : L2.St} (v : V → V) (hx : SqT K H a xs) (hn : xs.length ≤ 100000) (σ' : V → L2.St) (hσ : ∀ x, (wipe σ vs).set j (some x) = σ' x) (hw : ∀ x, wipe ((wipe σ vs).set j (some x)) vs = wipe σ vs)
    (he : ∀ (x : V) (H1 : Hp) (Q' : VK), Ex H H1 → x ∈ xs → (∀ H2, Ex H1 H2 → Q' (v x) H2) → te (σ' x) H1 Q')
    (hq : ∀ p H2, H p = none → Ex H H2 → H2 p = some (.lst (xs.map v)) → Q (.ref p) H2) : LcJ (Itt K a) (gName j) tYes te vs σ H Q := fun D hD =>
  lc_tup (xs := xs) (Pv := fun i H' => Ex H H' ∧ H' D = some (.lst ((xs.take i).map v))) ⟨Ex.new hD, upd_same⟩ (fun i H' _ p => ex_t p.1 hx) (fun i x H' hi p => ⟨hw _, by
    show te ((wipe σ vs).set j _) H' _
    rw [hσ]
    refine he x H' _ p.1 (List.mem_of_getElem? hi) fun H2 e2 => ⟨(xs.take i).map v, e2 D _ p.2, sz_lt (by rw [List.length_map, List.length_take]; have := (List.getElem?_eq_some_iff.mp hi).1; omega), Ex.mut (p.1.trans e2) hD, ?_⟩
    rw [List.take_add_one, hi, List.map_append]
    exact upd_same⟩) fun H' p => hq D H' hD p.1 (by rw [List.take_length] at p; exact p.2)
/-! what is walked -/
def SeqLi (K : PySem.W.Frag) (R : It → Hp → Prop) (x : V) (H1 : Hp) : Prop := ∃ a, x = .ref a ∧ (∃ xs, SqL K H1 a xs) ∧ R (Itl K a) H1
def SeqTi (K : PySem.W.Frag) (R : It → Hp → Prop) (x : V) (H1 : Hp) : Prop := ∃ a, x = .ref a ∧ (∃ xs, SqT K H1 a xs) ∧ R (Itt K a) H1
theorem i_seqL {tl : TE} {σ : L2.St} {R : It → Hp → Prop} (h : tl σ H fun x H1 => SeqLi K R x H1) : iSeq K tl σ H R := .inl h
theorem i_seqT {tl : TE} {σ : L2.St} {R : It → Hp → Prop} (h : tl σ H fun x H1 => SeqTi K R x H1) : iSeq K tl σ H R := .inr h
theorem i_xL {a : Addr} {xs : List V} {R : It → Hp → Prop} (hx : SqL K H a xs) (h : R (Itl K a) H) : SeqLi K R (.ref a) H := ⟨a, rfl, ⟨xs, hx⟩, h⟩
theorem i_xT {a : Addr} {xs : List V} {R : It → Hp → Prop} (hx : SqT K H a xs) (h : R (Itt K a) H) : SeqTi K R (.ref a) H := ⟨a, rfl, ⟨xs, hx⟩, h⟩
def Rng1 (R : It → Hp → Prop) (vs : List V) (H1 : Hp) : Prop := ∃ j : Int, vs = [.int j] ∧ -(2 ^ 62) ≤ j ∧ j < 2 ^ 62 ∧ R (Itr 0 j.toNat) H1
def Rng2 (R : It → Hp → Prop) (vs : List V) (H1 : Hp) : Prop := ∃ i j : Int, vs = [.int i, .int j] ∧ (-(2 ^ 62) ≤ i ∧ i < 2 ^ 62 ∧ -(2 ^ 62) ≤ j ∧ j < 2 ^ 62) ∧ R (Itr i (j - i).toNat) H1
theorem i_r1 {ta : TA} {σ : L2.St} {R : It → Hp → Prop} (h : ta σ H fun vs H1 => Rng1 R vs H1) : iRng1 ta σ H R := h
theorem i_r2 {ta : TA} {σ : L2.St} {R : It → Hp → Prop} (h : ta σ H fun vs H1 => Rng2 R vs H1) : iRng2 ta σ H R := h
theorem i_x1 {j : Int} {R : It → Hp → Prop} (hj : -1000000000 ≤ j ∧ j ≤ 1000000000) (h : R (Itr 0 j.toNat) H) : Rng1 R [V.int j] H := ⟨j, rfl, by omega, by omega, h⟩
theorem i_x2 {i j : Int} {R : It → Hp → Prop} (hij : -1000000000 ≤ i ∧ i ≤ 1000000000 ∧ -1000000000 ≤ j ∧ j ≤ 1000000000) (h : R (Itr i (j - i).toNat) H) : Rng2 R [V.int i, V.int j] H := ⟨i, j, rfl, by omega, h⟩
/-! loops, J named -/
def ForJ (J : It) (g : TG) (tb : TS) (D : Ends) (σ : L2.St) (H1 : Hp) : Prop := ∃ W : Nat → Nat → L2.St → Hp → Prop, (∃ m, W 0 m σ H1) ∧ ∀ i m σ H, W i m σ H →
  (J.stop i H ∧ D.nx σ H) ∨ (J.go i H ∧ ∃ N : L2.St → Hp → Prop, (∀ σ' H', N σ' H' → ∃ m', m' < m ∧ W (i + 1) m' σ' H') ∧ ∀ x H', J.yld i H x H' → g x σ H' fun σ2 H2 => tb { D with nx := N, ct := N, bk := D.nx } σ2 H2)
theorem w_forJ {wi : TI} {g : TG} {tb : TS} {D : Ends} {σ : L2.St} (h : wi σ H fun J H1 => ForJ J g tb D σ H1) : tFor wi g tb D σ H := h
end
end M

/-! ### part D: the rules with the written part said -/
namespace M
open PySem PySem.Spec PyProof.Rows L2 Evl
section
variable {X : Cx} (K : PySem.W.Frag)
theorem kIx (h : X.K = K := by rfl) : IxR X (rIx K) := by subst h; exact ix_seq
theorem kAdd (h : X.K = K := by rfl) : OpR X (binaryOp .Add) (rAdd K) := by subst h; exact xAdd
theorem kMul (h : X.K = K := by rfl) : OpR X (binaryOp .Mult) (rMul K) := by subst h; exact xMul
theorem kEq {j : Nat} (hr : Room j X.A) (h : X.K = K := by rfl) : OpR X (compareOp .Eq) (rEqU K) := by subst h; exact xEq hr
theorem kNe {j : Nat} (hr : Room j X.A) (h : X.K = K := by rfl) : OpR X (compareOp .NotEq) (rNeU K) := by subst h; exact xNe hr
theorem kSl (h : X.K = K := by rfl) : SlR X (rSl K) := by subst h; exact xSl
theorem kLen (h : X.K = K := by rfl) : CallR X (.builtin "len") (rLenU K) := by subst h; exact xLen
theorem kLst (h : X.K = K := by rfl) : CallR X (.type "list") (rLstU K) := by subst h; exact xLst
theorem kTup (h : X.K = K := by rfl) : CallR X (.type "tuple") (rTupU K) := by subst h; exact xTup
theorem kAll (hc : X.calm = true) (h : X.K = K := by rfl) : CallR X (.builtin "all") (rAll K) := by subst h; exact cr_all hc
theorem kAny (hc : X.calm = true) (h : X.K = K := by rfl) : CallR X (.builtin "any") (rAny K) := by subst h; exact cr_any hc
theorem kSum (hc : X.calm = true) (h : X.K = K := by rfl) : CallR X (.builtin "sum") (rSum K) := by subst h; exact cr_sum hc
theorem kIsi (h : X.K = K := by rfl) : CallR X (.builtin "isinstance") (rIsi K) := by subst h; exact call_isi
theorem kIsiT (h : X.K = K := by rfl) : CallR X (.builtin "isinstance") (rIsiT K) := by subst h; exact call_isiT
theorem kSeq {tg l : Expr} {tl : TE} (hl : PE X l tl) (h : X.K = K := by rfl) : PI X tg l (iSeq K tl) := by subst h; exact pi_seq hl
theorem kFld {o : Expr} {f : Str} {pos : Pos} {ta : TE} (ha : PE X o ta) (hb : attributeBase o f X.env (eval o X.env) = eval o X.env) (h : X.K = K := by rfl) : PE X (.Attribute o f pos) (tFld K ta f) := by subst h; exact pe_fld ha hb
theorem kGtup {es : List Expr} {k : Nat} {t : TGs} {n : Nat} {pos : Pos} (hc : X.calm = true) (h : PGs X es t)
    (hn : (assignEach es X.env).length = n := by rfl) (hst : (assignEach es X.env).findIdx? (·.1) = none := by rfl) (hK : X.K = K := by rfl) : PG X (.Tuple es k pos) (gTup K n t) := by subst hK; exact pg_tup hc h hn hst
theorem kBM {e0 : Expr} {to : TE} {t : TA} {T : String} {r : V → List V → Hp → VK → Prop} (h0 : PE X e0 (tBM X.K T r to t)) (h : X.K = K := by rfl) : PE X e0 (tBM K T r to t) := by subst h; exact h0
theorem kFldS {st : Stmt} {ta tv : TE} {f : Str} (h0 : PS X st (sFld X.K ta tv f)) (h : X.K = K := by rfl) : PS X st (sFld K ta tv f) := by subst h; exact h0
/-! truth of any value, named -/
end
def TruX (K : PySem.W.Frag) (x : V) (H : Hp) (Q : Bool → Hp → Prop) : Prop := ∃ k, TruV K x H k ∧ Q k H
def tTru (K : PySem.W.Frag) (te : TE) : TT := fun σ H Q => te σ H fun x H' => TruX K x H' Q
section
variable {X : Cx} (K : PySem.W.Frag)
theorem kTru {a : Expr} {ta : TE} (ha : PE X a ta) (he : ∀ whole, isTrue a X.env whole = (do let v ← whole; standAt a.pos; holding [v] (truthy v))) (h : X.K = K := by rfl) : PT X a (tTru K ta) := by subst h; exact pt_truth ha he
end
section
variable {K : PySem.W.Frag} {σ : L2.St} {H : Hp} {te : TE} {Q : Bool → Hp → Prop}
theorem w_tru (h : te σ H fun x H' => TruX K x H' Q) : tTru K te σ H Q := h
theorem r_truB {b : Bool} (h : Q b H) : TruX K (.bl b) H Q := ⟨b, rfl, h⟩
theorem r_truI {i : Int} (h : Q (!decide (i = 0)) H) : TruX K (.int i) H Q := ⟨(i != 0), rfl, by
  have e : (i != 0) = (!decide (i = 0)) := by
    by_cases c : i = 0
    · subst c; rfl
    · simp [c]
  rw [e]; exact h⟩
theorem r_truN (h : Q false H) : TruX K .non H Q := ⟨false, rfl, h⟩
/-- all of a list of truths -/
theorem all_range {n : Nat} {p : Nat → Prop} [DecidablePred p] : ((List.range n).map fun i => decide (p i)).all id = decide (∀ i, i < n → p i) := by
  rw [Bool.eq_iff_iff]
  simp
theorem map_bl_range {n : Nat} {p : Nat → Prop} [DecidablePred p] : (List.range n).map (fun i => V.bl (decide (p i))) = ((List.range n).map fun i => decide (p i)).map V.bl := by
  rw [List.map_map]; rfl
end
end M

/-! ### part E: data without lists; comprehensions that make data -/
namespace M
open PySem PySem.Spec PyProof.Rows L2 Evl
mutual
def imm : PyData → Bool
  | .list _ => false
  | .dict _ => false
  | .tuple xs => immAll xs
  | _ => true
def immAll : List PyData → Bool
  | [] => true
  | x :: xs => imm x && immAll xs
end
/-- tuples stand -/
def TEx (H H' : Hp) : Prop := ∀ a xs, Rd H a (.tup xs) → Rd H' a (.tup xs)
theorem TEx.of {H H' : Hp} (e : Ex H H') : TEx H H' := fun _ _ h => ex_rd e h
theorem TEx.trans {H H1 H2 : Hp} (a : TEx H H1) (b : TEx H1 H2) : TEx H H2 := fun x o h => b x o (a x o h)
theorem TEx.refl (H : Hp) : TEx H H := fun _ _ h => h
theorem TEx.upd {H : Hp} {p : Addr} {xs : List V} {o : HO} (h : H p = some (.lst xs)) : TEx H (upd H p o) := fun a ys q => by
  have hne : a ≠ p := by
    rintro rfl
    rcases q with q | ⟨o', q⟩ <;> rw [h] at q <;> cases q
  rcases q with q | ⟨o', q⟩
  · exact .inl (by rw [upd_ne hne]; exact q)
  · exact .inr ⟨o', by rw [upd_ne hne]; exact q⟩
section
variable {K : PySem.W.Frag} {H H' : Hp}
theorem tex_t (e : TEx H H') {a : Addr} {xs : List V} (h : SqT K H a xs) : SqT K H' a xs := by
  rcases h with h | h
  · exact .inl (e a xs h)
  · exact .inr h
mutual
theorem dp_tex (e : TEx H H') : ∀ {d : PyData} {v : V}, imm d = true → Dp K H v d → Dp K H' v d
  | _, _, _, .non => .non
  | _, _, _, .bl b => .bl b
  | _, _, _, .int i => .int i
  | _, _, _, .str x => .str x
  | _, _, h, .lst _ _ => nomatch h
  | _, _, h, .tup s a => .tup (tex_t e s) (dpAll_tex e h a)
theorem dpAll_tex (e : TEx H H') : ∀ {ds : List PyData} {vs : List V}, immAll ds = true → DpAll K H vs ds → DpAll K H' vs ds
  | _, _, _, .nil => .nil
  | _, _, h, .cons a r => .cons (dp_tex e (Bool.and_eq_true_iff.mp h).1 a) (dpAll_tex e (Bool.and_eq_true_iff.mp h).2 r)
end
theorem dpAll_len : ∀ {vs : List V} {ds : List PyData}, DpAll K H vs ds → vs.length = ds.length
  | _, _, .nil => rfl
  | _, _, .cons _ r => congrArg Nat.succ (dpAll_len r)
theorem dpAll_app : ∀ {vs ws : List V} {ds es : List PyData}, DpAll K H vs ds → DpAll K H ws es → DpAll K H (vs ++ ws) (ds ++ es)
  | _, _, _, _, .nil, h => h
  | _, _, _, _, .cons a r, h => .cons a (dpAll_app r h)
theorem dpAll_get : ∀ {vs : List V} {ds : List PyData} {i : Nat} {x : V}, DpAll K H vs ds → vs[i]? = some x → ∃ d, ds[i]? = some d ∧ Dp K H x d
  | _, _, 0, _, .cons a _, e => by simp at e; subst e; exact ⟨_, rfl, a⟩
  | _, _, i + 1, x, .cons _ r, e => by
    obtain ⟨d, h1, h2⟩ := dpAll_get (i := i) (x := x) r (by simpa using e)
    exact ⟨d, by simpa using h1, h2⟩
theorem immAll_app : ∀ {ds es : List PyData}, immAll ds = true → immAll es = true → immAll (ds ++ es) = true
  | [], _, _, h => h
  | _ :: _, _, h, h' => Bool.and_eq_true_iff.mpr ⟨(Bool.and_eq_true_iff.mp h).1, immAll_app (Bool.and_eq_true_iff.mp h).2 h'⟩
theorem immAll_map {f : Nat → PyData} (h : ∀ i, imm (f i) = true) : ∀ l : List Nat, immAll (l.map f) = true
  | [] => rfl
  | i :: l => Bool.and_eq_true_iff.mpr ⟨h i, immAll_map h l⟩
variable {Q : VK}
/-- over a list: item i gives data f i (without lists) -/
theorem lcD_list {a : Addr} {xs : List V} {j : Nat} {te : TE} {vs : List Nat} {σ : L2.St} (f : Nat → PyData) (hf : ∀ i, imm (f i) = true) (hx : SqL K H a xs) (hn : xs.length ≤ 100000) (σ' : V → L2.St) (hσ : ∀ x, (wipe σ vs).set j (some x) = σ' x) (hw : ∀ x, wipe ((wipe σ vs).set j (some x)) vs = wipe σ vs)
    (he : ∀ (i : Nat) (x : V) (H1 : Hp) (Q' : VK), Ex H H1 → xs[i]? = some x → (∀ y H2, Ex H1 H2 → Dp K H2 y (f i) → Q' y H2) → te (σ' x) H1 Q')
    (hq : ∀ p H2 ys, H p = none → Ex H H2 → H2 p = some (.lst ys) → DpAll K H2 ys ((List.range xs.length).map f) → Q (.ref p) H2) : LcJ (Itl K a) (gName j) tYes te vs σ H Q := fun D hD =>
  lc_list (xs := xs) (Pv := fun i H' => Ex H H' ∧ ∃ ys, H' D = some (.lst ys) ∧ DpAll K H' ys ((List.range i).map f)) ⟨Ex.new hD, [], upd_same, .nil⟩ (fun i H' _ p => ex_l p.1 hx) (fun i x H' hi ⟨p1, ys, p2, p3⟩ => ⟨hw x, by
    show te ((wipe σ vs).set j _) H' _
    rw [hσ]
    have hi' := (List.getElem?_eq_some_iff.mp hi).1
    refine he i x H' _ p1 hi fun y H2 e2 d2 => ⟨ys, e2 D _ p2, sz_lt (by rw [dpAll_len p3, List.length_map, List.length_range]; omega), Ex.mut (p1.trans e2) hD, ys ++ [y], upd_same, ?_⟩
    have t := TEx.upd (o := .lst (ys ++ [y])) (e2 D _ p2)
    rw [List.range_succ, List.map_append]
    exact dpAll_app (dpAll_tex t (immAll_map hf _) (dpAll_ex e2 p3)) (.cons (dp_tex t (hf i) d2) .nil)⟩) fun H' ⟨p1, ys, p2, p3⟩ => hq D H' ys hD p1 p2 p3
theorem lcD_tup {a : Addr} {xs : List V} {j : Nat} {te : TE} {vs : List Nat} {σ : L2.St} (f : Nat → PyData) (hf : ∀ i, imm (f i) = true) (hx : SqT K H a xs) (hn : xs.length ≤ 100000) (σ' : V → L2.St) (hσ : ∀ x, (wipe σ vs).set j (some x) = σ' x) (hw : ∀ x, wipe ((wipe σ vs).set j (some x)) vs = wipe σ vs)
    (he : ∀ (i : Nat) (x : V) (H1 : Hp) (Q' : VK), Ex H H1 → xs[i]? = some x → (∀ y H2, Ex H1 H2 → Dp K H2 y (f i) → Q' y H2) → te (σ' x) H1 Q')
    (hq : ∀ p H2 ys, H p = none → Ex H H2 → H2 p = some (.lst ys) → DpAll K H2 ys ((List.range xs.length).map f) → Q (.ref p) H2) : LcJ (Itt K a) (gName j) tYes te vs σ H Q := fun D hD =>
  lc_tup (xs := xs) (Pv := fun i H' => Ex H H' ∧ ∃ ys, H' D = some (.lst ys) ∧ DpAll K H' ys ((List.range i).map f)) ⟨Ex.new hD, [], upd_same, .nil⟩ (fun i H' _ p => ex_t p.1 hx) (fun i x H' hi ⟨p1, ys, p2, p3⟩ => ⟨hw x, by
    show te ((wipe σ vs).set j _) H' _
    rw [hσ]
    have hi' := (List.getElem?_eq_some_iff.mp hi).1
    refine he i x H' _ p1 hi fun y H2 e2 d2 => ⟨ys, e2 D _ p2, sz_lt (by rw [dpAll_len p3, List.length_map, List.length_range]; omega), Ex.mut (p1.trans e2) hD, ys ++ [y], upd_same, ?_⟩
    have t := TEx.upd (o := .lst (ys ++ [y])) (e2 D _ p2)
    rw [List.range_succ, List.map_append]
    exact dpAll_app (dpAll_tex t (immAll_map hf _) (dpAll_ex e2 p3)) (.cons (dp_tex t (hf i) d2) .nil)⟩) fun H' ⟨p1, ys, p2, p3⟩ => hq D H' ys hD p1 p2 p3
/-! deep: tuples in the place of lists -/
end
mutual
def dDeep : PyData → PyData
  | .list xs => .tuple (dDeepAll xs)
  | .tuple xs => .tuple (dDeepAll xs)
  | .none => .none
  | .bool b => .bool b
  | .int i => .int i
  | .str s => .str s
  | .dict _ => .none
def dDeepAll : List PyData → List PyData
  | [] => []
  | x :: xs => dDeep x :: dDeepAll xs
end
mutual
theorem imm_deep : ∀ d, imm (dDeep d) = true
  | .list xs => immAll_deep xs
  | .tuple xs => immAll_deep xs
  | .none => rfl
  | .bool _ => rfl
  | .int _ => rfl
  | .str _ => rfl
  | .dict _ => rfl
theorem immAll_deep : ∀ ds, immAll (dDeepAll ds) = true
  | [] => rfl
  | x :: xs => Bool.and_eq_true_iff.mpr ⟨imm_deep x, immAll_deep xs⟩
end
theorem dDeepAll_eq : ∀ ds, dDeepAll ds = ds.map dDeep
  | [] => rfl
  | x :: xs => by show dDeep x :: dDeepAll xs = _; rw [dDeepAll_eq xs]; rfl
theorem dDeep_ints (ns : List Int) : dDeepAll (ns.map .int) = ns.map .int := by
  rw [dDeepAll_eq, List.map_map]; rfl
mutual
/-- depth at most n, each row at most so long -/
def shp : Nat → PyData → Bool
  | 0, .list _ => false
  | 0, .tuple _ => false
  | n + 1, .list xs => decide (xs.length ≤ 50000) && shpAll n xs
  | n + 1, .tuple xs => decide (xs.length ≤ 50000) && shpAll n xs
  | _, .dict _ => false
  | _, _ => true
def shpAll : Nat → List PyData → Bool
  | _, [] => true
  | n, x :: xs => shp n x && shpAll n xs
end
theorem shpAll_get {n : Nat} : ∀ {ds : List PyData} {i : Nat} {d : PyData}, shpAll n ds = true → ds[i]? = some d → shp n d = true
  | _ :: _, 0, _, h, e => by
    simp at e; subst e
    unfold shpAll at h
    exact (Bool.and_eq_true_iff.mp h).1
  | _ :: _, i + 1, d, h, e => by
    unfold shpAll at h
    exact shpAll_get (i := i) (d := d) (Bool.and_eq_true_iff.mp h).2 (by simpa using e)
theorem shpAll_ints : ∀ ns : List Int, shpAll 0 (ns.map .int) = true
  | [] => rfl
  | n :: ns => by show (shp 0 (.int n) && shpAll 0 (ns.map .int)) = true; rw [shpAll_ints ns]; rfl
end M

/-! ### part F: a list or a tuple -/
namespace M
open PySem PySem.Spec PyProof.Rows L2 Evl
def SqE (K : PySem.W.Frag) (H : Hp) (a : Addr) (xs : List V) : Prop := SqL K H a xs ∨ SqT K H a xs
section
variable {K : PySem.W.Frag} {H H' : Hp} {Q : VK}
theorem ex_e {a : Addr} {xs : List V} (e : Ex H H') (h : SqE K H a xs) : SqE K H' a xs := h.elim (fun h => .inl (ex_l e h)) (fun h => .inr (ex_t e h))
theorem r_lenEI {a : Addr} {xs : List Int} (h : SqE K H a (vI xs)) (q : Q (.int (xs.length : Int)) H) : rLenU K [.ref a] H Q := h.elim (fun h => r_lenLI h q) (fun h => r_lenTI h q)
theorem r_ixEI {a : Addr} {xs : List Int} {i : Int} (h : SqE K H a (vI xs)) (h0 : 0 ≤ i) (h1 : i < xs.length) (q : Q (.int (gI xs i)) H) : rIx K (.ref a) (.int i) H Q := h.elim (fun h => r_ixLI h h0 h1 q) (fun h => r_ixTI h h0 h1 q)
theorem r_ixEN {a : Addr} {xs : List Int} {i : Int} (h : SqE K H a (vI xs)) (h0 : i < 0) (h1 : -(xs.length : Int) ≤ i) (q : Q (.int (gI xs (i + xs.length))) H) : rIx K (.ref a) (.int i) H Q := h.elim (fun h => r_ixLN h h0 h1 q) (fun h => r_ixTN h h0 h1 q)
end
end M

/-! ### part G: fields, instances made, methods, properties, instances called, own == -/
namespace M
open PySem PySem.Spec PyProof.Rows L2 Evl
def GetF (K : PySem.W.Frag) (f : Str) (x : V) (H : Hp) (Q : VK) : Prop := ∃ a C dx fs v, x = .ref a ∧ H a = some (.ins C dx fs) ∧ Cls K C ∧ NoAttr K C f ∧ fs.lookup f = some v ∧ Q v H
def PutF (K : PySem.W.Frag) (f : Str) (y x : V) (H : Hp) (R : Hp → Prop) : Prop := ∃ a C dx fs, x = .ref a ∧ H a = some (.ins C dx fs) ∧ Cls K C ∧ NoAttr K C f ∧ fs.length < 1000 ∧ R (upd H a (.ins C dx (putF f y fs)))
section
variable {K : PySem.W.Frag} {σ : L2.St} {H : Hp} {Q : VK} {D : Ends} {ta tv : TE} {f : Str}
theorem w_fld (h : ta σ H fun x H1 => GetF K f x H1 Q) : tFld K ta f σ H Q := h
theorem w_fldS (h : tv σ H fun y H1 => ta σ H1 fun x H2 => PutF K f y x H2 fun H3 => D.nx σ H3) : sFld K ta tv f D σ H := h
theorem r_getF {a C dx : Addr} {fs : List (Str × V)} {v : V} (h : H a = some (.ins C dx fs)) (c : Cls K C) (n : NoAttr K C f) (e : fs.lookup f = some v) (q : Q v H) : GetF K f (.ref a) H Q := ⟨a, C, dx, fs, v, rfl, h, c, n, e, q⟩
theorem r_putF {a C dx : Addr} {fs : List (Str × V)} {y : V} {R : Hp → Prop} (h : H a = some (.ins C dx fs)) (c : Cls K C) (n : NoAttr K C f) (hl : fs.length < 1000) (q : R (upd H a (.ins C dx (putF f y fs)))) : PutF K f y (.ref a) H R := ⟨a, C, dx, fs, rfl, h, c, n, hl, q⟩
end
/-- a class made by its name: dvs the defaults that fill up -/
structure Mkc (P : Program) (w : World) (K : PySem.W.Frag) (mg : Str → Option Value) (base : Heap) (CX : CXT) (k : Nat) (x : Str) (C : Addr) (sp : Sp) (dvs : List V) : Prop where
  ex : ∃ (f : Addr) (fd : FuncData) (ps : List Str) (ds : List Value), Mk K C f ∧ FnOk P w K mg base CX k f fd ps sp ∧ mg x = some (.ref C) ∧ Binds K fd ps ds ∧ Vals dvs ds
section
variable {X : Cx} {CX : CXT} {k j : Nat} {C : Addr} {x m : Str} {sp : Sp} {dvs : List V} {E : XK} {p pos apos : Pos} {e o : Expr} {es : List Expr} {ta : TE} {t : TA}
theorem pmk (c : Mkc X.prog X.w X.K X.mg X.base CX k x C sp dvs) (hr : Room j X.A) (hk : k + 1 ≤ j) (hx : Passes CX X E) (hg : Gl X x) (ha : PA X (e :: es) t)
    (hdb : (x == ("__debug__" : Str)) = false := by decide) (he : starEach (e :: es) X.env = (false, eval e X.env) :: starEach es X.env := by rfl) (hpl : (backTo pos (starEach es X.env)).any (·.1) = false := by rfl) :
    PE X (.Call (.Name x p) (e :: es) [] pos) (tMake C sp dvs E t) := by
  obtain ⟨f, fd, ps, ds, M, F, hm, hb, hd⟩ := c.ex
  exact pe_make M F (hr.mono hk) hg hm hb hd hx ha hdb he hpl
theorem pmt {pl : Sem Bool} (c : Mt X.prog X.w X.K X.mg X.base CX k C m sp) (hr : Room j X.A) (hk : k ≤ j) (hx : Passes CX X E) (ho : PE X o ta) (ha : PA X (e :: es) t)
    (he : starEach (e :: es) X.env = (false, eval e X.env) :: starEach es X.env := by rfl) (hpl : (backTo pos (starEach es X.env)).any (·.1) = false := by rfl)
    (ht : eval (.Call (.Attribute o m apos) (e :: es) [] pos) X.env = (do let ov ← eval o X.env; standAt apos.atName; let (f, first) ← holding [ov] (getMethod ov m pl); callWith pos f first (backTo pos (starEach (e :: es) X.env)) (backToKw pos (keywordEach [] X.env))) := by rfl) :
    PE X (.Call (.Attribute o m apos) (e :: es) [] pos) (tMeth C m sp [] E ta t) := by
  obtain ⟨f, fd, ps, cl, hm, F, hb⟩ := c.ex
  exact pe_meth ho cl hm F (hr.mono hk) hb .nil hx ha he hpl ht
theorem pmt0 {pl : Sem Bool} (c : Mt X.prog X.w X.K X.mg X.base CX k C m sp) (hr : Room j X.A) (hk : k ≤ j) (hx : Passes CX X E) (ho : PE X o ta)
    (ht : eval (.Call (.Attribute o m apos) [] [] pos) X.env = (do let ov ← eval o X.env; standAt apos.atName; let (f, first) ← holding [ov] (getMethod ov m pl); callWith pos f first (backTo pos (starEach [] X.env)) (backToKw pos (keywordEach [] X.env))) := by rfl) :
    PE X (.Call (.Attribute o m apos) [] [] pos) (tMeth C m sp [] E ta tNil) := by
  obtain ⟨f, fd, ps, cl, hm, F, hb⟩ := c.ex
  exact pe_meth0 ho cl hm F (hr.mono hk) hb .nil hx ht
end
/-- a property of the class at C -/
structure Prp (P : Program) (w : World) (K : PySem.W.Frag) (mg : Str → Option Value) (base : Heap) (k : Nat) (C : Addr) (m : Str) (sp : Sp) : Prop where
  ex : ∃ (p g : Addr) (fd : FuncData) (ps : List Str), Cls K C ∧ PropOf K C m p g ∧ FnOk P w K mg base CX0 k g fd ps sp ∧ Binds K fd ps []
def PropI (C : Addr) (sp : Sp) (x : V) (H1 : Hp) (Q : VK) (E : XK) : Prop := ∃ a dx fs, x = .ref a ∧ H1 a = some (.ins C dx fs) ∧ sp (.ref a :: []) H1 Q E
section
variable {X : Cx} {k j : Nat} {C : Addr} {m : Str} {sp : Sp} {E : XK} {pos : Pos} {e : Expr} {ta : TE} {σ : L2.St} {H : Hp} {Q : VK}
theorem ppr (c : Prp X.prog X.w X.K X.mg X.base k C m sp) (hr : Room j X.A) (hk : k + 1 ≤ j) (he : PE X e ta) (hab : attributeBase e m X.env (eval e X.env) = eval e X.env) : PE X (.Attribute e m pos) (tProp C sp [] E0 ta) := by
  obtain ⟨p, g, fd, ps, cl, hp, F, hb⟩ := c.ex
  exact pe_prop he cl hp F (hr.mono hk) hb .nil pass0 hab
theorem w_prop (h : ta σ H fun x H1 => PropI C sp x H1 Q E) : tProp C sp [] E ta σ H Q := h
theorem r_prop {F} {a dx : Addr} {fs : List (Str × V)} (h : H a = some (.ins C dx fs)) (q : F (.ref a) H Q E) : PropI C (sp1 F) (.ref a) H Q E := ⟨a, dx, fs, rfl, h, _, rfl, q⟩
def MethI (C : Addr) (m : Str) (sp : Sp) (E : XK) (t : TA) (σ : L2.St) (x : V) (H1 : Hp) (Q : VK) : Prop := ∃ a dx fs, x = .ref a ∧ H1 a = some (.ins C dx fs) ∧ fs.lookup m = none ∧ t σ H1 fun vs H2 => sp (x :: (vs ++ [])) H2 Q E
theorem w_meth {t : TA} (h : ta σ H fun x H1 => MethI C m sp E t σ x H1 Q) : tMeth C m sp [] E ta t σ H Q := h
theorem r_meth {t : TA} {a dx : Addr} {fs : List (Str × V)} (h : H a = some (.ins C dx fs)) (n : fs.lookup m = none) (q : t σ H fun vs H2 => sp (.ref a :: (vs ++ [])) H2 Q E) : MethI C m sp E t σ (.ref a) H Q := ⟨a, dx, fs, rfl, h, n, q⟩
def MakeI (C : Addr) (sp : Sp) (dvs : List V) (E : XK) (vs : List V) (H1 : Hp) (Q : VK) : Prop := ∀ (x dx : Addr), H1 x = none → H1 dx = none → dx ≠ x → sp (.ref x :: (vs ++ dvs)) (upd (upd H1 dx (.own x)) x (.ins C dx [])) (fun v H2 => v = .non ∧ Q (.ref x) H2) E
theorem w_make {t : TA} {dvs : List V} (h : t σ H fun vs H1 => MakeI C sp dvs E vs H1 Q) : tMake C sp dvs E t σ H Q := h
/-- an instance called -/
structure Cli (P : Program) (w : World) (K : PySem.W.Frag) (mg : Str → Option Value) (base : Heap) (k : Nat) (C : Addr) (sp : Sp) : Prop where
  ex : ∃ (g : Addr) (fd : FuncData) (ps : List Str), StX.CallO K C g ∧ FnOk P w K mg base CX0 k g fd ps sp ∧ Binds K fd ps []
def CallI (C : Addr) (sp : Sp) (E : XK) (t : TA) (σ : L2.St) (y : V) (H1 : Hp) (Q : VK) : Prop := ∃ a, y = V.ref a ∧ t σ H1 fun vs H2 => (∃ dx fs, H2 a = some (.ins C dx fs)) ∧ sp (V.ref a :: vs) H2 Q E
def tCallI (C : Addr) (sp : Sp) (E : XK) (tf : TE) (t : TA) : TE := fun σ H Q => tf σ H fun y H1 => CallI C sp E t σ y H1 Q
end
section
variable {X : Cx} {k j : Nat} {C : Addr} {sp : Sp} {pos : Pos} {fe e : Expr} {es : List Expr} {tf : TE} {t : TA}
theorem pcl (c : Cli X.prog X.w X.K X.mg X.base k C sp) (hr : Room j X.A) (hk : k ≤ j) (hf : PE X fe tf) (ha : PA X (e :: es) t)
    (ht : eval (.Call fe (e :: es) [] pos) X.env = (do callWith pos (← eval fe X.env) [] (backTo pos (starEach (e :: es) X.env)) (backToKw pos (keywordEach [] X.env))) := by rfl)
    (he : starEach (e :: es) X.env = (false, eval e X.env) :: starEach es X.env := by rfl) (hpl : (backTo pos (starEach es X.env)).any (·.1) = false := by rfl) : PE X (.Call fe (e :: es) [] pos) (StX.tCallO X C sp E0 tf t) := by
  obtain ⟨g, fd, ps, co, F, hb⟩ := c.ex
  exact StX.pe_callO hf co ((F.raw hb .nil).imp fun vs H Q E h => by rw [List.append_nil]; exact h) (hr.mono hk) pass0 ha ht he hpl
def CallOI (X : Cx) (C : Addr) (sp : Sp) (t : TA) (σ : L2.St) (y : V) (H1 : Hp) (Q : VK) : Prop := ∃ a, y = V.ref a ∧ t σ H1 fun vs H2 => StX.InsC X H2 a C ∧ sp (V.ref a :: vs) H2 Q E0
variable {σ : L2.St} {H : Hp} {Q : VK}
theorem w_callO (h : tf σ H fun y H1 => CallOI X C sp t σ y H1 Q) : StX.tCallO X C sp E0 tf t σ H Q := h
def CallOJ (X : Cx) (C a : Addr) (sp : Sp) (vs : List V) (H2 : Hp) (Q : VK) : Prop := StX.InsC X H2 a C ∧ sp (V.ref a :: vs) H2 Q E0
theorem w_callOI {a : Addr} (h : t σ H fun vs H2 => CallOJ X C a sp vs H2 Q) : CallOI X C sp t σ (.ref a) H Q := ⟨a, rfl, h⟩
theorem r_callO1 {F} {a dx : Addr} {fs : List (Str × V)} {x : V} (hi : H a = some (.ins C dx fs)) (h : F (.ref a) x H Q E0) : CallOJ X C a (sp2 F) [x] H Q := ⟨.inr ⟨dx, fs, hi⟩, _, _, rfl, h⟩
end
/-! own == : x an instance of the class at C, y any value whose type is known -/
section
variable {X : Cx} {n : Nat} {C : Addr} {sp : Sp}
def rOwnEq (K : PySem.W.Frag) (C : Addr) (sp : Sp) : R2 := fun x y H Q => ∃ a dx fs t, x = .ref a ∧ H a = some (.ins C dx fs) ∧ TyX K H y t ∧ PySem.W.notFirst K C t = true ∧ sp [x, y] H (fun v H' => (∃ b, v = .bl b) ∧ Q v H') E0
end
section
variable {X : Cx} {n : Nat} {C : Addr} {sp : Sp}
/-- what == needs of the class at C -/
structure EqOf (P : Program) (w : World) (K : PySem.W.Frag) (mg : Str → Option Value) (base : Heap) (k : Nat) (C : Addr) (sp : Sp) : Prop where
  ex : ∃ (g : Addr) (fd : FuncData) (ps : List Str), PySem.W.findIn K (.ref C) "__eq__" = some (some (.ref g)) ∧ PySem.W.isFn K (.ref g) = true ∧ FnOk P w K mg base CX0 k g fd ps sp ∧ Binds K fd ps []
theorem op_ownEq {j : Nat} (c : EqOf X.prog X.w X.K X.mg X.base n C sp) (hr : Room j X.A) (hn : n ≤ j) : OpR X (compareOp .Eq) (rOwnEq X.K C sp) := by
  obtain ⟨g, fd, ps, hs, hf, F, hb⟩ := c.ex
  intro pins s σ H x y v u Q I rx ry h
  obtain ⟨a, dx, fs, t, rfl, ha, ty, hnf, q⟩ := h
  cases (show v = Value.ref a from rx)
  obtain ⟨mA, O, _⟩ := ins_get I.hok ha
  obtain ⟨od, J, _⟩ := O.look
  obtain ⟨m, hF⟩ := I.fr
  obtain ⟨Pk, kit, hk, _⟩ := kit_of I ry ty
  show wpAny _ _ (richCompare .Eq (.ref a) u) _ _ _
  refine PySem.W.cmp_K (op := .Eq) (tb := t) (hr.mono hn).units0 hF I.ok.mod.kin J (kit.ty _ _ I.kIn hk) hnf hs hf ?_
  refine wpAny_mono (run_fn (us := [.ref a, u]) (vs := [.ref a, y]) (dvs := []) (ds := []) F (hr.mono hn) hb .nil pass0 I (.cons rfl (.cons ry .nil)) q) (fun z s' hz => ?_) fun _ _ x => x
  obtain ⟨zv, H', I', rz, ⟨b, hb⟩, qz⟩ := hz
  subst hb
  cases (show z = Value.bool b from rz)
  exact ⟨.bl b, H', I', rfl, qz⟩
def rEqO (K : PySem.W.Frag) (C : Addr) (sp : Sp) : R2 := fun x y H Q => rEqU K x y H Q ∨ rOwnEq K C sp x y H Q
theorem kEqO (K : PySem.W.Frag) {j : Nat} (c : EqOf X.prog X.w X.K X.mg X.base n C sp) (hr : Room j X.A) (hn : n ≤ j) (h : X.K = K := by rfl) : OpR X (compareOp .Eq) (rEqO K C sp) := by subst h; exact (xEq hr).or (op_ownEq c hr hn)
end
section
variable {K : PySem.W.Frag} {C : Addr} {sp : Sp} {H : Hp} {Q : VK} {x y : V}
theorem w_eqO (h : rEqU K x y H Q) : rEqO K C sp x y H Q := .inl h
theorem r_ownEq {F} {a dx : Addr} {fs : List (Str × V)} {t : Value} (ha : H a = some (.ins C dx fs)) (ty : TyX K H y t) (hn : PySem.W.notFirst K C t = true) (q : F (.ref a) y H (fun v H' => (∃ b, v = .bl b) ∧ Q v H') E0) : rEqO K C (sp2 F) (.ref a) y H Q :=
  .inr ⟨a, dx, fs, t, rfl, ha, ty, hn, _, _, rfl, q⟩
end
end M

/-! ### part H: the head's facts, functions by any address -/
namespace M
open PySem PySem.Spec PyProof.Rows L2 Evl
/-- a def: where its function stands -/
structure DX where
  adr : PySem.W.Frag → Addr
  name : Str
  qual : Str
  params : Arguments
  body : List Stmt
  scope : Scope
  dfl : List He.Dv := []
  clo : Bool := false
/-- the parts of a function; of a closure the names alone -/
def fnA (K : PySem.W.Frag) (a : Addr) (c : Bool) : He.FnW := match K.lookup a with
  | some ⟨_, _, .func q, _⟩ => some (q.name, q.qualname, q.params, q.body, q.scope, q.globals, (if c = true then q.closure.map fun p => (p.1, 0) else q.closure), q.builtins)
  | _ => none
def DX.val (d : DX) : He.FnW := some (d.name, d.qual, d.params, .stmts d.body, d.scope, mainGlobals, (if d.clo = true then [("__class__", 0)] else []), builtinsNs)
def DX.dvs (K : PySem.W.Frag) (d : DX) : List V := d.dfl.map (He.Dv.v K)
def DX.ok (K : PySem.W.Frag) (d : DX) : Bool := PySem.W.keepIn K (.ref (d.adr K)) && (match K.lookup (d.adr K) with
  | some ⟨_, _, .func q, _⟩ => PySem.W.codeIn K q.code d.qual && He.dflB K q.defaults (d.dvs K)
  | _ => false)
theorem DX.fun_ {K : PySem.W.Frag} {d : DX} (n : d.clo = false) (e : fnA K (d.adr K) d.clo = d.val) (c : d.ok K = true) : ∃ fd, FunD K d.name d.qual d.params d.body d.scope (d.dvs K) [] (d.adr K) fd := by
  have c0 := Bool.and_eq_true_iff.mp c
  have c1 := c0.2
  unfold fnA DX.val at e
  rw [n] at e
  simp only [Bool.false_eq_true, if_false] at e
  cases q : K.lookup (d.adr K) with
  | none => rw [q] at c1; cases c1
  | some o =>
    obtain ⟨oc, od, dt, osl⟩ := o
    rw [q] at c1 e
    cases dt with
    | func fd =>
      obtain ⟨m1, m2, m3, m4, m5, m6, m7, m8, m9, m10, m11, m12, m13, m14, m15⟩ := fd
      have e2 : (some (m1, m2, m3, m4, m5, m6, m7, m15) : He.FnW) = some (d.name, d.qual, d.params, .stmts d.body, d.scope, mainGlobals, [], builtinsNs) := e
      simp only [Option.some.injEq, Prod.mk.injEq] at e2
      obtain ⟨g1, g2, g3, g4, g5, g6, g7, g8⟩ := e2
      subst g1 g2 g3 g4 g5 g6 g7 g8
      have c2 := Bool.and_eq_true_iff.mp (show (PySem.W.codeIn K m13 d.qual && He.dflB K m8 (d.dvs K)) = true from c1)
      exact ⟨_, ⟨oc, od, m8, m9, m10, m11, m12, m13, m14, osl, rfl, q, c2.1, He.dflB_ok c2.2, .inl rfl⟩, c0.1⟩
    | _ => cases c1
/-- a def that names super(), as it stands -/
structure FunS (K : PySem.W.Frag) (x qual : Str) (params : Arguments) (body : List Stmt) (scope : Scope) (f : Addr) (fd : FuncData) (cc cda : Addr) : Prop where
  ex : ∃ (oc : Value) (od : Option Addr) (dV kV doc pm : Value) (an : Option Addr) (ct : Value) (osl : Array (Option Value)),
    fd = PySem.W.ksFn x qual params body scope dV kV doc pm an (.ref cda) ct cc ∧ K.lookup f = some ⟨oc, od, .func fd, osl⟩ ∧ PySem.W.codeIn K (.ref cda) qual = true ∧ DflV K dV []
  kp : PySem.W.keepIn K (.ref f) = true
def cellOf (K : PySem.W.Frag) (a : Addr) : Addr := match K.lookup a with
  | some ⟨_, _, .func q, _⟩ => (match q.closure with
    | (_, c) :: _ => c
    | _ => 0)
  | _ => 0
def codeOf (K : PySem.W.Frag) (a : Addr) : Addr := match K.lookup a with
  | some ⟨_, _, .func q, _⟩ => (match q.code with
    | .ref c => c
    | _ => 0)
  | _ => 0
theorem DX.funS_ {K : PySem.W.Frag} {d : DX} (n : d.clo = true) (nd : d.dvs K = []) (e : fnA K (d.adr K) d.clo = d.val) (c : d.ok K = true) : ∃ fd, FunS K d.name d.qual d.params d.body d.scope (d.adr K) fd (cellOf K (d.adr K)) (codeOf K (d.adr K)) := by
  have c0 := Bool.and_eq_true_iff.mp c
  have c1 := c0.2
  unfold fnA DX.val at e
  rw [n] at e
  simp only [if_true] at e
  unfold cellOf codeOf
  cases q : K.lookup (d.adr K) with
  | none => rw [q] at c1; cases c1
  | some o =>
    obtain ⟨oc, od, dt, osl⟩ := o
    rw [q] at c1 e
    cases dt with
    | func fd =>
      obtain ⟨m1, m2, m3, m4, m5, m6, m7, m8, m9, m10, m11, m12, m13, m14, m15⟩ := fd
      have e2 : (some (m1, m2, m3, m4, m5, m6, (m7.map fun p => ((p.1, 0) : Str × Addr)), m15) : He.FnW) = (some (d.name, d.qual, d.params, FuncBody.stmts d.body, d.scope, mainGlobals, [(("__class__" : Str), (0 : Addr))], builtinsNs) : He.FnW) := e
      simp only [Option.some.injEq, Prod.mk.injEq] at e2
      obtain ⟨g1, g2, g3, g4, g5, g6, g7, g8⟩ := e2
      have c2 := Bool.and_eq_true_iff.mp (show (PySem.W.codeIn K m13 d.qual && He.dflB K m8 (d.dvs K)) = true from c1)
      obtain ⟨cda, rfl⟩ : ∃ c, m13 = .ref c := by
        have := c2.1
        unfold PySem.W.codeIn at this
        split at this
        · exact ⟨_, rfl⟩
        · cases this
      have h7 : ∃ c, m7 = [(("__class__" : Str), c)] := by
        rcases m7 with _ | ⟨⟨z1, z2⟩, _ | ⟨y, m7⟩⟩
        · exact absurd (congrArg List.length g7) (by simp)
        · have g8 : z1 = ("__class__" : Str) := congrArg Prod.fst (List.cons.inj g7).1
          exact ⟨z2, by rw [g8]⟩
        · exact absurd (congrArg List.length g7) (by simp)
      obtain ⟨z2, h7⟩ := h7
      subst g1 g2 g3 g4 g5 g6 g8 h7
      have dd := He.dflB_ok c2.2
      rw [nd] at dd
      exact ⟨_, ⟨oc, od, m8, m9, m10, m11, m12, m14, osl, rfl, q, c2.1, dd⟩, c0.1⟩
    | _ => cases c1
abbrev AlM : Type := Bool × List He.FnW
def obsM (fa : List He.Fa) (fn : List DX) (ex : PySem.W.Frag → Bool) (K : PySem.W.Frag) : AlM := ((fa.all fun f => f.ok K) && ((fn.all fun d => d.ok K) && ex K), fn.map fun d => fnA K (d.adr K) d.clo)
def valM (fn : List DX) : AlM := (true, fn.map DX.val)
def SaysM (fa : List He.Fa) (fn : List DX) (ex : PySem.W.Frag → Bool) (K : PySem.W.Frag) : Prop := obsM fa fn ex K = valM fn
/-- the cells of closures, too, and the table of the statics -/
def asX (g : Addr → Option Obj) (n : Nat) : List Addr := cStatics :: (He.asD g n ++ (He.asD g n).flatMap fun a => match g a with
  | some ⟨_, _, .func q, _⟩ => q.closure.map fun p => p.2
  | _ => [])
def obsMG (n : Nat) (fa : List He.Fa) (fn : List DX) (ex : PySem.W.Frag → Bool) (g : Addr → Option Obj) : AlM := obsM fa fn ex (He.frG g (asX g n))
def hookM (n : Nat) (fa : List He.Fa) (fn : List DX) (ex : PySem.W.Frag → Bool) : PySem.W.Hook where
  α := AlM
  obs := fun s => obsMG n fa fn ex s.heap.get?
  val := fun _ => valM fn
  says := fun _ h => ∃ K : PySem.W.Frag, K.In h ∧ SaysM fa fn ex K
  of := fun _ _ e => ⟨_, He.frG_in, e⟩
  keeps := fun _ _ _ ⟨K, hK, c⟩ k => ⟨K, PySem.W.Frag.In.keeps hK k, c⟩
theorem obsMG_eq {n : Nat} {fa : List He.Fa} {fn : List DX} {ex : PySem.W.Frag → Bool} {g : Addr → Option Obj} {s : Shared} (h : ∀ a, g a = s.heap.get? a) : obsMG n fa fn ex g = (hookM n fa fn ex).obs s := by
  rw [show g = s.heap.get? from funext h] <;> rfl
section
variable {fa : List He.Fa} {fn : List DX} {ex : PySem.W.Frag → Bool} {K : PySem.W.Frag}
theorem SaysM.fact (c : SaysM fa fn ex K) (i : Nat) {f : He.Fa} (h : fa[i]? = some f := by rfl) : f.ok K = true :=
  List.all_eq_true.mp (Bool.and_eq_true_iff.mp (show ((fa.all fun f => f.ok K) && ((fn.all fun d => d.ok K) && ex K)) = true from congrArg Prod.fst c)).1 f (List.mem_of_getElem? h)
theorem SaysM.more (c : SaysM fa fn ex K) : ex K = true :=
  (Bool.and_eq_true_iff.mp (Bool.and_eq_true_iff.mp (show ((fa.all fun f => f.ok K) && ((fn.all fun d => d.ok K) && ex K)) = true from congrArg Prod.fst c)).2).2
theorem SaysM.look (c : SaysM fa fn ex K) (i : Nat) {d : DX} (h : fn[i]? = some d := by rfl) : fnA K (d.adr K) d.clo = d.val ∧ d.ok K = true := by
  have c2 := (Bool.and_eq_true_iff.mp (Bool.and_eq_true_iff.mp (show ((fa.all fun f => f.ok K) && ((fn.all fun d => d.ok K) && ex K)) = true from congrArg Prod.fst c)).2).1
  have e : fn.map (fun d => fnA K (d.adr K) d.clo) = fn.map DX.val := congrArg Prod.snd c
  have e2 : (fn.map fun d => fnA K (d.adr K) d.clo)[i]? = (fn.map DX.val)[i]? := by rw [e]
  rw [List.getElem?_map, List.getElem?_map, h] at e2
  exact ⟨Option.some.inj e2, List.all_eq_true.mp c2 d (List.mem_of_getElem? h)⟩
theorem SaysM.def_ (c : SaysM fa fn ex K) (i : Nat) {d : DX} (h : fn[i]? = some d := by rfl) (n : d.clo = false := by rfl) : ∃ fd, FunD K d.name d.qual d.params d.body d.scope (d.dvs K) [] (d.adr K) fd :=
  let ⟨e, c2⟩ := c.look i h
  DX.fun_ n e c2
theorem SaysM.defS (c : SaysM fa fn ex K) (i : Nat) {d : DX} (h : fn[i]? = some d := by rfl) (n : d.clo = true := by rfl) (nd : d.dvs K = [] := by rfl) : ∃ fd, FunS K d.name d.qual d.params d.body d.scope (d.adr K) fd (cellOf K (d.adr K)) (codeOf K (d.adr K)) :=
  let ⟨e, c2⟩ := c.look i h
  DX.funS_ n nd e c2
end
/-! facts beyond He.Fa, told by a Bool -/
/-- the property m of the class x: its object, its getter -/
def prA (x m : Str) (K : PySem.W.Frag) : Addr := He.ma K (He.ga K x) m
def prG (x m : Str) (K : PySem.W.Frag) : Addr := match PySem.W.recIn K (prA x m K) "property" with
  | some (.ref g :: _) => g
  | _ => 0
def propB (x m : Str) (K : PySem.W.Frag) : Bool := decide (PySem.W.findIn K (.ref (He.ga K x)) m = some (some (.ref (prA x m K)))) && (decide (PySem.W.specialIn K (.ref (prA x m K)) "__get__" = some (some (.builtin "property.__get__"))) &&
  (decide (PySem.W.takesIn K (.ref (prA x m K)) = some true) && (match PySem.W.recIn K (prA x m K) "property" with
    | some (.ref g :: _) => true
    | _ => false)))
theorem propB_ok {x m : Str} {K : PySem.W.Frag} (h : propB x m K = true) : PropOf K (He.ga K x) m (prA x m K) (prG x m K) := by
  obtain ⟨h1, h⟩ := Bool.and_eq_true_iff.mp h
  obtain ⟨h2, h⟩ := Bool.and_eq_true_iff.mp h
  obtain ⟨h3, h⟩ := Bool.and_eq_true_iff.mp h
  refine ⟨of_decide_eq_true h1, of_decide_eq_true h2, of_decide_eq_true h3, ?_⟩
  unfold prG
  split at h
  · rename_i g r e
    rw [e]
    exact ⟨_, rfl⟩
  · cases h
/-- an empty tuple stands at an address of the written part -/
def tup0B (K : PySem.W.Frag) (a : Addr) : Bool := match K.lookup a with
  | some ⟨.type c, _, .seq its _, _⟩ => decide (c = "tuple") && decide (its.size = 0)
  | _ => false
theorem tup0B_ok {K : PySem.W.Frag} {a : Addr} (h : tup0B K a = true) (H : Hp) : SqT K H a [] := by
  unfold tup0B at h
  split at h
  · rename_i c od its n sl e
    obtain ⟨h1, h2⟩ := Bool.and_eq_true_iff.mp h
    have h3 : its = #[] := Array.eq_empty_of_size_eq_zero (of_decide_eq_true h2)
    subst h3
    exact .inr ⟨_, #[], n, e, congrArg Value.type (of_decide_eq_true h1), rfl, by decide, .nil⟩
  · cases h
/-- an instance of the class may be called -/
def callB (x : Str) (K : PySem.W.Frag) : Bool := decide (PySem.W.findIn K (.ref (He.ga K x)) "__call__" = some (some (.ref (He.ma K (He.ga K x) "__call__")))) && (PySem.W.isFn K (.ref (He.ma K (He.ga K x) "__call__")) && PySem.W.fnIn K (He.ma K (He.ga K x) "__call__"))
theorem callB_ok {x : Str} {K : PySem.W.Frag} (h : callB x K = true) : StX.CallO K (He.ga K x) (He.ma K (He.ga K x) "__call__") := by
  obtain ⟨h1, h⟩ := Bool.and_eq_true_iff.mp h
  obtain ⟨h2, h3⟩ := Bool.and_eq_true_iff.mp h
  exact ⟨of_decide_eq_true h1, h2, h3⟩
/-- the class of an instance, for isinstance and ==: what TyOf asks -/
def insB (x : Str) (K : PySem.W.Frag) : Bool := decide (PySem.W.findIn K (.ref (He.ga K x)) "__class__" = some (some (.builtin "object.__class__"))) && (decide (PySem.W.specialIn K (.builtin "object.__class__") "__get__" = some (some (.builtin "getset_descriptor.__get__"))) &&
  (decide (PySem.W.takesIn K (.builtin "object.__class__") = some true) && decide (PySem.W.mroIn K (He.ga K x) (.type "object") = some true)))
theorem insB_ok {x : Str} {K : PySem.W.Frag} (h : insB x K = true) (c : Cls K (He.ga K x)) {H : Hp} {a dx : Addr} {fs : List (Str × V)} (e : H a = some (.ins (He.ga K x) dx fs)) : TyX K H (.ref a) (.ref (He.ga K x)) := by
  obtain ⟨h1, h⟩ := Bool.and_eq_true_iff.mp h
  obtain ⟨h2, h⟩ := Bool.and_eq_true_iff.mp h
  obtain ⟨h3, h4⟩ := Bool.and_eq_true_iff.mp h
  exact .base (.ins e c (of_decide_eq_true h1) (of_decide_eq_true h2) (of_decide_eq_true h3) (of_decide_eq_true h4))
/-- isinstance's answers of the class, == of others -/
def kitB (x : Str) (n : String) (b : Bool) (K : PySem.W.Frag) : Bool := decide (PySem.W.kitOne K (.type n) (.ref (He.ga K x)) = some b)
def kitSB (x : Str) (K : PySem.W.Frag) : Bool := decide (PySem.W.kitOne K (.ref (He.ga K x)) (.ref (He.ga K x)) = some true)
def nfB (x : Str) (n : String) (K : PySem.W.Frag) : Bool := PySem.W.notFirst K (He.ga K x) (.type n)
end M

/-! ### part I: a source of draws; frames -/
namespace M
open PySem PySem.Spec PyProof.Rows L2 Evl
/-- all but what stands at a is as it was -/
def Fr (a : Addr) (H H' : Hp) : Prop := ∀ b o, b ≠ a → H b = some o → H' b = some o
theorem Fr.refl (a : Addr) (H : Hp) : Fr a H H := fun _ _ _ h => h
theorem Fr.trans {a : Addr} {H H1 H2 : Hp} (x : Fr a H H1) (y : Fr a H1 H2) : Fr a H H2 := fun b o n h => y b o n (x b o n h)
theorem Fr.of {a : Addr} {H H' : Hp} (e : Ex H H') : Fr a H H' := fun b o _ h => e b o h
theorem Fr.upd {a : Addr} {H : Hp} {o : HO} : Fr a H (upd H a o) := fun b o n h => by rw [upd_ne n]; exact h
/-- a list of three: the digits that are left, the seed, the count -/
def SrcAt (H : Hp) (a : Addr) : Prop := ∃ d s c : Int, H a = some (.lst [.int d, .int s, .int c]) ∧ 0 ≤ d ∧ 0 ≤ s ∧ s < 2147483629 ∧ 0 ≤ c
theorem SrcAt.ex {H H' : Hp} {a : Addr} (e : Ex H H') (h : SrcAt H a) : SrcAt H' a := by
  obtain ⟨d, s, c, h1, h2⟩ := h
  exact ⟨d, s, c, e _ _ h1, h2⟩
theorem SrcAt.ne {H : Hp} {a b : Addr} (h : SrcAt H a) (n : H b = none) : b ≠ a := by
  obtain ⟨d, s, c, h1, _⟩ := h
  rintro rfl
  rw [n] at h1; cases h1
/-- a change of the source alone leaves the tuples -/
theorem Fr.tex {a : Addr} {H H' : Hp} (f : Fr a H H') (h : SrcAt H a) : TEx H H' := fun b xs q => by
  obtain ⟨d, s, c, h1, _⟩ := h
  have hb : b ≠ a := by
    rintro rfl
    rcases q with q | ⟨o', q⟩ <;> rw [h1] at q <;> cases q
  rcases q with q | ⟨o', q⟩
  · exact .inl (f b _ hb q)
  · exact .inr ⟨o', f b _ hb q⟩
theorem fr_t {K : PySem.W.Frag} {a b : Addr} {H H' : Hp} {xs : List V} (f : Fr a H H') (h : SrcAt H a) (s : SqT K H b xs) : SqT K H' b xs := tex_t (f.tex h) s
theorem fr_dp {K : PySem.W.Frag} {a : Addr} {H H' : Hp} {v : V} {d : PyData} (f : Fr a H H') (h : SrcAt H a) (hi : imm d = true) (s : Dp K H v d) : Dp K H' v d := dp_tex (f.tex h) hi s
section
variable {H : Hp} {v : V}
theorem r_set {p : Addr} {xs : List V} {k : Int} {j : Nat} {R : Hp → Prop} (h : H p = some (.lst xs)) (hj : ixN xs.length k = some j) (q : R (upd H p (.lst (xs.set j v)))) : rSetL (.ref p) (.int k) v H R := ⟨p, xs, k, j, rfl, rfl, h, hj, q⟩
theorem r_app {K : PySem.W.Frag} {p : Addr} {xs : List V} {Q : VK} (h : H p = some (.lst xs)) (hz : xs.length < sizeLine) (q : Q .non (upd H p (.lst (xs ++ [v])))) : rAppend (.ref p) [v] H Q := ⟨p, xs, v, rfl, rfl, h, hz, q⟩
end
/-- a built-in method of a list: its receiver stands -/
def BmI (K : PySem.W.Frag) (T : String) (r : V → List V → Hp → VK → Prop) (t : TA) (σ : L2.St) (x : V) (H1 : Hp) (Q : VK) : Prop := tyV K T x H1 ∧ t σ H1 fun xs H2 => r x xs H2 Q
theorem w_bm {K : PySem.W.Frag} {T : String} {r : V → List V → Hp → VK → Prop} {to : TE} {t : TA} {σ : L2.St} {H : Hp} {Q : VK} (h : to σ H fun x H1 => BmI K T r t σ x H1 Q) : tBM K T r to t σ H Q := h
theorem r_bmL {K : PySem.W.Frag} {r : V → List V → Hp → VK → Prop} {t : TA} {σ : L2.St} {p : Addr} {xs : List V} {H : Hp} {Q : VK} (h : SqL K H p xs) (q : t σ H fun vs H2 => r (.ref p) vs H2 Q) : BmI K "list" r t σ (.ref p) H Q := ⟨.inl ⟨rfl, xs, h⟩, q⟩
section
variable {H : Hp} {Q : VK}
theorem r_shr {i j : Int} (h0 : 0 ≤ j) (h : Q (.int (i / 2 ^ j.toNat)) H) : rShr (.int i) (.int j) H Q := ⟨i, j, rfl, rfl, h0, h⟩
theorem r_shl {i j : Int} (hc : CShl i j) (h : Q (.int (i * 2 ^ j.toNat)) H) : rShl (.int i) (.int j) H Q := ⟨i, j, rfl, rfl, hc, h⟩
theorem r_pow {i j : Int} (hc : CPow i j) (h : Q (.int (i ^ j.toNat)) H) : rPow (.int i) (.int j) H Q := ⟨i, j, rfl, rfl, hc, h⟩
end
end M

/-! ### part J: a def whose last statement is super().__init__(..) -/
namespace M
open PySem PySem.Spec PyProof.Rows L2 Evl
namespace MS
open NdefX ClX
theorem execs_app (a b : List Stmt) (env : Env) : execs (a ++ b) env = (do match ← execs a env with | .next => execs b env | f => pure f) := by
  induction a with
  | nil => rw [List.nil_append, execs_nil, pure_bind]
  | cons st a ih =>
    rw [List.cons_append, execs_cons, execs_cons, bind_assoc]
    congr 1
    funext f
    cases f with
    | next => exact ih
    | _ => rw [pure_bind]
/-- what super().__init__ needs of the text: the class at D, its cell cc, the code object cda, the next __init__ at f2 -/
structure SupOf (P : Program) (K : PySem.W.Frag) (mg : Str → Option Value) (D cc cda f2 : Addr) : Prop where
  cell : ∃ cl cld csl, K.lookup cc = some ⟨cl, cld, .cell (some (.ref D)), csl⟩
  cls : ∃ cd, PySem.W.clsIn K D = some cd
  sub : PySem.W.mroIn K D (.ref D) = some true
  code : ∃ ccl cdd vs ccs file tf, K.lookup cda = some ⟨ccl, cdd, .fields vs, ccs⟩ ∧ vs[2]? = some (.str file tf) ∧ ((P.main.file : Str) == file) = true
  gl : mg "super" = none
  any : PySem.W.nsIn K cStatics "thirdparty.any" = some none
  nx : PySem.W.ks_superIn K D D "__init__" = some (some (.ref f2))
  ty : PySem.W.typeIn K (.ref f2) = some (.type "function")
  fi : PySem.W.fnIn K f2 = true
  top : (P.main.scope.names.lookup ("super" : Str)).isSome = false
section
variable {X : Cx} {pins : List (Addr × Obj)} {σ : L2.St} {H : Hp} {s : Shared} {D cc cda f f2 x dx : Addr} {fs : List (Str × V)} {sp2 : Sp} {k2 : Nat} {R : Hp → Prop}
theorem super_stmt {pl : Sem Bool} {ta : TE} {body : List Stmt} {p0 p1 p2 p3 p4 : Pos} {arg : Expr} {fd : FuncData} {of : Obj} {ar : Arg} (U : SupOf X.prog X.K X.mg D cc cda f2) (F2 : FnR X.prog X.w X.K X.mg X.base CX0 k2 f2 sp2) (hr : Room k2 X.A)
    (hks : X.env.kindOf "super" = some .globalImplicit) (hkc : X.env.kindOf "__class__" = some .free) (hfu : X.env.func = some f) (hf : X.K.lookup f = some of) (hfd : of.data = .func fd)
    (hp : (fd.params.posonlyargs ++ fd.params.args).head? = some ar) (har : X.env.scope.names.lookup ar.arg = some .local) (hN : X.N[0]? = some ar.arg) (hco : X.env.code = .ref cda) (hcl : X.env.cells.lookup ("__class__" : Str) = some cc)
    (ha : PE X arg ta) (I : Inv X pins σ H s) (hσ : σ[0]? = some (some (.ref x))) (hx : H x = some (.ins D dx fs))
    (h : ta σ H fun v H2 => sp2 [.ref x, v] H2 (fun _ H3 => R H3) E0)
    (he : starEach [arg] X.env = (false, eval arg X.env) :: starEach [] X.env := by rfl) (hpl : (backTo p3 (starEach ([] : List Expr) X.env)).any (·.1) = false := by rfl)
    (ht : eval (.Call (.Attribute (.Call (.Name "super" p0) [] [] p1) "__init__" p2) [arg] [] p3) X.env = (do
      let ov ← attributeBase (.Call (.Name "super" p0) [] [] p1) "__init__" X.env (eval (.Call (.Name "super" p0) [] [] p1) X.env)
      standAt p2.atName
      let (f, first) ← holding [ov] (getMethod ov "__init__" pl)
      callWith p3 f first (backTo p3 (starEach [arg] X.env)) []) := by rfl)
    (hi : interactive X.env = false := by rfl) (hs : swapsWith (.Call (.Attribute (.Call (.Name "super" p0) [] [] p1) "__init__" p2) [arg] [] p3) none p4.line X.env = pure false := by rfl) :
    PySem.wpAt (model X.prog X.w) X.A (.func body X.env) (exec (.Expr (.Call (.Attribute (.Call (.Name "super" p0) [] [] p1) "__init__" p2) [arg] [] p3) p4) X.env) (fun fl s' => fl = .next ∧ ∃ H', Inv X pins σ H' s' ∧ R H') X.xe s := by
  obtain ⟨cl, cld, csl, hcell⟩ := U.cell
  obtain ⟨cd, hD⟩ := U.cls
  obtain ⟨ccl, cdd, vs, ccs, file, tf, hcode, hvs, hfile⟩ := U.code
  have KX := I.kIn
  obtain ⟨oD, hD1, hD2⟩ : ∃ oD, s.heap.get? D = some oD ∧ oD.data = .cls cd := by
    have hD' := hD
    unfold PySem.W.clsIn at hD'
    split at hD'
    · rename_i c d cd' sl ho
      cases hD'
      exact ⟨_, KX _ _ ho, rfl⟩
    · cases hD'
  obtain ⟨mA, O, _⟩ := ins_get I.hok hx
  obtain ⟨od, J, _⟩ := O.look
  refine ks_wpAt_Expr_any ?_ hi hs
  refine ks_wpAt_MethodCall (pl := pl) ?_ ht
  refine ks_wpAt_super_base (env := X.env) hks hkc rfl hfu (KX _ _ hf) hfd hp hco (KX _ _ hcode) rfl hvs hfile U.top ?_
  obtain ⟨mb, h1, h2⟩ := I.mod.blt
  refine PySem.W.ks_loadName_global I.ok.kind hks (Calls.loadGlobal_builtin (by rw [I.ok.glob]; exact I.mod.glob.keeps I.bk) U.gl (by rw [I.ok.blt]; exact h1.keeps I.bk) ((h2 "super" (by decide)).trans (by decide +kernel)) ⟨rfl, ?_⟩)
  refine wpAny_loadName_free I.ok.kind hkc hcl ⟨_, KX _ _ hcell, rfl⟩ ?_
  obtain ⟨m, hn, hl⟩ := id I.loc
  obtain ⟨u, ru, lo⟩ := hl 0 ar.arg (.ref x) hN hσ (.inl har)
  cases (show u = Value.ref x from ru)
  have hm : m ar.arg = some (.ref x) := by
    rcases lo with ⟨_, hm⟩ | ⟨hk, _⟩
    · exact hm
    · rcases hk with hk | hk
      · have : X.env.scope.names.lookup ar.arg = some .cell := hk
        rw [har] at this; cases this
      · have : X.env.scope.names.lookup ar.arg = some .free := hk
        rw [har] at this; cases this
  refine wpAny_loadName_local I.ok.kind har hn hm ?_
  refine ks_wpAny_isType_cls hD1 hD2 ⟨rfl, ?_⟩
  obtain ⟨hh, g, d, t, os⟩ := s
  refine ks_wpAny_call_super hD1 hD2 J.at_ J.cls (fun c e => ?_) (PySem.W.looks_mroIn KX U.sub) (fun h' e k => ?_)
  · have := J.no
    unfold PySem.W.notCls at this
    rw [e] at this
    exact Bool.noConfusion this
  have I1 := pin_new (t' := t) I k (Nat.le_refl _) e (fun v z => by cases z)
  have KX1 := I1.kIn
  have hnx := U.nx
  unfold PySem.W.ks_superIn at hnx
  rw [hD] at hnx
  obtain ⟨of2, hof, hofc⟩ : ∃ of, h'.get? f2 = some of ∧ of.cls = .type "function" := by
    have ht' : (X.K.lookup f2).map (·.cls) = some (.type "function") := U.ty
    cases z : X.K.lookup f2 with
    | none => rw [z] at ht'; cases ht'
    | some of => rw [z] at ht'; exact ⟨of, KX1 _ _ z, Option.some.inj ht'⟩
  refine ks_wpAny_getMethod_super (l₀ := cd.mro) e (PySem.W.looks_opaque KX1 U.any) ?_ rfl KX1 hnx hof hofc (PySem.W.ks_ne KX J hD) (by decide) ?_
  · exact fun A Q E s k q => wpAny_bind ((PySem.W.looks_clsIn KX1 hD) A _ E s k (wpAny_pure q))
  have I2 := met_new (g := f2) (C := x) I1
  have h' : tCons ta tNil σ H (fun vs H2 => sp2 (.ref x :: vs) H2 (fun _ H3 => R H3) E0) := h
  refine callwith_cm I2 (base_none I1 (Nat.le_refl _)) U.fi (thn ((pa_cons ha pa_nil he).run p3 _ _ σ H _ I2 h') fun us s3 ⟨vs', H2, I3, rv, q2⟩ => ⟨⟨pin_at I3, I3.kIn⟩, ?_⟩) he hpl
  refine thn (run_cm F2 hr pass0 I3 rv q2) fun u s4 ⟨w, H3, I4, _, q3⟩ => ⟨rfl, H3, unpin I4, q3⟩
end
/-- a def whose last statement is super().__init__(arg) keeps its promise -/
theorem fnsup {P : Program} {w : World} {K : PySem.W.Frag} {mg : Str → Option Value} {base : Heap} {name qual self : Str} {params : Arguments} {body pre : List Stmt} {scope : Scope} {f cc cda D f2 : Addr} {fd : FuncData} {N ps : List Str} {k k2 : Nat} {sp sp2 : Sp} {arg : Expr} {p0 p1 p2 p3 p4 : Pos} {ar : Arg}
    (F : FunS K name qual params body scope f fd cc cda) (U : SupOf P K mg D cc cda f2) (F2 : FnR P w K mg base CX0 k2 f2 sp2) (hk : k2 ≤ k)
    (hbody : body = pre ++ [.Expr (.Call (.Attribute (.Call (.Name "super" p0) [] [] p1) "__init__" p2) [arg] [] p3) p4])
    (S : NScope N (self :: ps) ["__class__"] scope) (hks : scope.names.lookup ("super" : Str) = some .globalImplicit)
    (hp : (params.posonlyargs ++ params.args).head? = some ar) (hs : ar.arg = self) (hN : N[0]? = some self)
    (len : ∀ vs H Q E, sp vs H Q E → vs.length = (self :: ps).length)
    (hgo : ∀ (A : Around) (outer : List Env) (s : Shared) (H : Hp) (vs : List V) (Q : VK) (E : XK), Room k (A.deeper (envF ⟨name, qual, params, body, scope, [("__class__", cc)], cda⟩ f s.heap.objs.size)) → sp vs H Q E →
      ∃ t ta, PSs (ncx CX0 P w K mg base N ⟨name, qual, params, body, scope, [("__class__", cc)], cda⟩ f A outer s H E).nox pre t ∧ PE (ncx CX0 P w K mg base N ⟨name, qual, params, body, scope, [("__class__", cc)], cda⟩ f A outer s H E).nox arg ta ∧
        t { nx := fun σ H' => ∃ x dx fs, σ[0]? = some (some (.ref x)) ∧ H' x = some (.ins D dx fs) ∧ ta σ H' fun v H2 => sp2 [.ref x, v] H2 (fun _ H3 => Q .non H3) E0, rt := fun _ _ => False } (startF N vs [some (.ref D)]) H)
    (hst : ∀ (X : Cx), starEach [arg] X.env = (false, eval arg X.env) :: starEach [] X.env := by intro _; rfl) (hpl : ∀ (X : Cx), (backTo p3 (starEach ([] : List Expr) X.env)).any (·.1) = false := by intro _; rfl)
    {pl : Cx → Sem Bool}
    (ht : ∀ (X : Cx), eval (.Call (.Attribute (.Call (.Name "super" p0) [] [] p1) "__init__" p2) [arg] [] p3) X.env = (do
      let ov ← attributeBase (.Call (.Name "super" p0) [] [] p1) "__init__" X.env (eval (.Call (.Name "super" p0) [] [] p1) X.env)
      standAt p2.atName
      let (f, first) ← holding [ov] (getMethod ov "__init__" (pl X))
      callWith p3 f first (backTo p3 (starEach [arg] X.env)) []) := by intro _; rfl)
    (hsw : ∀ (X : Cx), swapsWith (.Call (.Attribute (.Call (.Name "super" p0) [] [] p1) "__init__" p2) [arg] [] p3) none p4.line X.env = pure false := by intro _; rfl) :
    FnOk P w K mg base CX0 (k + 1) f fd (self :: ps) sp := by
  obtain ⟨oc, od, dV, kV, doc, pm, an, ct, osl, rfl, lk, hcd, _⟩ := F.ex
  refine ⟨len, fun A outer s H args us vs Q E hr e0 hb r hsp => ?_⟩
  have KX : K.In s.heap := e0.mod.kin.keeps fun b o e => (e0.bs b o e).1
  have hl := len _ _ _ _ hsp
  have lim : s.heap.NoLimit := e0.mod.nolimit.keeps fun b o e => (e0.bs b o e).1
  obtain ⟨cl, cld, csl, hcell⟩ := U.cell
  refine codeAny_call_function hr.depth (KX _ _ lk) rfl S.co S.gen rfl (PySem.W.codeRec_of KX hcd) (hb _ _ _ _ ?_)
  refine wpAny_newFunctionEnv S.nocell (fun ⟨n, _⟩ hy => S.par n (List.of_mem_zip hy).1) (fun h₁ hns hsb => ⟨lim.fresh _ hsb, ?_⟩) S.kind
  show codeAny _ _ (.func body (envF ⟨name, qual, params, body, scope, [("__class__", cc)], cda⟩ f s.heap.objs.size)) _ _
  refine ks_codeAny_funcAt ?_
  have kp : ∀ b o, s.heap.get? b = some o → h₁.get? b = some o := fun b o e => hsb.extBut b o (Nat.ne_of_lt (Heap.lt_size e)) (Heap.get?_push_of_some _ e)
  have hcc : H cc = none := (e0.bs _ _ (e0.mod.kin _ _ hcell)).2
  have look1 : ∀ y c, List.lookup y [(("__class__" : Str), cc)] = some c → y = "__class__" ∧ c = cc := fun y c e => by
    unfold List.lookup at e
    split at e
    · rename_i q
      cases e
      exact ⟨beq_iff_eq.mp q, rfl⟩
    · cases e
  have C : CellsAt [(("__class__" : Str), cc)] ["__class__"] [some (.ref D)] s.heap H := by
    refine ⟨rfl, fun y c e => ?_, fun x y c e e' => ?_, fun i y e => ?_⟩
    · obtain ⟨_, rfl⟩ := look1 y c e
      exact ⟨hcc, _, ⟨_, KX _ _ hcell, rfl⟩⟩
    · exact (look1 _ _ e).1.trans (look1 _ _ e').1.symm
    · rcases i with _ | i
      · cases e
        refine ⟨cc, by unfold List.lookup; rw [beq_self_eq_true], fun v e => ?_⟩
        cases e
        exact ⟨.ref D, rfl, ⟨_, KX _ _ hcell, rfl⟩⟩
      · cases e
  have hroom := hr.deeper (envF ⟨name, qual, params, body, scope, [("__class__", cc)], cda⟩ f s.heap.objs.size)
  obtain ⟨t, ta, h1, h2, h3⟩ := hgo A outer s H vs Q E hroom hsp
  have I : Inv (ncx CX0 P w K mg base N ⟨name, qual, params, body, scope, [("__class__", cc)], cda⟩ f A outer s H E) [] (startF N vs [some (.ref D)]) H { s with heap := h₁, toks := s.toks + ((self :: ps).zip us).length } := inv_startN S hr.hd e0 hl r C hns kp
  have ebody : execs body (envF ⟨name, qual, params, body, scope, [("__class__", cc)], cda⟩ f s.heap.objs.size) = execs (pre ++ [.Expr (.Call (.Attribute (.Call (.Name "super" p0) [] [] p1) "__init__" p2) [arg] [] p3) p4]) (envF ⟨name, qual, params, body, scope, [("__class__", cc)], cda⟩ f s.heap.objs.size) := congrArg (fun b => execs b _) hbody
  rw [ebody, execs_app]
  refine _root_.PySem.wpAt_bind (_root_.PySem.wpAt_of_wpAny (wpAny_mono (h1.nox.run [] _ _ H _ I h3) (fun fl s' hs' => ?_) fun e s' he => he))
  have fin : ∀ {σ' : L2.St} {H' : Hp} {v : V} {u : Value} {s' : Shared}, Inv (ncx CX0 P w K mg base N ⟨name, qual, params, body, scope, [("__class__", cc)], cda⟩ f A outer s H E) [] σ' H' s' → L2.RelV v u → Q v H' → CE outer P w H s Q u s' :=
    fun {σ' H' v u s'} J rv q => ⟨v, H', J.os, J.bare, J.base, J.hok, rv, q⟩
  cases fl with
  | ret u =>
    obtain ⟨_, _, _, _, _, q⟩ := hs'
    exact q.elim
  | next =>
    obtain ⟨σ', H', J, x, dx, fs, hσ, hx, hta⟩ := hs'
    refine ks_wpAt_execs_cons (ks_wpAt_mono (super_stmt (X := ncx CX0 P w K mg base N ⟨name, qual, params, body, scope, [("__class__", cc)], cda⟩ f A outer s H E) (f := f) (cda := cda) (cc := cc) (D := D) (R := fun H3 => Q .non H3) U F2 (hroom.mono hk) hks (S.frk _ List.mem_cons_self) rfl lk rfl hp (by rw [hs]; exact S.par _ List.mem_cons_self) (by rw [hs]; exact hN) rfl (by show List.lookup ("__class__" : Str) [(("__class__" : Str), cc)] = some cc; unfold List.lookup; rw [beq_self_eq_true]) h2.nox J hσ hx hta (hst _) (hpl _) (ht _) (by show interactive (envF ⟨name, qual, params, body, scope, [("__class__", cc)], cda⟩ f s.heap.objs.size) = false; unfold interactive; rw [show (envF ⟨name, qual, params, body, scope, [("__class__", cc)], cda⟩ f s.heap.objs.size).scope.kind = .function from S.kind]; first | rfl | decide) (hsw _)) (fun fl2 s2 h4 => ?_) fun e s2 h4 => h4)
    obtain ⟨rfl, H3, J3, q3⟩ := h4
    exact _root_.PySem.wpAt_of_wpAny (wpAny_pure (fin (v := .non) (u := Value.none) J3 rfl q3))
  | brk =>
    obtain ⟨_, _, _, q⟩ := hs'
    exact q.elim
  | cont =>
    obtain ⟨_, _, _, q⟩ := hs'
    exact q.elim
end MS
open MS
/-- what the text must have for super().__init__, told by a Bool -/
def cellB (K : PySem.W.Frag) (c D : Addr) : Bool := match K.lookup c with
  | some ⟨_, _, .cell (some (.ref d)), _⟩ => d == D
  | _ => false
theorem cellB_ok {K : PySem.W.Frag} {c D : Addr} (h : cellB K c D = true) : ∃ cl cld csl, K.lookup c = some ⟨cl, cld, .cell (some (.ref D)), csl⟩ := by
  unfold cellB at h
  split at h
  · rename_i e
    rw [beq_iff_eq.mp h] at e
    exact ⟨_, _, _, e⟩
  · cases h
def codeB (mf : Str) (K : PySem.W.Frag) (c : Addr) : Bool := match K.lookup c with
  | some ⟨_, _, .fields vs, _⟩ => (match (vs[2]? : Option Value) with
    | some (Value.str f _) => mf == f
    | _ => false)
  | _ => false
theorem codeB_ok {mf : Str} {K : PySem.W.Frag} {c : Addr} (h : codeB mf K c = true) : ∃ ccl cdd vs ccs file tf, K.lookup c = some ⟨ccl, cdd, .fields vs, ccs⟩ ∧ vs[2]? = some (.str file tf) ∧ (mf == file) = true := by
  unfold codeB at h
  split at h
  · rename_i e
    split at h
    · rename_i e2
      exact ⟨_, _, _, _, _, _, e, e2, h⟩
    · cases h
  · cases h
def someNone (o : Option (Option Value)) : Bool := match o with
  | some none => true
  | _ => false
theorem someNone_ok {o : Option (Option Value)} (h : someNone o = true) : o = some none := by
  unfold someNone at h
  split at h
  · rfl
  · cases h
def supB0 (mf : Str) (K : PySem.W.Frag) (D f f2 : Addr) : Bool := cellB K (cellOf K f) D && ((PySem.W.clsIn K D).isSome && (decide (PySem.W.mroIn K D (.ref D) = some true) && (codeB mf K (codeOf K f) && (someNone (PySem.W.nsIn K cStatics "thirdparty.any") &&
  (He.eqO (PySem.W.ks_superIn K D D "__init__") (some (some (.ref f2))) && (decide (PySem.W.typeIn K (.ref f2) = some (.type "function")) && PySem.W.fnIn K f2))))))
theorem supB0_ok {P : Program} {K : PySem.W.Frag} {mg : Str → Option Value} {D f f2 : Addr} (mf : Str) (pf : ((P.main.file : Str) == mf) = true) (top : (P.main.scope.names.lookup ("super" : Str)).isSome = false) (gl : mg "super" = none) (h : supB0 mf K D f f2 = true) : SupOf P K mg D (cellOf K f) (codeOf K f) f2 := by
  unfold supB0 at h
  simp only [Bool.and_eq_true] at h
  obtain ⟨h1, h2, h3, h4, h5, h6, h7, h8⟩ := h
  refine ⟨cellB_ok h1, Option.isSome_iff_exists.mp h2, of_decide_eq_true h3, ?_, gl, someNone_ok h5, He.eqO_ok h6, of_decide_eq_true h7, h8, top⟩
  rw [beq_iff_eq.mp pf]
  exact codeB_ok h4
theorem FunS.bindsN {K : PySem.W.Frag} {x qual : Str} {params : Arguments} {body : List Stmt} {scope : Scope} {f cc cda : Addr} {fd : FuncData} {ps : List Str} (F : FunS K x qual params body scope f fd cc cda)
    (h : ∀ (kV doc pm : Value) (an : Option Addr) (cdv ct : Value) (us : List Value), us.length = ps.length → bindArgs (PySem.W.ksFn x qual params body scope .none kV doc pm an cdv ct cc) ⟨us, []⟩ = pure (ps.zip us)) : Binds K fd ps [] := by
  obtain ⟨oc, od, dV, kV, doc, pm, an, ct, osl, rfl, lk, hcd, hD⟩ := F.ex
  rcases hD with ⟨_, rfl⟩ | ⟨e, _⟩
  · exact .all (h kV doc pm an (.ref cda) ct)
  · exact absurd rfl e
end M

/-! ### part K: the greatest of three ints, the least of a list, truth of an instance -/
namespace M
open PySem PySem.Spec PyProof.Rows L2 Evl
section
variable {X : Cx} {H : Hp} {Q : VK}
def rMax3U : List V → Hp → VK → Prop := fun xs H Q => ∃ i j k, xs = [.int i, .int j, .int k] ∧ Q (.int (max (max i j) k)) H
theorem xMax3 (hc : X.calm = true) : CallR X (.builtin "max") rMax3U := by
  intro pins s σ H xs us Q I r h
  obtain ⟨i, j, k, rfl, q⟩ := h
  have m2 : ∀ a b : Int, nuMax2 (.int a) (.int b) = some (.int (max a b)) := fun a b => by
    show Option.map _ (some (decide (a < b))) = _
    by_cases c : a < b
    · rw [decide_eq_true c, Int.max_eq_right (by omega)]; rfl
    · rw [decide_eq_false c, Int.max_eq_left (by omega)]; rfl
  exact call_max3Nu hc pins s σ H _ us Q I r ⟨_, _, _, _, rfl, by unfold nuMax3; rw [m2]; exact m2 _ _, q⟩
theorem r_max3 {i j k : Int} (q : Q (.int (max (max i j) k)) H) : rMax3U [.int i, .int j, .int k] H Q := ⟨i, j, k, rfl, q⟩
theorem kMinL (K : PySem.W.Frag) (hc : X.calm = true) (h : X.K = K := by rfl) : CallR X (.builtin "min") (rMin K) := by subst h; exact cr_min hc
theorem kMaxL (K : PySem.W.Frag) (hc : X.calm = true) (h : X.K = K := by rfl) : CallR X (.builtin "max") (rMax K) := by subst h; exact cr_max hc
theorem r_minL {K : PySem.W.Frag} {a : Addr} {ns : List Int} (h : SqL K H a (vI ns)) (hn : 0 < ns.length) (q : ∀ m, m ∈ ns → (∀ y, y ∈ ns → m ≤ y) → Q (.int m) H) : rMin K [.ref a] H Q := ⟨a, ns, rfl, h, hn, q⟩
theorem r_maxL {K : PySem.W.Frag} {a : Addr} {ns : List Int} (h : SqL K H a (vI ns)) (hn : 0 < ns.length) (q : ∀ m, m ∈ ns → (∀ y, y ∈ ns → y ≤ m) → Q (.int m) H) : rMax K [.ref a] H Q := ⟨a, ns, rfl, h, hn, q⟩
end
end M

/-! ### part L: static methods of a class -/
namespace M
open PySem PySem.Spec PyProof.Rows L2 Evl
def smF (x m : Str) (K : PySem.W.Frag) : Addr := match PySem.W.recIn K (He.ma K (He.ga K x) m) "staticmethod" with
  | some (.ref f :: _) => f
  | _ => 0
structure SMet (K : PySem.W.Frag) (C : Addr) (m : Str) (p g : Addr) : Prop where
  rd : ClX.CRead K C (.type "type")
  at_ : PySem.W.findCls K (.ref C) (.type "type") m = some (.get (.builtin "staticmethod.__get__") (.ref p) .none (.ref C))
  rc : ∃ rest, PySem.W.recIn K p "staticmethod" = some (.ref g :: rest)
  kp : PySem.W.keepIn K (.ref g) = true
def smB (x m : Str) (K : PySem.W.Frag) : Bool := (match PySem.W.findCls K (.ref (He.ga K x)) (.type "type") m with
    | some (.get (.builtin g) (.ref p) .none (.ref D)) => decide (g = "staticmethod.__get__") && (decide (p = He.ma K (He.ga K x) m) && decide (D = He.ga K x))
    | _ => false) && ((match PySem.W.recIn K (He.ma K (He.ga K x) m) "staticmethod" with
    | some (.ref _ :: _) => true
    | _ => false) && (PySem.W.keepIn K (.ref (smF x m K)) && (PySem.W.readsIn K (He.ga K x) (.type "type") && He.eqO (PySem.W.specialIn K (.ref (He.ga K x)) "__getattribute__") (some (some (.builtin "type.__getattribute__"))))))
theorem smB_ok {x m : Str} {K : PySem.W.Frag} (h : smB x m K = true) : SMet K (He.ga K x) m (He.ma K (He.ga K x) m) (smF x m K) := by
  obtain ⟨h1, h⟩ := Bool.and_eq_true_iff.mp h
  obtain ⟨h2, h⟩ := Bool.and_eq_true_iff.mp h
  obtain ⟨h3, h⟩ := Bool.and_eq_true_iff.mp h
  obtain ⟨h4, h5⟩ := Bool.and_eq_true_iff.mp h
  refine ⟨⟨h4, He.eqO_ok h5⟩, ?_, ?_, h3⟩
  · clear h2 h3
    split at h1
    · rename_i g p D e
      obtain ⟨k1, k⟩ := Bool.and_eq_true_iff.mp h1
      obtain ⟨k2, k3⟩ := Bool.and_eq_true_iff.mp k
      rw [e, of_decide_eq_true k1, of_decide_eq_true k2, of_decide_eq_true k3]
    · cases h1
  · unfold smF
    split at h2
    · rename_i f r e
      exact ⟨r, by rw [e]⟩
    · cases h2
/-- C.m(..), m a staticmethod of the class at C -/
def tSMeth (C : Addr) (sp : Sp) (E : XK) (ta : TE) (t : TA) : TE := fun σ H Q => ta σ H fun x H1 => x = .ref C ∧ t σ H1 fun vs H2 => sp vs H2 Q E
theorem w_smeth {C : Addr} {sp : Sp} {E : XK} {t : TA} {σ : L2.St} {H : Hp} {Q : VK} (h : t σ H fun vs H2 => sp vs H2 Q E) : tSMeth C sp E (tC (.ref C)) t σ H Q := ⟨rfl, h⟩
structure Stm (P : Program) (w : World) (K : PySem.W.Frag) (mg : Str → Option Value) (base : Heap) (k : Nat) (C : Addr) (m : Str) (sp : Sp) : Prop where
  ex : ∃ (p g : Addr) (fd : FuncData) (ps : List Str), SMet K C m p g ∧ FnOk P w K mg base CX0 k g fd ps sp ∧ Binds K fd ps []
section
variable {X : Cx} {CX : CXT} {k j : Nat} {C p g : Addr} {sp : Sp} {E : XK} {o e : Expr} {es : List Expr} {m : Str} {pos apos : Pos} {ta : TE} {t : TA} {pl : Sem Bool}
theorem pe_smeth (he : PE X o ta) (c : SMet X.K C m p g) (F : FnR X.prog X.w X.K X.mg X.base CX k g sp) (hr : Room k X.A) (hx : Passes CX X E) (ha : PA X (e :: es) t)
    (hst : starEach (e :: es) X.env = (false, eval e X.env) :: starEach es X.env := by rfl) (hpl : (backTo pos (starEach es X.env)).any (·.1) = false := by rfl)
    (ht : eval (.Call (.Attribute o m apos) (e :: es) [] pos) X.env = (do
      let ov ← eval o X.env
      standAt apos.atName
      let (f, first) ← holding [ov] (getMethod ov m pl)
      callWith pos f first (backTo pos (starEach (e :: es) X.env)) (backToKw pos (keywordEach [] X.env))) := by rfl) :
    PE X (.Call (.Attribute o m apos) (e :: es) [] pos) (tSMeth C sp E ta t) := by
  refine ⟨fun pins s σ H Q I h => ?_⟩
  refine PySem.W.methodCall_KW (pl := pl) (thn (he.run pins s σ H _ I h) fun u s1 ⟨x, H1, I1, rx, ex, q⟩ => ?_) ht
  subst ex
  obtain rfl : u = Value.ref C := rx
  obtain ⟨rest, hp⟩ := c.rc
  refine PySem.W.method_cls I1.kIn c.rd.ga (PySem.W.cls_bind I1.kIn c.rd.rd c.at_ ?_)
  refine wpAny_call (PySem.W.sm_get (s := { s1 with toks := s1.toks + 1 }) I1.kIn hp (PySem.W.handed_on rfl ?_))
  have I2 := I1.tok (s1.toks + 1)
  refine PySem.W.callWith_K (h₀ := X.base) I.ok.mod.kin c.kp (thn (ha.run pos pins _ σ H1 _ I2 q) fun us s3 ⟨vs, H2, I3, rv, q2⟩ => ⟨I3.kIn, ?_⟩) hst hpl
  exact wpAny_call (run_fnR F hr hx I3 rv q2)
theorem psm (c : Stm X.prog X.w X.K X.mg X.base k C m sp) (hr : Room j X.A) (hk : k ≤ j) (he : PE X o ta) (ha : PA X (e :: es) t)
    (hst : starEach (e :: es) X.env = (false, eval e X.env) :: starEach es X.env := by rfl) (hpl : (backTo pos (starEach es X.env)).any (·.1) = false := by rfl)
    (ht : eval (.Call (.Attribute o m apos) (e :: es) [] pos) X.env = (do
      let ov ← eval o X.env
      standAt apos.atName
      let (f, first) ← holding [ov] (getMethod ov m pl)
      callWith pos f first (backTo pos (starEach (e :: es) X.env)) (backToKw pos (keywordEach [] X.env))) := by rfl) :
    PE X (.Call (.Attribute o m apos) (e :: es) [] pos) (tSMeth C sp E0 ta t) := by
  obtain ⟨p, g, fd, ps, sm, F, hb⟩ := c.ex
  exact pe_smeth (pl := pl) he sm ((F.raw hb .nil).imp fun vs H Q E h => by rw [List.append_nil]; exact h) (hr.mono hk) pass0 ha hst hpl ht
end
end M

namespace M
open PySem PySem.Spec PyProof.Rows L2 Evl MS
--@import HandS.Text
--@import HandS.Iter
--@import HandS.Walk
/-! texts: comparing, joining, splitting, reading and writing numbers, walking the signs -/
def rLeU : R2 := fun x y H Q => rI0 (fun i j => .bl (decide (i ≤ j))) x y H Q ∨ ∃ i j, x = .str i ∧ y = .str j ∧ Q (.bl (!decide (j.cps.toList < i.cps.toList))) H
theorem xLeS {X : Cx} : OpR X (compareOp .LtE) rLeU := op_le.or op_le_str
def rJoin (K : PySem.W.Frag) : V → List V → Hp → VK → Prop := fun x xs H Q => ∃ a p, ∃ ys : List Str, x = .str a ∧ xs = [.ref p] ∧ (SqL K H p (ys.map V.str) ∨ SqT K H p (ys.map V.str)) ∧ (ys.map (·.length)).sum + ys.length * a.length ≤ 16777216 ∧ Q (.str (Txt.join a ys)) H
def rSplit : V → List V → Hp → VK → Prop := fun x xs H Q => ∃ a b, x = .str a ∧ xs = [.str b] ∧ (b.length == 0) = false ∧ a.length + 2 ≤ sizeLine ∧ rNewStrs (Txt.split a b) H Q
section
variable {X : Cx} {o e : Expr} {to te : TE} {apos pos : Pos}
theorem kJoin (K : PySem.W.Frag) (ho : PE X o to) (he : PE X e te) (hs : starEach [e] X.env = [(false, eval e X.env)] := by rfl) (hbase : attributeBase o "join" X.env (eval o X.env) = eval o X.env := by rfl) (hline : (apos.endLine == pos.line) = true := by rfl) (h : X.K = K := by rfl) :
    PE X (.Call (.Attribute o "join" apos) [e] [] pos) (tM1 (rJoin K) to te) := by subst h; exact pe_join ho he hs hbase hline
theorem xSplit (ho : PE X o to) (he : PE X e te) (hs : starEach [e] X.env = [(false, eval e X.env)] := by rfl) (hbase : attributeBase o "split" X.env (eval o X.env) = eval o X.env := by rfl) (hline : (apos.endLine == pos.line) = true := by rfl) :
    PE X (.Call (.Attribute o "split" apos) [e] [] pos) (tM1 rSplit to te) := pe_split ho he hs hbase hline
end
def rIntS : List V → Hp → VK → Prop := fun xs H Q => ∃ a n, xs = [.str a] ∧ PySem.intText? a = some n ∧ a.length ≤ 640 ∧ Q (.int n) H
theorem xIntS {X : Cx} : CallR X (.type "int") rIntS := call_int_str
def rStrI : List V → Hp → VK → Prop := fun xs H Q => ∃ i, xs = [.int i] ∧ i.natAbs.log2 < 1920 ∧ Q (.str (toString i)) H
theorem xStrI {X : Cx} : CallR X (.type "str") rStrI := call_str_int
def rLenS : List V → Hp → VK → Prop := fun xs H Q => ∃ z, xs = [.str z] ∧ z.length ≤ sizeLine ∧ Q (.int z.length) H
theorem xLenS {X : Cx} : CallR X (.builtin "len") rLenS := call_len_str
theorem kFldAug (K : PySem.W.Frag) {X : Cx} {o value : Expr} {f : Str} {op : Operator} {pos tpos : Pos} {ta tv : TE} {rd : V → V → Hp → VK → Prop} (ha : PE X o ta) (hv : PE X value tv) (hop : InOp X op rd) (h : X.K = K := by rfl) : PS X (.AugAssign (.Attribute o f tpos) op value pos) (sFldAug K ta tv rd f) := by
  subst h
  exact ps_fldaug ha hv hop
section
variable {K : PySem.W.Frag} {H : Hp} {Q : VK} {σ : L2.St}
theorem r_leUI {i j : Int} (h : Q (.bl (decide (i ≤ j))) H) : rLeU (.int i) (.int j) H Q := .inl ⟨i, j, rfl, rfl, h⟩
theorem r_leUS {i j : Str} (h : Q (.bl (!decide (j.cps.toList < i.cps.toList))) H) : rLeU (.str i) (.str j) H Q := .inr ⟨i, j, rfl, rfl, h⟩
theorem w_m1 {r : V → List V → Hp → VK → Prop} {to te : TE} (h : to σ H fun x H1 => (∃ a, x = .str a) ∧ te σ H1 fun y H2 => r x [y] H2 Q) : tM1 r to te σ H Q := h
theorem r_joinL {a : Str} {p : Addr} {ys : List Str} (h : SqL K H p (ys.map V.str)) (hz : (ys.map (·.length)).sum + ys.length * a.length ≤ 16777216) (q : Q (.str (Txt.join a ys)) H) : rJoin K (.str a) [.ref p] H Q := ⟨a, p, ys, rfl, rfl, .inl h, hz, q⟩
theorem r_split {a b : Str} (hb : (b.length == 0) = false) (hz : a.length + 2 ≤ sizeLine) (q : ∀ p H1, H p = none → Ex H H1 → H1 p = some (.lst ((Txt.split a b).map V.str)) → Q (.ref p) H1) : rSplit (.str a) [.str b] H Q :=
  ⟨a, b, rfl, rfl, hb, hz, fun p hp => q p _ hp (Ex.new hp) upd_same⟩
theorem r_strI {i : Int} (hz : i.natAbs.log2 < 1920) (q : Q (.str (toString i)) H) : rStrI [.int i] H Q := ⟨i, rfl, hz, q⟩
theorem r_intS {a : Str} {n : Int} (hn : PySem.intText? a = some n) (hz : a.length ≤ 640) (q : Q (.int n) H) : rIntS [.str a] H Q := ⟨a, n, rfl, hn, hz, q⟩
theorem r_lenS {a : Str} (hz : a.length ≤ sizeLine) (q : Q (.int a.length) H) : rLenS [.str a] H Q := ⟨a, rfl, hz, q⟩
theorem r_ixS {z : Str} {i : Int} {c : Nat} (hz : z.length ≤ sizeLine) (ha : atI z.cps.toList i = some c) (q : Q (.str ⟨#[c]⟩) H) : rIx K (.str z) (.int i) H Q := .inr (.inr ⟨z, i, c, rfl, rfl, hz, ha, q⟩)
theorem w_fldAug {a C dx dx' : Addr} {fs fs' : List (Str × V)} {ta tv : TE} {rd : V → V → Hp → VK → Prop} {f : Str} {D : Ends}
    (h : ta σ H fun x H1 => ∃ a C dx fs v, x = .ref a ∧ H1 a = some (.ins C dx fs) ∧ Cls K C ∧ NoAttr K C f ∧ fs.lookup f = some v ∧ tv σ H1 fun y H2 => rd v y H2 fun z H3 => ∃ dx' fs', H3 a = some (.ins C dx' fs') ∧ fs'.length < 1000 ∧ D.nx σ (upd H3 a (.ins C dx' (putF f z fs')))) : sFldAug K ta tv rd f D σ H := h
theorem i_str {te : TE} {R : It → Hp → Prop} (h : te σ H fun v H1 => ∃ x, v = .str x ∧ R (Its x) H1) : iStr te σ H R := h
/-- a comprehension over a text's signs -/
theorem lcJ_str {z : Str} {j : Nat} {te : TE} {vs : List Nat} (v : Nat → V) (hn : z.cps.size ≤ 100000) (σ' : V → L2.St) (hσ : ∀ x, (wipe σ vs).set j (some x) = σ' x) (hw : ∀ x, wipe ((wipe σ vs).set j (some x)) vs = wipe σ vs)
    (he : ∀ (c : Nat) (H1 : Hp) (Q' : VK), Ex H H1 → c ∈ z.cps.toList → (∀ H2, Ex H1 H2 → Q' (v c) H2) → te (σ' (.str ⟨#[c]⟩)) H1 Q')
    (hq : ∀ p H2, H p = none → Ex H H2 → H2 p = some (.lst (z.cps.toList.map v)) → Q (.ref p) H2) : LcJ (Its z) (gName j) tYes te vs σ H Q := fun D hD => by
  have hsz : z.cps.toList.length = z.cps.size := Array.length_toList
  have key := lc_it (J := Its z) (n := z.cps.size) (G := fun _ => True) (Y := fun i H x H' => H' = H ∧ ∃ c, z.cps[i]? = some c ∧ x = .str ⟨#[c]⟩) ⟨fun _ _ hi _ => hi, fun _ _ => Nat.le_refl _, fun _ _ _ _ _ _ y => y⟩
    (g := gName j) (tt := tYes) (te := te) (vs := vs) (σ := σ) (H1 := H) (D := D) (Qd := Q (.ref D)) (fun i H' => Ex H H' ∧ H' D = some (.lst ((z.cps.toList.take i).map v))) ⟨Ex.new hD, upd_same⟩ (fun _ _ _ _ => trivial) ?_ (fun H' p => hq D H' hD p.1 (by
      have e := p.2
      rwa [← hsz, List.take_length] at e))
  · exact key
  · rintro i x H' H'' hi p ⟨rfl, c, hc, rfl⟩
    refine ⟨hw _, ?_⟩
    show te ((wipe σ vs).set j _) H'' _
    rw [hσ]
    have hcl : z.cps.toList[i]? = some c := by rw [Array.getElem?_toList]; exact hc
    refine he c H'' _ p.1 (List.mem_of_getElem? hcl) fun H2 e2 => ⟨(z.cps.toList.take i).map v, e2 D _ p.2, sz_lt (by rw [List.length_map, List.length_take]; omega), Ex.mut (p.1.trans e2) hD, ?_⟩
    rw [List.take_add_one, hcl, List.map_append]
    exact upd_same
end

end M
namespace M
open PySem PySem.Spec PyProof.Rows L2 Evl MS
--@import PyProof.Draws
--@import HandS.Iter
/-! enumerate of a text -/
/-- the signs of x, each with its place in a new pair -/
def Ites (x : Str) : It :=
  ⟨fun i _ => i < x.cps.size, fun i H v H' => ∃ T c, v = .ref T ∧ H T = none ∧ H' = upd H T (.tup [.int (i : Nat), .str ⟨#[c]⟩]) ∧ x.cps[i]? = some c, fun i _ => x.cps.size ≤ i⟩
theorem turn_enumS {P : Program} {w : World} {K : PySem.W.Frag} {elts : List Expr} {kk : Nat} {tpos : Pos} (e it : Addr) (x : Str) (t : Tok) (ty : String) (hty : ty = "str_ascii_iterator" ∨ ty = "str_iterator") :
    Turn P w K (.Tuple elts kk tpos) (Ites x) [e, it] e (fun i h => (∃ old, IsEnum h e it ((i : Nat) : Int) old) ∧ h.IsStrIter it ty x t i ∧ e ≠ it) where
  mem := by simp
  obj := fun i h st b hb => by
    obtain ⟨⟨old, he⟩, ⟨o, ho, hc, hd⟩, _⟩ := st
    have e' : b = e ∨ b = it := by simpa using hb
    rcases e' with z | z
    · rw [z]; exact ⟨_, he, fun v q => nomatch q⟩
    · rw [z]; exact ⟨o, ho, fun v q => by rw [hd] at q; cases q⟩
  keep := fun i h h' st k => let ⟨⟨old, he⟩, ⟨o, ho, r⟩, hne⟩ := st; ⟨⟨old, k e (by simp) _ he⟩, ⟨o, k it (by simp) o ho, r⟩, hne⟩
  item := by
    intro X hP hw hK hc i pins s σ H E I hf st hg
    subst hP hw hK
    obtain ⟨⟨old, he⟩, hit, hne⟩ := st
    have hel : e < s.heap.objs.size := Heap.lt_size he
    have hil : it < s.heap.objs.size := by obtain ⟨_, q, _⟩ := hit; exact Heap.lt_size q
    have D : Draws X.prog X.w X.A.in1 it [it] x.cps.size (fun i v => ∃ c u, x.cps[i]? = some c ∧ v = .str ⟨#[c]⟩ u) (fun i h => h.IsStrIter it ty x t i) := by
      rcases hty with q | q
      · rw [q]; exact Draws.strAscii (show X.A.in1.handled = none from I.ok.hd hc) it x t
      · rw [q]; exact Draws.strWide (show X.A.in1.handled = none from I.ok.hd hc) it x t
    refine wpAny_pyNext_enum_itemD D he hit hg hne (by simpa using hne) fun u h' tk hP ho hit' hT hsz hk => ?_
    obtain ⟨c, tu, hcx, rfl⟩ := hP
    refine ⟨_, rfl, wpAny_letOwnedTupleGo_enum (s := { s with heap := h', toks := tk + 1 }) ho fun h'' he' sb => ?_⟩
    have hT2 : h''.get? s.heap.objs.size = some { cls := .type "tuple", data := .seq #[.int i tk, .str ⟨#[c]⟩ tu] } := (sb.2 _ (Nat.ne_of_gt hel)).trans hT
    have new : ObjOk X.prog X.w (upd H s.heap.objs.size (.tup [.int (i : Nat), .str ⟨#[c]⟩])) h'' s.heap.objs.size (.tup [.int (i : Nat), .str ⟨#[c]⟩]) :=
      ⟨by show 2 ≤ sizeLine; decide, [.int i tk, .str ⟨#[c]⟩ tu], .cons ⟨_, rfl⟩ (.cons ⟨_, rfl⟩ .nil), ⟨_, hT2, rfl, _, rfl⟩⟩
    have I1 : Inv X pins σ (upd H s.heap.objs.size (.tup [.int (i : Nat), .str ⟨#[c]⟩])) { s with heap := h'', toks := tk + 1 } :=
      I.turnedNew (ch := [e, it]) (fun b o hb q => (sb.2 b (fun z => hb (by simp [z]))).trans (hk b o (fun z => hb (by simp [z])) (fun z => hb (by simp [z])) q)) hf (Nat.le_refl _) new
    refine ⟨.ref s.heap.objs.size, _, I1, rfl, ⟨_, c, rfl, I.hok.fresh (Nat.le_refl _), rfl, hcx⟩, ⟨⟨.str ⟨#[c]⟩ tu, ?_⟩, ?_, hne⟩, fun b hb => ?_⟩
    · have e1 : ((i + 1 : Nat) : Int) = (i : Int) + 1 := by omega
      rw [e1]; exact he'
    · obtain ⟨o, ho2, r⟩ := hit'
      exact ⟨o, (sb.2 it (Ne.symm hne)).trans ho2, r⟩
    · have hb' : b < s.heap.objs.size := by
        have e' : b = e ∨ b = it := by simpa using hb
        rcases e' with z | z
        · rw [z]; exact hel
        · rw [z]; exact hil
      rw [upd_ne (Nat.ne_of_lt hb')]
      exact (hf b hb).1
  done := by
    intro X hP hw hK hc i pins s σ H E I hf st hg
    subst hP hw hK
    obtain ⟨⟨old, he⟩, hit, hne⟩ := st
    obtain ⟨f0, f1, f2, f3, f4, f5⟩ := hf it (by simp)
    have hx : x.cps[i]? = none := Array.getElem?_eq_none hg
    have hT : s.TypeIs (.ref e) "enumerate" := ⟨_, he, rfl⟩
    have fin : ∀ h', Heap.ExtBut it s.heap h' → Inv X pins σ H { s with heap := h' } := fun h' eb => I.turned (t' := s.toks) (fun b o hb q => eb b o hb q) f0 f1 f3 f4 f5
    unfold pyNext
    refine wpAny_bind (wpAny_attempt (wpAny_callSpecial?_slot (name := Str.ofString "__next__") hT F.slot_enumerate_next
      (wpAny_call_entry F.slot_enumerate_next hT F.entry_enumerate_next ?_ (F.args_enumerate_next_1 _))))
    show wpAny _ _ (field (.ref e) 2 >>= _) _ _ _
    refine wpAny_bind (wpAny_field he rfl (x := .ref it) rfl ?_)
    rcases hty with q | q
    · rw [q] at hit
      refine wpAny_bind (wpAny_nextOf_ascii_end (I.ok.hd hc) hit hx fun h' z he' hx' => ?_)
      obtain ⟨o, ho, hc'⟩ := hx'
      refine wpAny_bind (wpAny_isInstance (T := "StopIteration") (b := true) ⟨o, ho, hc'⟩ isSubtype_stop ?_)
      exact wpAny_pure ⟨rfl, fin h' he'⟩
    · rw [q] at hit
      refine wpAny_bind (wpAny_nextOf_wide_end (I.ok.hd hc) hit hx fun h' z he' hx' => ?_)
      obtain ⟨o, ho, hc'⟩ := hx'
      refine wpAny_bind (wpAny_isInstance (T := "StopIteration") (b := true) ⟨o, ho, hc'⟩ isSubtype_stop ?_)
      exact wpAny_pure ⟨rfl, fin h' he'⟩
  self := fun A i s Q E st h => let ⟨⟨_, he⟩, _⟩ := st; wpAny_pyIter_enum he h
def iEnumS (ta : TA) : TI := fun σ H R => ta σ H fun vs H1 => ∃ x, vs = [.str x] ∧ R (Ites x) H1
theorem pi_enumS {X : Cx} {e : Expr} {ta : TA} {p pos tpos : Pos} {elts : List Expr} {kk : Nat} (hg : Gl X "enumerate") (hm : X.mg "enumerate" = none) (ha : PA X [e] ta) (hs : starEach [e] X.env = [(false, eval e X.env)] := by rfl) :
    PI X (.Tuple elts kk tpos) (.Call (.Name "enumerate" p) [e] [] pos) (iEnumS ta) := by
  refine ⟨fun pins s σ H R I h => ?_⟩
  refine Call_ (ld_blt I hg hm boot_enumerate (PyProof.Rows.callWith_type1 (thn (ha.run pos pins s σ H _ I h) fun us s1 ⟨vs, H1, I1, r1, q1⟩ => ?_) hs rfl))
  obtain ⟨x, ex, q⟩ := q1
  subst ex
  cases r1 with
  | cons r rr =>
    cases rr
    obtain ⟨t, rfl⟩ := r
    refine call_enumerate_str fun h' he hit hsz hk => wpAny_pyIter_enum he ?_
    have I2 : Inv X pins σ H1 { s1 with heap := h' } := I1.kept (t' := s1.toks) hk
    have hty : (if x.cps.all (· < 128) then "str_ascii_iterator" else "str_iterator") = "str_ascii_iterator" ∨ (if x.cps.all (· < 128) then "str_ascii_iterator" else "str_iterator") = "str_iterator" := by
      split
      · exact .inl rfl
      · exact .inr rfl
    refine ⟨s1.heap.objs.size + 1, [s1.heap.objs.size + 1, s1.heap.objs.size], _, _, H1, rfl, I2, turn_enumS (s1.heap.objs.size + 1) s1.heap.objs.size x t _ hty, ⟨⟨.none, he⟩, hit, Nat.succ_ne_self _⟩, fun b hb => ?_, q⟩
    have e' : b = s1.heap.objs.size + 1 ∨ b = s1.heap.objs.size := by simpa using hb
    have hle : s1.heap.objs.size ≤ b := by
      rcases e' with z | z
      · rw [z]; exact Nat.le_add_right _ _
      · rw [z]; exact Nat.le_refl _
    exact I1.fpOk hle (I1.hok.fresh hle)

end M
namespace M
open PySem PySem.Spec PyProof.Rows L2 Evl MS
/-! a def called with some of its defaults left out -/
structure FnD (P : Program) (w : World) (K : PySem.W.Frag) (mg : Str → Option Value) (base : Heap) (CX : CXT) (k : Nat) (x : Str) (sp : Sp) (dvs : List V) : Prop where
  ex : ∃ (f : Addr) (fd : FuncData) (ps : List Str) (ds : List Value), FnOk P w K mg base CX k f fd ps sp ∧ mg x = some (.ref f) ∧ PySem.W.keepIn K (.ref f) = true ∧ Binds K fd ps ds ∧ Vals dvs ds
theorem pcD {X : Cx} {CX : CXT} {k j : Nat} {x : Str} {sp : Sp} {dvs : List V} {E : XK} {p pos : Pos} {e : Expr} {es : List Expr} {t : TA} (c : FnD X.prog X.w X.K X.mg X.base CX k x sp dvs) (hr : Room j X.A) (hk : k ≤ j) (hx : Passes CX X E) (hg : Gl X x) (ha : PA X (e :: es) t)
    (hdb : (x == ("__debug__" : Str)) = false := by decide) (he : starEach (e :: es) X.env = (false, eval e X.env) :: starEach es X.env := by rfl) (hpl : (backTo pos (starEach es X.env)).any (·.1) = false := by rfl) :
    PE X (.Call (.Name x p) (e :: es) [] pos) (tCall sp dvs E t) := by
  obtain ⟨f, fd, ps, ds, F, hm, hkp, hb, hd⟩ := c.ex
  exact pe_call F (hr.mono hk) hg hm hkp hb hd hx ha hdb he hpl
theorem w_callD {σ : L2.St} {H : Hp} {Q : VK} {sp : Sp} {dvs : List V} {E : XK} {t : TA} (h : t σ H fun vs H1 => sp (vs ++ dvs) H1 Q E) : tCall sp dvs E t σ H Q := h

end M
namespace M
open PySem PySem.Spec PyProof.Rows L2 Evl MS
--@import HandS.Deep
--@import KE.DataFind
/-! t.count(x) of a tuple; x in t of a tuple, by data -/
def rCountT (K : PySem.W.Frag) : V → List V → Hp → VK → Prop := fun x xs H Q => ∃ (a : Addr) (y : V) (d : PyData) (ds : List PyData), x = V.ref a ∧ xs = [y] ∧ Dp K H (V.ref a) (.tuple ds) ∧ Dp K H y d ∧ SeqAt.shaped (.tuple ds) = true ∧ SeqAt.shaped d = true ∧ Q (.int ((ds.countP fun z => PyData.eqv z d : Nat) : Int)) H
theorem mt_countT {X : Cx} (hu : X.A.units + 65 < cLine) : MtR X "tuple.count" (rCountT X.K) := by
  intro pins s σ H x xs v us Q I rx rxs h
  obtain ⟨a, y, d, ds, rfl, rfl, hl, hy, sl, sd, q⟩ := h
  cases rx
  cases rxs with
  | cons ry rt =>
    rename_i uy ut
    cases rt
    obtain ⟨bs, r1⟩ := Dp.reads I d y uy hy ry
    have hxs : PyData.canLayAll0 ds = true := SeqAt.canLay_of_shaped sl
    have hroom : X.A.units + 1 + min (PyData.depthAll ds) d.depth < cLine := by
      have := SeqAt.depth_of_shaped sd
      omega
    cases hl with
    | tup hs ha =>
      obtain ⟨its, rv, p, hlen⟩ := I.tuple hs
      obtain ⟨as, h4⟩ := Dp.readsAll I ds _ its ha rv
      exact SeqAt.count_tuple_data p (show ReadsAll s.heap its.toArray.toList ds as from h4) r1 (PyData.plainAll_of_canLay0 ds hxs) (PyData.plain_of_canLay0 d (SeqAt.canLay_of_shaped sd)) hroom ⟨.int _, H, I.tok _, ⟨_, rfl⟩, q⟩
theorem kCountT (K : PySem.W.Frag) {X : Cx} {j : Nat} (hr : Room j X.A) (h : X.K = K := by rfl) : MtR X "tuple.count" (rCountT K) := by subst h; exact mt_countT (by have := hr.un; omega)
def rInT (K : PySem.W.Frag) : R2 := fun x y H Q => ∃ d ds, Dp K H x d ∧ Dp K H y (.tuple ds) ∧ SeqAt.shaped d = true ∧ SeqAt.shaped (.tuple ds) = true ∧ Q (.bl (ds.any fun z => PyData.eqv z d)) H
theorem op_inT {X : Cx} (hu : X.A.units + 65 < cLine) : OpR X (compareOp .In) (rInT X.K) := by
  intro pins s σ H x y v u Q I rx ry h
  obtain ⟨d, ds, hd, he, sd, se, q⟩ := h
  obtain ⟨as, r1⟩ := Dp.reads I d x v hd rx
  obtain ⟨bs, r2⟩ := Dp.reads I (.tuple ds) y u he ry
  exact SeqAt.in_tuple_reads r2 r1 (SeqAt.canLay_of_shaped se) (SeqAt.canLay_of_shaped sd) (room_in_shaped sd hu) ⟨.bl _, H, I, rfl, q⟩
theorem kInT (K : PySem.W.Frag) {X : Cx} {j : Nat} (hr : Room j X.A) (h : X.K = K := by rfl) : OpR X (compareOp .In) (rInT K) := by subst h; exact op_inT (by have := hr.un; omega)

end M
namespace M
open PySem PySem.Spec PyProof.Rows L2 Evl MS
--@import HandS.ExcOwn
/-! an instance made inside try, where what its __init__ raises is wished for at the caller's slots -/
section
variable {X : Cx} {CX : CXT} {k j : Nat} {f C : Addr} {fd : FuncData} {ps : List Str} {sp : Sp} {E : L2.St → XK} {W : WX} {x : Str} {ds : List Value} {dvs : List V} {p pos : Pos} {e : Expr} {es : List Expr} {t : TA}
theorem run_makeS {pins : List (Addr × Obj)} {σ : L2.St} {H : Hp} {s : Shared} {Q : VK} {us : List Value} {vs : List V} (M : Mk X.K C f) (F : FnOk X.prog X.w X.K X.mg X.base CX k f fd ps sp) (hr : Room (k + 1) X.A) (hb : Binds X.K fd ps ds) (hd : Vals dvs ds)
    (hx : PassesAt CX X σ (E σ)) (I : Inv X pins σ H s) (r : Vals vs us)
    (h : ∀ x dx, H x = none → H dx = none → dx ≠ x → sp (.ref x :: (vs ++ dvs)) (upd (upd H dx (.own x)) x (.ins C dx [])) (fun v H2 => v = .non ∧ Q (.ref x) H2) (E σ)) :
    wpAny (model X.prog X.w) X.A (call (.ref C) us) (EP X pins σ Q) X.xe s := by
  have hq := h (s.heap.objs.size + 1) s.heap.objs.size (I.hok.fresh (Nat.le_succ _)) (I.hok.fresh (Nat.le_refl _)) (Nat.ne_of_lt (Nat.lt_succ_self _))
  have I2 := Inv.made (C := C) I
  have r2 : Vals (V.ref (s.heap.objs.size + 1) :: (vs ++ dvs)) (Value.ref (s.heap.objs.size + 1) :: (us ++ ds)) := .cons rfl (r.append hd)
  have hl : (Value.ref (s.heap.objs.size + 1) :: us ++ ds).length = ps.length := by
    have e := r2.length
    rw [F.len _ _ _ _ hq] at e
    exact e.symm
  refine wpAny_call (make_map (f := f) I.kIn M.makes M.init (beq_iff_eq.mp M.fn) (codeAny_mono (F.run _ X.stack _ _ ⟨Value.ref (s.heap.objs.size + 1) :: us, []⟩ (Value.ref (s.heap.objs.size + 1) :: (us ++ ds)) _ _ (E σ) (hr.make C us [])
    (I2.env0.make C us []) (hb _ (Value.ref (s.heap.objs.size + 1) :: us) I2.kIn hl) r2 hq) fun r s' hq' => ?_))
  cases r with
  | error e => exact hx pins _ _ e s' I2 hq'
  | ok fl =>
    cases fl with
    | ret u =>
      obtain ⟨v, H', I3, rv, ev, q3⟩ := I2.after hq'
      subst ev
      exact ⟨rv, ⟨V.ref (s.heap.objs.size + 1), H', I3, rfl, q3⟩⟩
    | next => exact False.elim hq'
    | brk => exact False.elim hq'
    | cont => exact False.elim hq'
def tMakeS (C : Addr) (sp : Sp) (dvs : List V) (W : WX) (t : TA) : TE := fun σ H Q => t σ H fun vs H1 => ∀ x dx, H1 x = none → H1 dx = none → dx ≠ x → sp (.ref x :: (vs ++ dvs)) (upd (upd H1 dx (.own x)) x (.ins C dx [])) (fun v H2 => v = .non ∧ Q (.ref x) H2) (WE W σ)
theorem pmkS (c : Mkc X.prog X.w X.K X.mg X.base (L2.CX X.prog X.w) k x C sp dvs) (hr : Room j X.A) (hk : k + 1 ≤ j) (tk : Takes X W) (hg : Gl X x) (ha : PA X (e :: es) t)
    (hdb : (x == ("__debug__" : Str)) = false := by decide) (he : starEach (e :: es) X.env = (false, eval e X.env) :: starEach es X.env := by rfl) (hpl : (backTo pos (starEach es X.env)).any (·.1) = false := by rfl) :
    PE X (.Call (.Name x p) (e :: es) [] pos) (tMakeS C sp dvs W t) := by
  obtain ⟨f, fd, ps, ds, M, F, hm, hb, hd⟩ := c.ex
  refine ⟨fun pins s σ H Q I h => ?_⟩
  refine wpAny_Call_Name_kw (ld_glob I hg hm ?_ hdb)
  refine PySem.W.callWith_K (h₀ := X.base) I.ok.mod.kin M.kp (thn (ha.run pos pins s σ H _ I h) fun us s1 ⟨vs, H1, I1, r, q⟩ => ⟨I1.kIn, ?_⟩) he hpl
  exact run_makeS (E := WE W) M F (hr.mono hk) hb hd (passAt tk σ) I1 r q
theorem w_makeS {σ : L2.St} {H : Hp} {Q : VK} (h : t σ H fun vs H1 => ∀ x dx, H1 x = none → H1 dx = none → dx ≠ x → sp (.ref x :: (vs ++ dvs)) (upd (upd H1 dx (.own x)) x (.ins C dx [])) (fun v H2 => v = .non ∧ Q (.ref x) H2) (WE W σ)) : tMakeS C sp dvs W t σ H Q := h
end

end M
namespace M
open PySem PySem.Spec PyProof.Rows L2 Evl MS
--@import HandS.ExcInit
--@import HandS.ExcField
--@import HandS.ExcOwn
--@import HandS.TryMany
--@import KE.KExcSuper
/-! own exceptions whose __init__ begins with super().__init__(..) -/
namespace XS
open NdefX ClX
/-- what super() asks of the text: D the class around the def, cc its cell, cda the def's code -/
structure SupX (P : Program) (K : PySem.W.Frag) (mg : Str → Option Value) (D cc cda : Addr) : Prop where
  cell : ∃ cl cld csl, K.lookup cc = some ⟨cl, cld, .cell (some (.ref D)), csl⟩
  cls : ∃ cd, PySem.W.clsIn K D = some cd
  code : ∃ ccl cdd vs ccs file tf, K.lookup cda = some ⟨ccl, cdd, .fields vs, ccs⟩ ∧ vs[2]? = some (.str file tf) ∧ ((P.main.file : Str) == file) = true
  gl : mg "super" = none
  any : PySem.W.nsIn K cStatics "thirdparty.any" = some none
  top : (P.main.scope.names.lookup ("super" : Str)).isSome = false
/-- what the instance's class C has: D above it, and ValueError's __init__ behind D -/
structure SupC (K : PySem.W.Frag) (D C : Addr) : Prop where
  sub : PySem.W.mroIn K C (.ref D) = some true
  nx : PySem.W.ks_superIn K C D "__init__" = some (some (.builtin "ValueError.__init__"))
  ve : PySem.W.subIn K (.ref C) (.type "ValueError") = some true
section
variable {X : Cx} {pins : List (Addr × Obj)} {σ : L2.St} {H : Hp} {s : Shared} {D C cc cda f x u : Addr} {R : Hp → Prop}
/-- the bound __init__ called: nothing that is told changes -/
theorem call_mw {A : Around} {E : Value → Shared → Prop} {us : List Value} {Q : Value → Shared → Prop} (T : OexC X.K C) (I : Inv X pins σ H s) (hx : H x = some (exo x C none)) (hu : s.heap.get? u = some (PySem.W.kxs_mw "ValueError.__init__" x)) (hl : us.length ≤ sizeLine)
    (h : ∀ s', Inv X pins σ H s' → Q .none s') : wpAny (model X.prog X.w) A (call (.ref u) us) Q E s := by
  obtain ⟨nm, q, N, bs, bm, sn, sub, ab, col, dd, k0, k1, k2, k3, k5, hC, _⟩ := T.cls
  obtain ⟨t1, ho⟩ := exo_at I.hok hx
  obtain ⟨hp, g, d, t, os⟩ := s
  refine wpAny_call (codeAny_of_tree ?_)
  show wpAny _ A.in1 (callAny (.ref u) ⟨us, []⟩) _ _ _
  simp only [callAny]
  refine wpAny_bind (wpAny_load hu ?_)
  simp only [PySem.W.kxs_mw]
  rw [if_pos (by decide)]
  refine PySem.W.KFB.if_so (by decide) (wpAny_bind (PySem.W.check_bound_init F.excBase_ValueError.toExcCallFacts (I.kIn _ _ hC) ho rfl ?_))
  refine wpAny_bind (wpAny_pure (wpAny_pure ⟨PySem.plainId_quiet F.excBase_ValueError.init.plain _, codeAny_builtin F.excBase_ValueError.initEntry ?_⟩))
  refine PySem.W.exc_init_tree (cls := .ref C) (t0 := t1) (dv := none) (c2 := .none) (c3 := .none) (b4 := .bool false) ho hl fun h' k hx' _ => ?_
  have J := I.write (t' := t) (x := x) (e := x) (o := exo x C none) (by rw [hx]; exact True.intro) (.inl rfl) k ⟨_, hx'⟩ (exo_ok hx')
  have eu : upd H x (exo x C none) = H := funext fun b => by
    by_cases hb : b = x
    · rw [hb, upd_same, hx]
    · exact upd_ne hb
  rw [eu] at J
  exact h _ J
theorem mw_call1 {M : Model} {A : Around} {E : Value → Shared → Prop} {s : Shared} {pos : Pos} {env : Env} {e : Expr} {rest : List Expr} {Q : Value → Shared → Prop} {i : String}
    (h : wpAny M A (spliced (backTo pos (starEach (e :: rest) env))) (fun vs s₁ => PySem.W.KxsAt i u x s₁.heap ∧ wpAny M A (call (.ref u) vs) Q E s₁) E s)
    (he : starEach (e :: rest) env = (false, eval e env) :: starEach rest env) (hpl : (backTo pos (starEach rest env)).any (·.1) = false) : wpAny M A (callWith pos (.ref u) [] (backTo pos (starEach (e :: rest) env)) []) Q E s := by
  rw [he] at h ⊢
  exact PySem.W.kxs_callWith (i := i) (x := x) (by show (false || (backTo pos (starEach rest env)).any (·.1)) = false; rw [hpl]; rfl) (PySem.Calls.evalArgs_plain h)
theorem super_exc {pl : Sem Bool} {ta : TE} {p0 p1 p2 p3 p4 : Pos} {arg : Expr} {fd : FuncData} {of : Obj} {ar : Arg} (U : SupX X.prog X.K X.mg D cc cda) (UC : SupC X.K D C) (T : OexC X.K C)
    (hks : X.env.kindOf "super" = some .globalImplicit) (hkc : X.env.kindOf "__class__" = some .free) (hfu : X.env.func = some f) (hf : X.K.lookup f = some of) (hfd : of.data = .func fd)
    (hp : (fd.params.posonlyargs ++ fd.params.args).head? = some ar) (har : X.env.scope.names.lookup ar.arg = some .local) (hN : X.N[0]? = some ar.arg) (hco : X.env.code = .ref cda) (hcl : X.env.cells.lookup ("__class__" : Str) = some cc)
    (ha : PE X arg ta) (I : Inv X pins σ H s) (hσ : σ[0]? = some (some (.ref x))) (hx : H x = some (exo x C none))
    (h : ta σ H fun v H2 => [v].length = 1 ∧ H2 x = some (exo x C none) ∧ R H2)
    (he : starEach [arg] X.env = (false, eval arg X.env) :: starEach [] X.env := by rfl) (hpl : (backTo p3 (starEach ([] : List Expr) X.env)).any (·.1) = false := by rfl)
    (ht : eval (.Call (.Attribute (.Call (.Name "super" p0) [] [] p1) "__init__" p2) [arg] [] p3) X.env = (do
      let ov ← attributeBase (.Call (.Name "super" p0) [] [] p1) "__init__" X.env (eval (.Call (.Name "super" p0) [] [] p1) X.env)
      standAt p2.atName
      let (f, first) ← holding [ov] (getMethod ov "__init__" pl)
      callWith p3 f first (backTo p3 (starEach [arg] X.env)) []) := by rfl)
    (hi : interactive X.env = false := by rfl) (hs : swapsWith (.Call (.Attribute (.Call (.Name "super" p0) [] [] p1) "__init__" p2) [arg] [] p3) none p4.line X.env = pure false := by rfl) :
    PySem.wpAt (model X.prog X.w) X.A (.func body X.env) (exec (.Expr (.Call (.Attribute (.Call (.Name "super" p0) [] [] p1) "__init__" p2) [arg] [] p3) p4) X.env) (fun fl s' => fl = .next ∧ ∃ H', Inv X pins σ H' s' ∧ R H') X.xe s := by
  obtain ⟨cl, cld, csl, hcell⟩ := U.cell
  obtain ⟨cd, hD⟩ := U.cls
  obtain ⟨ccl, cdd, vs, ccs, file, tf, hcode, hvs, hfile⟩ := U.code
  have KX := I.kIn
  obtain ⟨oD, hD1, hD2⟩ : ∃ oD, s.heap.get? D = some oD ∧ oD.data = .cls cd := by
    have q := hD
    unfold PySem.W.clsIn at q
    split at q
    · rename_i ho
      cases q
      exact ⟨_, KX _ _ ho, rfl⟩
    · cases q
  obtain ⟨t1, ho⟩ := exo_at I.hok hx
  refine ks_wpAt_Expr_any ?_ hi hs
  refine ks_wpAt_MethodCall (pl := pl) ?_ ht
  refine ks_wpAt_super_base (env := X.env) hks hkc rfl hfu (KX _ _ hf) hfd hp hco (KX _ _ hcode) rfl hvs hfile U.top ?_
  obtain ⟨mb, h1, h2⟩ := I.mod.blt
  refine PySem.W.ks_loadName_global I.ok.kind hks (Calls.loadGlobal_builtin (by rw [I.ok.glob]; exact I.mod.glob.keeps I.bk) U.gl (by rw [I.ok.blt]; exact h1.keeps I.bk) ((h2 "super" (by decide)).trans (by decide +kernel)) ⟨rfl, ?_⟩)
  refine wpAny_loadName_free I.ok.kind hkc hcl ⟨_, KX _ _ hcell, rfl⟩ ?_
  obtain ⟨m, hn, hl⟩ := id I.loc
  obtain ⟨u, ru, lo⟩ := hl 0 ar.arg (.ref x) hN hσ (.inl har)
  cases (show u = Value.ref x from ru)
  have hm : m ar.arg = some (.ref x) := by
    rcases lo with ⟨_, hm⟩ | ⟨hk, _⟩
    · exact hm
    · exfalso
      rcases hk with hk | hk
      · have e : X.env.scope.names.lookup ar.arg = some .cell := hk
        rw [har] at e
        cases e
      · have e : X.env.scope.names.lookup ar.arg = some .free := hk
        rw [har] at e
        cases e
  refine wpAny_loadName_local I.ok.kind har hn hm ?_
  refine ks_wpAny_isType_cls hD1 hD2 ⟨rfl, ?_⟩
  obtain ⟨hh, g, d, t, os⟩ := s
  refine ks_wpAny_call_super (C := C) hD1 hD2 ho rfl (fun c e => by cases e) (PySem.W.looks_mroIn KX UC.sub) (fun h' e k => ?_)
  have I1 := pin_new (t' := t) I k (Nat.le_refl _) e (fun v z => by cases z)
  have KX1 := I1.kIn
  obtain ⟨nm, q, N, bs, bm, sn, sub, ab, col, dd, k0, k1, k2, k3, k5, hC, _⟩ := T.cls
  have hcC : PySem.W.clsIn X.K C = some { name := nm, bases := bs, mro := .ref C :: bm, ns := N, qualname := q, hasDict := true, slotNames := sn, subclasses := sub, abstract := ab, collection := col, hasDel := false } := by
    unfold PySem.W.clsIn
    rw [hC] <;> rfl
  have hnx := UC.nx
  unfold PySem.W.ks_superIn at hnx
  rw [hcC] at hnx
  have J : PySem.W.InstAt h' x { cls := .ref C, dict := none, data := .fields #[.ref t1, .none, .none, .none, .bool false, .none] } C none := ⟨k _ _ ho, rfl, rfl, trivial⟩
  refine PySem.W.kxs_getMethod PySem.W.kxs_ValueError e (PySem.W.looks_opaque KX1 U.any) (l₀ := .ref C :: bm) ?_ rfl KX1 hnx (J.type.andThen (PySem.W.looks_subIn KX1 UC.ve)) (PySem.W.ks_ne KX1 J hcC) (by decide) ?_
  · exact fun A Q E s k q => wpAny_bind ((PySem.W.looks_clsIn KX1 hcC) A _ E s k (wpAny_pure q))
  have I2 := pin_new (a := h'.objs.size) (o := PySem.W.kxs_mw "ValueError.__init__" x) (h' := h'.push (PySem.W.kxs_mw "ValueError.__init__" x)) (t' := t + 1) I1 (fun _ _ z => Heap.get?_push_of_some _ z) (Nat.le_refl _) (Heap.get?_push_size h' rfl) (fun v z => nomatch z)
  have h' : tCons ta tNil σ H (fun vs H2 => vs.length = 1 ∧ H2 x = some (exo x C none) ∧ R H2) := h
  refine mw_call1 (i := "ValueError.__init__") (x := x) ?_ he hpl
  refine thn ((pa_cons ha pa_nil he).run p3 _ _ σ H _ I2 h') fun us s3 ⟨vs', H2, I3, rv, hz, hx2, q2⟩ => ⟨pin_at I3, ?_⟩
  refine call_mw T I3 hx2 (pin_at I3) ?_ fun s4 I4 => ⟨rfl, H2, unpin (unpin I4), q2⟩
  show us.length ≤ sizeLine
  rw [← Paired.length rv, hz, sizeLine_eq]
  decide
end
/-- a def whose first statement is super().__init__(arg), self an exception being made, keeps its promise -/
theorem fnsupx {P : Program} {w : World} {K : PySem.W.Frag} {mg : Str → Option Value} {base : Heap} {name qual self : Str} {params : Arguments} {body rest : List Stmt} {scope : Scope} {f cc cda D : Addr} {fd : FuncData} {N ps : List Str} {k : Nat} {sp : Sp} {arg : Expr} {p0 p1 p2 p3 p4 : Pos} {ar : Arg}
    (F : FunS K name qual params body scope f fd cc cda) (U : SupX P K mg D cc cda)
    (hbody : body = .Expr (.Call (.Attribute (.Call (.Name "super" p0) [] [] p1) "__init__" p2) [arg] [] p3) p4 :: rest)
    (S : NScope N (self :: ps) ["__class__"] scope) (hks : scope.names.lookup ("super" : Str) = some .globalImplicit)
    (hp : (params.posonlyargs ++ params.args).head? = some ar) (hs : ar.arg = self) (hN : N[0]? = some self)
    (len : ∀ vs H Q E, sp vs H Q E → vs.length = (self :: ps).length)
    (hgo : ∀ (A : Around) (outer : List Env) (s : Shared) (H : Hp) (vs : List V) (Q : VK) (E : XK), Room k (A.deeper (envF ⟨name, qual, params, body, scope, [("__class__", cc)], cda⟩ f s.heap.objs.size)) → sp vs H Q E →
      ∃ (t : TS) (ta : TE) (x C : Addr), PE (ncx CX0 P w K mg base N ⟨name, qual, params, body, scope, [("__class__", cc)], cda⟩ f A outer s H E).nox arg ta ∧ PSs (ncx CX0 P w K mg base N ⟨name, qual, params, body, scope, [("__class__", cc)], cda⟩ f A outer s H E).nox rest t ∧
        (startF N vs [some (.ref D)])[0]? = some (some (.ref x)) ∧ H x = some (exo x C none) ∧ OexC K C ∧ SupC K D C ∧
        ta (startF N vs [some (.ref D)]) H fun v H2 => [v].length = 1 ∧ H2 x = some (exo x C none) ∧ t { nx := fun _ H' => Q .non H', rt := Q } (startF N vs [some (.ref D)]) H2)
    (hst : ∀ (X : Cx), starEach [arg] X.env = (false, eval arg X.env) :: starEach [] X.env := by intro _; rfl) (hpl : ∀ (X : Cx), (backTo p3 (starEach ([] : List Expr) X.env)).any (·.1) = false := by intro _; rfl)
    {pl : Cx → Sem Bool}
    (ht : ∀ (X : Cx), eval (.Call (.Attribute (.Call (.Name "super" p0) [] [] p1) "__init__" p2) [arg] [] p3) X.env = (do
      let ov ← attributeBase (.Call (.Name "super" p0) [] [] p1) "__init__" X.env (eval (.Call (.Name "super" p0) [] [] p1) X.env)
      standAt p2.atName
      let (f, first) ← holding [ov] (getMethod ov "__init__" (pl X))
      callWith p3 f first (backTo p3 (starEach [arg] X.env)) []) := by intro _; rfl)
    (hsw : ∀ (X : Cx), swapsWith (.Call (.Attribute (.Call (.Name "super" p0) [] [] p1) "__init__" p2) [arg] [] p3) none p4.line X.env = pure false := by intro _; rfl) :
    FnOk P w K mg base CX0 (k + 1) f fd (self :: ps) sp := by
  obtain ⟨oc, od, dV, kV, doc, pm, an, ct, osl, rfl, lk, hcd, _⟩ := F.ex
  refine ⟨len, fun A outer s H args us vs Q E hr e0 hb r hsp => ?_⟩
  have KX : K.In s.heap := e0.mod.kin.keeps fun b o e => (e0.bs b o e).1
  have hl := len _ _ _ _ hsp
  have lim : s.heap.NoLimit := e0.mod.nolimit.keeps fun b o e => (e0.bs b o e).1
  obtain ⟨cl, cld, csl, hcell⟩ := U.cell
  refine codeAny_call_function hr.depth (KX _ _ lk) rfl S.co S.gen rfl (PySem.W.codeRec_of KX hcd) (hb _ _ _ _ ?_)
  refine wpAny_newFunctionEnv S.nocell (fun ⟨n, _⟩ hy => S.par n (List.of_mem_zip hy).1) (fun h₁ hns hsb => ⟨lim.fresh _ hsb, ?_⟩) S.kind
  show codeAny _ _ (.func body (envF ⟨name, qual, params, body, scope, [("__class__", cc)], cda⟩ f s.heap.objs.size)) _ _
  refine ks_codeAny_funcAt ?_
  have kp : ∀ b o, s.heap.get? b = some o → h₁.get? b = some o := fun b o e => hsb.extBut b o (Nat.ne_of_lt (Heap.lt_size e)) (Heap.get?_push_of_some _ e)
  have hcc : H cc = none := (e0.bs _ _ (e0.mod.kin _ _ hcell)).2
  have look1 : ∀ y c, List.lookup y [(("__class__" : Str), cc)] = some c → y = "__class__" ∧ c = cc := fun y c e => by
    unfold List.lookup at e
    split at e
    · rename_i q
      cases e
      exact ⟨beq_iff_eq.mp q, rfl⟩
    · cases e
  have C0 : CellsAt [(("__class__" : Str), cc)] ["__class__"] [some (.ref D)] s.heap H := by
    refine ⟨rfl, fun y c e => ?_, fun x y c e e' => ?_, fun i y e => ?_⟩
    · obtain ⟨_, rfl⟩ := look1 y c e
      exact ⟨hcc, _, ⟨_, KX _ _ hcell, rfl⟩⟩
    · exact (look1 _ _ e).1.trans (look1 _ _ e').1.symm
    · rcases i with _ | i
      · cases e
        refine ⟨cc, by unfold List.lookup; rw [beq_self_eq_true], fun v e => ?_⟩
        cases e
        exact ⟨.ref D, rfl, ⟨_, KX _ _ hcell, rfl⟩⟩
      · cases e
  have hroom := hr.deeper (envF ⟨name, qual, params, body, scope, [("__class__", cc)], cda⟩ f s.heap.objs.size)
  obtain ⟨t, ta, x, C, h1, h2, hx0, hx, T, UC, h3⟩ := hgo A outer s H vs Q E hroom hsp
  have I : Inv (ncx CX0 P w K mg base N ⟨name, qual, params, body, scope, [("__class__", cc)], cda⟩ f A outer s H E) [] (startF N vs [some (.ref D)]) H { s with heap := h₁, toks := s.toks + ((self :: ps).zip us).length } := inv_startN S hr.hd e0 hl r C0 hns kp
  have ebody : execs body (envF ⟨name, qual, params, body, scope, [("__class__", cc)], cda⟩ f s.heap.objs.size) = execs (.Expr (.Call (.Attribute (.Call (.Name "super" p0) [] [] p1) "__init__" p2) [arg] [] p3) p4 :: rest) (envF ⟨name, qual, params, body, scope, [("__class__", cc)], cda⟩ f s.heap.objs.size) := congrArg (fun b => execs b _) hbody
  rw [ebody]
  have fin : ∀ {σ' : L2.St} {H' : Hp} {v : V} {u : Value} {s' : Shared}, Inv (ncx CX0 P w K mg base N ⟨name, qual, params, body, scope, [("__class__", cc)], cda⟩ f A outer s H E) [] σ' H' s' → L2.RelV v u → Q v H' → CE outer P w H s Q u s' :=
    fun {σ' H' v u s'} J rv q => ⟨v, H', J.os, J.bare, J.base, J.hok, rv, q⟩
  refine ks_wpAt_execs_cons (ks_wpAt_mono (super_exc (X := ncx CX0 P w K mg base N ⟨name, qual, params, body, scope, [("__class__", cc)], cda⟩ f A outer s H E) (f := f) (cda := cda) (cc := cc) (D := D) (C := C) (x := x) (R := fun H2 => t { nx := fun _ H' => Q .non H', rt := Q } (startF N vs [some (.ref D)]) H2) U UC T hks (S.frk _ List.mem_cons_self) rfl lk rfl hp (by rw [hs]; exact S.par _ List.mem_cons_self) (by rw [hs]; exact hN) rfl
    (by show List.lookup ("__class__" : Str) [(("__class__" : Str), cc)] = some cc; unfold List.lookup; rw [beq_self_eq_true]) h1.nox I hx0 hx h3 (hst _) (hpl _) (ht _) (by show interactive (envF ⟨name, qual, params, body, scope, [("__class__", cc)], cda⟩ f s.heap.objs.size) = false; unfold interactive; rw [show (envF ⟨name, qual, params, body, scope, [("__class__", cc)], cda⟩ f s.heap.objs.size).scope.kind = .function from S.kind]; first | rfl | decide) (hsw _)) (fun fl2 s2 h4 => ?_) fun e s2 h4 => h4)
  obtain ⟨rfl, H3, J3, q3⟩ := h4
  refine _root_.PySem.wpAt_of_wpAny (wpAny_mono (h2.nox.run [] _ _ H3 _ J3 q3) (fun fl s' hs' => ?_) fun e s' he => he)
  cases fl with
  | ret u =>
    obtain ⟨v, σ', H', J, rv, q⟩ := hs'
    exact fin J rv q
  | next =>
    obtain ⟨σ', H', J, q⟩ := hs'
    exact fin (v := .non) (u := Value.none) J rfl q
  | brk =>
    obtain ⟨_, _, _, q⟩ := hs'
    exact q.elim
  | cont =>
    obtain ⟨_, _, _, q⟩ := hs'
    exact q.elim
end XS
/-! what the written part must say, as a Bool -/
def oexB (K : PySem.W.Frag) (C : Addr) : Bool := (match K.lookup C with
  | some ⟨.type "type", _, .cls cd, sl⟩ => (match cd.mro, sl.toList with
    | .ref D :: bm, [_, _, _, _, some (.builtin n), _] => D == C && (n == "ValueError.__new__" && (!cd.hasDel && (cd.hasDict && PySem.HandSPX.refsVE bm)))
    | _, _ => false)
  | _ => false) && (He.eqO (PySem.W.findIn K (.ref C) "__setattr__") (some (some (.builtin "object.__setattr__"))) && (decide (PySem.W.subIn K (.ref C) (.type "BaseException") = some true) && (decide (PySem.W.typeIn K (.ref C) = some (.type "type")) && PySem.W.keepIn K (.ref C))))
theorem oexB_ok {K : PySem.W.Frag} {C : Addr} (h : oexB K C = true) : OexC K C := by
  unfold oexB at h
  simp only [Bool.and_eq_true] at h
  obtain ⟨h1, h2, h3, h4, h5⟩ := h
  refine ⟨?_, He.eqO_ok h2, of_decide_eq_true h3, of_decide_eq_true h4, h5⟩
  split at h1
  · rename_i dd cd sl ho
    split at h1
    · rename_i D bm k0 k1 k2 k3 n k5 hm hs
      simp only [Bool.and_eq_true, beq_iff_eq, Bool.not_eq_true'] at h1
      obtain ⟨rfl, rfl, e1, e2, e3⟩ := h1
      obtain ⟨nm, bs, mro, ns, qn, hd, sn, sub, ab, col, del⟩ := cd
      dsimp only at hm e1 e2
      subst hm e1 e2
      obtain ⟨l⟩ := sl
      dsimp only at hs
      subst hs
      exact ⟨nm, qn, ns, bs, bm, sn, sub, ab, col, dd, k0, k1, k2, k3, k5, ho, e3⟩
    · cases h1
  · cases h1
namespace XS
def supXB (mf : Str) (K : PySem.W.Frag) (D f : Addr) : Bool := cellB K (cellOf K f) D && ((PySem.W.clsIn K D).isSome && (codeB mf K (codeOf K f) && someNone (PySem.W.nsIn K cStatics "thirdparty.any")))
theorem supXB_ok {P : Program} {K : PySem.W.Frag} {mg : Str → Option Value} {D f : Addr} (mf : Str) (pf : ((P.main.file : Str) == mf) = true) (top : (P.main.scope.names.lookup ("super" : Str)).isSome = false) (gl : mg "super" = none) (h : supXB mf K D f = true) : SupX P K mg D (cellOf K f) (codeOf K f) := by
  unfold supXB at h
  simp only [Bool.and_eq_true] at h
  obtain ⟨h1, h2, h3, h4⟩ := h
  refine ⟨cellB_ok h1, Option.isSome_iff_exists.mp h2, ?_, gl, someNone_ok h4, top⟩
  rw [beq_iff_eq.mp pf]
  exact codeB_ok h3
def supCB (K : PySem.W.Frag) (D C : Addr) : Bool := decide (PySem.W.mroIn K C (.ref D) = some true) && (He.eqO (PySem.W.ks_superIn K C D "__init__") (some (some (.builtin "ValueError.__init__"))) && decide (PySem.W.subIn K (.ref C) (.type "ValueError") = some true))
theorem supCB_ok {K : PySem.W.Frag} {D C : Addr} (h : supCB K D C = true) : SupC K D C := by
  unfold supCB at h
  simp only [Bool.and_eq_true] at h
  exact ⟨of_decide_eq_true h.1, He.eqO_ok h.2.1, of_decide_eq_true h.2.2⟩
end XS
/-- an own exception class under its name, its __init__ with its promise -/
structure Xcl (P : Program) (w : World) (K : PySem.W.Frag) (mg : Str → Option Value) (base : Heap) (k : Nat) (x : Str) (C : Addr) (sp : Sp) : Prop where
  ex : ∃ (fI : Addr) (fd : FuncData) (ps : List Str), OexC K C ∧ PySem.W.findIn K (.ref C) "__init__" = some (some (.ref fI)) ∧ PySem.W.typeIn K (.ref fI) = some (.type "function") ∧ FnOk P w K mg base CX0 k fI fd ps sp ∧ mg x = some (.ref C) ∧ Binds K fd ps []
section
variable {X : Cx} {W : WX} {k j : Nat} {C : Addr} {x m : Str} {sp : Sp} {p pos pos' apos : Pos} {e o : Expr} {es : List Expr} {ta : TE} {t : TA}
def tRaise (C : Addr) (sp : Sp) (t : TA) (W : WX) : TS := fun _ σ H => tMkO C sp [] t σ H fun cls d H' => W cls d σ H'
/-- raise C(e, ..) -/
theorem praise (c : Xcl X.prog X.w X.K X.mg X.base k x C sp) (hr : Room j X.A) (hk : k + 1 ≤ j) (hc : X.calm = true) (tk : Takes X W) (hg : Gl X x) (ha : PA X (e :: es) t)
    (hdb : (x == ("__debug__" : Str)) = false := by decide) (he : starEach (e :: es) X.env = (false, eval e X.env) :: starEach es X.env := by rfl) (hpl : (backTo pos (starEach es X.env)).any (·.1) = false := by rfl) :
    PS X (.Raise (some (.Call (.Name x p) (e :: es) [] pos)) none pos') (tRaise C sp t W) := by
  obtain ⟨fI, fd, ps, T, iC, tI, F, hm, hb⟩ := c.ex
  exact ps_raise hc tk (pmk_oex T iC tI F (hr.mono hk) hb .nil (fun _ _ _ _ _ _ _ h => h.elim) hg hm ha hdb he hpl)
/-- o.m(e, ..), where what is raised is wished for at the caller's slots -/
def tMethS (C : Addr) (m : Str) (sp : Sp) (W : WX) (ta : TE) (t : TA) : TE := fun σ H Q => ta σ H fun y H1 => ∃ a dx fs, y = .ref a ∧ H1 a = some (.ins C dx fs) ∧ fs.lookup m = none ∧ t σ H1 fun vs H2 => sp (y :: vs) H2 Q (WE W σ)
theorem pmtS {pl : Sem Bool} (c : Mt X.prog X.w X.K X.mg X.base (L2.CX X.prog X.w) k C m sp) (hr : Room j X.A) (hk : k ≤ j) (tk : Takes X W) (ho : PE X o ta) (ha : PA X (e :: es) t)
    (he : starEach (e :: es) X.env = (false, eval e X.env) :: starEach es X.env := by rfl) (hpl : (backTo pos (starEach es X.env)).any (·.1) = false := by rfl)
    (ht : eval (.Call (.Attribute o m apos) (e :: es) [] pos) X.env = (do let ov ← eval o X.env; standAt apos.atName; let (f, first) ← holding [ov] (getMethod ov m pl); callWith pos f first (backTo pos (starEach (e :: es) X.env)) (backToKw pos (keywordEach [] X.env))) := by rfl) :
    PE X (.Call (.Attribute o m apos) (e :: es) [] pos) (tMethS C m sp W ta t) := by
  obtain ⟨f, fd, ps, cl, hm, F, hb⟩ := c.ex
  refine ⟨fun pins s σ H Q I h => ?_⟩
  refine PySem.W.methodCall_KW (pl := pl) (thn (ho.run pins s σ H _ I h) fun u s1 ⟨y, H1, I1, ry, a, dx, fs, ey, ea, l, q⟩ => ?_) ht
  subst ey
  obtain rfl : u = Value.ref a := ry
  refine getmeth_ok I1 ea cl hm l (PySem.W.callWith_K (first := [.ref a]) (h₀ := X.base) I.ok.mod.kin hm.kp (thn (ha.run pos pins s1 σ H1 _ I1 q) fun us s2 ⟨vs, H2, I2, r, q2⟩ => ⟨I2.kIn, ?_⟩) he hpl)
  exact run_fnS (E := WE W) (us := .ref a :: us) (vs := .ref a :: vs) F (hr.mono hk) hb (passAt tk σ) I2 (.cons rfl r) q2
/-- a call in a place where nothing is let out -/
theorem passN : Passes (L2.CX X.prog X.w) X E0 := fun _ _ _ _ _ _ _ ⟨_, _, _, _, _, _, _, _, _, _, _, _, h⟩ => h.elim
end
section
variable {P : Program} {w : World} {K : PySem.W.Frag} {mg : Str → Option Value} {base : Heap}
/-- a def that may let exceptions out -/
theorem fnokX {x qual : Str} {params : Arguments} {body : List Stmt} {scope : Scope} {dvs : List V} {f : Addr} {fd : FuncData} {N ps : List Str} {k : Nat} {sp : Sp}
    (F : FunD K x qual params body scope dvs [] f fd) (S : FnScope N ps scope) (len : ∀ vs H Q E, sp vs H Q E → vs.length = ps.length)
    (hbody : ∀ (cdv : Value) (A : Around) (outer : List Env) (s : Shared) (H : Hp) (vs : List V) (Q : VK) (E : XK), Room k (A.deeper (envOfC qual scope s.heap.objs.size f cdv)) → sp vs H Q E →
      Takes (cxOf (L2.CX P w) P w K mg base N qual scope f cdv A outer s H E) (fun cls d _ H => E cls d H) →
      ∃ t, PSs (cxOf (L2.CX P w) P w K mg base N qual scope f cdv A outer s H E) body t ∧ t { nx := fun _ H' => Q .non H', rt := Q } (start N vs) H) :
    FnOk P w K mg base (L2.CX P w) (k + 1) f fd ps sp := F.ok S len fun cdv A outer s H vs Q E hr h =>
  hbody cdv A outer s H vs Q E hr h (takes_of (X := cxOf (L2.CX P w) P w K mg base N qual scope f cdv A outer s H E) rfl rfl rfl rfl)
end
section
variable {K : PySem.W.Frag} {C : Addr} {H : Hp} {σ : L2.St}
/-- WrongThing(thing), WrongWord(word): one field -/
def spXI (K : PySem.W.Frag) (D : Addr) (f : Str) : Sp := sp2 fun self v H Q _ => ∃ x C, self = .ref x ∧ H x = some (exo x C none) ∧ OexC K C ∧ XS.SupC K D C ∧ PySem.W.findIn K (.ref C) f = some none ∧
  ∀ dx, H dx = none → dx ≠ x → Q .non (upd (upd H dx (exd dx [(f, v)])) x (exo x C (some dx)))
def MkOI (C : Addr) (sp : Sp) (vs : List V) (H1 : Hp) (Q : XK) : Prop := vs.length ≤ 1000 ∧ ∀ a, H1 a = none → sp (.ref a :: (vs ++ [])) (upd H1 a (exo a C none))
  (fun v H2 => v = .non ∧ ∃ (d : Addr) (fs : List (Str × V)), H2 a = some (exo a C (some d)) ∧ H2 d = some (exd d fs) ∧ H1 d = none ∧ Q (.ref C) (some d) (upd (del H2 a) d (.xd fs))) (fun _ _ _ => False)
theorem w_raise {sp : Sp} {W : WX} {D : Ends} {t : TA} (h : t σ H fun vs H1 => MkOI C sp vs H1 fun cls d H' => W cls d σ H') : tRaise C sp t W D σ H := h
theorem r_mkO {D : Addr} {f : Str} {v : V} {Q : XK} (T : OexC K C) (U : XS.SupC K D C) (hf : PySem.W.findIn K (.ref C) f = some none) (h : ∀ d H', H d = none → Ex H H' → H' d = some (.xd [(f, v)]) → Q (.ref C) (some d) H') : MkOI C (spXI K D f) [v] H Q := by
  refine ⟨(by decide : 1 ≤ 1000), fun a na => ⟨.ref a, v, rfl, a, C, rfl, upd_same, T, U, hf, fun dx ndx dne => ⟨rfl, dx, [(f, v)], upd_same, by rw [upd_ne dne]; exact upd_same, ?_, ?_⟩⟩⟩
  · rwa [upd_ne dne] at ndx
  · have nd : H dx = none := by rwa [upd_ne dne] at ndx
    have e : upd (del (upd (upd (upd H a (exo a C none)) dx (exd dx [(f, v)])) a (exo a C (some dx))) a) dx (.xd [(f, v)]) = upd H dx (.xd [(f, v)]) := funext fun b => by
      by_cases hb : b = dx
      · rw [hb, upd_same, upd_same]
      · rw [upd_ne hb, upd_ne hb]
        by_cases ha : b = a
        · rw [ha, del_same, na]
        · rw [del_ne ha, upd_ne ha, upd_ne hb, upd_ne ha]
    rw [e]
    exact h dx _ nd (Ex.new nd) upd_same
/-- try: .. except c as x: .. -/
def tTryAs (K : PySem.W.Frag) (c : Value) (i : Nat) (ts : Addr → Value → Option Addr → TS) (tb : WX → TS) : TS := fun D σ H => tb (wAs K c i ts (fun _ _ _ _ => False) D) D σ H
theorem w_tryAs {c : Value} {i : Nat} {ts : Addr → Value → Option Addr → TS} {tb : WX → TS} {D : Ends} (h : tb (wAs K c i ts (fun _ _ _ _ => False) D) D σ H) : tTryAs K c i ts tb D σ H := h
theorem w_was {c : Value} {i : Nat} {ts : Addr → Value → Option Addr → TS} {D : Ends} {cls : Value} {d : Option Addr} (e : PySem.W.exmOne K cls c = some true)
    (h : ∀ a, H a = none → ts a cls d { nx := fun σ' H' => D.nx (σ'.set i none) H', rt := D.rt, bk := fun σ' H' => D.bk (σ'.set i none) H', ct := fun σ' H' => D.ct (σ'.set i none) H' } (σ.set i (some (.ref a))) H) : wAs K c i ts (fun _ _ _ _ => False) D cls d σ H :=
  ⟨true, e, fun _ => h, fun z => by cases z⟩
theorem w_methS {m : Str} {F : V → V → Hp → VK → XK → Prop} {W : WX} {ta : TE} {t : TA} {Q : VK} (h : ta σ H fun y H1 => ∃ a dx fs, y = .ref a ∧ H1 a = some (.ins C dx fs) ∧ fs.lookup m = none ∧ t σ H1 fun vs H2 => sp2 F (y :: vs) H2 Q (WE W σ)) : tMethS C m (sp2 F) W ta t σ H Q := h
theorem w_xf {a dd : Addr} {cls : Value} {f : Str} {te : TE} {fs : List (Str × V)} {v : V} {Q : VK} (h : te σ H fun x H1 => x = .ref a ∧ cls = .ref C ∧ ∃ (dd' : Addr) (fs : List (Str × V)) (v : V), some dd = some dd' ∧ H1 dd' = some (.xd fs) ∧ fs.lookup f = some v ∧ Q v H1) : tXf a cls (some dd) C f te σ H Q := h
end
section
variable {X : Cx} {x n : Str} {c : Value} {i : Nat} {body suite : List Stmt} {b₀ : Stmt} {np pos pos' : Pos} {tb : WX → TS} {ts : Addr → Value → Option Addr → TS}
theorem ptryas (K : PySem.W.Frag) (hs : X.stack = X.env :: X.outer) (hf : X.env.frame = some X.env.locals) (hN : X.N.Nodup) (hi : X.N[i]? = some n) (hln : X.env.kindOf n = some .local) (hc : Names X x c)
    (hb : ∀ (W : WX) (pn : List (Addr × Obj)) (xe : Value → Shared → Prop), Takes (X.tr pn xe) W → PSs (X.tr pn xe) body (tb W))
    (hsu : ∀ (a : Addr) (oe : Obj) (cls : Value) (d : Option Addr) (pn : List (Addr × Obj)), Zc cls d oe → (∃ vs, oe.data = .fields vs) → PSs (X.suite a ((a, oe) :: pn)) (b₀ :: suite) (ts a cls d)) (hK : X.K = K := by rfl) :
    PS X (.Try body [.ExceptHandler (some (.Name x np)) (some n) (b₀ :: suite) pos'] [] [] pos) (tTryAs K c i ts tb) := by
  subst hK
  exact ps_try_as hs hf hN hi hln hc takes_none5 (fun W pn xe tk _ => hb W pn xe tk) hsu
end
theorem kNeS (K : PySem.W.Frag) {X : Cx} {a : Addr} {pn : List (Addr × Obj)} {j : Nat} (hr : Room j X.A) (h : X.K = K := by rfl) : OpR (X.suite a pn) (compareOp .NotEq) (rNeU K) := by
  subst h
  exact op_ne.or (op_neD (by have := hr.un; show X.A.units + 64 < cLine; omega))

end M
namespace M
open PySem PySem.Spec PyProof.Rows L2 Evl MS
--@import HandS.FStr
--@import HandS.Text
/-! own exceptions whose text is an f-string of a word -/
theorem sapp_len (a b : Str) : (a ++ b).length = a.length + b.length := by rw [TL.len_tl, TL.tl_append, List.length_append, ← TL.len_tl, ← TL.len_tl]
/-- WrongWord(word), TooMany(word): one field, a text -/
def spXS (K : PySem.W.Frag) (D : Addr) (f : Str) : Sp := sp2 fun self v H Q _ => ∃ x C, ∃ w : Str, self = .ref x ∧ v = .str w ∧ w.length ≤ 1000 ∧ H x = some (exo x C none) ∧ OexC K C ∧ XS.SupC K D C ∧ PySem.W.findIn K (.ref C) f = some none ∧
  ∀ dx, H dx = none → dx ≠ x → Q .non (upd (upd H dx (exd dx [(f, v)])) x (exo x C (some dx)))
theorem r_mkOS {K : PySem.W.Frag} {C : Addr} {H : Hp} {D : Addr} {f : Str} {w : Str} {Q : XK} (T : OexC K C) (U : XS.SupC K D C) (hf : PySem.W.findIn K (.ref C) f = some none) (hz : w.length ≤ 1000) (h : ∀ d H', H d = none → Ex H H' → H' d = some (.xd [(f, .str w)]) → Q (.ref C) (some d) H') : MkOI C (spXS K D f) [.str w] H Q := by
  obtain ⟨z, k⟩ := r_mkO (v := .str w) T U hf h
  refine ⟨z, fun a na => ?_⟩
  obtain ⟨s, v, e, x, C', h1, h2, h3, h4, h5, h6⟩ := k a na
  cases e
  exact ⟨_, _, rfl, x, C', w, h1, rfl, hz, h2, h3, h4, h5, h6⟩
section
variable {σ : L2.St} {H : Hp} {t : TE} {ts : List TE} {acc : Str} {Q : Str → Hp → Prop} {R : VK}
theorem w_js (h : t σ H fun x H1 => ∃ y : Str, x = .str y ∧ (acc ++ y).length ≤ sizeLine ∧ tJs ts (acc ++ y) σ H1 Q) : tJs (t :: ts) acc σ H Q := h
theorem w_js0 (h : Q acc H) : tJs [] acc σ H Q := h
theorem w_fmtV {i : Nat} {y : Str} (hv : σ[i]? = some (some (.str y))) (hz : y.length ≤ sizeLine) (q : R (.str y) H) : tFmt (tVar i) σ H R := ⟨.str y, hv, .inl ⟨y, rfl, hz, q⟩⟩
end

end M
namespace M
open PySem PySem.Spec PyProof.Rows L2 Evl MS
--@import KE.KExcIs
--@import HandS.ExcIs
--@import HandS.ExcField
/-! isinstance of a caught own exception that has fields -/
def rIsEd (K : PySem.W.Frag) (cls : Value) (d : Option Addr) (D a : Addr) : List V → Hp → VK → Prop := fun xs H Q => cls = .ref D ∧ ∃ dd, d = some dd ∧ (∃ fs, H dd = some (.xd fs)) ∧ rIsE K D a xs H Q
theorem isEd {X : Cx} {a D : Addr} {oe : Obj} {cls : Value} {d : Option Addr} {pn : List (Addr × Obj)} (C : ExcC X.K D) (hz : Zc cls d oe) (hf : ∃ vs, oe.data = .fields vs) :
    CallR (X.suite a ((a, oe) :: pn)) (.builtin "isinstance") (rIsEd X.K cls d D a) := by
  intro pins s σ H xs us Q I r h
  obtain ⟨rfl, dd, rfl, ⟨fs, ea⟩, c, cv, b, rfl, hcv, e, q⟩ := h
  cases r with
  | cons rx rr =>
    cases rr with
    | cons rt rr =>
      cases rr
      cases rx
      have ec := hcv _ rt
      subst ec
      obtain ⟨ha, _⟩ := I.pin (a, oe) (List.mem_append_left _ List.mem_cons_self)
      obtain ⟨vs, hd⟩ := hf
      have hx : ObjOk X.prog X.w H s.heap dd (.xd fs) := I.hok dd _ ea
      obtain ⟨mA, hns, hr⟩ := hx
      obtain ⟨od, ho, hl⟩ := lookIn_ns hns
      have J : PySem.W.InstAt s.heap a oe D (some od) := ⟨ha, hz.1, by unfold PySem.W.notCls; rw [hd] <;> rfl, by rw [hz.2]; exact ho⟩
      obtain ⟨cd, hc, _⟩ := PySem.W.any_some C.hd
      exact PySem.W.kia_one (PySem.W.kitx_exc (by rw [hc]; rfl) C.hg C.hk C.hs C.ha C.hn C.ht C.hm) I.kIn J e (fun z => nomatch z) fun tk => ⟨.bl b, H, I.kept (t' := tk) fun _ _ z => z, rfl, q⟩
theorem kIsEd (K : PySem.W.Frag) {X : Cx} {a D : Addr} {oe : Obj} {cls : Value} {d : Option Addr} {pn : List (Addr × Obj)} (C : ExcC K D) (hz : Zc cls d oe) (hf : ∃ vs, oe.data = .fields vs) (h : X.K = K := by rfl) :
    CallR (X.suite a ((a, oe) :: pn)) (.builtin "isinstance") (rIsEd K cls d D a) := by subst h; exact isEd C hz hf
def excB (K : PySem.W.Frag) (D : Addr) : Bool := He.eqO (PySem.W.findIn K (.ref D) "__getattribute__") (some (some (.builtin "BaseException.__getattribute__"))) && (someNone (PySem.W.findIn K (.ref D) "__getattr__") && (decide (PySem.W.subIn K (.ref D) (.type "BaseException") = some true) && (PySem.W.hasDictIn K D && (He.eqO (PySem.W.findIn K (.ref D) "__class__") (some (some (.builtin "object.__class__"))) && (He.eqO (PySem.W.specialIn K (.builtin "object.__class__") "__get__") (some (some (.builtin "getset_descriptor.__get__"))) && (decide (PySem.W.takesIn K (.builtin "object.__class__") = some true) && decide (PySem.W.mroIn K D (.type "object") = some true)))))))
theorem excB_ok {K : PySem.W.Frag} {D : Addr} (h : excB K D = true) : ExcC K D := by
  unfold excB at h
  simp only [Bool.and_eq_true] at h
  obtain ⟨h1, h2, h3, h4, h5, h6, h7, h8⟩ := h
  exact ⟨He.eqO_ok h1, someNone_ok h2, of_decide_eq_true h3, h4, He.eqO_ok h5, He.eqO_ok h6, of_decide_eq_true h7, of_decide_eq_true h8⟩
theorem r_isEd {K : PySem.W.Frag} {D C a dd : Addr} {b : Bool} {fs : List (Str × V)} {H : Hp} {Q : VK} (g : H dd = some (.xd fs)) (e : PySem.W.kitOne K (.ref D) (.ref C) = some b) (q : Q (.bl b) H) : rIsEd K (.ref D) (some dd) D a [.ref a, .ref C] H Q :=
  ⟨rfl, dd, rfl, ⟨fs, g⟩, .ref C, .ref C, b, rfl, fun u hu => hu, e, q⟩

end M
namespace M
open PySem PySem.Spec PyProof.Rows L2 Evl MS
--@import HandS.FStr
--@import HandS.Text
--@import HandS.Codes
/-! more of texts: +, slices, a sign in a text; own exceptions whose text is an f-string of a number -/
def rAddS : V → V → Hp → VK → Prop := fun x y H Q => ∃ i j, x = .str i ∧ y = .str j ∧ i.length + j.length ≤ sizeLine ∧ Q (.str (i ++ j)) H
theorem xAddS {X : Cx} : OpR X (binaryOp .Add) rAddS := op_add_str
def rSlS1 : V → Option Int → Option Int → Hp → VK → Prop := rSlS
theorem xSlS {X : Cx} : SlR X rSlS1 := sl_str
def rInSg : V → V → Hp → VK → Prop := fun x y H Q => ∃ (c : Nat) (z : Str), x = .str ⟨#[c]⟩ ∧ y = .str z ∧ Q (.bl (decide (c ∈ z.cps.toList))) H
theorem xInSg {X : Cx} : OpR X (compareOp .In) rInSg := op_in_sign
section
variable {H : Hp} {Q : VK}
theorem r_addS {i j : Str} (hz : i.length + j.length ≤ sizeLine) (q : Q (.str (i ++ j)) H) : rAddS (.str i) (.str j) H Q := ⟨i, j, rfl, rfl, hz, q⟩
theorem r_inSg {c : Nat} {z : Str} (q : Q (.bl (decide (c ∈ z.cps.toList))) H) : rInSg (.str ⟨#[c]⟩) (.str z) H Q := ⟨c, z, rfl, rfl, q⟩
theorem cutS_to {z : Str} {k : Nat} : cutS z none (some (k : Int)) = ⟨(z.cps.toList.take k).toArray⟩ := by
  have hl : z.length = z.cps.toList.length := by rw [Array.length_toList]; rfl
  unfold cutS
  rw [HT.sIx_none, HT.sIx_nat, Nat.sub_zero, List.drop_zero, hl]
  by_cases h : k ≤ z.cps.toList.length
  · rw [Nat.min_eq_left h]
  · rw [Nat.min_eq_right (by omega), List.take_length, List.take_of_length_le (by omega)]
theorem cutS_from {z : Str} {k : Nat} : cutS z (some (k : Int)) none = ⟨(z.cps.toList.drop k).toArray⟩ := by
  have hl : z.length = z.cps.toList.length := by rw [Array.length_toList]; rfl
  unfold cutS
  rw [HT.sIx_none, HT.sIx_nat, hl]
  by_cases h : k ≤ z.cps.toList.length
  · rw [Nat.min_eq_left h, List.take_of_length_le (by rw [List.length_drop]; omega)]
  · rw [Nat.min_eq_right (by omega), List.drop_length, List.drop_eq_nil_of_le (by omega)]
    simp
theorem r_slSto {z : Str} {k : Nat} (hz : z.length ≤ sizeLine) (q : Q (.str ⟨(z.cps.toList.take k).toArray⟩) H) : rSlS1 (.str z) none (some (k : Int)) H Q := ⟨z, rfl, hz, by rw [cutS_to]; exact q⟩
theorem r_slSfrom {z : Str} {k : Nat} (hz : z.length ≤ sizeLine) (q : Q (.str ⟨(z.cps.toList.drop k).toArray⟩) H) : rSlS1 (.str z) (some (k : Int)) none H Q := ⟨z, rfl, hz, by rw [cutS_from]; exact q⟩
end
/-- BadText(place): one field, a number -/
def spXN (K : PySem.W.Frag) (D : Addr) (f : Str) : Sp := sp2 fun self v H Q _ => ∃ x C, ∃ n : Int, self = .ref x ∧ v = .int n ∧ -1 ≤ n ∧ n ≤ 10 ^ 9 ∧ H x = some (exo x C none) ∧ OexC K C ∧ XS.SupC K D C ∧ PySem.W.findIn K (.ref C) f = some none ∧
  ∀ dx, H dx = none → dx ≠ x → Q .non (upd (upd H dx (exd dx [(f, v)])) x (exo x C (some dx)))
theorem r_mkON {K : PySem.W.Frag} {C : Addr} {H : Hp} {D : Addr} {f : Str} {n : Int} {Q : XK} (T : OexC K C) (U : XS.SupC K D C) (hf : PySem.W.findIn K (.ref C) f = some none) (h1 : -1 ≤ n) (h2 : n ≤ 10 ^ 9) (h : ∀ d H', H d = none → Ex H H' → H' d = some (.xd [(f, .int n)]) → Q (.ref C) (some d) H') : MkOI C (spXN K D f) [.int n] H Q := by
  obtain ⟨z, k⟩ := r_mkO (v := .int n) T U hf h
  refine ⟨z, fun a na => ?_⟩
  obtain ⟨s, v, e, x, C', h1', h2', h3, h4, h5, h6⟩ := k a na
  cases e
  exact ⟨_, _, rfl, x, C', n, h1', rfl, h1, h2, h2', h3, h4, h5, h6⟩
theorem w_fmtN {σ : L2.St} {H : Hp} {R : VK} {i : Nat} {n : Int} (hv : σ[i]? = some (some (.int n))) (hz : n.natAbs.log2 < 1920) (q : R (.str (toString n)) H) : tFmt (tVar i) σ H R := ⟨.int n, hv, .inr ⟨n, rfl, hz, q⟩⟩
theorem sml_log {n : Int} (h1 : -1 ≤ n) (h2 : n ≤ 10 ^ 9) : n.natAbs.log2 < 1920 := by
  by_cases c : n.natAbs = 0
  · rw [c]; decide
  · rw [Nat.log2_lt c]
    have h31 : n.natAbs < 2147483648 := by omega
    exact Nat.lt_of_lt_of_le h31 (by decide +kernel)
theorem sml_len {n : Int} (h1 : -1 ≤ n) (h2 : n ≤ 10 ^ 9) : (Str.ofString (toString n)).length ≤ 20 := by
  by_cases c : 0 ≤ n
  · obtain ⟨k, rfl⟩ := Int.eq_ofNat_of_zero_le c
    rw [TL.len_tl, TL.tl_num]
    exact Nat.le_trans (TL.numL_len (k := 10) (by decide) (by omega)) (by decide)
  · have : n = -1 := by omega
    subst this
    decide +kernel

end M
namespace M
open PySem PySem.Spec PyProof.Rows L2 Evl MS
--@import HandS.TryMany
/-! try with several clauses 'except C as n' -/
/-- what the clauses wish of an exception of the body, one after the other; slot i is the name's -/
def wMAs (K : PySem.W.Frag) (i : Nat) (Wout : WX) (D : Ends) : List (Value × (Addr → Value → Option Addr → TS)) → WX
  | [] => Wout
  | (c, ts) :: r => wAs K c i ts (wMAs K i Wout D r) D
inductive HdsAs (X : Cx) (n : Str) : List ExceptHandler → List (Value × (Addr → Value → Option Addr → TS)) → Prop
  | nil : HdsAs X n [] []
  | cons {x : Str} {c : Value} {ts : Addr → Value → Option Addr → TS} {b₀ : Stmt} {suite : List Stmt} {np pos' : Pos} {hds : List ExceptHandler} {l : List (Value × (Addr → Value → Option Addr → TS))} (hc : Names X x c)
      (hsu : ∀ (a : Addr) (oe : Obj) (cls : Value) (d : Option Addr) (pn : List (Addr × Obj)), Zc cls d oe → (∃ vs, oe.data = .fields vs) → PSs (X.suite a ((a, oe) :: pn)) (b₀ :: suite) (ts a cls d)) (r : HdsAs X n hds l) :
      HdsAs X n (.ExceptHandler (some (.Name x np)) (some n) (b₀ :: suite) pos' :: hds) ((c, ts) :: l)
section
variable {X : Cx} {n : Str} {i : Nat} {body : List Stmt} {h₀ : ExceptHandler} {hds : List ExceptHandler} {l : List (Value × (Addr → Value → Option Addr → TS))} {pos : Pos} {tb : WX → TS} {Wout : WX}
theorem ps_try_mas (hs : X.stack = X.env :: X.outer) (hf : X.env.frame = some X.env.locals) (hN : X.N.Nodup) (hi : X.N[i]? = some n) (hln : X.env.kindOf n = some .local) (tk : Takes X Wout)
    (hb : ∀ (W : WX) (pn : List (Addr × Obj)) (xe : Value → Shared → Prop), Takes (X.tr pn xe) W → PassesOwn (model X.prog X.w) X.A X.env xe → PSs (X.tr pn xe) body (tb W))
    (hh : HdsAs X n (h₀ :: hds) l) : PS X (.Try body (h₀ :: hds) [] [] pos) (fun D σ H => tb (wMAs X.K i Wout D l) D σ H) := by
  refine ⟨fun pins s σ H D I h => ?_⟩
  have ok := I.ok
  have hfr : X.A.frames = some (X.env :: X.outer) := by rw [ok.frames, hs]
  have hloc : Loc X.env.scope n := .inl hln
  refine wpAny_Try_except (wpAny_mono ((hb (wMAs X.K i Wout D l) (X.pn ++ pins) (fun e s₁ => wpAny (model X.prog X.w) X.A (noteFrame e X.env) (fun _ s₂ => wpAny (model X.prog X.w) X.A (setFlight e none) (fun _ s₃ =>
    wpAny (model X.prog X.w) X.A (handleBy e X.env (h₀ :: hds)) (SP X pins D) X.xe s₃) X.xe s₂) X.xe s₁) (fun u s' xx => ?_) PassesOwn.looking).run [] s σ H D (I.toTry _) h) (fun f s1 hsp => ?_) (fun e s1 he => he))
  · obtain ⟨a, B, sI, pins', σ', H', cls, d, rfl, J', nb, up, sky, na, os, ag, w⟩ := xx
    have J : Inv X pins σ' H' sI := J'.ofTry ok
    refine Sky.land Zc.steady hfr hf (show Sky B (X.env :: X.outer) a (Zc cls d) X.env.locals s'.heap by rw [← hs]; exact sky) fun h3 fl3 up3 => ?_
    have J3 : Inv X pins σ' H' { s' with heap := h3 } := J.landed nb fl3.1 (up.trans up3) os ag
    obtain ⟨oe3, vs3, he3, hz3, hd3⟩ := fl3.there
    have nfr : a ∉ frs (X.env :: X.outer) := fun hm => by
      obtain ⟨_, o', e', hnf⟩ := fl3.2.2.1.mem hm
      rw [he3] at e'
      cases e'
      exact hnf _ hd3
    have nL : a ≠ X.env.locals := fun z => nfr (List.mem_filterMap.mpr ⟨X.env, List.mem_cons_self, by rw [hf, z]⟩)
    have nF : a ∉ X.fs := fun hm => by
      obtain ⟨e, he, q⟩ := List.mem_filterMap.mp hm
      exact nfr (List.mem_filterMap.mpr ⟨e, List.mem_cons_of_mem _ he, q⟩)
    have S3 := J3.suite he3 hd3 na nL nF
    have go : ∀ {hds' : List ExceptHandler} {l' : List (Value × (Addr → Value → Option Addr → TS))}, HdsAs X n hds' l' → wMAs X.K i Wout D l' cls d σ' H' →
        wpAny (model X.prog X.w) X.A (handleBy (.ref a) X.env hds') (SP X pins D) X.xe { s' with heap := h3 } := by
      intro hds' l' hk
      induction hk with
      | nil =>
        intro w
        refine wpAny_handleBy_nil ?_
        obtain ⟨k1, k2, k3, oe, vs, T, oT, ts', he, hz, hd, h1, hr⟩ := id fl3
        unfold PySem.passOn
        refine wpAny_bind (wpAny_field he hd h1 ?_)
        rw [if_neg (show ¬ ((Value.ref T == Value.none) = true) from by simp)]
        have fin : wpAny (model X.prog X.w) X.A (setFlight (.ref a) X.env.frame) (fun _ s4 => wpAny (model X.prog X.w) X.A (throw (.ref a) : Sem Flow) (SP X pins D) X.xe s4) X.xe { s' with heap := h3 } := by
          rw [hf]
          refine HandSPX.setFlight_upZ fl3 fun h4 hh4 up4 => wpAny_throw (tk _ _ ?_)
          exact ⟨a, B, sI, pins, σ', H', cls, d, rfl, J, nb, (up.trans up3).trans up4, .inr (.inr (by rw [hs]; exact hh4)), na, os, ag, w⟩
        first
          | exact wpAny_bind (wpAny_pure (wpAny_bind fin))
          | exact wpAny_bind fin
      | @cons x c ts b₀ suite np pos' hds2 l2 hc hsu r ih =>
        rintro ⟨b, hb1, hyes, hno⟩
        refine wpAny_handleBy_cons (codeAny_handlers_test ?_) (by intro q; cases q)
        have LM := PySem.W.exm_one (M := model X.prog X.w) (h := h3) (J3.kIn) (fun A Q E s k q => wpAny_typeOf_ref (k _ _ he3) (by rw [hz3.1]; exact q)) hb1
        have test : ∀ {Q : Value → Shared → Prop} {E : Value → Shared → Prop}, Q c { s' with heap := h3 } → wpAny (model X.prog X.w) (X.A.mark (some (.ref a))) (eval (.Name x np) X.env) Q E { s' with heap := h3 } := fun {Q E} q => by
          obtain ⟨hg, hdbg, hm | ⟨hm, hv, hnn⟩⟩ := hc
          · exact ld_glob (X := X.suite a ((a, oe3) :: (X.pn ++ pins))) S3 hg hm q hdbg
          · exact ld_blt (X := X.suite a ((a, oe3) :: (X.pn ++ pins))) S3 hg hm hv q hnn hdbg
        refine test (LM.here ?_)
        cases b with
        | false =>
          show wpAny _ X.A (handleBy (.ref a) X.env hds2) _ _ _
          exact ih (hno rfl)
        | true =>
          refine codeAny_handlers_suite_as (HandSPX.lands_againZ fl3 fun h4 fl4 up4 => ?_)
          have J4 : Inv X pins σ' H' { s' with heap := h4 } := J.landed nb fl4.1 ((up.trans up3).trans up4) os ag
          obtain ⟨oe4, vs4, he4, hz4, hd4⟩ := fl4.there
          have S4 := J4.suite he4 hd4 na nL nF
          refine store_ok (X := X.suite a ((a, oe4) :: (X.pn ++ pins))) (v := .ref a) S4 hN hi hloc rfl (fun s5 S5 => ?_) (.inr hln)
          refine wpAny_mono ((hsu a oe4 cls d (X.pn ++ pins) hz4 ⟨_, hd4⟩).run [] s5 _ H' _ S5 (hyes rfl a na)) (fun f s6 hsp => ?_) (fun _ _ z => False.elim z)
          have out : ∀ {σ6 : L2.St} {H6 : Hp} {Q : Shared → Prop}, Inv (X.suite a ((a, oe4) :: (X.pn ++ pins))) [] σ6 H6 s6 → (∀ s7, Inv X pins (σ6.set i none) H6 s7 → Q s7) →
              wpAny (model X.prog X.w) X.A (do bindName X.env n .none; unbindBehindTheSuite X.env n pos') (fun _ s7 => Q s7) X.xe s6 := fun {σ6 H6 Q} S6 hq => gone_ok (S6.unsuite ok) hN hi hln hq
          cases f with
          | ret u =>
            obtain ⟨v6, σ6, H6, S6, r6, q6⟩ := hsp
            exact out S6 fun s7 J7 => ⟨_, _, _, J7, r6, q6⟩
          | next => obtain ⟨σ6, H6, S6, q6⟩ := hsp; exact out S6 fun s7 J7 => ⟨_, _, J7, q6⟩
          | brk => obtain ⟨σ6, H6, S6, q6⟩ := hsp; exact out S6 fun s7 J7 => ⟨_, _, J7, q6⟩
          | cont => obtain ⟨σ6, H6, S6, q6⟩ := hsp; exact out S6 fun s7 J7 => ⟨_, _, J7, q6⟩
    exact go hh w
  · cases f with
    | ret u => obtain ⟨v, σ', H', J', r, q⟩ := hsp; exact ⟨v, σ', H', J'.ofTry ok, r, q⟩
    | next => obtain ⟨σ', H', J', q⟩ := hsp; exact wpAny_execs_nil ⟨σ', H', J'.ofTry ok, q⟩
    | brk => obtain ⟨σ', H', J', q⟩ := hsp; exact ⟨σ', H', J'.ofTry ok, q⟩
    | cont => obtain ⟨σ', H', J', q⟩ := hsp; exact ⟨σ', H', J'.ofTry ok, q⟩
end
/-- try: .. except c as n: .. except c2 as n: .. -/
def tTryAs2 (K : PySem.W.Frag) (c c2 : Value) (i : Nat) (ts ts2 : Addr → Value → Option Addr → TS) (tb : WX → TS) : TS := fun D σ H => tb (wMAs K i (fun _ _ _ _ => False) D [(c, ts), (c2, ts2)]) D σ H
section
variable {K : PySem.W.Frag} {σ : L2.St} {H : Hp}
theorem w_tryAs2 {c c2 : Value} {i : Nat} {ts ts2 : Addr → Value → Option Addr → TS} {tb : WX → TS} {D : Ends} (h : tb (wMAs K i (fun _ _ _ _ => False) D [(c, ts), (c2, ts2)]) D σ H) : tTryAs2 K c c2 i ts ts2 tb D σ H := h
theorem w_mas1 {c : Value} {i : Nat} {ts : Addr → Value → Option Addr → TS} {l : List (Value × (Addr → Value → Option Addr → TS))} {D : Ends} {cls : Value} {d : Option Addr} (e : PySem.W.exmOne K cls c = some true)
    (h : ∀ a, H a = none → ts a cls d { nx := fun σ' H' => D.nx (σ'.set i none) H', rt := D.rt, bk := fun σ' H' => D.bk (σ'.set i none) H', ct := fun σ' H' => D.ct (σ'.set i none) H' } (σ.set i (some (.ref a))) H) : wMAs K i (fun _ _ _ _ => False) D ((c, ts) :: l) cls d σ H :=
  ⟨true, e, fun _ => h, fun z => by cases z⟩
theorem w_mas0 {c : Value} {i : Nat} {ts : Addr → Value → Option Addr → TS} {l : List (Value × (Addr → Value → Option Addr → TS))} {D : Ends} {cls : Value} {d : Option Addr} (e : PySem.W.exmOne K cls c = some false)
    (h : wMAs K i (fun _ _ _ _ => False) D l cls d σ H) : wMAs K i (fun _ _ _ _ => False) D ((c, ts) :: l) cls d σ H :=
  ⟨false, e, (fun z => nomatch z), fun _ => h⟩
end
section
variable {X : Cx} {x x2 n : Str} {c c2 : Value} {i : Nat} {body suite suite2 : List Stmt} {b₀ b₂ : Stmt} {np np2 pos pos' pos2 : Pos} {tb : WX → TS} {ts ts2 : Addr → Value → Option Addr → TS}
theorem ptryas2 (K : PySem.W.Frag) (hs : X.stack = X.env :: X.outer) (hf : X.env.frame = some X.env.locals) (hN : X.N.Nodup) (hi : X.N[i]? = some n) (hln : X.env.kindOf n = some .local) (hc : Names X x c) (hc2 : Names X x2 c2)
    (hb : ∀ (W : WX) (pn : List (Addr × Obj)) (xe : Value → Shared → Prop), Takes (X.tr pn xe) W → PSs (X.tr pn xe) body (tb W))
    (hsu : ∀ (a : Addr) (oe : Obj) (cls : Value) (d : Option Addr) (pn : List (Addr × Obj)), Zc cls d oe → (∃ vs, oe.data = .fields vs) → PSs (X.suite a ((a, oe) :: pn)) (b₀ :: suite) (ts a cls d))
    (hsu2 : ∀ (a : Addr) (oe : Obj) (cls : Value) (d : Option Addr) (pn : List (Addr × Obj)), Zc cls d oe → (∃ vs, oe.data = .fields vs) → PSs (X.suite a ((a, oe) :: pn)) (b₂ :: suite2) (ts2 a cls d)) (hK : X.K = K := by rfl) :
    PS X (.Try body [.ExceptHandler (some (.Name x np)) (some n) (b₀ :: suite) pos', .ExceptHandler (some (.Name x2 np2)) (some n) (b₂ :: suite2) pos2] [] [] pos) (tTryAs2 K c c2 i ts ts2 tb) := by
  subst hK
  exact ps_try_mas hs hf hN hi hln takes_none5 (fun W pn xe tk _ => hb W pn xe tk) (.cons hc hsu (.cons hc2 hsu2 .nil))
end
/-! defs that let exceptions out, called by name -/
theorem Fn.mkX {P : Program} {w : World} {K : PySem.W.Frag} {mg : Str → Option Value} {base : Heap} {x qual : Str} {params : Arguments} {body : List Stmt} {scope : Scope} {f : Addr} {fd : FuncData} {N ps : List Str} {k : Nat} {sp : Sp}
    (F : FunD K x qual params body scope [] [] f fd) (hm : mg x = some (.ref f)) (S : FnScope N ps scope) (len : ∀ vs H Q E, sp vs H Q E → vs.length = ps.length)
    (hb : ∀ (kV doc pm : Value) (an : Option Addr) (cdv ct : Value) (us : List Value), us.length = ps.length → bindArgs (PySem.W.fnOf x qual params body scope .none kV doc pm an cdv ct) ⟨us, []⟩ = pure (ps.zip us))
    (hbody : ∀ (cdv : Value) (A : Around) (outer : List Env) (s : Shared) (H : Hp) (vs : List V) (Q : VK) (E : XK), Room k (A.deeper (envOfC qual scope s.heap.objs.size f cdv)) → sp vs H Q E →
      Takes (cxOf (L2.CX P w) P w K mg base N qual scope f cdv A outer s H E) (fun cls d _ H => E cls d H) →
      ∃ t, PSs (cxOf (L2.CX P w) P w K mg base N qual scope f cdv A outer s H E) body t ∧ t { nx := fun _ H' => Q .non H', rt := Q } (start N vs) H) :
    Fn P w K mg base (L2.CX P w) (k + 1) x sp := ⟨f, fd, ps, fnokX F S len hbody, hm, F.kp, F.bindsN hb⟩
def tCallS (sp : Sp) (W : WX) (t : TA) : TE := fun σ H Q => t σ H fun vs H1 => sp vs H1 Q (WE W σ)
theorem pcS {X : Cx} {k j : Nat} {x : Str} {sp : Sp} {W : WX} {p pos : Pos} {e : Expr} {es : List Expr} {t : TA} (c : Fn X.prog X.w X.K X.mg X.base (L2.CX X.prog X.w) k x sp) (hr : Room j X.A) (hk : k ≤ j) (tk : Takes X W) (hg : Gl X x) (ha : PA X (e :: es) t)
    (hdb : (x == ("__debug__" : Str)) = false := by decide) (he : starEach (e :: es) X.env = (false, eval e X.env) :: starEach es X.env := by rfl) (hpl : (backTo pos (starEach es X.env)).any (·.1) = false := by rfl) :
    PE X (.Call (.Name x p) (e :: es) [] pos) (tCallS sp W t) := by
  obtain ⟨f, fd, ps, F, hm, hkp, hb⟩ := c.ex
  refine ⟨fun pins s σ H Q I h => ?_⟩
  refine wpAny_Call_Name_kw (ld_glob I hg hm ?_ hdb)
  refine PySem.W.callWith_K (h₀ := X.base) I.ok.mod.kin hkp (thn (ha.run pos pins s σ H _ I h) fun us s1 ⟨vs, H1, I1, r, q⟩ => ⟨I1.kIn, ?_⟩) he hpl
  exact run_fnS (E := WE W) F (hr.mono hk) hb (passAt tk σ) I1 r q
theorem w_callS {sp : Sp} {W : WX} {t : TA} {σ : L2.St} {H : Hp} {Q : VK} (h : t σ H fun vs H1 => sp vs H1 Q (WE W σ)) : tCallS sp W t σ H Q := h
/-- a list unpacked -/
theorem kGunl {X : Cx} {K : PySem.W.Frag} {es : List Expr} {k : Nat} {t : TGs} {n : Nat} {pos : Pos} (hc : X.calm = true) (h : PGs X es t)
    (hn : (assignEach es X.env).length = n := by rfl) (hst : (assignEach es X.env).findIdx? (·.1) = none := by rfl) (hK : X.K = K := by rfl) : PG X (.Tuple es k pos) (gLst K n t) := by subst hK; exact pg_lst hc h hn hst
theorem w_glst {K : PySem.W.Frag} {σ : L2.St} {H : Hp} {n : Nat} {t : TGs} {a : Addr} {xs : List V} {Q : L2.St → Hp → Prop} (hs : SqL K H a xs) (hl : xs.length = n) (h : t xs σ H Q) : gLst K n t (.ref a) σ H Q := ⟨a, xs, rfl, hs, hl, h⟩
/-- a for over enumerate(list) -/
theorem for_enumL {K : PySem.W.Frag} {a : Addr} {xs : List V} {g : TG} {tb : TS} {D : Ends} {σ : L2.St} {H : Hp} (Pv : Nat → L2.St → Hp → Prop) (h0 : Pv 0 σ H) (hl : ∀ i σ H, i ≤ xs.length → Pv i σ H → SqL K H a xs)
    (hs : ∀ i x σ H T, xs[i]? = some x → Pv i σ H → H T = none → g (.ref T) σ (upd H T (.tup [.int (i : Nat), x])) fun σ2 H2 => tb { D with nx := Pv (i + 1), ct := Pv (i + 1), bk := D.nx } σ2 H2) (hd : ∀ σ H, Pv xs.length σ H → D.nx σ H) : ForJ (Ite K a) g tb D σ H := by
  refine for_it (walk_enum (K := K) (a := a) (xs := xs)) Pv h0 hl ?_ hd
  rintro i v σ H H' hi p ⟨T, x, y, rfl, hT, rfl, hx, hy⟩
  cases hx
  exact hs i y σ H T hy p hT
theorem i_enumL {K : PySem.W.Frag} {ta : TA} {σ : L2.St} {H : Hp} {R : It → Hp → Prop} (h : ta σ H fun vs H1 => ∃ a xs, vs = [.ref a] ∧ SqL K H1 a xs ∧ R (Ite K a) H1) : iEnum K ta σ H R := h
/-! lists of pairs (text, number) -/
inductive Prs (K : PySem.W.Frag) (H : Hp) : List V → List (Str × Int) → Prop
  | nil : Prs K H [] []
  | cons {a : Addr} {n : Str} {m : Int} {vs : List V} {rs : List (Str × Int)} (h : SqT K H a [.str n, .int m]) (r : Prs K H vs rs) : Prs K H (.ref a :: vs) ((n, m) :: rs)
section
variable {K : PySem.W.Frag} {H H' : Hp} {vs : List V} {rs : List (Str × Int)}
theorem Prs.len (p : Prs K H vs rs) : vs.length = rs.length := by
  induction p with
  | nil => rfl
  | cons _ _ ih => rw [List.length_cons, List.length_cons, ih]
theorem Prs.map (f : ∀ a xs, SqT K H a xs → SqT K H' a xs) (p : Prs K H vs rs) : Prs K H' vs rs := by
  induction p with
  | nil => exact .nil
  | cons h _ ih => exact .cons (f _ _ h) ih
theorem Prs.ex (e : Ex H H') (p : Prs K H vs rs) : Prs K H' vs rs := p.map fun _ _ => ex_t e
theorem st_updL {p : Addr} {xs ys : List V} (hp : H p = some (.lst xs)) : ∀ a zs, SqT K H a zs → SqT K (upd H p (.lst ys)) a zs := by
  intro a zs s
  rcases s with (s | ⟨o', s⟩) | s
  · refine .inl (.inl ?_)
    rw [upd_ne (fun e => by subst e; rw [hp] at s; cases s)]
    exact s
  · refine .inl (.inr ⟨o', ?_⟩)
    rw [upd_ne (fun e => by subst e; rw [hp] at s; cases s)]
    exact s
  · exact .inr s
theorem Prs.updL {p : Addr} {xs ys : List V} (hp : H p = some (.lst xs)) (q : Prs K H vs rs) : Prs K (upd H p (.lst ys)) vs rs := q.map (st_updL hp)
theorem Prs.app {vs2 : List V} {rs2 : List (Str × Int)} (p : Prs K H vs rs) (q : Prs K H vs2 rs2) : Prs K H (vs ++ vs2) (rs ++ rs2) := by
  induction p with
  | nil => exact q
  | cons h _ ih => exact .cons h ih
theorem Prs.one {a : Addr} {n : Str} {m : Int} (h : SqT K H a [.str n, .int m]) : Prs K H [.ref a] [(n, m)] := .cons h .nil
theorem Prs.get (p : Prs K H vs rs) : ∀ {i : Nat} {v : V}, vs[i]? = some v → ∃ a n m, v = .ref a ∧ rs[i]? = some (n, m) ∧ SqT K H a [.str n, .int m] := by
  induction p with
  | nil => intro i v h; cases h
  | @cons a n m vs rs hh _ ih =>
    intro i v h
    cases i with
    | zero => cases h; exact ⟨a, n, m, rfl, rfl, hh⟩
    | succ i => exact ih h
theorem Prs.at_ (p : Prs K H vs rs) : ∀ {i : Nat} {n : Str} {m : Int}, rs[i]? = some (n, m) → ∃ a, vs[i]? = some (.ref a) ∧ SqT K H a [.str n, .int m] := by
  induction p with
  | nil => intro i n m h; cases h
  | @cons a n m vs rs hh _ ih =>
    intro i n' m' h
    cases i with
    | zero => cases h; exact ⟨a, rfl, hh⟩
    | succ i => exact ih h
/-- a comprehension over a list of pairs -/
theorem lcJ_prs {Q : VK} {a : Addr} {g : TG} {te : TE} {ws : List Nat} {σ : L2.St} (f : Str → Int → V) (hx : SqL K H a vs) (hp : Prs K H vs rs) (hn : rs.length ≤ 100000) (σ' : Str → Int → L2.St) (hw : ∀ n m, wipe (σ' n m) ws = wipe σ ws)
    (hg : ∀ (n : Str) (m : Int) (b : Addr) (H1 : Hp) (R : L2.St → Hp → Prop), SqT K H1 b [.str n, .int m] → R (σ' n m) H1 → g (.ref b) (wipe σ ws) H1 R)
    (he : ∀ (n : Str) (m : Int) (H1 : Hp) (Q' : VK), Ex H H1 → (n, m) ∈ rs → (∀ H2, Ex H1 H2 → Q' (f n m) H2) → te (σ' n m) H1 Q')
    (hq : ∀ p H2, H p = none → Ex H H2 → H2 p = some (.lst (rs.map fun r => f r.1 r.2)) → Q (.ref p) H2) : LcJ (Itl K a) g tYes te ws σ H Q := fun D hD => by
  have hl := hp.len
  refine lc_it (walk_list (K := K) (a := a) (xs := vs)) (Pv := fun i H' => Ex H H' ∧ H' D = some (.lst ((rs.take i).map fun r => f r.1 r.2))) ⟨Ex.new hD, upd_same⟩ (fun i H' _ p => ex_l p.1 hx) ?_ (fun H' p => hq D H' hD p.1 (by rw [hl, List.take_length] at p; exact p.2))
  rintro i x H1 H' hi ⟨e1, p1⟩ ⟨rfl, hv⟩
  obtain ⟨b, n, m, rfl, hr, hb⟩ := hp.get hv
  refine hg n m b H' _ (ex_t e1 hb) ⟨hw n m, ?_⟩
  show te (σ' n m) H' _
  refine he n m H' _ e1 (List.mem_of_getElem? hr) fun H2 e2 => ⟨_, e2 D _ p1, sz_lt (by rw [List.length_map, List.length_take]; omega), Ex.mut (e1.trans e2) hD, ?_⟩
  rw [List.take_add_one, hr, List.map_append]
  exact upd_same
end

end M
namespace M
open PySem PySem.Spec PyProof.Rows L2 Evl MS
def top (i : Nat) : Stmt := PySem.Challenge.pw_rosterneed_k71_whole_roster_texts.main.body.getD i (.Pass ⟨0, 0, 0, 0⟩)
def mainFile : Str := PySem.Challenge.pw_rosterneed_k71_whole_roster_texts.main.file
abbrev s_is_integer : Stmt := top 12
def d_is_integer : DX := ⟨fun K => He.ga K "is_integer", "is_integer", "is_integer", defArgs s_is_integer, defBody s_is_integer, defScope s_is_integer, [], false⟩
abbrev s_is_listed : Stmt := top 14
def d_is_listed : DX := ⟨fun K => He.ga K "is_listed", "is_listed", "is_listed", defArgs s_is_listed, defBody s_is_listed, defScope s_is_listed, [], false⟩
abbrev s_deep : Stmt := top 16
def d_deep : DX := ⟨fun K => He.ga K "deep", "deep", "deep", defArgs s_deep, defBody s_deep, defScope s_deep, [], false⟩
abbrev s_is_word : Stmt := top 17
def d_is_word : DX := ⟨fun K => He.ga K "is_word", "is_word", "is_word", defArgs s_is_word, defBody s_is_word, defScope s_is_word, [.bl false], false⟩
abbrev s_is_row_name : Stmt := top 43
def d_is_row_name : DX := ⟨fun K => He.ga K "is_row_name", "is_row_name", "is_row_name", defArgs s_is_row_name, defBody s_is_row_name, defScope s_is_row_name, [], false⟩
abbrev s_is_names : Stmt := top 45
def d_is_names : DX := ⟨fun K => He.ga K "is_names", "is_names", "is_names", defArgs s_is_names, defBody s_is_names, defScope s_is_names, [], false⟩
abbrev s_stood_ahead : Stmt := top 46
def d_stood_ahead : DX := ⟨fun K => He.ga K "stood_ahead", "stood_ahead", "stood_ahead", defArgs s_stood_ahead, defBody s_stood_ahead, defScope s_stood_ahead, [], false⟩
abbrev s_runs_of : Stmt := top 52
def d_runs_of : DX := ⟨fun K => He.ga K "runs_of", "runs_of", "runs_of", defArgs s_runs_of, defBody s_runs_of, defScope s_runs_of, [], false⟩
abbrev s_run_words : Stmt := top 53
def d_run_words : DX := ⟨fun K => He.ga K "run_words", "run_words", "run_words", defArgs s_run_words, defBody s_run_words, defScope s_run_words, [], false⟩
abbrev s_write_roster : Stmt := top 54
def d_write_roster : DX := ⟨fun K => He.ga K "write_roster", "write_roster", "write_roster", defArgs s_write_roster, defBody s_write_roster, defScope s_write_roster, [], false⟩
abbrev s_read_run : Stmt := top 55
def d_read_run : DX := ⟨fun K => He.ga K "read_run", "read_run", "read_run", defArgs s_read_run, defBody s_read_run, defScope s_read_run, [], false⟩
abbrev s_read_runs : Stmt := top 56
def d_read_runs : DX := ⟨fun K => He.ga K "read_runs", "read_runs", "read_runs", defArgs s_read_runs, defBody s_read_runs, defScope s_read_runs, [], false⟩
abbrev s_spread : Stmt := top 57
def d_spread : DX := ⟨fun K => He.ga K "spread", "spread", "spread", defArgs s_spread, defBody s_spread, defScope s_spread, [], false⟩
abbrev s_read_roster : Stmt := top 58
def d_read_roster : DX := ⟨fun K => He.ga K "read_roster", "read_roster", "read_roster", defArgs s_read_roster, defBody s_read_roster, defScope s_read_roster, [], false⟩
abbrev s__law_source : Stmt := top 60
def d__law_source : DX := ⟨fun K => He.ga K "_law_source", "_law_source", "_law_source", defArgs s__law_source, defBody s__law_source, defScope s__law_source, [], false⟩
abbrev s__law_pick : Stmt := top 61
def d__law_pick : DX := ⟨fun K => He.ga K "_law_pick", "_law_pick", "_law_pick", defArgs s__law_pick, defBody s__law_pick, defScope s__law_pick, [], false⟩
abbrev s__law_is_name : Stmt := top 62
def d__law_is_name : DX := ⟨fun K => He.ga K "_law_is_name", "_law_is_name", "_law_is_name", defArgs s__law_is_name, defBody s__law_is_name, defScope s__law_is_name, [], false⟩
abbrev s__law_runs : Stmt := top 63
def d__law_runs : DX := ⟨fun K => He.ga K "_law_runs", "_law_runs", "_law_runs", defArgs s__law_runs, defBody s__law_runs, defScope s__law_runs, [], false⟩
abbrev s__law_words : Stmt := top 64
def d__law_words : DX := ⟨fun K => He.ga K "_law_words", "_law_words", "_law_words", defArgs s__law_words, defBody s__law_words, defScope s__law_words, [], false⟩
abbrev s__law_cut_words : Stmt := top 65
def d__law_cut_words : DX := ⟨fun K => He.ga K "_law_cut_words", "_law_cut_words", "_law_cut_words", defArgs s__law_cut_words, defBody s__law_cut_words, defScope s__law_cut_words, [], false⟩
abbrev s__law_word_number : Stmt := top 66
def d__law_word_number : DX := ⟨fun K => He.ga K "_law_word_number", "_law_word_number", "_law_word_number", defArgs s__law_word_number, defBody s__law_word_number, defScope s__law_word_number, [], false⟩
abbrev s__law_due : Stmt := top 67
def d__law_due : DX := ⟨fun K => He.ga K "_law_due", "_law_due", "_law_due", defArgs s__law_due, defBody s__law_due, defScope s__law_due, [], false⟩
abbrev s__law_spread : Stmt := top 68
def d__law_spread : DX := ⟨fun K => He.ga K "_law_spread", "_law_spread", "_law_spread", defArgs s__law_spread, defBody s__law_spread, defScope s__law_spread, [], false⟩
abbrev s__law_read : Stmt := top 69
def d__law_read : DX := ⟨fun K => He.ga K "_law_read", "_law_read", "_law_read", defArgs s__law_read, defBody s__law_read, defScope s__law_read, [], false⟩
abbrev s__law_right : Stmt := top 70
def d__law_right : DX := ⟨fun K => He.ga K "_law_right", "_law_right", "_law_right", defArgs s__law_right, defBody s__law_right, defScope s__law_right, [], false⟩
abbrev s_law : Stmt := top 71
def d_law : DX := ⟨fun K => He.ga K "law", "law", "law", defArgs s_law, defBody s_law, defScope s_law, [], false⟩
abbrev s_Roster_init : Stmt := inClass (top 47) 0
def d_Roster_init : DX := ⟨fun K => He.ma K (He.ga K "Roster") "__init__", "__init__", "Roster.__init__", defArgs s_Roster_init, defBody s_Roster_init, defScope s_Roster_init, [.adr (He.dflAt ("Roster", some "__init__") 0)], false⟩
abbrev s_Roster_eq : Stmt := inClass (top 47) 1
def d_Roster_eq : DX := ⟨fun K => He.ma K (He.ga K "Roster") "__eq__", "__eq__", "Roster.__eq__", defArgs s_Roster_eq, defBody s_Roster_eq, defScope s_Roster_eq, [], false⟩
abbrev s_WrongWord_init : Stmt := inClass (top 5) 0
def d_WrongWord_init : DX := ⟨fun K => He.ma K (He.ga K "WrongWord") "__init__", "__init__", "WrongWord.__init__", defArgs s_WrongWord_init, defBody s_WrongWord_init, defScope s_WrongWord_init, [], true⟩
abbrev s_BadText_init : Stmt := inClass (top 6) 0
def d_BadText_init : DX := ⟨fun K => He.ma K (He.ga K "BadText") "__init__", "__init__", "BadText.__init__", defArgs s_BadText_init, defBody s_BadText_init, defScope s_BadText_init, [], true⟩
abbrev s_TooMany_init : Stmt := inClass (top 7) 0
def d_TooMany_init : DX := ⟨fun K => He.ma K (He.ga K "TooMany") "__init__", "__init__", "TooMany.__init__", defArgs s_TooMany_init, defBody s_TooMany_init, defScope s_TooMany_init, [], true⟩
def fn0 : List DX := [d_is_integer, d_is_listed, d_deep, d_is_word, d_is_row_name, d_is_names, d_stood_ahead, d_runs_of, d_run_words, d_write_roster, d_read_run, d_read_runs]
def fn1 : List DX := [d_spread, d_read_roster, d__law_source, d__law_pick, d__law_is_name, d__law_runs, d__law_words, d__law_cut_words, d__law_word_number, d__law_due, d__law_spread, d__law_read]
def fn2 : List DX := [d__law_right, d_law, d_Roster_init, d_Roster_eq, d_WrongWord_init, d_BadText_init, d_TooMany_init]
def fn : List DX := fn0 ++ fn1 ++ fn2
def fa0 : List He.Fa := [.free "abs", .free "all", .free "any", .free "bool", .free "enumerate", .free "int", .free "isinstance", .free "len", .free "list", .free "max", .free "min", .free "range"]
def fa1 : List He.Fa := [.free "str", .free "sum", .free "tuple", .glo "is_integer", .glo "is_listed", .glo "deep", .glo "is_word", .glo "is_row_name", .glo "is_names", .glo "stood_ahead", .glo "runs_of", .glo "run_words"]
def fa2 : List He.Fa := [.glo "write_roster", .glo "read_run", .glo "read_runs", .glo "spread", .glo "read_roster", .glo "_law_source", .glo "_law_pick", .glo "_law_is_name", .glo "_law_runs", .glo "_law_words", .glo "_law_cut_words", .glo "_law_word_number"]
def fa3 : List He.Fa := [.glo "_law_due", .glo "_law_spread", .glo "_law_read", .glo "_law_right", .glo "law", .meth "Roster" "__init__", .meth "Roster" "__eq__", .glo "Roster", .cls "Roster", .mkr "Roster", .noat "Roster" "first", .noat "Roster" "then"]
def fa4 : List He.Fa := [.glo "Unreadable", .int "MOST_NAMES" 20000, .int "MOST_DIGITS" 5, .str "CUT" "/", .free "super", .glo "BadRoster", .glo "BadText", .glo "TooMany"]
def fa : List He.Fa := fa0 ++ fa1 ++ fa2 ++ fa3 ++ fa4
def exL0 : List (PySem.W.Frag → Bool) := [(insB "Roster"), (kitSB "Roster"), (fun K => PySem.W.notFirst K (He.ga K "Roster") (.ref (He.ga K "Roster"))), (fun K => He.eqO (PySem.W.findIn K (.ref (He.ga K "Roster")) "__ne__") (some (some (.builtin "object.__ne__")))), (fun K => decide (PySem.W.mroIn K (He.ga K "Roster") (.type "object") = some true)), (kitB "Roster" "tuple" false), (nfB "Roster" "tuple"), (kitB "Roster" "list" false), (nfB "Roster" "list"), (kitB "Roster" "int" false), (nfB "Roster" "int"), (kitB "Roster" "NoneType" false)]
def exL1 : List (PySem.W.Frag → Bool) := [(nfB "Roster" "NoneType"), (kitB "Roster" "str" false), (nfB "Roster" "str"), (kitB "Roster" "bool" false), (nfB "Roster" "bool"), (fun K => tup0B K (He.dflAt ("Roster", some "__init__") 0 K)), (fun K => XS.supXB mainFile K (He.ga K "BadText") (d_BadText_init.adr K)), (fun K => XS.supXB mainFile K (He.ga K "TooMany") (d_TooMany_init.adr K)), (fun K => XS.supXB mainFile K (He.ga K "WrongWord") (d_WrongWord_init.adr K)), (fun K => oexB K (He.ga K "BadRoster")), (fun K => He.eqO (PySem.W.findIn K (.ref (He.ga K "BadRoster")) "__init__") (some (some (.ref (He.ma K (He.ga K "WrongWord") "__init__"))))), (fun K => decide (PySem.W.typeIn K (.ref (He.ma K (He.ga K "WrongWord") "__init__")) = some (.type "function")))]
def exL2 : List (PySem.W.Frag → Bool) := [(fun K => XS.supCB K (He.ga K "WrongWord") (He.ga K "BadRoster")), (fun K => xfB K (He.ga K "BadRoster")), (fun K => someNone (PySem.W.findIn K (.ref (He.ga K "BadRoster")) "word")), (fun K => decide (PySem.W.exmOne K (.ref (He.ga K "BadRoster")) (.ref (He.ga K "BadRoster")) = some true)), (fun K => oexB K (He.ga K "BadText")), (fun K => He.eqO (PySem.W.findIn K (.ref (He.ga K "BadText")) "__init__") (some (some (.ref (He.ma K (He.ga K "BadText") "__init__"))))), (fun K => decide (PySem.W.typeIn K (.ref (He.ma K (He.ga K "BadText") "__init__")) = some (.type "function"))), (fun K => XS.supCB K (He.ga K "BadText") (He.ga K "BadText")), (fun K => xfB K (He.ga K "BadText")), (fun K => someNone (PySem.W.findIn K (.ref (He.ga K "BadText")) "place")), (fun K => decide (PySem.W.exmOne K (.ref (He.ga K "BadText")) (.ref (He.ga K "BadText")) = some true)), (fun K => oexB K (He.ga K "TooMany"))]
def exL3 : List (PySem.W.Frag → Bool) := [(fun K => He.eqO (PySem.W.findIn K (.ref (He.ga K "TooMany")) "__init__") (some (some (.ref (He.ma K (He.ga K "TooMany") "__init__"))))), (fun K => decide (PySem.W.typeIn K (.ref (He.ma K (He.ga K "TooMany") "__init__")) = some (.type "function"))), (fun K => XS.supCB K (He.ga K "TooMany") (He.ga K "TooMany")), (fun K => xfB K (He.ga K "TooMany")), (fun K => someNone (PySem.W.findIn K (.ref (He.ga K "TooMany")) "word")), (fun K => decide (PySem.W.exmOne K (.ref (He.ga K "TooMany")) (.ref (He.ga K "TooMany")) = some true)), (fun K => excB K (He.ga K "BadText")), (fun K => decide (PySem.W.exmOne K (.ref (He.ga K "TooMany")) (.ref (He.ga K "BadText")) = some false)), (fun K => decide (PySem.W.kitOne K (.ref (He.ga K "BadText")) (.ref (He.ga K "Unreadable")) = some true))]
def exL : List (PySem.W.Frag → Bool) := exL0 ++ exL1 ++ exL2 ++ exL3
def exB (K : PySem.W.Frag) : Bool := exL.all fun f => f K
/-- what the top has left -/
structure Env (P : Program) (K : PySem.W.Frag) (mg : Str → Option Value) : Prop where
  ex : ∃ h : Heap, K.In h ∧ h.Ns mainGlobals mg
  c : SaysM fa fn exB K
  pf : ((P.main.file : Str) == mainFile) = true ∧ (P.main.scope.names.lookup ("super" : Str)).isSome = false
theorem Env.x {P : Program} {K : PySem.W.Frag} {mg : Str → Option Value} (E : Env P K mg) (i : Nat) {f : PySem.W.Frag → Bool} (h : exL[i]? = some f) : f K = true := List.all_eq_true.mp (show (exL.all fun f => f K) = true from E.c.more) f (List.mem_of_getElem? h)
theorem Env.f_abs {P : Program} {K : PySem.W.Frag} {mg : Str → Option Value} (E : Env P K mg) : mg "abs" = none := by obtain ⟨h, X, G⟩ := E.ex; exact He.free_ok X G (E.c.fact 0 (f := .free "abs") rfl)
theorem Env.f_all {P : Program} {K : PySem.W.Frag} {mg : Str → Option Value} (E : Env P K mg) : mg "all" = none := by obtain ⟨h, X, G⟩ := E.ex; exact He.free_ok X G (E.c.fact 1 (f := .free "all") rfl)
theorem Env.f_any {P : Program} {K : PySem.W.Frag} {mg : Str → Option Value} (E : Env P K mg) : mg "any" = none := by obtain ⟨h, X, G⟩ := E.ex; exact He.free_ok X G (E.c.fact 2 (f := .free "any") rfl)
theorem Env.f_bool {P : Program} {K : PySem.W.Frag} {mg : Str → Option Value} (E : Env P K mg) : mg "bool" = none := by obtain ⟨h, X, G⟩ := E.ex; exact He.free_ok X G (E.c.fact 3 (f := .free "bool") rfl)
theorem Env.f_enumerate {P : Program} {K : PySem.W.Frag} {mg : Str → Option Value} (E : Env P K mg) : mg "enumerate" = none := by obtain ⟨h, X, G⟩ := E.ex; exact He.free_ok X G (E.c.fact 4 (f := .free "enumerate") rfl)
theorem Env.f_int {P : Program} {K : PySem.W.Frag} {mg : Str → Option Value} (E : Env P K mg) : mg "int" = none := by obtain ⟨h, X, G⟩ := E.ex; exact He.free_ok X G (E.c.fact 5 (f := .free "int") rfl)
theorem Env.f_isinstance {P : Program} {K : PySem.W.Frag} {mg : Str → Option Value} (E : Env P K mg) : mg "isinstance" = none := by obtain ⟨h, X, G⟩ := E.ex; exact He.free_ok X G (E.c.fact 6 (f := .free "isinstance") rfl)
theorem Env.f_len {P : Program} {K : PySem.W.Frag} {mg : Str → Option Value} (E : Env P K mg) : mg "len" = none := by obtain ⟨h, X, G⟩ := E.ex; exact He.free_ok X G (E.c.fact 7 (f := .free "len") rfl)
theorem Env.f_list {P : Program} {K : PySem.W.Frag} {mg : Str → Option Value} (E : Env P K mg) : mg "list" = none := by obtain ⟨h, X, G⟩ := E.ex; exact He.free_ok X G (E.c.fact 8 (f := .free "list") rfl)
theorem Env.f_max {P : Program} {K : PySem.W.Frag} {mg : Str → Option Value} (E : Env P K mg) : mg "max" = none := by obtain ⟨h, X, G⟩ := E.ex; exact He.free_ok X G (E.c.fact 9 (f := .free "max") rfl)
theorem Env.f_min {P : Program} {K : PySem.W.Frag} {mg : Str → Option Value} (E : Env P K mg) : mg "min" = none := by obtain ⟨h, X, G⟩ := E.ex; exact He.free_ok X G (E.c.fact 10 (f := .free "min") rfl)
theorem Env.f_range {P : Program} {K : PySem.W.Frag} {mg : Str → Option Value} (E : Env P K mg) : mg "range" = none := by obtain ⟨h, X, G⟩ := E.ex; exact He.free_ok X G (E.c.fact 11 (f := .free "range") rfl)
theorem Env.f_str {P : Program} {K : PySem.W.Frag} {mg : Str → Option Value} (E : Env P K mg) : mg "str" = none := by obtain ⟨h, X, G⟩ := E.ex; exact He.free_ok X G (E.c.fact 12 (f := .free "str") rfl)
theorem Env.f_sum {P : Program} {K : PySem.W.Frag} {mg : Str → Option Value} (E : Env P K mg) : mg "sum" = none := by obtain ⟨h, X, G⟩ := E.ex; exact He.free_ok X G (E.c.fact 13 (f := .free "sum") rfl)
theorem Env.f_tuple {P : Program} {K : PySem.W.Frag} {mg : Str → Option Value} (E : Env P K mg) : mg "tuple" = none := by obtain ⟨h, X, G⟩ := E.ex; exact He.free_ok X G (E.c.fact 14 (f := .free "tuple") rfl)
theorem Env.g_is_integer {P : Program} {K : PySem.W.Frag} {mg : Str → Option Value} (E : Env P K mg) : mg "is_integer" = some (.ref (He.ga K "is_integer")) := by obtain ⟨h, X, G⟩ := E.ex; exact He.glo_ok X G (E.c.fact 15 (f := .glo "is_integer") rfl)
theorem Env.g_is_listed {P : Program} {K : PySem.W.Frag} {mg : Str → Option Value} (E : Env P K mg) : mg "is_listed" = some (.ref (He.ga K "is_listed")) := by obtain ⟨h, X, G⟩ := E.ex; exact He.glo_ok X G (E.c.fact 16 (f := .glo "is_listed") rfl)
theorem Env.g_deep {P : Program} {K : PySem.W.Frag} {mg : Str → Option Value} (E : Env P K mg) : mg "deep" = some (.ref (He.ga K "deep")) := by obtain ⟨h, X, G⟩ := E.ex; exact He.glo_ok X G (E.c.fact 17 (f := .glo "deep") rfl)
theorem Env.g_is_word {P : Program} {K : PySem.W.Frag} {mg : Str → Option Value} (E : Env P K mg) : mg "is_word" = some (.ref (He.ga K "is_word")) := by obtain ⟨h, X, G⟩ := E.ex; exact He.glo_ok X G (E.c.fact 18 (f := .glo "is_word") rfl)
theorem Env.g_is_row_name {P : Program} {K : PySem.W.Frag} {mg : Str → Option Value} (E : Env P K mg) : mg "is_row_name" = some (.ref (He.ga K "is_row_name")) := by obtain ⟨h, X, G⟩ := E.ex; exact He.glo_ok X G (E.c.fact 19 (f := .glo "is_row_name") rfl)
theorem Env.g_is_names {P : Program} {K : PySem.W.Frag} {mg : Str → Option Value} (E : Env P K mg) : mg "is_names" = some (.ref (He.ga K "is_names")) := by obtain ⟨h, X, G⟩ := E.ex; exact He.glo_ok X G (E.c.fact 20 (f := .glo "is_names") rfl)
theorem Env.g_stood_ahead {P : Program} {K : PySem.W.Frag} {mg : Str → Option Value} (E : Env P K mg) : mg "stood_ahead" = some (.ref (He.ga K "stood_ahead")) := by obtain ⟨h, X, G⟩ := E.ex; exact He.glo_ok X G (E.c.fact 21 (f := .glo "stood_ahead") rfl)
theorem Env.g_runs_of {P : Program} {K : PySem.W.Frag} {mg : Str → Option Value} (E : Env P K mg) : mg "runs_of" = some (.ref (He.ga K "runs_of")) := by obtain ⟨h, X, G⟩ := E.ex; exact He.glo_ok X G (E.c.fact 22 (f := .glo "runs_of") rfl)
theorem Env.g_run_words {P : Program} {K : PySem.W.Frag} {mg : Str → Option Value} (E : Env P K mg) : mg "run_words" = some (.ref (He.ga K "run_words")) := by obtain ⟨h, X, G⟩ := E.ex; exact He.glo_ok X G (E.c.fact 23 (f := .glo "run_words") rfl)
theorem Env.g_write_roster {P : Program} {K : PySem.W.Frag} {mg : Str → Option Value} (E : Env P K mg) : mg "write_roster" = some (.ref (He.ga K "write_roster")) := by obtain ⟨h, X, G⟩ := E.ex; exact He.glo_ok X G (E.c.fact 24 (f := .glo "write_roster") rfl)
theorem Env.g_read_run {P : Program} {K : PySem.W.Frag} {mg : Str → Option Value} (E : Env P K mg) : mg "read_run" = some (.ref (He.ga K "read_run")) := by obtain ⟨h, X, G⟩ := E.ex; exact He.glo_ok X G (E.c.fact 25 (f := .glo "read_run") rfl)
theorem Env.g_read_runs {P : Program} {K : PySem.W.Frag} {mg : Str → Option Value} (E : Env P K mg) : mg "read_runs" = some (.ref (He.ga K "read_runs")) := by obtain ⟨h, X, G⟩ := E.ex; exact He.glo_ok X G (E.c.fact 26 (f := .glo "read_runs") rfl)
theorem Env.g_spread {P : Program} {K : PySem.W.Frag} {mg : Str → Option Value} (E : Env P K mg) : mg "spread" = some (.ref (He.ga K "spread")) := by obtain ⟨h, X, G⟩ := E.ex; exact He.glo_ok X G (E.c.fact 27 (f := .glo "spread") rfl)
theorem Env.g_read_roster {P : Program} {K : PySem.W.Frag} {mg : Str → Option Value} (E : Env P K mg) : mg "read_roster" = some (.ref (He.ga K "read_roster")) := by obtain ⟨h, X, G⟩ := E.ex; exact He.glo_ok X G (E.c.fact 28 (f := .glo "read_roster") rfl)
theorem Env.g__law_source {P : Program} {K : PySem.W.Frag} {mg : Str → Option Value} (E : Env P K mg) : mg "_law_source" = some (.ref (He.ga K "_law_source")) := by obtain ⟨h, X, G⟩ := E.ex; exact He.glo_ok X G (E.c.fact 29 (f := .glo "_law_source") rfl)
theorem Env.g__law_pick {P : Program} {K : PySem.W.Frag} {mg : Str → Option Value} (E : Env P K mg) : mg "_law_pick" = some (.ref (He.ga K "_law_pick")) := by obtain ⟨h, X, G⟩ := E.ex; exact He.glo_ok X G (E.c.fact 30 (f := .glo "_law_pick") rfl)
theorem Env.g__law_is_name {P : Program} {K : PySem.W.Frag} {mg : Str → Option Value} (E : Env P K mg) : mg "_law_is_name" = some (.ref (He.ga K "_law_is_name")) := by obtain ⟨h, X, G⟩ := E.ex; exact He.glo_ok X G (E.c.fact 31 (f := .glo "_law_is_name") rfl)
theorem Env.g__law_runs {P : Program} {K : PySem.W.Frag} {mg : Str → Option Value} (E : Env P K mg) : mg "_law_runs" = some (.ref (He.ga K "_law_runs")) := by obtain ⟨h, X, G⟩ := E.ex; exact He.glo_ok X G (E.c.fact 32 (f := .glo "_law_runs") rfl)
theorem Env.g__law_words {P : Program} {K : PySem.W.Frag} {mg : Str → Option Value} (E : Env P K mg) : mg "_law_words" = some (.ref (He.ga K "_law_words")) := by obtain ⟨h, X, G⟩ := E.ex; exact He.glo_ok X G (E.c.fact 33 (f := .glo "_law_words") rfl)
theorem Env.g__law_cut_words {P : Program} {K : PySem.W.Frag} {mg : Str → Option Value} (E : Env P K mg) : mg "_law_cut_words" = some (.ref (He.ga K "_law_cut_words")) := by obtain ⟨h, X, G⟩ := E.ex; exact He.glo_ok X G (E.c.fact 34 (f := .glo "_law_cut_words") rfl)
theorem Env.g__law_word_number {P : Program} {K : PySem.W.Frag} {mg : Str → Option Value} (E : Env P K mg) : mg "_law_word_number" = some (.ref (He.ga K "_law_word_number")) := by obtain ⟨h, X, G⟩ := E.ex; exact He.glo_ok X G (E.c.fact 35 (f := .glo "_law_word_number") rfl)
theorem Env.g__law_due {P : Program} {K : PySem.W.Frag} {mg : Str → Option Value} (E : Env P K mg) : mg "_law_due" = some (.ref (He.ga K "_law_due")) := by obtain ⟨h, X, G⟩ := E.ex; exact He.glo_ok X G (E.c.fact 36 (f := .glo "_law_due") rfl)
theorem Env.g__law_spread {P : Program} {K : PySem.W.Frag} {mg : Str → Option Value} (E : Env P K mg) : mg "_law_spread" = some (.ref (He.ga K "_law_spread")) := by obtain ⟨h, X, G⟩ := E.ex; exact He.glo_ok X G (E.c.fact 37 (f := .glo "_law_spread") rfl)
theorem Env.g__law_read {P : Program} {K : PySem.W.Frag} {mg : Str → Option Value} (E : Env P K mg) : mg "_law_read" = some (.ref (He.ga K "_law_read")) := by obtain ⟨h, X, G⟩ := E.ex; exact He.glo_ok X G (E.c.fact 38 (f := .glo "_law_read") rfl)
theorem Env.g__law_right {P : Program} {K : PySem.W.Frag} {mg : Str → Option Value} (E : Env P K mg) : mg "_law_right" = some (.ref (He.ga K "_law_right")) := by obtain ⟨h, X, G⟩ := E.ex; exact He.glo_ok X G (E.c.fact 39 (f := .glo "_law_right") rfl)
theorem Env.g_law {P : Program} {K : PySem.W.Frag} {mg : Str → Option Value} (E : Env P K mg) : mg "law" = some (.ref (He.ga K "law")) := by obtain ⟨h, X, G⟩ := E.ex; exact He.glo_ok X G (E.c.fact 40 (f := .glo "law") rfl)
theorem Env.m_Roster_init {P : Program} {K : PySem.W.Frag} {mg : Str → Option Value} (E : Env P K mg) : Meth K (He.ga K "Roster") "__init__" (He.ma K (He.ga K "Roster") "__init__") := He.meth_ok (E.c.fact 41 (f := .meth "Roster" "__init__") rfl)
theorem Env.m_Roster_eq {P : Program} {K : PySem.W.Frag} {mg : Str → Option Value} (E : Env P K mg) : Meth K (He.ga K "Roster") "__eq__" (He.ma K (He.ga K "Roster") "__eq__") := He.meth_ok (E.c.fact 42 (f := .meth "Roster" "__eq__") rfl)
theorem Env.g_Roster {P : Program} {K : PySem.W.Frag} {mg : Str → Option Value} (E : Env P K mg) : mg "Roster" = some (.ref (He.ga K "Roster")) := by obtain ⟨h, X, G⟩ := E.ex; exact He.glo_ok X G (E.c.fact 43 (f := .glo "Roster") rfl)
theorem Env.c_Roster {P : Program} {K : PySem.W.Frag} {mg : Str → Option Value} (E : Env P K mg) : Cls K (He.ga K "Roster") := He.cls_ok (E.c.fact 44 (f := .cls "Roster") rfl)
theorem Env.mk_Roster {P : Program} {K : PySem.W.Frag} {mg : Str → Option Value} (E : Env P K mg) : Mk K (He.ga K "Roster") (He.ma K (He.ga K "Roster") "__init__") := He.mkr_ok (E.c.fact 45 (f := .mkr "Roster") rfl)
theorem Env.na_Roster_first {P : Program} {K : PySem.W.Frag} {mg : Str → Option Value} (E : Env P K mg) : NoAttr K (He.ga K "Roster") "first" := He.noat_ok (E.c.fact 46 (f := .noat "Roster" "first") rfl)
theorem Env.na_Roster_then {P : Program} {K : PySem.W.Frag} {mg : Str → Option Value} (E : Env P K mg) : NoAttr K (He.ga K "Roster") "then" := He.noat_ok (E.c.fact 47 (f := .noat "Roster" "then") rfl)
theorem Env.ins_Roster {P : Program} {K : PySem.W.Frag} {mg : Str → Option Value} (E : Env P K mg) : insB "Roster" K = true := (E.x 0 (f := insB "Roster") rfl)
theorem Env.kit_Roster_self {P : Program} {K : PySem.W.Frag} {mg : Str → Option Value} (E : Env P K mg) : PySem.W.kitOne K (.ref (He.ga K "Roster")) (.ref (He.ga K "Roster")) = some true := of_decide_eq_true (E.x 1 (f := kitSB "Roster") rfl)
theorem Env.nf_Roster_self {P : Program} {K : PySem.W.Frag} {mg : Str → Option Value} (E : Env P K mg) : PySem.W.notFirst K (He.ga K "Roster") (.ref (He.ga K "Roster")) = true := (E.x 2 (f := fun K => PySem.W.notFirst K (He.ga K "Roster") (.ref (He.ga K "Roster"))) rfl)
theorem Env.ne_Roster {P : Program} {K : PySem.W.Frag} {mg : Str → Option Value} (E : Env P K mg) : PySem.W.findIn K (.ref (He.ga K "Roster")) "__ne__" = some (some (.builtin "object.__ne__")) := He.eqO_ok (E.x 3 (f := fun K => He.eqO (PySem.W.findIn K (.ref (He.ga K "Roster")) "__ne__") (some (some (.builtin "object.__ne__")))) rfl)
theorem Env.mo_Roster {P : Program} {K : PySem.W.Frag} {mg : Str → Option Value} (E : Env P K mg) : PySem.W.mroIn K (He.ga K "Roster") (.type "object") = some true := of_decide_eq_true (E.x 4 (f := fun K => decide (PySem.W.mroIn K (He.ga K "Roster") (.type "object") = some true)) rfl)
theorem Env.kit_Roster_tuple {P : Program} {K : PySem.W.Frag} {mg : Str → Option Value} (E : Env P K mg) : PySem.W.kitOne K (.type "tuple") (.ref (He.ga K "Roster")) = some false := of_decide_eq_true (E.x 5 (f := kitB "Roster" "tuple" false) rfl)
theorem Env.nf_Roster_tuple {P : Program} {K : PySem.W.Frag} {mg : Str → Option Value} (E : Env P K mg) : PySem.W.notFirst K (He.ga K "Roster") (.type "tuple") = true := (E.x 6 (f := nfB "Roster" "tuple") rfl)
theorem Env.kit_Roster_list {P : Program} {K : PySem.W.Frag} {mg : Str → Option Value} (E : Env P K mg) : PySem.W.kitOne K (.type "list") (.ref (He.ga K "Roster")) = some false := of_decide_eq_true (E.x 7 (f := kitB "Roster" "list" false) rfl)
theorem Env.nf_Roster_list {P : Program} {K : PySem.W.Frag} {mg : Str → Option Value} (E : Env P K mg) : PySem.W.notFirst K (He.ga K "Roster") (.type "list") = true := (E.x 8 (f := nfB "Roster" "list") rfl)
theorem Env.kit_Roster_int {P : Program} {K : PySem.W.Frag} {mg : Str → Option Value} (E : Env P K mg) : PySem.W.kitOne K (.type "int") (.ref (He.ga K "Roster")) = some false := of_decide_eq_true (E.x 9 (f := kitB "Roster" "int" false) rfl)
theorem Env.nf_Roster_int {P : Program} {K : PySem.W.Frag} {mg : Str → Option Value} (E : Env P K mg) : PySem.W.notFirst K (He.ga K "Roster") (.type "int") = true := (E.x 10 (f := nfB "Roster" "int") rfl)
theorem Env.kit_Roster_NoneType {P : Program} {K : PySem.W.Frag} {mg : Str → Option Value} (E : Env P K mg) : PySem.W.kitOne K (.type "NoneType") (.ref (He.ga K "Roster")) = some false := of_decide_eq_true (E.x 11 (f := kitB "Roster" "NoneType" false) rfl)
theorem Env.nf_Roster_NoneType {P : Program} {K : PySem.W.Frag} {mg : Str → Option Value} (E : Env P K mg) : PySem.W.notFirst K (He.ga K "Roster") (.type "NoneType") = true := (E.x 12 (f := nfB "Roster" "NoneType") rfl)
theorem Env.kit_Roster_str {P : Program} {K : PySem.W.Frag} {mg : Str → Option Value} (E : Env P K mg) : PySem.W.kitOne K (.type "str") (.ref (He.ga K "Roster")) = some false := of_decide_eq_true (E.x 13 (f := kitB "Roster" "str" false) rfl)
theorem Env.nf_Roster_str {P : Program} {K : PySem.W.Frag} {mg : Str → Option Value} (E : Env P K mg) : PySem.W.notFirst K (He.ga K "Roster") (.type "str") = true := (E.x 14 (f := nfB "Roster" "str") rfl)
theorem Env.kit_Roster_bool {P : Program} {K : PySem.W.Frag} {mg : Str → Option Value} (E : Env P K mg) : PySem.W.kitOne K (.type "bool") (.ref (He.ga K "Roster")) = some false := of_decide_eq_true (E.x 15 (f := kitB "Roster" "bool" false) rfl)
theorem Env.nf_Roster_bool {P : Program} {K : PySem.W.Frag} {mg : Str → Option Value} (E : Env P K mg) : PySem.W.notFirst K (He.ga K "Roster") (.type "bool") = true := (E.x 16 (f := nfB "Roster" "bool") rfl)
theorem Env.g_Unreadable {P : Program} {K : PySem.W.Frag} {mg : Str → Option Value} (E : Env P K mg) : mg "Unreadable" = some (.ref (He.ga K "Unreadable")) := by obtain ⟨h, X, G⟩ := E.ex; exact He.glo_ok X G (E.c.fact 48 (f := .glo "Unreadable") rfl)
theorem Env.k_MOST_NAMES {P : Program} {K : PySem.W.Frag} {mg : Str → Option Value} (E : Env P K mg) : ∃ t, mg "MOST_NAMES" = some (.int 20000 t) := by obtain ⟨h, X, G⟩ := E.ex; exact He.int_ok X G (E.c.fact 49 (f := .int "MOST_NAMES" 20000) rfl)
theorem Env.k_MOST_DIGITS {P : Program} {K : PySem.W.Frag} {mg : Str → Option Value} (E : Env P K mg) : ∃ t, mg "MOST_DIGITS" = some (.int 5 t) := by obtain ⟨h, X, G⟩ := E.ex; exact He.int_ok X G (E.c.fact 50 (f := .int "MOST_DIGITS" 5) rfl)
theorem Env.k_CUT {P : Program} {K : PySem.W.Frag} {mg : Str → Option Value} (E : Env P K mg) : ∃ t, mg "CUT" = some (.str "/" t) := by obtain ⟨h, X, G⟩ := E.ex; exact He.str_ok X G (E.c.fact 51 (f := .str "CUT" "/") rfl)
theorem Env.t0_Roster {P : Program} {K : PySem.W.Frag} {mg : Str → Option Value} (E : Env P K mg) : ∀ H, SqT K H (He.dflAt ("Roster", some "__init__") 0 K) [] := tup0B_ok (E.x 17 (f := fun K => tup0B K (He.dflAt ("Roster", some "__init__") 0 K)) rfl)
theorem Env.f_super {P : Program} {K : PySem.W.Frag} {mg : Str → Option Value} (E : Env P K mg) : mg "super" = none := by obtain ⟨h, X, G⟩ := E.ex; exact He.free_ok X G (E.c.fact 52 (f := .free "super") rfl)
theorem Env.supx_BadText {P : Program} {K : PySem.W.Frag} {mg : Str → Option Value} (E : Env P K mg) : XS.SupX P K mg (He.ga K "BadText") (cellOf K (d_BadText_init.adr K)) (codeOf K (d_BadText_init.adr K)) := XS.supXB_ok mainFile E.pf.1 E.pf.2 E.f_super (E.x 18 (f := fun K => XS.supXB mainFile K (He.ga K "BadText") (d_BadText_init.adr K)) rfl)
theorem Env.supx_TooMany {P : Program} {K : PySem.W.Frag} {mg : Str → Option Value} (E : Env P K mg) : XS.SupX P K mg (He.ga K "TooMany") (cellOf K (d_TooMany_init.adr K)) (codeOf K (d_TooMany_init.adr K)) := XS.supXB_ok mainFile E.pf.1 E.pf.2 E.f_super (E.x 19 (f := fun K => XS.supXB mainFile K (He.ga K "TooMany") (d_TooMany_init.adr K)) rfl)
theorem Env.supx_WrongWord {P : Program} {K : PySem.W.Frag} {mg : Str → Option Value} (E : Env P K mg) : XS.SupX P K mg (He.ga K "WrongWord") (cellOf K (d_WrongWord_init.adr K)) (codeOf K (d_WrongWord_init.adr K)) := XS.supXB_ok mainFile E.pf.1 E.pf.2 E.f_super (E.x 20 (f := fun K => XS.supXB mainFile K (He.ga K "WrongWord") (d_WrongWord_init.adr K)) rfl)
theorem Env.g_BadRoster {P : Program} {K : PySem.W.Frag} {mg : Str → Option Value} (E : Env P K mg) : mg "BadRoster" = some (.ref (He.ga K "BadRoster")) := by obtain ⟨h, X, G⟩ := E.ex; exact He.glo_ok X G (E.c.fact 53 (f := .glo "BadRoster") rfl)
theorem Env.ox_BadRoster {P : Program} {K : PySem.W.Frag} {mg : Str → Option Value} (E : Env P K mg) : OexC K (He.ga K "BadRoster") := oexB_ok (E.x 21 (f := fun K => oexB K (He.ga K "BadRoster")) rfl)
theorem Env.xi_BadRoster {P : Program} {K : PySem.W.Frag} {mg : Str → Option Value} (E : Env P K mg) : PySem.W.findIn K (.ref (He.ga K "BadRoster")) "__init__" = some (some (.ref (He.ma K (He.ga K "WrongWord") "__init__"))) := He.eqO_ok (E.x 22 (f := fun K => He.eqO (PySem.W.findIn K (.ref (He.ga K "BadRoster")) "__init__") (some (some (.ref (He.ma K (He.ga K "WrongWord") "__init__"))))) rfl)
theorem Env.xt_BadRoster {P : Program} {K : PySem.W.Frag} {mg : Str → Option Value} (E : Env P K mg) : PySem.W.typeIn K (.ref (He.ma K (He.ga K "WrongWord") "__init__")) = some (.type "function") := of_decide_eq_true (E.x 23 (f := fun K => decide (PySem.W.typeIn K (.ref (He.ma K (He.ga K "WrongWord") "__init__")) = some (.type "function"))) rfl)
theorem Env.xs_BadRoster {P : Program} {K : PySem.W.Frag} {mg : Str → Option Value} (E : Env P K mg) : XS.SupC K (He.ga K "WrongWord") (He.ga K "BadRoster") := XS.supCB_ok (E.x 24 (f := fun K => XS.supCB K (He.ga K "WrongWord") (He.ga K "BadRoster")) rfl)
theorem Env.xf_BadRoster {P : Program} {K : PySem.W.Frag} {mg : Str → Option Value} (E : Env P K mg) : XfC K (He.ga K "BadRoster") := xfB_ok (E.x 25 (f := fun K => xfB K (He.ga K "BadRoster")) rfl)
theorem Env.nf_BadRoster_word {P : Program} {K : PySem.W.Frag} {mg : Str → Option Value} (E : Env P K mg) : PySem.W.findIn K (.ref (He.ga K "BadRoster")) "word" = some none := someNone_ok (E.x 26 (f := fun K => someNone (PySem.W.findIn K (.ref (He.ga K "BadRoster")) "word")) rfl)
theorem Env.xe_BadRoster {P : Program} {K : PySem.W.Frag} {mg : Str → Option Value} (E : Env P K mg) : PySem.W.exmOne K (.ref (He.ga K "BadRoster")) (.ref (He.ga K "BadRoster")) = some true := of_decide_eq_true (E.x 27 (f := fun K => decide (PySem.W.exmOne K (.ref (He.ga K "BadRoster")) (.ref (He.ga K "BadRoster")) = some true)) rfl)
theorem Env.g_BadText {P : Program} {K : PySem.W.Frag} {mg : Str → Option Value} (E : Env P K mg) : mg "BadText" = some (.ref (He.ga K "BadText")) := by obtain ⟨h, X, G⟩ := E.ex; exact He.glo_ok X G (E.c.fact 54 (f := .glo "BadText") rfl)
theorem Env.ox_BadText {P : Program} {K : PySem.W.Frag} {mg : Str → Option Value} (E : Env P K mg) : OexC K (He.ga K "BadText") := oexB_ok (E.x 28 (f := fun K => oexB K (He.ga K "BadText")) rfl)
theorem Env.xi_BadText {P : Program} {K : PySem.W.Frag} {mg : Str → Option Value} (E : Env P K mg) : PySem.W.findIn K (.ref (He.ga K "BadText")) "__init__" = some (some (.ref (He.ma K (He.ga K "BadText") "__init__"))) := He.eqO_ok (E.x 29 (f := fun K => He.eqO (PySem.W.findIn K (.ref (He.ga K "BadText")) "__init__") (some (some (.ref (He.ma K (He.ga K "BadText") "__init__"))))) rfl)
theorem Env.xt_BadText {P : Program} {K : PySem.W.Frag} {mg : Str → Option Value} (E : Env P K mg) : PySem.W.typeIn K (.ref (He.ma K (He.ga K "BadText") "__init__")) = some (.type "function") := of_decide_eq_true (E.x 30 (f := fun K => decide (PySem.W.typeIn K (.ref (He.ma K (He.ga K "BadText") "__init__")) = some (.type "function"))) rfl)
theorem Env.xs_BadText {P : Program} {K : PySem.W.Frag} {mg : Str → Option Value} (E : Env P K mg) : XS.SupC K (He.ga K "BadText") (He.ga K "BadText") := XS.supCB_ok (E.x 31 (f := fun K => XS.supCB K (He.ga K "BadText") (He.ga K "BadText")) rfl)
theorem Env.xf_BadText {P : Program} {K : PySem.W.Frag} {mg : Str → Option Value} (E : Env P K mg) : XfC K (He.ga K "BadText") := xfB_ok (E.x 32 (f := fun K => xfB K (He.ga K "BadText")) rfl)
theorem Env.nf_BadText_place {P : Program} {K : PySem.W.Frag} {mg : Str → Option Value} (E : Env P K mg) : PySem.W.findIn K (.ref (He.ga K "BadText")) "place" = some none := someNone_ok (E.x 33 (f := fun K => someNone (PySem.W.findIn K (.ref (He.ga K "BadText")) "place")) rfl)
theorem Env.xe_BadText {P : Program} {K : PySem.W.Frag} {mg : Str → Option Value} (E : Env P K mg) : PySem.W.exmOne K (.ref (He.ga K "BadText")) (.ref (He.ga K "BadText")) = some true := of_decide_eq_true (E.x 34 (f := fun K => decide (PySem.W.exmOne K (.ref (He.ga K "BadText")) (.ref (He.ga K "BadText")) = some true)) rfl)
theorem Env.g_TooMany {P : Program} {K : PySem.W.Frag} {mg : Str → Option Value} (E : Env P K mg) : mg "TooMany" = some (.ref (He.ga K "TooMany")) := by obtain ⟨h, X, G⟩ := E.ex; exact He.glo_ok X G (E.c.fact 55 (f := .glo "TooMany") rfl)
theorem Env.ox_TooMany {P : Program} {K : PySem.W.Frag} {mg : Str → Option Value} (E : Env P K mg) : OexC K (He.ga K "TooMany") := oexB_ok (E.x 35 (f := fun K => oexB K (He.ga K "TooMany")) rfl)
theorem Env.xi_TooMany {P : Program} {K : PySem.W.Frag} {mg : Str → Option Value} (E : Env P K mg) : PySem.W.findIn K (.ref (He.ga K "TooMany")) "__init__" = some (some (.ref (He.ma K (He.ga K "TooMany") "__init__"))) := He.eqO_ok (E.x 36 (f := fun K => He.eqO (PySem.W.findIn K (.ref (He.ga K "TooMany")) "__init__") (some (some (.ref (He.ma K (He.ga K "TooMany") "__init__"))))) rfl)
theorem Env.xt_TooMany {P : Program} {K : PySem.W.Frag} {mg : Str → Option Value} (E : Env P K mg) : PySem.W.typeIn K (.ref (He.ma K (He.ga K "TooMany") "__init__")) = some (.type "function") := of_decide_eq_true (E.x 37 (f := fun K => decide (PySem.W.typeIn K (.ref (He.ma K (He.ga K "TooMany") "__init__")) = some (.type "function"))) rfl)
theorem Env.xs_TooMany {P : Program} {K : PySem.W.Frag} {mg : Str → Option Value} (E : Env P K mg) : XS.SupC K (He.ga K "TooMany") (He.ga K "TooMany") := XS.supCB_ok (E.x 38 (f := fun K => XS.supCB K (He.ga K "TooMany") (He.ga K "TooMany")) rfl)
theorem Env.xf_TooMany {P : Program} {K : PySem.W.Frag} {mg : Str → Option Value} (E : Env P K mg) : XfC K (He.ga K "TooMany") := xfB_ok (E.x 39 (f := fun K => xfB K (He.ga K "TooMany")) rfl)
theorem Env.nf_TooMany_word {P : Program} {K : PySem.W.Frag} {mg : Str → Option Value} (E : Env P K mg) : PySem.W.findIn K (.ref (He.ga K "TooMany")) "word" = some none := someNone_ok (E.x 40 (f := fun K => someNone (PySem.W.findIn K (.ref (He.ga K "TooMany")) "word")) rfl)
theorem Env.xe_TooMany {P : Program} {K : PySem.W.Frag} {mg : Str → Option Value} (E : Env P K mg) : PySem.W.exmOne K (.ref (He.ga K "TooMany")) (.ref (He.ga K "TooMany")) = some true := of_decide_eq_true (E.x 41 (f := fun K => decide (PySem.W.exmOne K (.ref (He.ga K "TooMany")) (.ref (He.ga K "TooMany")) = some true)) rfl)
theorem Env.xc_BadText {P : Program} {K : PySem.W.Frag} {mg : Str → Option Value} (E : Env P K mg) : ExcC K (He.ga K "BadText") := excB_ok (E.x 42 (f := fun K => excB K (He.ga K "BadText")) rfl)
theorem Env.xn_TooMany_BadText {P : Program} {K : PySem.W.Frag} {mg : Str → Option Value} (E : Env P K mg) : PySem.W.exmOne K (.ref (He.ga K "TooMany")) (.ref (He.ga K "BadText")) = some false := of_decide_eq_true (E.x 43 (f := fun K => decide (PySem.W.exmOne K (.ref (He.ga K "TooMany")) (.ref (He.ga K "BadText")) = some false)) rfl)
theorem Env.kit_Unreadable_BadText {P : Program} {K : PySem.W.Frag} {mg : Str → Option Value} (E : Env P K mg) : PySem.W.kitOne K (.ref (He.ga K "BadText")) (.ref (He.ga K "Unreadable")) = some true := of_decide_eq_true (E.x 44 (f := fun K => decide (PySem.W.kitOne K (.ref (He.ga K "BadText")) (.ref (He.ga K "Unreadable")) = some true)) rfl)
theorem Env.dd_is_integer {P : Program} {K : PySem.W.Frag} {mg : Str → Option Value} (E : Env P K mg) : ∃ fd, FunD K "is_integer" "is_integer" (defArgs s_is_integer) (defBody s_is_integer) (defScope s_is_integer) (d_is_integer.dvs K) [] (d_is_integer.adr K) fd := E.c.def_ 0 (d := d_is_integer) rfl
theorem Env.dd_is_listed {P : Program} {K : PySem.W.Frag} {mg : Str → Option Value} (E : Env P K mg) : ∃ fd, FunD K "is_listed" "is_listed" (defArgs s_is_listed) (defBody s_is_listed) (defScope s_is_listed) (d_is_listed.dvs K) [] (d_is_listed.adr K) fd := E.c.def_ 1 (d := d_is_listed) rfl
theorem Env.dd_deep {P : Program} {K : PySem.W.Frag} {mg : Str → Option Value} (E : Env P K mg) : ∃ fd, FunD K "deep" "deep" (defArgs s_deep) (defBody s_deep) (defScope s_deep) (d_deep.dvs K) [] (d_deep.adr K) fd := E.c.def_ 2 (d := d_deep) rfl
theorem Env.dd_is_word {P : Program} {K : PySem.W.Frag} {mg : Str → Option Value} (E : Env P K mg) : ∃ fd, FunD K "is_word" "is_word" (defArgs s_is_word) (defBody s_is_word) (defScope s_is_word) (d_is_word.dvs K) [] (d_is_word.adr K) fd := E.c.def_ 3 (d := d_is_word) rfl
theorem Env.dd_is_row_name {P : Program} {K : PySem.W.Frag} {mg : Str → Option Value} (E : Env P K mg) : ∃ fd, FunD K "is_row_name" "is_row_name" (defArgs s_is_row_name) (defBody s_is_row_name) (defScope s_is_row_name) (d_is_row_name.dvs K) [] (d_is_row_name.adr K) fd := E.c.def_ 4 (d := d_is_row_name) rfl
theorem Env.dd_is_names {P : Program} {K : PySem.W.Frag} {mg : Str → Option Value} (E : Env P K mg) : ∃ fd, FunD K "is_names" "is_names" (defArgs s_is_names) (defBody s_is_names) (defScope s_is_names) (d_is_names.dvs K) [] (d_is_names.adr K) fd := E.c.def_ 5 (d := d_is_names) rfl
theorem Env.dd_stood_ahead {P : Program} {K : PySem.W.Frag} {mg : Str → Option Value} (E : Env P K mg) : ∃ fd, FunD K "stood_ahead" "stood_ahead" (defArgs s_stood_ahead) (defBody s_stood_ahead) (defScope s_stood_ahead) (d_stood_ahead.dvs K) [] (d_stood_ahead.adr K) fd := E.c.def_ 6 (d := d_stood_ahead) rfl
theorem Env.dd_runs_of {P : Program} {K : PySem.W.Frag} {mg : Str → Option Value} (E : Env P K mg) : ∃ fd, FunD K "runs_of" "runs_of" (defArgs s_runs_of) (defBody s_runs_of) (defScope s_runs_of) (d_runs_of.dvs K) [] (d_runs_of.adr K) fd := E.c.def_ 7 (d := d_runs_of) rfl
theorem Env.dd_run_words {P : Program} {K : PySem.W.Frag} {mg : Str → Option Value} (E : Env P K mg) : ∃ fd, FunD K "run_words" "run_words" (defArgs s_run_words) (defBody s_run_words) (defScope s_run_words) (d_run_words.dvs K) [] (d_run_words.adr K) fd := E.c.def_ 8 (d := d_run_words) rfl
theorem Env.dd_write_roster {P : Program} {K : PySem.W.Frag} {mg : Str → Option Value} (E : Env P K mg) : ∃ fd, FunD K "write_roster" "write_roster" (defArgs s_write_roster) (defBody s_write_roster) (defScope s_write_roster) (d_write_roster.dvs K) [] (d_write_roster.adr K) fd := E.c.def_ 9 (d := d_write_roster) rfl
theorem Env.dd_read_run {P : Program} {K : PySem.W.Frag} {mg : Str → Option Value} (E : Env P K mg) : ∃ fd, FunD K "read_run" "read_run" (defArgs s_read_run) (defBody s_read_run) (defScope s_read_run) (d_read_run.dvs K) [] (d_read_run.adr K) fd := E.c.def_ 10 (d := d_read_run) rfl
theorem Env.dd_read_runs {P : Program} {K : PySem.W.Frag} {mg : Str → Option Value} (E : Env P K mg) : ∃ fd, FunD K "read_runs" "read_runs" (defArgs s_read_runs) (defBody s_read_runs) (defScope s_read_runs) (d_read_runs.dvs K) [] (d_read_runs.adr K) fd := E.c.def_ 11 (d := d_read_runs) rfl
theorem Env.dd_spread {P : Program} {K : PySem.W.Frag} {mg : Str → Option Value} (E : Env P K mg) : ∃ fd, FunD K "spread" "spread" (defArgs s_spread) (defBody s_spread) (defScope s_spread) (d_spread.dvs K) [] (d_spread.adr K) fd := E.c.def_ 12 (d := d_spread) rfl
theorem Env.dd_read_roster {P : Program} {K : PySem.W.Frag} {mg : Str → Option Value} (E : Env P K mg) : ∃ fd, FunD K "read_roster" "read_roster" (defArgs s_read_roster) (defBody s_read_roster) (defScope s_read_roster) (d_read_roster.dvs K) [] (d_read_roster.adr K) fd := E.c.def_ 13 (d := d_read_roster) rfl
theorem Env.dd__law_source {P : Program} {K : PySem.W.Frag} {mg : Str → Option Value} (E : Env P K mg) : ∃ fd, FunD K "_law_source" "_law_source" (defArgs s__law_source) (defBody s__law_source) (defScope s__law_source) (d__law_source.dvs K) [] (d__law_source.adr K) fd := E.c.def_ 14 (d := d__law_source) rfl
theorem Env.dd__law_pick {P : Program} {K : PySem.W.Frag} {mg : Str → Option Value} (E : Env P K mg) : ∃ fd, FunD K "_law_pick" "_law_pick" (defArgs s__law_pick) (defBody s__law_pick) (defScope s__law_pick) (d__law_pick.dvs K) [] (d__law_pick.adr K) fd := E.c.def_ 15 (d := d__law_pick) rfl
theorem Env.dd__law_is_name {P : Program} {K : PySem.W.Frag} {mg : Str → Option Value} (E : Env P K mg) : ∃ fd, FunD K "_law_is_name" "_law_is_name" (defArgs s__law_is_name) (defBody s__law_is_name) (defScope s__law_is_name) (d__law_is_name.dvs K) [] (d__law_is_name.adr K) fd := E.c.def_ 16 (d := d__law_is_name) rfl
theorem Env.dd__law_runs {P : Program} {K : PySem.W.Frag} {mg : Str → Option Value} (E : Env P K mg) : ∃ fd, FunD K "_law_runs" "_law_runs" (defArgs s__law_runs) (defBody s__law_runs) (defScope s__law_runs) (d__law_runs.dvs K) [] (d__law_runs.adr K) fd := E.c.def_ 17 (d := d__law_runs) rfl
theorem Env.dd__law_words {P : Program} {K : PySem.W.Frag} {mg : Str → Option Value} (E : Env P K mg) : ∃ fd, FunD K "_law_words" "_law_words" (defArgs s__law_words) (defBody s__law_words) (defScope s__law_words) (d__law_words.dvs K) [] (d__law_words.adr K) fd := E.c.def_ 18 (d := d__law_words) rfl
theorem Env.dd__law_cut_words {P : Program} {K : PySem.W.Frag} {mg : Str → Option Value} (E : Env P K mg) : ∃ fd, FunD K "_law_cut_words" "_law_cut_words" (defArgs s__law_cut_words) (defBody s__law_cut_words) (defScope s__law_cut_words) (d__law_cut_words.dvs K) [] (d__law_cut_words.adr K) fd := E.c.def_ 19 (d := d__law_cut_words) rfl
theorem Env.dd__law_word_number {P : Program} {K : PySem.W.Frag} {mg : Str → Option Value} (E : Env P K mg) : ∃ fd, FunD K "_law_word_number" "_law_word_number" (defArgs s__law_word_number) (defBody s__law_word_number) (defScope s__law_word_number) (d__law_word_number.dvs K) [] (d__law_word_number.adr K) fd := E.c.def_ 20 (d := d__law_word_number) rfl
theorem Env.dd__law_due {P : Program} {K : PySem.W.Frag} {mg : Str → Option Value} (E : Env P K mg) : ∃ fd, FunD K "_law_due" "_law_due" (defArgs s__law_due) (defBody s__law_due) (defScope s__law_due) (d__law_due.dvs K) [] (d__law_due.adr K) fd := E.c.def_ 21 (d := d__law_due) rfl
theorem Env.dd__law_spread {P : Program} {K : PySem.W.Frag} {mg : Str → Option Value} (E : Env P K mg) : ∃ fd, FunD K "_law_spread" "_law_spread" (defArgs s__law_spread) (defBody s__law_spread) (defScope s__law_spread) (d__law_spread.dvs K) [] (d__law_spread.adr K) fd := E.c.def_ 22 (d := d__law_spread) rfl
theorem Env.dd__law_read {P : Program} {K : PySem.W.Frag} {mg : Str → Option Value} (E : Env P K mg) : ∃ fd, FunD K "_law_read" "_law_read" (defArgs s__law_read) (defBody s__law_read) (defScope s__law_read) (d__law_read.dvs K) [] (d__law_read.adr K) fd := E.c.def_ 23 (d := d__law_read) rfl
theorem Env.dd__law_right {P : Program} {K : PySem.W.Frag} {mg : Str → Option Value} (E : Env P K mg) : ∃ fd, FunD K "_law_right" "_law_right" (defArgs s__law_right) (defBody s__law_right) (defScope s__law_right) (d__law_right.dvs K) [] (d__law_right.adr K) fd := E.c.def_ 24 (d := d__law_right) rfl
theorem Env.dd_law {P : Program} {K : PySem.W.Frag} {mg : Str → Option Value} (E : Env P K mg) : ∃ fd, FunD K "law" "law" (defArgs s_law) (defBody s_law) (defScope s_law) (d_law.dvs K) [] (d_law.adr K) fd := E.c.def_ 25 (d := d_law) rfl
theorem Env.dd_Roster_init {P : Program} {K : PySem.W.Frag} {mg : Str → Option Value} (E : Env P K mg) : ∃ fd, FunD K "__init__" "Roster.__init__" (defArgs s_Roster_init) (defBody s_Roster_init) (defScope s_Roster_init) (d_Roster_init.dvs K) [] (d_Roster_init.adr K) fd := E.c.def_ 26 (d := d_Roster_init) rfl
theorem Env.dd_Roster_eq {P : Program} {K : PySem.W.Frag} {mg : Str → Option Value} (E : Env P K mg) : ∃ fd, FunD K "__eq__" "Roster.__eq__" (defArgs s_Roster_eq) (defBody s_Roster_eq) (defScope s_Roster_eq) (d_Roster_eq.dvs K) [] (d_Roster_eq.adr K) fd := E.c.def_ 27 (d := d_Roster_eq) rfl
theorem Env.dd_WrongWord_init {P : Program} {K : PySem.W.Frag} {mg : Str → Option Value} (E : Env P K mg) : ∃ fd, FunS K "__init__" "WrongWord.__init__" (defArgs s_WrongWord_init) (defBody s_WrongWord_init) (defScope s_WrongWord_init) (d_WrongWord_init.adr K) fd (cellOf K (d_WrongWord_init.adr K)) (codeOf K (d_WrongWord_init.adr K)) := E.c.defS 28 (d := d_WrongWord_init) rfl
theorem Env.dd_BadText_init {P : Program} {K : PySem.W.Frag} {mg : Str → Option Value} (E : Env P K mg) : ∃ fd, FunS K "__init__" "BadText.__init__" (defArgs s_BadText_init) (defBody s_BadText_init) (defScope s_BadText_init) (d_BadText_init.adr K) fd (cellOf K (d_BadText_init.adr K)) (codeOf K (d_BadText_init.adr K)) := E.c.defS 29 (d := d_BadText_init) rfl
theorem Env.dd_TooMany_init {P : Program} {K : PySem.W.Frag} {mg : Str → Option Value} (E : Env P K mg) : ∃ fd, FunS K "__init__" "TooMany.__init__" (defArgs s_TooMany_init) (defBody s_TooMany_init) (defScope s_TooMany_init) (d_TooMany_init.adr K) fd (cellOf K (d_TooMany_init.adr K)) (codeOf K (d_TooMany_init.adr K)) := E.c.defS 30 (d := d_TooMany_init) rfl

end M
namespace M
open PySem PySem.Spec PyProof.Rows L2 Evl MS
def nmL0 : List Str := ["_wall", "RosterneedError", "Unreadable", "WrongThing", "WrongWord", "BadText", "TooMany", "BadCount", "BadTable", "BadRoster", "is_integer", "is_count", "is_listed", "is_counts", "deep", "is_word", "at_most", "greater_of", "lesser_of", "common_divisor", "common_multiple", "end_of", "value_at", "short_loop", "plain_form"]
def nmL1 : List Str := ["formed", "until_never", "first_beyond", "behind_raw", "later_start", "joined_values", "joined_raw", "counts_below", "turned_raw", "is_rising", "checked_table", "Table", "table_from", "is_row_name", "is_names", "stood_ahead", "Roster", "runs_of", "run_words", "write_roster", "read_run", "read_runs", "spread", "read_roster", "_law_source"]
def nmL2 : List Str := ["_law_pick", "_law_is_name", "_law_runs", "_law_words", "_law_cut_words", "_law_word_number", "_law_due", "_law_spread", "_law_read", "_law_right", "MOST_NAMES", "CUT", "MOST_DIGITS"]
def nmL : List Str := nmL0 ++ nmL1 ++ nmL2
abbrev R : PySem.W.OpenRow := PySem.W.OpenLaw.row PySem.Challenge.rw_rosterneed_k71_whole_roster_texts
abbrev hk : PySem.W.Hook := hookM 6 fa fn exB
def ob (s : PySem.W.SharedT) : AlM := obsMG 6 fa fn exB (HandSHeadRun.getT s)
theorem ob_eq (s : PySem.W.SharedT) : ob s = hk.obs s.abs := obsMG_eq (HandSHeadRun.getT_eq s)
theorem run (w : World) : HandSHeadRun.RunEq R (PySem.W.view R.prog [71]) hk ob 6000 nmL w := by
  intro os
  kernel_rfl
end M

namespace M
open PySem PySem.Spec PyProof.Rows L2 Evl MS
local macro_rules | `(tactic| walk_at "ex") => `(tactic| first
  | exact Ex.refl _ | with_reducible assumption | (refine' Ex.trans ?a ?b; (case b => with_reducible assumption); (case a => walk_at "ex")))
local macro_rules | `(tactic| walk_at "hp") => `(tactic| first
  | with_reducible assumption
  | (with_reducible refine' st_of ?a; (case a => with_reducible assumption))
  | (with_reducible refine' sq_of ?a; (case a => with_reducible assumption))
  | (with_reducible refine' ex_t ?a ?b; (case a => with_reducible assumption); (case b => walk_at "hp"))
  | (with_reducible refine' ex_l ?a ?b; (case a => with_reducible assumption); (case b => walk_at "hp"))
  | (with_reducible refine' ex_e ?a ?b; (case a => with_reducible assumption); (case b => walk_at "hp")))
local macro_rules | `(tactic| walk_at "om") => `(tactic| first
  | with_reducible assumption | omega | (simp only [List.length_map, List.length_nil, List.length_cons, List.length_append, List.length_range] <;> omega))
local macro_rules | `(tactic| walk_at "sz") => `(tactic| first
  | (refine sz_of ?_; omega) | exact sz_of (by simp only [List.length_map, List.length_nil, List.length_cons, List.length_append, List.length_range] <;> omega))
local macro_rules | `(tactic| walk_at "ty") => `(tactic| first
  | exact .base (.int _) | exact .base .non | exact .base (.bl _) | exact .base (.str _) | (with_reducible refine' SqT.ty ?a; (case a => walk_at "hp")) | (with_reducible refine' SqL.ty ?a; (case a => walk_at "hp")) | (with_reducible refine' dp_ty ?a; (case a => with_reducible assumption)))
local macro_rules | `(tactic| walk_at "vv") => `(tactic| first | refine w_v0 ?_ | refine w_v1 ?_ | refine w_v2 ?_ | refine w_v3 ?_ | refine w_v4 ?_ | refine w_v5 ?_ | refine w_v6 ?_ | refine w_v7 ?_ | refine w_v8 ?_ | refine w_v9 ?_ | refine w_v10 ?_ | refine w_v11 ?_ | refine w_v12 ?_ | refine w_v13 ?_ | refine w_v14 ?_ | refine w_v15 ?_)
local macro_rules | `(tactic| walk_at "nn") => `(tactic| first | refine w_n0 ?_ | refine w_n1 ?_ | refine w_n2 ?_ | refine w_n3 ?_ | refine w_n4 ?_ | refine w_n5 ?_ | refine w_n6 ?_ | refine w_n7 ?_ | refine w_n8 ?_ | refine w_n9 ?_ | refine w_n10 ?_ | refine w_n11 ?_ | refine w_n12 ?_ | refine w_n13 ?_ | refine w_n14 ?_ | refine w_n15 ?_)
local macro_rules | `(tactic| walk_at "w1") => `(tactic| with_reducible first
  | refine w_cons ?_ | (refine w_vv ?_; walk_at "vv") | refine w_nil ?_ | refine w_op ?_ | refine w_c ?_ | refine w_cb ?_ | refine w_seq ?_ | refine w_asg ?_ | (refine w_nn ?_; walk_at "nn")
  | refine w_test ?_ | refine w_exbl2 ?_ | refine w_ifS ?_ | refine w_ret ?_
  | refine w_call ?_ | refine w_call1 ?_ | refine w_call2 ?_ | refine w_call3 ?_
  | refine w_and ?_ | refine w_or ?_ | refine w_not ?_ | refine w_andV ?_ | refine w_orV ?_ | refine w_notV ?_ | refine w_ifE ?_ | refine w_un ?_ | refine w_tB ?_ | refine w_tru ?_ | refine r_truB ?_ | refine r_truI ?_
  | refine w_tup ?_ | refine w_lst ?_ | refine w_sl ?_ | refine w_part ?_ | refine w_noPart ?_ | refine w_exint ?_ | refine w_drop ?_ | refine w_next ?_ | refine w_yes ?_
  | refine w_gcons ?_ | refine w_gnil ?_ | refine iteT ?_ | refine iteF ?_
  | refine w_lcJ ?_ | refine w_forJ ?_ | refine i_r1 ?_ | refine i_r2 ?_ | refine w_fld ?_ | refine w_fldS ?_ | refine w_prop ?_ | refine w_meth ?_ | refine w_make ?_ | refine w_callO ?_ | refine w_callOI ?_ | refine w_bm ?_ | refine w_retN ?_ | refine w_chain ?_ | refine w_break ?_ | refine w_gsub ?_ | refine w_par ?_ | refine w_call4 ?_ | refine w_call5 ?_)
local macro_rules | `(tactic| walk_at "w2") => `(tactic| first
  | with_reducible (first | refine r_addI ?_ | refine r_subI ?_ | refine r_eqI ?_ | refine r_neI ?_ | refine r_lt ?_ | refine r_le ?_ | refine r_gt ?_ | refine r_ge ?_ | refine r_neg ?_)
  | with_reducible (first | refine r_eqO ?_ | refine r_neO ?_ | refine r_eqB ?_ | refine r_isO ?_ | refine r_isNotO ?_ | refine r_isI ?_ | refine r_isN ?_ | refine r_isR ?_ | refine r_isNotI ?_ | refine r_isNotN ?_ | refine r_isNotR ?_)
  | with_reducible (first | refine r_int ?_ | refine r_abs ?_ | refine r_max2 ?_ | refine r_min2 ?_ | refine r_boolB ?_)
  | ((with_reducible refine' r_lenTI ?a ?q); (case a => walk_at "hp"))
  | ((with_reducible refine' r_lenLI ?a ?q); (case a => walk_at "hp"))
  | ((with_reducible refine' r_lenT ?a ?q); (case a => walk_at "hp"))
  | ((with_reducible refine' r_lenL ?a ?q); (case a => walk_at "hp"))
  | ((with_reducible refine' w_gtup ?a ?b ?q); (case a => walk_at "hp"); (case b => rfl))
  | ((with_reducible refine' r_modI ?a ?q); (case a => walk_at "om"))
  | ((with_reducible refine' r_divI ?a ?b ?q); (case a => walk_at "om"); (case b => walk_at "om"))
  | ((with_reducible refine' r_ixTI ?a ?b ?c ?q); (case a => walk_at "hp"); (case b => walk_at "om"); (case c => walk_at "om"))
  | ((with_reducible refine' r_ixTN ?a ?b ?c ?q); (case a => walk_at "hp"); (case b => walk_at "om"); (case c => walk_at "om"))
  | ((with_reducible refine' r_ixLI ?a ?b ?c ?q); (case a => walk_at "hp"); (case b => walk_at "om"); (case c => walk_at "om"))
  | ((with_reducible refine' r_ixLN ?a ?b ?c ?q); (case a => walk_at "hp"); (case b => walk_at "om"); (case c => walk_at "om"))
  | ((with_reducible refine' r_lenEI ?a ?q); (case a => walk_at "hp"))
  | ((with_reducible refine' r_ixEI ?a ?b ?c ?q); (case a => walk_at "hp"); (case b => walk_at "om"); (case c => walk_at "om"))
  | ((with_reducible refine' r_ixEN ?a ?b ?c ?q); (case a => walk_at "hp"); (case b => walk_at "om"); (case c => walk_at "om"))
  | ((with_reducible refine' r_ixT ?a ?b ?q); (case a => walk_at "hp"); (case b => exact rfl))
  | ((with_reducible refine' r_ixL ?a ?b ?q); (case a => walk_at "hp"); (case b => exact rfl))
  | ((with_reducible refine' r_shr ?a ?q); (case a => walk_at "om"))
  | ((with_reducible refine' r_pow ?a ?q); (case a => (exact ⟨by decide, by decide, by decide⟩)))
  | ((with_reducible refine' r_bmL ?a ?q); (case a => walk_at "hp"))
  | ((with_reducible refine' r_mulI ?a ?q); (case a => first | (left; walk_at "om") | (right; walk_at "om")))
  | ((with_reducible refine' r_eqT ?a ?b ?q); (case a => walk_at "hp"); (case b => walk_at "hp"))
  | ((with_reducible refine' r_neT ?a ?b ?q); (case a => walk_at "hp"); (case b => walk_at "hp"))
  | ((with_reducible refine' i_x1 ?a ?q); (case a => omega))
  | ((with_reducible refine' i_x2 ?a ?q); (case a => omega))
  | ((with_reducible refine' i_xT ?a ?q); (case a => walk_at "hp"))
  | ((with_reducible refine' i_xL ?a ?q); (case a => walk_at "hp"))
  | ((with_reducible refine' r_slTto ?a ?b ?q); (case a => walk_at "hp"); (case b => walk_at "om"))
  | ((with_reducible refine' r_slTfrom ?a ?b ?q); (case a => walk_at "hp"); (case b => walk_at "om"))
  | ((with_reducible refine' r_slLto ?a ?b ?q); (case a => walk_at "hp"); (case b => walk_at "om"))
  | ((with_reducible refine' r_slLfrom ?a ?b ?q); (case a => walk_at "hp"); (case b => walk_at "om"))
  | ((with_reducible refine' r_slLmid ?a ?b ?c ?d ?q); (case a => walk_at "hp"); (case b => walk_at "om"); (case c => walk_at "om"); (case d => walk_at "om"))
  | ((with_reducible refine' r_tupT ?a ?q); (case a => walk_at "hp"))
  | ((with_reducible refine' r_tupL ?a ?q); (case a => walk_at "hp"))
  | ((with_reducible refine' r_lstT ?a ?q); (case a => walk_at "hp"))
  | ((with_reducible refine' r_lstL ?a ?q); (case a => walk_at "hp"))
  | ((with_reducible refine' w_newT ?a ?q); (case a => walk_at "sz"))
  | ((with_reducible refine' w_newL ?a ?q); (case a => walk_at "sz"))
  | ((with_reducible refine' r_isi (b := true) ?a ?b ?q); (case a => walk_at "ty"); (case b => exact rfl))
  | ((with_reducible refine' r_isi (b := false) ?a ?b ?q); (case a => walk_at "ty"); (case b => exact rfl))
  | ((with_reducible refine' r_isiT (b := true) ?a ?b ?c ?q); (case a => walk_at "hp"); (case b => walk_at "ty"); (case c => exact rfl))
  | ((with_reducible refine' r_isiT (b := false) ?a ?b ?c ?q); (case a => walk_at "hp"); (case b => walk_at "ty"); (case c => exact rfl))
  | ((with_reducible refine' w_dT ?a ?q); (case a => walk_at "om"))
  | ((with_reducible refine' w_dF ?a ?q); (case a => walk_at "om"))
  | ((with_reducible refine' w_nT ?a ?q); (case a => walk_at "om"))
  | ((with_reducible refine' w_nF ?a ?q); (case a => walk_at "om"))
  | ((with_reducible refine' w_bT ?a ?q); (case a => exact rfl))
  | ((with_reducible refine' w_bF ?a ?q); (case a => exact rfl)))
local macro_rules | `(tactic| walk_at "w") => `(tactic| repeat (first | walk_at "w1" | walk_at "w2"))

section
def dIsInt : PyData → Bool
  | .int _ => true
  | _ => false
def dIsCount : PyData → Bool
  | .int i => decide (0 ≤ i)
  | _ => false
def dIsSeq : PyData → Bool
  | .list _ => true
  | .tuple _ => true
  | _ => false
theorem dp_nodict {K : PySem.W.Frag} {H : Hp} {v : V} {x : List (PyData × PyData)} (h : Dp K H v (.dict x)) : False := nomatch h
abbrev N_is_integer : List Str := ["thing"]
theorem sc_is_integer : FnScope N_is_integer ["thing"] (defScope s_is_integer) := ⟨rfl, rfl, rfl, by decide +kernel, rfl, by decide +kernel, by decide +kernel⟩
theorem ok_is_integer {P : Program} {w : World} {K : PySem.W.Frag} {mg : Str → Option Value} {base : Heap} (E : Env P K mg) : Fn P w K mg base CX0 1 "is_integer" (sp1 fun v H Q _ => ∃ d, Dp K H v d ∧ RetD K (.bool (dIsInt d)) H Q) := by
  obtain ⟨fd, F⟩ := E.dd_is_integer
  refine Fn.mk0 F E.g_is_integer sc_is_integer sp1_len (fun _ _ _ _ _ _ us hl => match us, hl with | [_], _ => rfl) (fun cdv A outer s H vs Q X hr h => ?_)
  have nd := sc_is_integer.nd
  obtain ⟨v0, rfl, h⟩ := h
  refine ⟨_, (pss_one (ps_ret (pe_and (pe_callB (kIsi K) (by rfl) E.f_isinstance (by decide +kernel) (pa_cons (pv 0) (pa_cons (pe_bltn (v := .ty "int") (by rfl) E.f_int (by decide +kernel) rfl) pa_nil))) (pe_one (pe_not (pe_callB (kIsi K) (by rfl) E.f_isinstance (by decide +kernel) (pa_cons (pv 0) (pa_cons (pe_bltn (v := .ty "bool") (by rfl) E.f_bool (by decide +kernel) rfl) pa_nil)))))))), ?_⟩
  change (_ : TS) _ [some v0] H
  try dsimp only [cxOf, Cx.nox, Cx.blk]
  obtain ⟨d, hd, k⟩ := h
  cases d with
  | dict x => exact (dp_nodict hd).elim
  | int i => cases hd; walk_at "w"; exact k.bl (by walk_at "ex")
  | _ => cases hd <;> (walk_at "w"; exact k.bl (by walk_at "ex"))
/-- data, or a dict -/
def DpX (K : PySem.W.Frag) (H : Hp) (v : V) (d : PyData) : Prop := Dp K H v d ∨ (d = .dict [] ∧ ∃ a kvs, v = .ref a ∧ H a = some (.dK kvs))
instance {K : PySem.W.Frag} {H : Hp} {v : V} {d : PyData} : Coe (Dp K H v d) (DpX K H v d) := ⟨.inl⟩
abbrev N_is_listed : List Str := ["thing"]
theorem sc_is_listed : FnScope N_is_listed ["thing"] (defScope s_is_listed) := ⟨rfl, rfl, rfl, by decide +kernel, rfl, by decide +kernel, by decide +kernel⟩
theorem ok_is_listed {P : Program} {w : World} {K : PySem.W.Frag} {mg : Str → Option Value} {base : Heap} (E : Env P K mg) : Fn P w K mg base CX0 1 "is_listed" (sp1 fun v H Q _ => ∃ d, DpX K H v d ∧ RetD K (.bool (dIsSeq d)) H Q) := by
  obtain ⟨fd, F⟩ := E.dd_is_listed
  refine Fn.mk0 F E.g_is_listed sc_is_listed sp1_len (fun _ _ _ _ _ _ us hl => match us, hl with | [_], _ => rfl) (fun cdv A outer s H vs Q X hr h => ?_)
  have nd := sc_is_listed.nd
  obtain ⟨v0, rfl, h⟩ := h
  refine ⟨_, (pss_one (ps_ret (pe_callB (kIsiT K) (by rfl) E.f_isinstance (by decide +kernel) (pa_cons (pv 0) (pa_cons (pe_tup (pa_cons (pe_bltn (v := .ty "tuple") (by rfl) E.f_tuple (by decide +kernel) rfl) (pa_cons (pe_bltn (v := .ty "list") (by rfl) E.f_list (by decide +kernel) rfl) pa_nil))) pa_nil))))), ?_⟩
  change (_ : TS) _ [some v0] H
  try dsimp only [cxOf, Cx.nox, Cx.blk]
  obtain ⟨d, hd | ⟨rfl, a, kvs, rfl, hk⟩, k⟩ := h
  case' inr =>
    walk_at "w"
    intro p H1 n1 e1 h1
    refine r_isiT (b := false) h1 (.base (.dK (e1 _ _ hk))) rfl ?_
    exact k.bl (by walk_at "ex")
  cases d with
  | dict x => exact (dp_nodict hd).elim
  | _ => cases hd <;> (walk_at "w"; intro p H1 n1 e1 h1; walk_at "w"; exact k.bl (by walk_at "ex"))

end
section
abbrev spDeep (K : PySem.W.Frag) (n : Nat) : Sp := sp1 fun v H Q _ => ∃ d, Dp K H v d ∧ shp n d = true ∧ RetD K (dDeep d) H Q
abbrev N_deep : List Str := ["thing", "one"]
theorem sc_deep : FnScope N_deep ["thing"] (defScope s_deep) := ⟨rfl, rfl, rfl, by decide +kernel, rfl, by decide +kernel, by decide +kernel⟩
--derivation of deep:
theorem deep_step {P : Program} {w : World} {K : PySem.W.Frag} {mg : Str → Option Value} {base : Heap} (E : Env P K mg) {k n : Nat} {sp : Sp} (hk1 : 1 ≤ k) (IH : Fn P w K mg base CX0 k "deep" sp)
    (hsp : ∀ (m : Nat), n = m + 1 → sp = spDeep K m) : Fn P w K mg base CX0 (k + 1) "deep" (spDeep K n) := by
  obtain ⟨fd, F⟩ := E.dd_deep
  refine Fn.mk0 F E.g_deep sc_deep sp1_len (fun _ _ _ _ _ _ us hl => match us, hl with | [_], _ => rfl) (fun cdv A outer s H vs Q X hr h => ?_)
  have nd := sc_deep.nd
  obtain ⟨v0, rfl, h⟩ := h
  refine ⟨_, (pss_cons (ps_if (kTru K (pc (ok_is_listed E) hr (by omega) pass0 rfl (pa_cons (pv 0) pa_nil)) (by intro _; rfl))
   (pss_one (ps_ret (pe_callTy (kTup K) (by rfl) E.f_tuple (by decide +kernel) (pa_cons (pe_lc (own := [("one", 1)]) (g := gName 1) (tt := tYes) rfl nd (kSeq K (pv 0)) (blkOk_by (N := N_deep) (sc := defScope s_deep) (by decide +kernel)) (fun _ _ _ _ _ => pg_name (i := 1) nd rfl (Or.inl rfl)) (fun _ _ _ _ _ => pts_nil) (fun _ _ _ _ _ => pc IH hr (by omega) pass0 rfl (pa_cons (pv 1) pa_nil))) pa_nil))))
   pss_nil)
  (pss_one (ps_ret (pv 0)))), ?_⟩
  change (_ : TS) _ [some v0, none] H
  obtain ⟨d, hd, hs, k⟩ := h
  walk_at "w"
  refine ⟨d, .inl hd, fun v H1 e1 d1 => ?_⟩
  obtain rfl := dp_toBl d1
  have h0 : ∀ (b : Bool), dIsSeq d = b → (b = false → dDeep d = d) := by
    intro b hb hb2
    subst hb2
    cases d with
    | list _ => exact nomatch hb
    | tuple _ => exact nomatch hb
    | dict _ => exact (dp_nodict hd).elim
    | _ => rfl
  cases hq : dIsSeq d with
  | false =>
    walk_at "w"
    rw [h0 false hq rfl] at k
    exact k _ _ e1 (dp_ex e1 hd)
  | true =>
    walk_at "w"
    cases n with
    | zero => cases d <;> first | (simp [dIsSeq] at hq; done) | (simp [shp] at hs; done)
    | succ n =>
      have esp := hsp n rfl
      subst esp
      have fin : ∀ (ds : List PyData) (p : Addr) (H2 : Hp) (ys : List V), dDeep d = .tuple (dDeepAll ds) → Ex H1 H2 → H2 p = some (.lst ys) → DpAll K H2 ys ((List.range ds.length).map fun i => dDeep (ds.getD i .none)) → ∀ (p3 : Addr) (H3 : Hp), Ex H2 H3 → SqT K H3 p3 ys → Q (.ref p3) H3 := fun ds p H2 ys he e2 hp hy p3 H3 e3 s3 => by
        rw [he] at k
        refine k _ _ (e1.trans (e2.trans e3)) (.tup s3 ?_)
        have el : (List.range ds.length).map (fun i => dDeep (ds.getD i .none)) = dDeepAll ds := by
          rw [dDeepAll_eq]
          apply List.ext_getElem
          · simp
          · intro i h1 h2
            simp at h1 h2
            simp [h2]
        rw [el] at hy
        exact dpAll_ex e3 hy
      have elt : ∀ (ds : List PyData) (xs : List V) (H1' : Hp) (i : Nat) (x : V) (Q' : VK) (h1 : DpAll K H xs ds) (hsh : shpAll n ds = true), Ex H H1' → xs[i]? = some x → (∀ y H2, Ex H1' H2 → Dp K H2 y (dDeep (ds.getD i .none)) → Q' y H2) → ∃ d, Dp K H1' x d ∧ shp n d = true ∧ RetD K (dDeep d) H1' Q' := by
        intro ds xs H1' i x Q' h1 hsh e hx hq
        obtain ⟨d', g1, g2⟩ := dpAll_get h1 hx
        refine ⟨d', dp_ex e g2, shpAll_get hsh g1, fun y H2 e2 d2 => hq y H2 e2 ?_⟩
        rw [List.getD_eq_getElem?_getD, g1]
        exact d2
      cases hd with
      | lst s a =>
        rename_i ad xs ds
        obtain ⟨hz, hsh⟩ := Bool.and_eq_true_iff.mp (show (decide (ds.length ≤ 50000) && shpAll n ds) = true from hs)
        have hz' := of_decide_eq_true hz
        have hl := dpAll_len a
        refine i_seqL ?_
        walk_at "w"
        refine lcD_list (fun i => dDeep (ds.getD i .none)) (fun i => imm_deep _) (ex_l e1 s) (by omega) (fun x => [_, some x]) (fun x => rfl) (fun x => rfl) (fun i x H2 Q' e2 hx hq => ?_) (fun p H2 ys n2 e2 hp hy => ?_)
        · walk_at "w"
          exact elt ds xs H2 i x Q' a hsh (e1.trans e2) hx hq
        · walk_at "w"
          rw [hl] at hy
          intro p3 H3 e3 s3
          exact fin ds p H2 ys rfl e2 hp hy p3 H3 e3 s3
      | tup s a =>
        rename_i ad xs ds
        obtain ⟨hz, hsh⟩ := Bool.and_eq_true_iff.mp (show (decide (ds.length ≤ 50000) && shpAll n ds) = true from hs)
        have hz' := of_decide_eq_true hz
        have hl := dpAll_len a
        refine i_seqT ?_
        walk_at "w"
        refine lcD_tup (fun i => dDeep (ds.getD i .none)) (fun i => imm_deep _) (ex_t e1 s) (by omega) (fun x => [_, some x]) (fun x => rfl) (fun x => rfl) (fun i x H2 Q' e2 hx hq => ?_) (fun p H2 ys n2 e2 hp hy => ?_)
        · walk_at "w"
          exact elt ds xs H2 i x Q' a hsh (e1.trans e2) hx hq
        · walk_at "w"
          rw [hl] at hy
          intro p3 H3 e3 s3
          exact fin ds p H2 ys rfl e2 hp hy p3 H3 e3 s3
      | _ => exact nomatch hq
theorem ok_deepN {P : Program} {w : World} {K : PySem.W.Frag} {mg : Str → Option Value} {base : Heap} (E : Env P K mg) : ∀ n : Nat, Fn P w K mg base CX0 (n + 2) "deep" (spDeep K n)
  | 0 => by
    obtain ⟨fd, F⟩ := E.dd_deep
    exact deep_step E (k := 1) (Nat.le_refl _) (Fn.never F E.g_deep (ps := ["thing"]) (fun _ _ _ _ _ _ us hl => match us, hl with | [_], _ => rfl)) (fun m e => nomatch e)
  | n + 1 => deep_step E (by omega) (ok_deepN E n) (fun m e => by cases e; rfl)
theorem ok_deep {P : Program} {w : World} {K : PySem.W.Frag} {mg : Str → Option Value} {base : Heap} (E : Env P K mg) : Fn P w K mg base CX0 8 "deep" (spDeep K 6) := ok_deepN E 6

end
section
abbrev N__law_pick : List Str := ["source", "many", "digit", "value"]
theorem sc__law_pick : FnScope N__law_pick ["source", "many"] (defScope s__law_pick) := ⟨rfl, rfl, rfl, by decide +kernel, rfl, by decide +kernel, by decide +kernel⟩
theorem ok__law_pick {P : Program} {w : World} {K : PySem.W.Frag} {mg : Str → Option Value} {base : Heap} (E : Env P K mg) : Fn P w K mg base CX0 1 "_law_pick" (sp2 fun s m H Q _ => ∃ (a : Addr) (n : Int), s = .ref a ∧ m = .int n ∧ 0 < n ∧ n < 4611686018427387904 ∧ SrcAt H a ∧ ∀ (r : Int) H', 0 ≤ r → r < n → SrcAt H' a → Fr a H H' → Q (.int r) H') := by
  obtain ⟨fd, F⟩ := E.dd__law_pick
  refine Fn.mk0 F E.g__law_pick sc__law_pick sp2_len (fun _ _ _ _ _ _ us hl => match us, hl with | [_, _], _ => rfl) (fun cdv A outer s H vs Q X hr h => ?_)
  have nd := sc__law_pick.nd
  obtain ⟨v0, v1, rfl, h⟩ := h
  refine ⟨_, (pss_cons (ps_if (pt_cmpR op_gt (pe_ix (kIx K) (pv 0) (pe_int) (fun _ _ => rfl)) (pe_int) (nomark _))
   (pss_cons (ps_set (i := 2) nd rfl (.inl rfl) (pe_op xMod (pe_callTy xInt (by rfl) E.f_int (by decide +kernel) (pa_cons (pe_ix (kIx K) (pv 0) (pe_int) (fun _ _ => rfl)) pa_nil)) (pv 1)))
  (pss_cons (ps_asg (pe_op xDiv (pe_ix (kIx K) (pv 0) (pe_int) (fun _ _ => rfl)) (pv 1)) (pg_sub (pv 0) (pe_int) set_list))
  (pss_one (ps_ret (pv 2)))))
   pss_nil)
  (pss_cons (ps_asg (pe_op (kAdd K) (pe_ix (kIx K) (pv 0) (pe_int) (fun _ _ => rfl)) (pe_int)) (pg_sub (pv 0) (pe_int) set_list))
  (pss_cons (ps_set (i := 3) nd rfl (.inl rfl) (pe_op xMod (pe_callTy xInt (by rfl) E.f_int (by decide +kernel) (pa_cons (pe_op (kMul K) (pe_op (kAdd K) (pe_ix (kIx K) (pv 0) (pe_int) (fun _ _ => rfl)) (pe_op (kMul K) (pe_int) (pe_ix (kIx K) (pv 0) (pe_int) (fun _ _ => rfl)))) (pe_int)) pa_nil)) (pe_int)))
  (pss_cons (ps_set (i := 3) nd rfl (.inl rfl) (pe_op xMod (pe_callTy xInt (by rfl) E.f_int (by decide +kernel) (pa_cons (pe_op (kAdd K) (pe_op (kAdd K) (pe_op (kMul K) (pv 3) (pv 3)) (pe_op (kMul K) (pe_int) (pe_ix (kIx K) (pv 0) (pe_int) (fun _ _ => rfl)))) (pe_ix (kIx K) (pv 0) (pe_int) (fun _ _ => rfl))) pa_nil)) (pe_int)))
  (pss_cons (ps_set (i := 3) nd rfl (.inl rfl) (pe_op xMod (pe_callTy xInt (by rfl) E.f_int (by decide +kernel) (pa_cons (pe_op (kAdd K) (pe_op (kMul K) (pv 3) (pe_int)) (pe_int)) pa_nil)) (pe_int)))
  (pss_cons (ps_set (i := 3) nd rfl (.inl rfl) (pe_op xMod (pe_callTy xInt (by rfl) E.f_int (by decide +kernel) (pa_cons (pe_op (kAdd K) (pe_op (kMul K) (pv 3) (pv 3)) (pv 3)) pa_nil)) (pe_int)))
  (pss_one (ps_ret (pe_op xMod (pe_callTy xInt (by rfl) E.f_int (by decide +kernel) (pa_cons (pe_op xDiv (pv 3) (pe_int)) pa_nil)) (pv 1)))))))))), ?_⟩
  change (_ : TS) _ [some v0, some v1, none, none] H
  try dsimp only [cxOf, Cx.nox, Cx.blk]
  obtain ⟨a, n, rfl, rfl, hn, hn2, hs, k⟩ := h
  obtain ⟨d, sd, c, h1, h2, h3, h4, h5⟩ := hs
  have s1 : SqL K H a [.int d, .int sd, .int c] := sq_of h1
  walk_at "w"
  by_cases c0 : 0 < d
  · walk_at "w"
    have hd0 : 0 ≤ d / n := Int.ediv_nonneg h2 (by omega)
    refine r_set (j := 0) h1 rfl ?_
    walk_at "w"
    exact k _ _ (Int.emod_nonneg _ (by omega)) (Int.emod_lt_of_pos _ hn) ⟨d / n, sd, c, upd_same, hd0, h3, h4, h5⟩ Fr.upd
  · walk_at "w"
    refine r_set (j := 2) h1 rfl ?_
    obtain ⟨H1, e1, g1, f1⟩ : ∃ H1, upd H a (.lst ([V.int d, .int sd, .int c].set 2 (.int (c + 1)))) = H1 ∧ H1 a = some (.lst [.int d, .int sd, .int (c + 1)]) ∧ Fr a H H1 := ⟨_, rfl, upd_same, Fr.upd⟩
    rw [e1]
    have s2 : SqL K H1 a [.int d, .int sd, .int (c + 1)] := sq_of g1
    walk_at "w"
    generalize hx1 : (sd + 104729 * (c + 1)) * 48271 % 2147483647 = x1
    have b1 : 0 ≤ x1 ∧ x1 < 2147483647 := by subst hx1; exact ⟨Int.emod_nonneg _ (by decide), Int.emod_lt_of_pos _ (by decide)⟩
    walk_at "w"
    generalize hx2 : (x1 * x1 + 7 * (c + 1) + sd) % 2147483629 = x2
    have b2 : 0 ≤ x2 ∧ x2 < 2147483629 := by subst hx2; exact ⟨Int.emod_nonneg _ (by decide), Int.emod_lt_of_pos _ (by decide)⟩
    walk_at "w"
    generalize hx3 : (x2 * 69621 + 5) % 2147483647 = x3
    have b3 : 0 ≤ x3 ∧ x3 < 2147483647 := by subst hx3; exact ⟨Int.emod_nonneg _ (by decide), Int.emod_lt_of_pos _ (by decide)⟩
    walk_at "w"
    exact k _ _ (Int.emod_nonneg _ (by omega)) (Int.emod_lt_of_pos _ hn) ⟨d, sd, c + 1, g1, h2, h3, h4, by omega⟩ f1

end
section
theorem bits_abs {z : Int} (h : Builtin.Int.intBits z ≤ 1048576) : ∃ n : Nat, n ≤ 1048577 ∧ z.natAbs < 2 ^ n := by
  refine ⟨z.natAbs.log2 + 1, ?_, Nat.lt_log2_self⟩
  unfold Builtin.Int.intBits at h
  split at h
  · rename_i h0
    have : z = 0 := by simpa using h0
    subst this
    decide
  · omega
theorem shl_of {z : Int} {j : Nat} (hj : j ≤ 100000) (hz : 0 ≤ z) (h : ∃ n : Nat, n ≤ 1048577 ∧ z.natAbs < 2 ^ n) (m : Nat) : CShl (z / 2 ^ m) (j : Int) := by
  obtain ⟨n, hn, hb⟩ := h
  refine shl_ok (n := n) (Nat.lt_of_le_of_lt ?_ hb) (by omega)
  have h1 : z / 2 ^ m ≤ z := Int.ediv_le_self _ hz
  have h2 : 0 ≤ z / 2 ^ m := Int.ediv_nonneg hz (Int.le_of_lt (Int.pow_pos (by decide)))
  omega
abbrev N__law_source : List Str := ["script", "place", "cell", "seed", "one", "number"]
theorem sc__law_source : FnScope N__law_source ["script", "place"] (defScope s__law_source) := ⟨rfl, rfl, rfl, by decide +kernel, rfl, by decide +kernel, by decide +kernel⟩
theorem ok__law_source {P : Program} {w : World} {K : PySem.W.Frag} {mg : Str → Option Value} {base : Heap} (E : Env P K mg) : Fn P w K mg base CX0 1 "_law_source" (sp2 fun s p H Q _ => ∃ (a : Addr) (ns : List Int) (i : Int), s = .ref a ∧ p = .int i ∧ SqL K H a (vI ns) ∧ (∀ z ∈ ns, Builtin.Int.intBits z ≤ 1048576) ∧ ns.length ≤ 63 ∧ 0 ≤ i ∧ i ≤ 100 ∧ ∀ x H', H x = none → Ex H H' → SrcAt H' x → Q (.ref x) H') := by
  obtain ⟨fd, F⟩ := E.dd__law_source
  refine Fn.mk0 F E.g__law_source sc__law_source sp2_len (fun _ _ _ _ _ _ us hl => match us, hl with | [_, _], _ => rfl) (fun cdv A outer s H vs Q X hr h => ?_)
  have nd := sc__law_source.nd
  obtain ⟨v0, v1, rfl, h⟩ := h
  refine ⟨_, (pss_cut (ps_set (i := 2) nd rfl (.inl rfl) (pe_ifExp (pt_cmpR op_lt (pv 1) (pe_callB (kLen K) (by rfl) E.f_len (by decide +kernel) (pa_cons (pv 0) pa_nil)) (nomark _)) (pe_ix (kIx K) (pv 0) (pv 1) (fun _ _ => rfl)) (pe_op (kAdd K) (pe_op (kMul K) (pe_int) (pv 1)) (pe_int))))
  (pss_cons (ps_set (i := 3) nd rfl (.inl rfl) (pe_op xMod (pe_callTy xInt (by rfl) E.f_int (by decide +kernel) (pa_cons (pe_op (kAdd K) (pe_op xMod (pe_callTy xInt (by rfl) E.f_int (by decide +kernel) (pa_cons (pv 2) pa_nil)) (pe_int)) (pe_op (kMul K) (pe_int) (pv 1))) pa_nil)) (pe_int)))
  (pss_cons (ps_for PassesOwn.never rfl (kSeq K (pe_slice (kSl K) (pv 0) po_none (po_some (pe_int)))) (pg_name (i := 4) nd rfl (.inl rfl))
   (pss_one (ps_set (i := 3) nd rfl (.inl rfl) (pe_op xMod (pe_callTy xInt (by rfl) E.f_int (by decide +kernel) (pa_cons (pe_op (kAdd K) (pe_op (kMul K) (pv 3) (pe_int)) (pe_op xMod (pe_callTy xInt (by rfl) E.f_int (by decide +kernel) (pa_cons (pv 4) pa_nil)) (pe_int))) pa_nil)) (pe_int)))))
  (pss_cons (ps_set (i := 5) nd rfl (.inl rfl) (pe_callB xAbs (by rfl) E.f_abs (by decide +kernel) (pa_cons (pv 2) pa_nil)))
  (pss_cons (ps_if (pt_cmpR op_lt (pv 5) (pe_op xPow (pe_int) (pe_int)) (nomark _))
   (pss_one (ps_ret (pe_lst (pa_cons (pe_int) (pa_cons (pv 3) (pa_cons (pe_int) pa_nil))))))
   pss_nil)
  (pss_cons (ps_if (pt_cmpR op_gt (pe_op xShr (pv 5) (pe_int)) (pe_int) (nomark _))
   (pss_one (ps_set (i := 5) nd rfl (.inl rfl) (pe_op xSub (pv 5) (pe_op xShl (pe_op xShr (pv 5) (pe_int)) (pe_int)))))
   pss_nil)
  (pss_one (ps_ret (pe_lst (pa_cons (pv 5) (pa_cons (pv 3) (pa_cons (pe_int) pa_nil)))))))))))), ?_⟩
  change (_ : TS) _ [some v0, some v1, none, none, none, none] H
  try dsimp only [cxOf, Cx.nox, Cx.blk]
  obtain ⟨a, ns, i, rfl, rfl, s0, hb, hz, hi, hi2, k⟩ := h
  have fin : ∀ (cell seed : Int) (H1 : Hp) (v : Option V), Ex H H1 → (∃ n : Nat, n ≤ 1048577 ∧ cell.natAbs < 2 ^ n) → 0 ≤ seed → seed < 2147483629 →
      tSeq (tAsg (tCB rAbsU (tCons (tVar 2) tNil)) (gName 5)) (tSeq (tIfS (tTest (tOp (rI0 fun i j => .bl (decide (i < j))) (tVar 5) (tOp rPow (tC (.int 10)) (tC (.int 18))))) (tRet (tLst (tCons (tC (.int 0)) (tCons (tVar 3) (tCons (tC (.int 0)) tNil))))) tNext)
        (tSeq (tIfS (tTest (tOp (rI0 fun i j => .bl (decide (j < i))) (tOp rShr (tVar 5) (tC (.int 4000))) (tC (.int 0)))) (tAsg (tOp rSubI (tVar 5) (tOp rShl (tOp rShr (tVar 5) (tC (.int 4000))) (tC (.int 4000)))) (gName 5)) tNext)
          (tRet (tLst (tCons (tVar 5) (tCons (tVar 3) (tCons (tC (.int 0)) tNil))))))) { nx := fun _ H' => Q .non H', rt := Q } [some (.ref a), some (.int i), some (.int cell), some (.int seed), v, none] H1 := by
    intro cell seed H1 v e1 hc h0 h1
    have ret : ∀ (d : Int), 0 ≤ d → NewL [.int d, .int seed, .int 0] H1 Q := fun d hd => w_newL (by walk_at "sz") fun p H2 n2 e2 h2 => k p H2 (fresh_back e1 n2) (e1.trans e2) ⟨d, seed, 0, h2, hd, h0, h1, Int.le_refl 0⟩
    repeat walk_at "w1"
    refine r_abs ?_
    repeat walk_at "w1"
    refine r_pow ⟨by decide, by decide, by decide⟩ ?_
    refine r_lt ?_
    repeat walk_at "w1"
    have hn0 : (0 : Int) ≤ (cell.natAbs : Int) := Int.natCast_nonneg _
    have hb : ∃ n : Nat, n ≤ 1048577 ∧ (cell.natAbs : Int).natAbs < 2 ^ n := hc
    generalize (10 : Int) ^ (18 : Int).toNat = B1
    generalize (cell.natAbs : Int) = num at *
    refine w_ite (fun _ => ?_) (fun _ => ?_)
    · repeat walk_at "w1"
      exact ret 0 (Int.le_refl 0)
    · repeat walk_at "w1"
      refine r_shr (by decide) ?_
      repeat walk_at "w1"
      refine r_gt ?_
      repeat walk_at "w1"
      refine w_ite (fun _ => ?_) (fun _ => ?_)
      · repeat walk_at "w1"
        refine r_shr (by decide) ?_
        repeat walk_at "w1"
        refine r_shl (shl_of (j := 4000) (by decide) hn0 hb _) ?_
        refine r_subI ?_
        repeat walk_at "w1"
        refine ret _ ?_
        have h4 : (4000 : Int).toNat = ((4000 : Nat) : Int).toNat := rfl
        generalize (4000 : Int).toNat = m at *
        rw [← h4]
        have h5 : num / 2 ^ m * 2 ^ m ≤ num := Int.ediv_mul_le num (Int.ne_of_gt (Int.pow_pos (by decide)))
        exact Int.sub_nonneg_of_le h5
      · repeat walk_at "w1"
        exact ret _ hn0
  refine w_cut (M := fun σ' H' => ∃ cell : Int, σ' = [some (.ref a), some (.int i), some (.int cell), none, none, none] ∧ H' = H ∧ ∃ n : Nat, n ≤ 1048577 ∧ cell.natAbs < 2 ^ n) ?_ ?_
  · walk_at "w"
    by_cases c : i < ns.length
    · walk_at "w"
      have hm : gI ns i ∈ ns := by
        unfold gI
        rw [List.getD_eq_getElem?_getD, List.getElem?_eq_getElem (show i.toNat < ns.length by omega)]
        exact List.getElem_mem _
      exact ⟨_, rfl, rfl, bits_abs (hb _ hm)⟩
    · walk_at "w"
      exact ⟨_, rfl, rfl, 10, by omega, by omega⟩
  rintro σ' H' ⟨cell, rfl, rfl, hc⟩
  walk_at "w"
  refine i_seqL ?_
  walk_at "w"
  intro p H1 n1 e1 h1
  walk_at "w"
  refine for_list (xs := vI (ns.take 2)) (Pv := fun _ σ' H2 => ∃ (sd : Int) (v : Option V), σ' = [some (.ref a), some (.int i), some (.int cell), some (.int sd), v, none] ∧ 0 ≤ sd ∧ sd < 2147483629 ∧ H2 = H1) ⟨_, _, rfl, Int.emod_nonneg _ (by decide), Int.emod_lt_of_pos _ (by decide), rfl⟩ (fun _ _ H2 _ q => by obtain ⟨_, _, _, _, _, rfl⟩ := q; exact sq_of h1) ?_ ?_
  · rintro j x σ' H2 hx ⟨sd, v, rfl, g0, g1, rfl⟩
    obtain ⟨z, _, rfl⟩ := List.mem_map.mp (List.mem_of_getElem? hx)
    walk_at "w"
    exact ⟨_, _, rfl, Int.emod_nonneg _ (by decide), Int.emod_lt_of_pos _ (by decide), rfl⟩
  · rintro σ' H2 ⟨sd, v, rfl, g0, g1, rfl⟩
    exact fin cell sd H2 v e1 hc g0 g1

end
section
/-- small letters -/
def lwr (c : Nat) : Bool := decide (97 ≤ c) && decide (c ≤ 122)
def wordD (lo hi : Int) : PyData → Bool
  | .str w => (decide (lo ≤ w.length) && decide ((w.length : Int) ≤ hi)) && w.cps.toList.all lwr
  | _ => false
theorem wordD_str {lo hi : Int} {w : Str} : wordD lo hi (.str w) = ((decide (lo ≤ w.length) && decide ((w.length : Int) ≤ hi)) && w.cps.toList.all lwr) := rfl
theorem w_contn {D : Ends} {σ : L2.St} {H : Hp} (h : D.ct σ H) : tCont D σ H := h
theorem r_eqSS {K : PySem.W.Frag} {x y : Str} {H : Hp} {Q : VK} (h : Q (.bl (decide (x = y))) H) : rEqU K (.str x) (.str y) H Q := .inl ⟨rfl, by
  rw [show decide (V.str x = V.str y) = decide (x = y) from decide_eq_decide.mpr ⟨V.str.inj, congrArg _⟩]
  exact h⟩
theorem le_a {c : Nat} : (!decide ((⟨#[c]⟩ : Str).cps.toList < ("a" : Str).cps.toList)) = decide (97 ≤ c) := by
  rw [show ("a" : Str).cps.toList = [97] by decide +kernel]
  show (!decide ([c] < [97])) = _
  by_cases h : 97 ≤ c
  · rw [decide_eq_true h, decide_eq_false]
    · rfl
    · intro q
      rcases List.cons_lt_cons_iff.mp q with q | ⟨_, q⟩
      · omega
      · cases q
  · rw [decide_eq_false h, decide_eq_true]
    · rfl
    · exact List.cons_lt_cons_iff.mpr (.inl (by omega))
theorem le_z {c : Nat} : (!decide (("z" : Str).cps.toList < (⟨#[c]⟩ : Str).cps.toList)) = decide (c ≤ 122) := by
  rw [show ("z" : Str).cps.toList = [122] by decide +kernel]
  show (!decide ([122] < [c])) = _
  by_cases h : c ≤ 122
  · rw [decide_eq_true h, decide_eq_false]
    · rfl
    · intro q
      rcases List.cons_lt_cons_iff.mp q with q | ⟨_, q⟩
      · omega
      · cases q
  · rw [decide_eq_false h, decide_eq_true]
    · rfl
    · exact List.cons_lt_cons_iff.mpr (.inl (by omega))
/-- a for over enumerate(text) -/
theorem for_enumS {x : Str} {g : TG} {tb : TS} {D : Ends} {σ : L2.St} {H : Hp} (Pv : Nat → L2.St → Hp → Prop) (h0 : Pv 0 σ H)
    (hs : ∀ i c σ H T, x.cps.toList[i]? = some c → Pv i σ H → H T = none → g (.ref T) σ (upd H T (.tup [.int (i : Nat), .str ⟨#[c]⟩])) fun σ2 H2 => tb { D with nx := Pv (i + 1), ct := Pv (i + 1), bk := D.nx } σ2 H2) (hd : ∀ σ H, Pv x.cps.toList.length σ H → D.nx σ H) : ForJ (Ites x) g tb D σ H := by
  have hsz : x.cps.toList.length = x.cps.size := Array.length_toList
  refine for_it (J := Ites x) (n := x.cps.size) (G := fun _ => True) (Y := fun i H v H' => ∃ T c, v = .ref T ∧ H T = none ∧ H' = upd H T (.tup [.int (i : Nat), .str ⟨#[c]⟩]) ∧ x.cps[i]? = some c) ⟨fun _ _ hi _ => hi, fun _ _ => Nat.le_refl _, fun _ _ _ _ _ _ y => y⟩ Pv h0 (fun _ _ _ _ _ => trivial) ?_ ?_
  · rintro i v σ H H' hi p ⟨T, c, rfl, hT, rfl, hc⟩
    exact hs i c σ H T (by rw [Array.getElem?_toList]; exact hc) p hT
  · intro σ H p
    exact hd σ H (by rw [hsz]; exact p)
theorem i_enumS {ta : TA} {σ : L2.St} {H : Hp} {R : It → Hp → Prop} (h : ta σ H fun vs H1 => ∃ x, vs = [.str x] ∧ R (Ites x) H1) : iEnumS ta σ H R := h
abbrev N_is_word : List Str := ["thing", "least", "most", "digits", "place", "sign"]
theorem sc_is_word : FnScope N_is_word ["thing", "least", "most", "digits"] (defScope s_is_word) := ⟨rfl, rfl, rfl, by decide +kernel, rfl, by decide +kernel, by decide +kernel⟩
theorem fx_is_word {P : Program} {w : World} {K : PySem.W.Frag} {mg : Str → Option Value} {base : Heap} (E : Env P K mg) : ∃ fd, FunD K "is_word" "is_word" (defArgs s_is_word) (defBody s_is_word) (defScope s_is_word) (d_is_word.dvs K) [] (d_is_word.adr K) fd ∧ FnOk P w K mg base CX0 1 (d_is_word.adr K) fd ["thing", "least", "most", "digits"] (sp4 fun v a b c H Q _ => ∃ (d : PyData) (lo hi : Int), Dp K H v d ∧ a = .int lo ∧ b = .int hi ∧ c = .bl false ∧ hi ≤ 100 ∧ (∀ w, d = .str w → w.length ≤ 100000) ∧ ∀ H', Ex H H' → Q (.bl (wordD lo hi d)) H') := by
  obtain ⟨fd, F⟩ := E.dd_is_word
  refine ⟨fd, F, fnok0 F sc_is_word sp4_len (fun cdv A outer s H vs Q X hr h => ?_)⟩
  have nd := sc_is_word.nd
  obtain ⟨v0, v1, v2, v3, rfl, h⟩ := h
  refine ⟨_, (pss_cons (ps_if (PW.pt (pw_or (pt_not (kTru K (pe_callB (kIsi K) (by rfl) E.f_isinstance (by decide +kernel) (pa_cons (pv 0) (pa_cons (pe_bltn (v := .ty "str") (by rfl) E.f_str (by decide +kernel) rfl) pa_nil))) (by intro _; rfl))) (pw_or1 (pt_not (pt_chain xLeS xLeS (pv 1) (pe_callB xLenS (by rfl) E.f_len (by decide +kernel) (pa_cons (pv 0) pa_nil)) (pv 2))))))
   (pss_one (ps_ret (pe_bl)))
   pss_nil)
  (pss_cons (ps_for PassesOwn.never rfl (pi_enumS (by rfl) E.f_enumerate (pa_cons (pv 0) pa_nil)) (kGtup K rfl (pgs_cons (pg_name (i := 4) nd rfl (.inl rfl)) (pgs_cons (pg_name (i := 5) nd rfl (.inl rfl)) (pgs_nil))))
   (pss_cons (ps_if (pt_chain xLeS xLeS (pe_str) (pv 5) (pe_str))
   (pss_one (ps_continue))
   pss_nil)
  (pss_one (ps_if (PW.pt (pw_or (pt_not (kTru K (pv 3) (by intro _; rfl))) (pw_or (pt_cmpR (kEq K hr) (pv 4) (pe_int) (nomark _)) (pw_or1 (pt_not (pt_chain xLeS xLeS (pe_str) (pv 5) (pe_str)))))))
   (pss_one (ps_ret (pe_bl)))
   pss_nil))))
  (pss_one (ps_ret (pe_bl))))), ?_⟩
  change (_ : TS) _ [some v0, some v1, some v2, some v3, none, none] H
  try dsimp only [cxOf, Cx.nox, Cx.blk]
  obtain ⟨d, lo, hi, dv, rfl, rfl, rfl, hh, zw, k⟩ := h
  cases dv with
  | str w =>
    have wl := zw w rfl
    have lz : w.length ≤ sizeLine := sz_of (by omega)
    walk_at "w"
    refine r_lenS lz ?_
    walk_at "w"
    refine r_leUI ?_
    by_cases c1 : lo ≤ w.length
    · walk_at "w"
      refine r_leUI ?_
      by_cases c2 : (w.length : Int) ≤ hi
      · walk_at "w"
        refine i_enumS ?_
        walk_at "w"
        refine ⟨w, rfl, ?_⟩
        refine for_enumS (Pv := fun i σ' H' => ∃ x y : Option V, σ' = [some (.str w), some (.int lo), some (.int hi), some (.bl false), x, y] ∧ Ex H H' ∧ ∀ j, j < i → ∀ c, w.cps.toList[j]? = some c → lwr c = true) ⟨_, _, rfl, Ex.refl _, fun j hj => by omega⟩ ?_ ?_
        · rintro i c σ' H' T hc ⟨x, y, rfl, e, hw⟩ hT
          have e' : Ex H (upd H' T (.tup [.int (i : Nat), .str ⟨#[c]⟩])) := e.trans (Ex.new hT)
          have st : SqT K (upd H' T (.tup [.int (i : Nat), .str ⟨#[c]⟩])) T [.int (i : Nat), .str ⟨#[c]⟩] := st_of upd_same
          walk_at "w"
          refine r_leUS ?_
          rw [le_a]
          have off : lwr c = false → Q (.bl false) (upd H' T (.tup [.int (i : Nat), .str ⟨#[c]⟩])) := fun hl => by
            have := k _ e'
            have e2 : wordD lo hi (.str w) = false := by
              rw [wordD_str]
              rw [Bool.and_eq_false_iff]
              right
              rw [Bool.eq_false_iff]
              intro h
              rw [List.all_eq_true.mp h c (List.mem_of_getElem? hc)] at hl
              cases hl
            rwa [e2] at this
          by_cases c3 : 97 ≤ c
          · walk_at "w"
            refine r_leUS ?_
            rw [le_z]
            by_cases c4 : c ≤ 122
            · walk_at "w"
              refine w_contn ?_
              refine ⟨_, _, rfl, e', fun j hj c' hc' => ?_⟩
              by_cases q : j = i
              · subst q
                rw [hc] at hc'
                cases hc'
                unfold lwr
                rw [decide_eq_true c3, decide_eq_true c4]
                rfl
              · exact hw j (by omega) c' hc'
            · walk_at "w"
              exact off (by unfold lwr; rw [decide_eq_false c4, Bool.and_false])
          · walk_at "w"
            exact off (by unfold lwr; rw [decide_eq_false c3, Bool.false_and])
        · rintro σ' H' ⟨x, y, rfl, e, hw⟩
          walk_at "w"
          have := k _ e
          have e2 : wordD lo hi (.str w) = true := by
            rw [wordD_str]
            rw [decide_eq_true c1, decide_eq_true c2, Bool.true_and, Bool.true_and, List.all_eq_true]
            intro c hc
            obtain ⟨j, hj, rfl⟩ := List.getElem_of_mem hc
            exact hw j hj _ (List.getElem?_eq_getElem hj)
          rwa [e2] at this
      · walk_at "w"
        have := k _ (Ex.refl _)
        have e2 : wordD lo hi (.str w) = false := by rw [wordD_str, decide_eq_false c2, Bool.and_false, Bool.false_and]
        rwa [e2] at this
    · walk_at "w"
      have := k _ (Ex.refl _)
      have e2 : wordD lo hi (.str w) = false := by rw [wordD_str, decide_eq_false c1, Bool.false_and, Bool.false_and]
      rwa [e2] at this
  | non => walk_at "w"; exact k _ (Ex.refl _)
  | bl b => walk_at "w"; exact k _ (Ex.refl _)
  | int i => walk_at "w"; exact k _ (Ex.refl _)
  | lst s q => walk_at "w"; exact k _ (Ex.refl _)
  | tup s q => walk_at "w"; exact k _ (Ex.refl _)
theorem ok_is_word3 {P : Program} {w : World} {K : PySem.W.Frag} {mg : Str → Option Value} {base : Heap} (E : Env P K mg) : FnD P w K mg base CX0 1 "is_word" (sp4 fun v a b c H Q _ => ∃ (d : PyData) (lo hi : Int), Dp K H v d ∧ a = .int lo ∧ b = .int hi ∧ c = .bl false ∧ hi ≤ 100 ∧ (∀ w, d = .str w → w.length ≤ 100000) ∧ ∀ H', Ex H H' → Q (.bl (wordD lo hi d)) H') [.bl false] := by
  obtain ⟨fd, F, k⟩ := fx_is_word (P := P) (w := w) (base := base) E
  obtain ⟨ds, hd, hb⟩ := F.binds1 (ps := ["thing", "least", "most", "digits"]) 3 0 (List.cons_ne_nil _ _) rfl (fun T kV doc pm an cdv ct us its hu hi => match us, its, hu, hi with | [_, _, _], [_], _, _ => ⟨_, rfl, rfl⟩)
  exact ⟨_, fd, _, ds, k, E.g_is_word, F.kp, hb, hd⟩


end
section
theorem putF_len (f : Str) (y : V) : ∀ fs : List (Str × V), (putF f y fs).length ≤ fs.length + 1
  | [] => Nat.le_refl _
  | (g, v) :: r => by
    show (if g = f then (g, y) :: r else (g, v) :: putF f y r).length ≤ _
    split
    · exact Nat.le_succ _
    · exact Nat.succ_le_succ (putF_len f y r)
abbrev N_WrongWord_init : List Str := ["self", "word", "__class__"]
abbrev rest_WrongWord_init : List Stmt := (defBody s_WrongWord_init).drop 1
theorem sc_WrongWord_init : NdefX.NScope N_WrongWord_init ["self", "word"] ["__class__"] (defScope s_WrongWord_init) := NdefX.nscope_by (by decide +kernel)
theorem fx_WrongWord_init {P : Program} {w : World} {K : PySem.W.Frag} {mg : Str → Option Value} {base : Heap} (E : Env P K mg) : ∃ fd, FunS K "__init__" "WrongWord.__init__" (defArgs s_WrongWord_init) (defBody s_WrongWord_init) (defScope s_WrongWord_init) (d_WrongWord_init.adr K) fd (cellOf K (d_WrongWord_init.adr K)) (codeOf K (d_WrongWord_init.adr K)) ∧ FnOk P w K mg base CX0 1 (d_WrongWord_init.adr K) fd ["self", "word"] (spXS K (He.ga K "WrongWord") "word") := by
  obtain ⟨fd, F⟩ := E.dd_WrongWord_init
  refine ⟨fd, F, XS.fnsupx (rest := rest_WrongWord_init) (k := 0) F E.supx_WrongWord rfl sc_WrongWord_init (by decide +kernel) rfl rfl rfl sp2_len (fun A outer s H vs Q X hr h => ?_)⟩
  have nd := sc_WrongWord_init.nd
  obtain ⟨v0, v1, rfl, x, C, w, rfl, rfl, hw, hx, T, U, hf, k⟩ := h
  have js_len : ∀ {y : Str}, y.length ≤ 100000 → y.length ≤ sizeLine := fun q => sz_of q
  refine ⟨_, _, x, C, pe_joined (.cons pe_str (.cons (pe_fmt (pv 1)) (.cons pe_str (.nil)))), pss_one (ps_ost (pv 0) (pv 1)), rfl, hx, T, U, ?_⟩
  have lc0 : ("the " : Str).length = 4 := by decide +kernel
  have lc1 : (" does not have the form that is asked for" : Str).length = 41 := by decide +kernel
  have lce : (Str.empty).length = 0 := by decide +kernel
  refine w_js (w_c ⟨_, rfl, ?_, ?_⟩)
  · exact js_len (by simp only [sapp_len, lce, lc0, lc1]; omega)
  refine w_js (w_fmtV rfl (js_len (by omega)) ⟨_, rfl, ?_, ?_⟩)
  · exact js_len (by simp only [sapp_len, lce, lc0, lc1]; omega)
  refine w_js (w_c ⟨_, rfl, ?_, ?_⟩)
  · exact js_len (by simp only [sapp_len, lce, lc0, lc1]; omega)
  refine w_js0 ⟨rfl, hx, ?_⟩
  exact ⟨.str w, rfl, .ref x, rfl, x, C, rfl, T, hf, .inl ⟨hx, fun dx n1 n2 => k dx n1 n2⟩⟩
theorem ok_X_BadRoster {P : Program} {w : World} {K : PySem.W.Frag} {mg : Str → Option Value} {base : Heap} (E : Env P K mg) : Xcl P w K mg base 1 "BadRoster" (He.ga K "BadRoster") (spXS K (He.ga K "WrongWord") "word") := by
  obtain ⟨fd, F, k⟩ := fx_WrongWord_init (P := P) (w := w) (base := base) E
  exact ⟨_, fd, _, E.ox_BadRoster, E.xi_BadRoster, E.xt_BadRoster, k, E.g_BadRoster, F.bindsN (fun _ _ _ _ _ _ us hl => match us, hl with | [_, _], _ => rfl)⟩
abbrev N_BadText_init : List Str := ["self", "place", "__class__"]
abbrev rest_BadText_init : List Stmt := (defBody s_BadText_init).drop 1
theorem sc_BadText_init : NdefX.NScope N_BadText_init ["self", "place"] ["__class__"] (defScope s_BadText_init) := NdefX.nscope_by (by decide +kernel)
theorem fx_BadText_init {P : Program} {w : World} {K : PySem.W.Frag} {mg : Str → Option Value} {base : Heap} (E : Env P K mg) : ∃ fd, FunS K "__init__" "BadText.__init__" (defArgs s_BadText_init) (defBody s_BadText_init) (defScope s_BadText_init) (d_BadText_init.adr K) fd (cellOf K (d_BadText_init.adr K)) (codeOf K (d_BadText_init.adr K)) ∧ FnOk P w K mg base CX0 1 (d_BadText_init.adr K) fd ["self", "place"] (spXN K (He.ga K "BadText") "place") := by
  obtain ⟨fd, F⟩ := E.dd_BadText_init
  refine ⟨fd, F, XS.fnsupx (rest := rest_BadText_init) (k := 0) F E.supx_BadText rfl sc_BadText_init (by decide +kernel) rfl rfl rfl sp2_len (fun A outer s H vs Q X hr h => ?_)⟩
  have nd := sc_BadText_init.nd
  obtain ⟨v0, v1, rfl, x, C, w, rfl, rfl, hw1, hw2, hx, T, U, hf, k⟩ := h
  have js_len : ∀ {y : Str}, y.length ≤ 100000 → y.length ≤ sizeLine := fun q => sz_of q
  refine ⟨_, _, x, C, pe_joined (.cons pe_str (.cons (pe_fmt (pv 1)) (.nil))), pss_one (ps_ost (pv 0) (pv 1)), rfl, hx, T, U, ?_⟩
  have lc0 : ("the text is wrong at " : Str).length = 21 := by decide +kernel
  have lce : (Str.empty).length = 0 := by decide +kernel
  have hw := sml_len hw1 hw2
  refine w_js (w_c ⟨_, rfl, ?_, ?_⟩)
  · exact js_len (by simp only [sapp_len, lce, lc0]; omega)
  refine w_js (w_fmtN rfl (sml_log hw1 hw2) ⟨_, rfl, ?_, ?_⟩)
  · exact js_len (by simp only [sapp_len, lce, lc0]; omega)
  refine w_js0 ⟨rfl, hx, ?_⟩
  exact ⟨.int w, rfl, .ref x, rfl, x, C, rfl, T, hf, .inl ⟨hx, fun dx n1 n2 => k dx n1 n2⟩⟩
theorem ok_X_BadText {P : Program} {w : World} {K : PySem.W.Frag} {mg : Str → Option Value} {base : Heap} (E : Env P K mg) : Xcl P w K mg base 1 "BadText" (He.ga K "BadText") (spXN K (He.ga K "BadText") "place") := by
  obtain ⟨fd, F, k⟩ := fx_BadText_init (P := P) (w := w) (base := base) E
  exact ⟨_, fd, _, E.ox_BadText, E.xi_BadText, E.xt_BadText, k, E.g_BadText, F.bindsN (fun _ _ _ _ _ _ us hl => match us, hl with | [_, _], _ => rfl)⟩
abbrev N_TooMany_init : List Str := ["self", "word", "__class__"]
abbrev rest_TooMany_init : List Stmt := (defBody s_TooMany_init).drop 1
theorem sc_TooMany_init : NdefX.NScope N_TooMany_init ["self", "word"] ["__class__"] (defScope s_TooMany_init) := NdefX.nscope_by (by decide +kernel)
theorem fx_TooMany_init {P : Program} {w : World} {K : PySem.W.Frag} {mg : Str → Option Value} {base : Heap} (E : Env P K mg) : ∃ fd, FunS K "__init__" "TooMany.__init__" (defArgs s_TooMany_init) (defBody s_TooMany_init) (defScope s_TooMany_init) (d_TooMany_init.adr K) fd (cellOf K (d_TooMany_init.adr K)) (codeOf K (d_TooMany_init.adr K)) ∧ FnOk P w K mg base CX0 1 (d_TooMany_init.adr K) fd ["self", "word"] (spXS K (He.ga K "TooMany") "word") := by
  obtain ⟨fd, F⟩ := E.dd_TooMany_init
  refine ⟨fd, F, XS.fnsupx (rest := rest_TooMany_init) (k := 0) F E.supx_TooMany rfl sc_TooMany_init (by decide +kernel) rfl rfl rfl sp2_len (fun A outer s H vs Q X hr h => ?_)⟩
  have nd := sc_TooMany_init.nd
  obtain ⟨v0, v1, rfl, x, C, w, rfl, rfl, hw, hx, T, U, hf, k⟩ := h
  have js_len : ∀ {y : Str}, y.length ≤ 100000 → y.length ≤ sizeLine := fun q => sz_of q
  refine ⟨_, _, x, C, pe_joined (.cons pe_str (.cons (pe_fmt (pv 1)) (.nil))), pss_one (ps_ost (pv 0) (pv 1)), rfl, hx, T, U, ?_⟩
  have lc0 : ("too many: " : Str).length = 10 := by decide +kernel
  have lce : (Str.empty).length = 0 := by decide +kernel
  refine w_js (w_c ⟨_, rfl, ?_, ?_⟩)
  · exact js_len (by simp only [sapp_len, lce, lc0]; omega)
  refine w_js (w_fmtV rfl (js_len (by omega)) ⟨_, rfl, ?_, ?_⟩)
  · exact js_len (by simp only [sapp_len, lce, lc0]; omega)
  refine w_js0 ⟨rfl, hx, ?_⟩
  exact ⟨.str w, rfl, .ref x, rfl, x, C, rfl, T, hf, .inl ⟨hx, fun dx n1 n2 => k dx n1 n2⟩⟩
theorem ok_X_TooMany {P : Program} {w : World} {K : PySem.W.Frag} {mg : Str → Option Value} {base : Heap} (E : Env P K mg) : Xcl P w K mg base 1 "TooMany" (He.ga K "TooMany") (spXS K (He.ga K "TooMany") "word") := by
  obtain ⟨fd, F, k⟩ := fx_TooMany_init (P := P) (w := w) (base := base) E
  exact ⟨_, fd, _, E.ox_TooMany, E.xi_TooMany, E.xt_TooMany, k, E.g_TooMany, F.bindsN (fun _ _ _ _ _ _ us hl => match us, hl with | [_, _], _ => rfl)⟩

end
section
/-- whether a value is a row's name -/
def wordV : V → Bool
  | .str w => (decide (1 ≤ (w.length : Int)) && decide ((w.length : Int) ≤ 8)) && w.cps.toList.all lwr
  | _ => false
theorem wordV_D {K : PySem.W.Frag} {H : Hp} {v : V} {d : PyData} (h : Dp K H v d) : wordD 1 8 d = wordV v := by cases h <;> rfl
/-- data whose own text is no long one -/
def SmS (d : PyData) : Prop := ∀ w, d = .str w → w.length ≤ 100000
abbrev N_is_row_name : List Str := ["thing"]
theorem sc_is_row_name : FnScope N_is_row_name ["thing"] (defScope s_is_row_name) := ⟨rfl, rfl, rfl, by decide +kernel, rfl, by decide +kernel, by decide +kernel⟩
theorem ok_is_row_name {P : Program} {w : World} {K : PySem.W.Frag} {mg : Str → Option Value} {base : Heap} (E : Env P K mg) : Fn P w K mg base CX0 2 "is_row_name" (sp1 fun v H Q _ => ∃ d, Dp K H v d ∧ SmS d ∧ ∀ H', Ex H H' → Q (.bl (wordV v)) H') := by
  obtain ⟨fd, F⟩ := E.dd_is_row_name
  refine Fn.mk0 F E.g_is_row_name sc_is_row_name sp1_len (fun _ _ _ _ _ _ us hl => match us, hl with | [_], _ => rfl) (fun cdv A outer s H vs Q X hr h => ?_)
  have nd := sc_is_row_name.nd
  obtain ⟨v0, rfl, h⟩ := h
  refine ⟨_, (pss_one (ps_ret (pcD (ok_is_word3 E) hr (by decide) pass0 rfl (pa_cons (pv 0) (pa_cons (pe_int) (pa_cons (pe_int) pa_nil)))))), ?_⟩
  change (_ : TS) _ [some v0] H
  try dsimp only [cxOf, Cx.nox, Cx.blk]
  obtain ⟨d, hd, sm, k⟩ := h
  walk_at "w"
  refine w_callD ?_
  walk_at "w"
  refine ⟨_, _, _, _, rfl, d, 1, 8, hd, rfl, rfl, rfl, by decide, sm, fun H' e => ?_⟩
  rw [wordV_D hd]
  exact k _ e
/-- names, or no tuple or list of names -/
def NmL (K : PySem.W.Frag) (H : Hp) (v : V) (b : Bool) : Prop := (∃ a xs, v = .ref a ∧ (SqT K H a xs ∨ SqL K H a xs) ∧ xs.length ≤ 100000 ∧ (∀ x ∈ xs, ∃ d, Dp K H x d ∧ SmS d) ∧ b = xs.all wordV) ∨ (b = false ∧ ∃ d, DpX K H v d ∧ dIsSeq d = false)
theorem dpX_seqT {K : PySem.W.Frag} {H : Hp} : ∀ {xs : List V}, (∀ x ∈ xs, ∃ d, Dp K H x d ∧ SmS d) → ∃ ds, DpAll K H xs ds
  | [], _ => ⟨[], .nil⟩
  | x :: xs, h => by
    obtain ⟨d, hd, _⟩ := h x List.mem_cons_self
    obtain ⟨ds, hs⟩ := dpX_seqT fun y hy => h y (List.mem_cons_of_mem _ hy)
    exact ⟨d :: ds, .cons hd hs⟩
abbrev N_is_names : List Str := ["thing", "one"]
theorem sc_is_names : FnScope N_is_names ["thing"] (defScope s_is_names) := ⟨rfl, rfl, rfl, by decide +kernel, rfl, by decide +kernel, by decide +kernel⟩
theorem ok_is_names {P : Program} {w : World} {K : PySem.W.Frag} {mg : Str → Option Value} {base : Heap} (E : Env P K mg) : Fn P w K mg base CX0 3 "is_names" (sp1 fun v H Q _ => ∃ b, NmL K H v b ∧ ∀ H', Ex H H' → Q (.bl b) H') := by
  obtain ⟨fd, F⟩ := E.dd_is_names
  refine Fn.mk0 F E.g_is_names sc_is_names sp1_len (fun _ _ _ _ _ _ us hl => match us, hl with | [_], _ => rfl) (fun cdv A outer s H vs Q X hr h => ?_)
  have nd := sc_is_names.nd
  obtain ⟨v0, rfl, h⟩ := h
  refine ⟨_, (pss_one (ps_ret (pe_and (pc (ok_is_listed E) hr (by decide) pass0 rfl (pa_cons (pv 0) pa_nil)) (pe_one (pe_callB (kAll K rfl) (by rfl) E.f_all (by decide +kernel) (pa_cons (pe_lc (own := [("one", 1)]) (g := gName 1) (tt := tYes) rfl nd (kSeq K (pv 0)) (blkOk_by (N := N_is_names) (sc := defScope s_is_names) (by decide +kernel)) (fun _ _ _ _ _ => pg_name (i := 1) nd rfl (Or.inl rfl)) (fun _ _ _ _ _ => pts_nil) (fun _ _ _ _ _ => pc (ok_is_row_name E) hr (by decide) pass0 rfl (pa_cons (pv 1) pa_nil))) pa_nil)))))), ?_⟩
  change (_ : TS) _ [some v0, none] H
  try dsimp only [cxOf, Cx.nox, Cx.blk]
  obtain ⟨b, ⟨a, xs, rfl, hs, hz, hx, rfl⟩ | ⟨rfl, d, hd, hn⟩, k⟩ := h
  · obtain ⟨ds, hds⟩ := dpX_seqT hx
    have key : ∀ H1, Ex H H1 → ∀ (x : V) (H2 : Hp) (Q' : VK), Ex H1 H2 → x ∈ xs → (∀ H3, Ex H2 H3 → Q' (.bl (wordV x)) H3) → ∃ d, Dp K H2 x d ∧ SmS d ∧ ∀ H', Ex H2 H' → Q' (.bl (wordV x)) H' := fun H1 e1 x H2 Q' e2 hm hq => by
      obtain ⟨d, hd, sm⟩ := hx x hm
      exact ⟨d, dp_ex (e1.trans e2) hd, sm, hq⟩
    have fin : ∀ (p : Addr) (H2 : Hp), Ex H H2 → H2 p = some (.lst (xs.map fun x => V.bl (wordV x))) → rAll K [.ref p] H2 (fun v H => Q v H) := fun p H2 e2 hp => by
      refine r_all (bs := xs.map wordV) (sq_of hp) (by rw [List.map_map]; rfl) ?_
      rw [List.all_map, show (id ∘ wordV) = wordV from rfl]
      exact k _ e2
    rcases hs with s | s
    · walk_at "w"
      refine ⟨.tuple ds, .inl (.tup s hds), fun v H1 e1 q1 => ?_⟩
      rw [show dIsSeq (.tuple ds) = true from rfl] at q1
      obtain rfl := dp_toBl q1
      walk_at "w"
      refine i_seqT ?_
      walk_at "w"
      refine lcJ_tup (v := fun x => .bl (wordV x)) (ex_t e1 s) hz (fun x => [_, some x]) (fun x => rfl) (fun x => rfl) (fun x H2 Q' e2 hm hq => ?_) (fun p H2 n2 e2 hp => ?_)
      · walk_at "w"
        exact key H1 e1 x H2 Q' e2 hm hq
      · walk_at "w"
        exact fin p H2 (e1.trans e2) hp
    · walk_at "w"
      refine ⟨.list ds, .inl (.lst s hds), fun v H1 e1 q1 => ?_⟩
      rw [show dIsSeq (.list ds) = true from rfl] at q1
      obtain rfl := dp_toBl q1
      walk_at "w"
      refine i_seqL ?_
      walk_at "w"
      refine lcJ_list (v := fun x => .bl (wordV x)) (ex_l e1 s) hz (fun x => [_, some x]) (fun x => rfl) (fun x => rfl) (fun x H2 Q' e2 hm hq => ?_) (fun p H2 n2 e2 hp => ?_)
      · walk_at "w"
        exact key H1 e1 x H2 Q' e2 hm hq
      · walk_at "w"
        exact fin p H2 (e1.trans e2) hp
  · walk_at "w"
    refine ⟨d, hd, fun v H1 e1 q1 => ?_⟩
    rw [hn] at q1
    obtain rfl := dp_toBl q1
    walk_at "w"
    exact k _ e1

end
section
--@import HandS.Deep
/-! tuples whose object is known: made by tuple(a list); their methods -/
def SqF (H : Hp) (a : Addr) (xs : List V) : Prop := ∃ o : Obj, H a = some (.frz o (.tup xs)) ∧ o.cls = .type "tuple" ∧ o.dict = none
theorem SqF.sq {K : PySem.W.Frag} {H : Hp} {a : Addr} {xs : List V} (h : SqF H a xs) : SqT K H a xs := by
  obtain ⟨o, h, _⟩ := h
  exact .inl (.inr ⟨o, h⟩)
theorem ex_f {H H' : Hp} {a : Addr} {xs : List V} (e : Ex H H') (h : SqF H a xs) : SqF H' a xs := by
  obtain ⟨o, h, r⟩ := h
  exact ⟨o, e _ _ h, r⟩
def rTupF (K : PySem.W.Frag) : List V → Hp → VK → Prop := fun xs H Q => ∃ p ys, xs = [.ref p] ∧ SqL K H p ys ∧ ∀ l H', H l = none → Ex H H' → SqF H' l ys → Q (.ref l) H'
theorem call_tupF {X : Cx} : CallR X (.type "tuple") (rTupF X.K) := by
  intro pins s σ H xs us Q I r h
  obtain ⟨p, ys, rfl, hq, q⟩ := h
  cases r with
  | cons rx rr =>
    cases rr
    cases rx
    obtain ⟨its, r', pl, hz⟩ := I.list hq
    have hlen := r'.length
    refine call_tuple_list pl.isList (fun h' kp => ?_) (by simp only [List.size_toArray] <;> omega)
    have I1 : Inv X pins σ H { s with heap := h' } := I.kept (t' := s.toks) kp
    have I2 : Inv X pins σ (upd H h'.objs.size (.frz { cls := .type "tuple", data := .seq its.toArray } (.tup ys))) { s with heap := h'.push { cls := .type "tuple", data := .seq its.toArray } } :=
      I1.laid (t' := s.toks) (fun b o e => Heap.get?_push_of_some _ e) (Nat.le_refl _) (show ObjOk X.prog X.w _ _ _ (.frz _ (.tup ys)) from ⟨Heap.get?_push_size h' rfl, hz, its, r', IsTup.new _ _⟩)
    have nw := I1.hok.fresh (Nat.le_refl h'.objs.size)
    exact ⟨.ref h'.objs.size, _, I2, rfl, q _ _ nw (Ex.new nw) ⟨_, upd_same, rfl, rfl⟩⟩
theorem kTupF (K : PySem.W.Frag) {X : Cx} (h : X.K = K := by rfl) : CallR X (.type "tuple") (rTupF K) := by subst h; exact call_tupF
def BmTI (r : V → List V → Hp → VK → Prop) (t : TA) (σ : L2.St) (x : V) (H1 : Hp) (Q : VK) : Prop := (∃ p xs, x = .ref p ∧ SqF H1 p xs) ∧ t σ H1 fun xs H2 => r x xs H2 Q
def tBMT (r : V → List V → Hp → VK → Prop) (to : TE) (t : TA) : TE := fun σ H Q => to σ H fun x H1 => BmTI r t σ x H1 Q
section
variable {X : Cx} {o e : Expr} {es : List Expr} {to : TE} {t : TA} {name : Str} {apos cpos : Pos} {id : String} {r : V → List V → Hp → VK → Prop}
theorem pe_bmT (slot : Slot "tuple" name id) (hty : typeOf (.builtin id) = pure (.type "method_descriptor")) (hm : MtR X id r) (ho : PE X o to) (ha : PA X (e :: es) t)
    (hbase : attributeBase o name X.env (eval o X.env) = eval o X.env := by rfl)
    (hfew : ((backTo cpos (starEach (e :: es) X.env)).all (fun x => !x.1) && (backToKw cpos (keywordEach [] X.env)).all (fun x => x.1.isSome)
      && decide ((e :: es).length + ([] : List Keyword).length + (if ([] : List Keyword).isEmpty then 0 else 1) < 30)) = true := by rfl)
    (hline : (apos.endLine == cpos.line) = true := by rfl) (hs : starEach (e :: es) X.env = (false, eval e X.env) :: starEach es X.env := by rfl) (hplain : (backTo cpos (starEach es X.env)).any (·.1) = false := by rfl) :
    PE X (.Call (.Attribute o name apos) (e :: es) [] cpos) (tBMT r to t) := by
  refine ⟨fun pins s σ H Q I h => ?_⟩
  refine wpAny_Call_method_late hbase hfew hline rfl (thn (ho.run pins s σ H _ I h) fun v s1 ⟨x, H1, I1, r1, ⟨p, xs, ex, ob, e1, e2, e3⟩, q1⟩ => ?_)
  subst ex
  cases r1
  have hx := I1.hok p _ e1
  have h1 : s1.TypeIs (.ref p) "tuple" := ⟨ob, hx.1, e2⟩
  refine ⟨"tuple", id, PySem.F.plainAttrs_tuple, slot, hty, h1, fun a e => by cases e; exact ⟨ob, hx.1, e3⟩, ?_⟩
  have hA := ha.run cpos pins s1 σ H1 _ I1 q1
  rw [hs] at hA ⊢
  refine Calls.callWith_builtin (by show (false || (backTo cpos (starEach es X.env)).any (·.1)) = false; rw [hplain] <;> rfl) (Calls.evalArgs_plain ?_)
  exact thn hA fun us s2 ⟨vs, H2, I2, r2, q2⟩ => hm pins s2 σ H2 (.ref p) vs _ us Q I2 rfl r2 q2
end
section
variable {r : V → List V → Hp → VK → Prop} {to : TE} {t : TA} {σ : L2.St} {H : Hp} {Q : VK}
theorem w_bmT (h : to σ H fun x H1 => BmTI r t σ x H1 Q) : tBMT r to t σ H Q := h
theorem r_bmT {p : Addr} {xs : List V} (h : SqF H p xs) (q : t σ H fun vs H2 => r (.ref p) vs H2 Q) : BmTI r t σ (.ref p) H Q := ⟨⟨p, xs, rfl, h⟩, q⟩
end

end
section
def okW (w : Str) : Bool := wordV (.str w)
theorem okW_len {w : Str} (h : okW w = true) : w.length ≤ 8 := by
  have h1 := (Bool.and_eq_true_iff.mp (show ((decide (1 ≤ (w.length : Int)) && decide ((w.length : Int) ≤ 8)) && w.cps.toList.all lwr) = true from h)).1
  have := of_decide_eq_true (Bool.and_eq_true_iff.mp h1).2
  omega
/-- a tuple or a list of names -/
def NmG (K : PySem.W.Frag) (H : Hp) (v : V) (ws : List Str) : Prop := ∃ a, v = .ref a ∧ SqE K H a (ws.map V.str) ∧ ws.length ≤ 50000 ∧ ∀ w ∈ ws, okW w = true
section
variable {K : PySem.W.Frag} {H H' : Hp} {v : V} {ws : List Str} {b : Bool}
theorem nmL_ex (e : Ex H H') (h : NmL K H v b) : NmL K H' v b := by
  rcases h with ⟨a, xs, rfl, s, z, hx, rfl⟩ | ⟨rfl, d, hd, hn⟩
  · exact .inl ⟨a, xs, rfl, s.imp (ex_t e) (ex_l e), z, fun x hm => (hx x hm).imp fun d q => ⟨dp_ex e q.1, q.2⟩, rfl⟩
  · refine .inr ⟨rfl, d, ?_, hn⟩
    rcases hd with hd | ⟨rfl, a, kvs, rfl, g⟩
    · exact .inl (dp_ex e hd)
    · exact .inr ⟨rfl, a, kvs, rfl, e _ _ g⟩
theorem NmG.ex (e : Ex H H') (h : NmG K H v ws) : NmG K H' v ws := by
  obtain ⟨a, rfl, s, r⟩ := h
  exact ⟨a, rfl, ex_e e s, r⟩
theorem NmG.nml (h : NmG K H v ws) : NmL K H v true := by
  obtain ⟨a, rfl, s, z, g⟩ := h
  refine .inl ⟨a, ws.map V.str, rfl, s.symm, by rw [List.length_map]; omega, fun x hx => ?_, ?_⟩
  · obtain ⟨w, hw, rfl⟩ := List.mem_map.mp hx
    exact ⟨.str w, .str w, fun w' e => by cases e; have := okW_len (g w hw); omega⟩
  · symm
    rw [List.all_eq_true]
    intro x hx
    obtain ⟨w, hw, rfl⟩ := List.mem_map.mp hx
    exact g w hw
theorem dpAll_of_strs : ∀ {ws : List Str}, DpAll K H (ws.map V.str) (ws.map .str)
  | [] => .nil
  | w :: _ => .cons (.str w) dpAll_of_strs
theorem dpAll_strs : ∀ {ws : List Str} {vs : List V}, DpAll K H vs (ws.map .str) → vs = ws.map V.str
  | [], _, .nil => rfl
  | _ :: _, _, .cons (.str _) r => by rw [dpAll_strs r]; rfl
theorem dp_strs (h : Dp K H v (.tuple (ws.map .str))) : ∃ a, v = .ref a ∧ SqT K H a (ws.map V.str) := by
  cases h with
  | tup h a => rw [dpAll_strs a] at h; exact ⟨_, rfl, h⟩
theorem dDeep_strs (ws : List Str) : dDeepAll (ws.map .str) = ws.map .str := by
  rw [dDeepAll_eq, List.map_map]; rfl
theorem shpAll_strs {n : Nat} : ∀ ws : List Str, shpAll n (ws.map .str) = true
  | [] => by unfold shpAll; rfl
  | w :: ws => by
    rw [List.map_cons]
    unfold shpAll
    rw [shpAll_strs ws, show shp n (.str w) = true by cases n <;> rfl]
    rfl
theorem NmG.dp (h : NmG K H v ws) : ∃ d, Dp K H v d ∧ shp 6 d = true ∧ dDeep d = .tuple (ws.map .str) := by
  obtain ⟨a, rfl, s, z, g⟩ := h
  have zz : decide ((ws.map PyData.str).length ≤ 50000) = true := by rw [List.length_map, decide_eq_true z]
  rcases s with s | s
  · exact ⟨.list (ws.map .str), .lst s dpAll_of_strs, by show (decide ((ws.map PyData.str).length ≤ 50000) && shpAll 5 (ws.map .str)) = true; rw [zz, shpAll_strs]; rfl, by show PyData.tuple (dDeepAll (ws.map .str)) = _; rw [dDeep_strs]⟩
  · exact ⟨.tuple (ws.map .str), .tup s dpAll_of_strs, by show (decide ((ws.map PyData.str).length ≤ 50000) && shpAll 5 (ws.map .str)) = true; rw [zz, shpAll_strs]; rfl, by show PyData.tuple (dDeepAll (ws.map .str)) = _; rw [dDeep_strs]⟩
end
theorem rn_ft : ¬ (("first" : Str) = "then") := by decide +kernel
def rF (a b : Addr) : List (Str × V) := putF "then" (.ref b) (putF "first" (.ref a) [])
section
variable {a b : Addr}
theorem rF_first : (rF a b).lookup ("first" : Str) = some (.ref a) := by
  unfold rF
  rw [lookup_putF, if_neg rn_ft, lookup_putF, if_pos rfl]
theorem rF_then : (rF a b).lookup ("then" : Str) = some (.ref b) := by
  unfold rF
  rw [lookup_putF, if_pos rfl]
theorem rF_no {m : Str} (h1 : ¬ m = "first") (h2 : ¬ m = "then") : (rF a b).lookup m = none := by
  unfold rF
  rw [lookup_putF, if_neg h2, lookup_putF, if_neg h1]
  rfl
end
/-- a roster stands at x -/
def RosAt (K : PySem.W.Frag) (H : Hp) (x : Addr) (fs us : List Str) : Prop := ∃ dx a b, H x = some (.ins (He.ga K "Roster") dx (rF a b)) ∧ SqF H a (fs.map V.str) ∧ SqF H b (us.map V.str)
theorem ex_ros {K : PySem.W.Frag} {H H' : Hp} {x : Addr} {fs us : List Str} (e : Ex H H') (t : RosAt K H x fs us) : RosAt K H' x fs us := by
  obtain ⟨dx, a, b, h1, h2, h3⟩ := t
  exact ⟨dx, a, b, e _ _ h1, ex_f e h2, ex_f e h3⟩
section
variable {P : Program} {K : PySem.W.Frag} {mg : Str → Option Value} {H : Hp} {x : Addr} {fs us : List Str} {Q : VK}
theorem r_rosFirst (E : Env P K mg) (t : RosAt K H x fs us) (q : ∀ a, SqF H a (fs.map V.str) → SqT K H a (fs.map V.str) → Q (.ref a) H) : GetF K "first" (.ref x) H Q := by
  obtain ⟨dx, a, b, h1, h2, h3⟩ := t
  exact r_getF h1 E.c_Roster E.na_Roster_first rF_first (q a h2 h2.sq)
theorem r_rosThen (E : Env P K mg) (t : RosAt K H x fs us) (q : ∀ a, SqF H a (us.map V.str) → SqT K H a (us.map V.str) → Q (.ref a) H) : GetF K "then" (.ref x) H Q := by
  obtain ⟨dx, a, b, h1, h2, h3⟩ := t
  exact r_getF h1 E.c_Roster E.na_Roster_then rF_then (q b h3 h3.sq)
end
theorem sq_fri {K : PySem.W.Frag} {H H' : Hp} {p a C dx : Addr} {fs : List (Str × V)} {xs : List V} (hp : H p = some (.ins C dx fs)) (f : Fr p H H') (s : SqT K H a xs) : SqT K H' a xs := by
  have key : ∀ u, H a = some u → (∃ o', u = .frz o' (.tup xs)) ∨ u = .tup xs → a ≠ p := by
    rintro u hu hc rfl
    rw [hp] at hu
    cases hu
    rcases hc with ⟨_, hc⟩ | hc <;> cases hc
  rcases s with (s | ⟨o', s⟩) | s
  · exact .inl (.inl (f _ _ (key _ s (.inr rfl)) s))
  · exact .inl (.inr ⟨o', f _ _ (key _ s (.inl ⟨o', rfl⟩)) s⟩)
  · exact .inr s
abbrev spDeepF (K : PySem.W.Frag) : Sp := sp1 fun v H Q _ => ∃ ws, NmG K H v ws ∧ ∀ p H', Ex H H' → SqF H' p (ws.map V.str) → Q (.ref p) H'
--derivation of deep:
theorem ok_deepF {P : Program} {w : World} {K : PySem.W.Frag} {mg : Str → Option Value} {base : Heap} (E : Env P K mg) : Fn P w K mg base CX0 4 "deep" (spDeepF K) := by
  have IH := ok_deepN (P := P) (w := w) (base := base) E 0
  obtain ⟨fd, F⟩ := E.dd_deep
  refine Fn.mk0 F E.g_deep sc_deep sp1_len (fun _ _ _ _ _ _ us hl => match us, hl with | [_], _ => rfl) (fun cdv A outer s H vs Q X hr h => ?_)
  have nd := sc_deep.nd
  obtain ⟨v0, rfl, h⟩ := h
  refine ⟨_, (pss_cons (ps_if (kTru K (pc (ok_is_listed E) hr (by decide) pass0 rfl (pa_cons (pv 0) pa_nil)) (by intro _; rfl))
   (pss_one (ps_ret (pe_callTy (kTupF K) (by rfl) E.f_tuple (by decide +kernel) (pa_cons (pe_lc (own := [("one", 1)]) (g := gName 1) (tt := tYes) rfl nd (kSeq K (pv 0)) (blkOk_by (N := N_deep) (sc := defScope s_deep) (by decide +kernel)) (fun _ _ _ _ _ => pg_name (i := 1) nd rfl (Or.inl rfl)) (fun _ _ _ _ _ => pts_nil) (fun _ _ _ _ _ => pc IH hr (by decide) pass0 rfl (pa_cons (pv 1) pa_nil))) pa_nil))))
   pss_nil)
  (pss_one (ps_ret (pv 0)))), ?_⟩
  change (_ : TS) _ [some v0, none] H
  obtain ⟨ws, g, k⟩ := h
  obtain ⟨d, hd, hs, q⟩ := g.dp
  have hq : dIsSeq d = true := by
    cases d with
    | list _ => rfl
    | tuple _ => rfl
    | _ => cases q
  walk_at "w"
  refine ⟨d, .inl hd, fun v H1 e1 d1 => ?_⟩
  rw [hq] at d1
  obtain rfl := dp_toBl d1
  walk_at "w"
  obtain ⟨a, rfl, s, z, okw⟩ := g
  have elt : ∀ (x : V) (H2 : Hp) (Q' : VK), x ∈ ws.map V.str → (∀ H3, Ex H2 H3 → Q' x H3) → ∃ d, Dp K H2 x d ∧ shp 0 d = true ∧ RetD K (dDeep d) H2 Q' := fun x H2 Q' hx hq => by
    obtain ⟨w', _, rfl⟩ := List.mem_map.mp hx
    exact ⟨.str w', .str w', rfl, fun v H3 e3 d3 => by cases d3; exact hq H3 e3⟩
  have fin : ∀ (p : Addr) (H2 : Hp), Ex H H2 → H2 p = some (.lst ((ws.map V.str).map fun x => x)) → rTupF K [.ref p] H2 (fun v H => Q v H) := fun p H2 e2 hp => by
    rw [List.map_id'] at hp
    exact ⟨p, _, rfl, sq_of hp, fun l H3 n3 e3 s3 => k l H3 (e2.trans e3) s3⟩
  rcases s with s | s
  · refine i_seqL ?_
    walk_at "w"
    refine lcJ_list (v := fun x => x) (ex_l e1 s) (by rw [List.length_map]; omega) (fun x => [_, some x]) (fun x => rfl) (fun x => rfl) (fun x H2 Q' e2 hx hq => ?_) (fun p H2 n2 e2 hp => ?_)
    · walk_at "w"
      exact elt x H2 Q' hx hq
    · walk_at "w"
      exact fin p H2 (e1.trans e2) hp
  · refine i_seqT ?_
    walk_at "w"
    refine lcJ_tup (v := fun x => x) (ex_t e1 s) (by rw [List.length_map]; omega) (fun x => [_, some x]) (fun x => rfl) (fun x => rfl) (fun x H2 Q' e2 hx hq => ?_) (fun p H2 n2 e2 hp => ?_)
    · walk_at "w"
      exact elt x H2 Q' hx hq
    · walk_at "w"
      exact fin p H2 (e1.trans e2) hp
theorem sqf_fri {H H' : Hp} {p a C dx : Addr} {fs : List (Str × V)} {xs : List V} (hp : H p = some (.ins C dx fs)) (f : Fr p H H') (s : SqF H a xs) : SqF H' a xs := by
  obtain ⟨o, h, r⟩ := s
  refine ⟨o, f _ _ (fun e => ?_) h, r⟩
  subst e
  rw [hp] at h
  cases h
abbrev spRos (K : PySem.W.Frag) : Sp := sp3 fun x a b H Q X => ∃ (p dx : Addr), x = .ref p ∧ H p = some (.ins (He.ga K "Roster") dx []) ∧
  ((NmL K H a false ∧ ∀ dd H', Ex H H' → H' dd = some (.xd [("word", .str "first")]) → X (.ref (He.ga K "BadRoster")) (some dd) H') ∨
   ∃ fs, NmG K H a fs ∧ ((NmL K H b false ∧ ∀ dd H', Ex H H' → H' dd = some (.xd [("word", .str "then")]) → X (.ref (He.ga K "BadRoster")) (some dd) H') ∨
     ∃ us, NmG K H b us ∧ ∀ H', RosAt K H' p fs us → Fr p H H' → Q .non H'))
abbrev N_Roster_init : List Str := ["self", "first", "then"]
theorem sc_Roster_init : FnScope N_Roster_init ["self", "first", "then"] (defScope s_Roster_init) := ⟨rfl, rfl, rfl, by decide +kernel, rfl, by decide +kernel, by decide +kernel⟩
theorem fx_Roster_init {P : Program} {w : World} {K : PySem.W.Frag} {mg : Str → Option Value} {base : Heap} (E : Env P K mg) : ∃ fd, FunD K "__init__" "Roster.__init__" (defArgs s_Roster_init) (defBody s_Roster_init) (defScope s_Roster_init) (d_Roster_init.dvs K) [] (d_Roster_init.adr K) fd ∧ FnOk P w K mg base (L2.CX P w) 9 (d_Roster_init.adr K) fd ["self", "first", "then"] (spRos K) := by
  obtain ⟨fd, F⟩ := E.dd_Roster_init
  refine ⟨fd, F, fnokX F sc_Roster_init sp3_len (fun cdv A outer s H vs Q X hr h tk => ?_)⟩
  have nd := sc_Roster_init.nd
  obtain ⟨v0, v1, v2, rfl, h⟩ := h
  refine ⟨_, (pss_cons (ps_if (pt_not (kTru K (pc (ok_is_names E) hr (by decide) pass0 rfl (pa_cons (pv 1) pa_nil)) (by intro _; rfl)))
   (pss_one (praise (ok_X_BadRoster E) hr (by decide) rfl tk rfl (pa_cons (pe_str) pa_nil)))
   pss_nil)
  (pss_cons (ps_if (pt_not (kTru K (pc (ok_is_names E) hr (by decide) pass0 rfl (pa_cons (pv 2) pa_nil)) (by intro _; rfl)))
   (pss_one (praise (ok_X_BadRoster E) hr (by decide) rfl tk rfl (pa_cons (pe_str) pa_nil)))
   pss_nil)
  (pss_cons (kFldS K (ps_fld (pv 0) (pc (ok_deepF E) hr (by decide) pass0 rfl (pa_cons (pv 1) pa_nil)) rfl))
  (pss_one (kFldS K (ps_fld (pv 0) (pc (ok_deepF E) hr (by decide) pass0 rfl (pa_cons (pv 2) pa_nil)) rfl)))))), ?_⟩
  change (_ : TS) _ [some v0, some v1, some v2] H
  try dsimp only [cxOf, Cx.nox, Cx.blk]
  obtain ⟨p, dx, rfl, hp, h⟩ := h
  rcases h with ⟨nb, k⟩ | ⟨fs, g1, h⟩
  · walk_at "w"
    refine ⟨false, nb, fun H1 e1 => ?_⟩
    walk_at "w"
    refine w_raise ?_
    walk_at "w"
    refine r_mkOS E.ox_BadRoster E.xs_BadRoster E.nf_BadRoster_word (by decide +kernel) fun dd H' n e g => ?_
    exact k dd H' (e1.trans e) g
  · walk_at "w"
    refine ⟨true, g1.nml, fun H1 e1 => ?_⟩
    rcases h with ⟨nb, k⟩ | ⟨us, g2, k⟩
    · walk_at "w"
      refine ⟨false, nmL_ex e1 nb, fun H2 e2 => ?_⟩
      walk_at "w"
      refine w_raise ?_
      walk_at "w"
      refine r_mkOS E.ox_BadRoster E.xs_BadRoster E.nf_BadRoster_word (by decide +kernel) fun dd H' n e g => ?_
      exact k dd H' ((e1.trans e2).trans e) g
    · walk_at "w"
      refine ⟨true, (g2.ex e1).nml, fun H2 e2 => ?_⟩
      walk_at "w"
      have e02 := e1.trans e2
      refine ⟨fs, g1.ex e02, fun a1 H3 e3 s1 => ?_⟩
      have e03 := e02.trans e3
      have hp3 := e03 _ _ hp
      walk_at "w"
      refine r_putF hp3 E.c_Roster E.na_Roster_first (by decide) ?_
      have F4 : Fr p H3 (upd H3 p (.ins (He.ga K "Roster") dx (putF "first" (.ref a1) []))) := Fr.upd
      have hp4 : upd H3 p (.ins (He.ga K "Roster") dx (putF "first" (.ref a1) [])) p = some (.ins (He.ga K "Roster") dx (putF "first" (.ref a1) [])) := upd_same
      have s4 := sqf_fri hp3 F4 s1
      have g4 : NmG K (upd H3 p (.ins (He.ga K "Roster") dx (putF "first" (.ref a1) []))) v2 us := by
        obtain ⟨a2, rfl, s2, z⟩ := g2.ex e03
        refine ⟨a2, rfl, ?_, z⟩
        rcases s2 with s2 | s2
        · refine .inl ?_
          have key : ∀ u, H3 a2 = some u → (∃ o', u = .frz o' (.lst (us.map V.str))) ∨ u = .lst (us.map V.str) → a2 ≠ p := by
            rintro u hu hc rfl
            rw [hp3] at hu
            cases hu
            rcases hc with ⟨_, hc⟩ | hc <;> cases hc
          rcases s2 with (s | ⟨o', s⟩) | s
          · exact .inl (.inl (F4 _ _ (key _ s (.inr rfl)) s))
          · exact .inl (.inr ⟨o', F4 _ _ (key _ s (.inl ⟨o', rfl⟩)) s⟩)
          · exact .inr s
        · exact .inr (sq_fri hp3 F4 s2)
      generalize upd H3 p (.ins (He.ga K "Roster") dx (putF "first" (.ref a1) [])) = H4 at *
      walk_at "w"
      refine ⟨us, g4, fun a2 H5 e5 s2 => ?_⟩
      have hp5 := e5 _ _ hp4
      walk_at "w"
      refine r_putF hp5 E.c_Roster E.na_Roster_then (Nat.lt_of_le_of_lt (putF_len _ _ _) (by decide)) ?_
      have F6 : Fr p H5 (upd H5 p (.ins (He.ga K "Roster") dx (rF a1 a2))) := Fr.upd
      refine k _ ⟨dx, a1, a2, upd_same, sqf_fri hp5 F6 (ex_f e5 s4), sqf_fri hp5 F6 s2⟩ ?_
      exact (((Fr.of e03).trans F4).trans (Fr.of e5)).trans F6
section
variable {P : Program} {w : World} {K : PySem.W.Frag} {mg : Str → Option Value} {base : Heap}
theorem ok_Roster2 (E : Env P K mg) : Mkc P w K mg base (L2.CX P w) 9 "Roster" (He.ga K "Roster") (spRos K) [] := by
  obtain ⟨fd, F, k⟩ := fx_Roster_init (P := P) (w := w) (base := base) E
  obtain ⟨ds, hd, hb⟩ := F.binds1 (ps := ["self", "first", "then"]) 3 1 (List.cons_ne_nil _ _) rfl (fun T kV doc pm an cdv ct us its hu hi => match us, its, hu, hi with | [_, _, _], [_], _, _ => ⟨_, rfl, rfl⟩)
  exact ⟨_, fd, _, ds, E.mk_Roster, k, E.g_Roster, hb, hd⟩
theorem ok_Roster1 (E : Env P K mg) : Mkc P w K mg base (L2.CX P w) 9 "Roster" (He.ga K "Roster") (spRos K) [.ref (He.dflAt ("Roster", some "__init__") 0 K)] := by
  obtain ⟨fd, F, k⟩ := fx_Roster_init (P := P) (w := w) (base := base) E
  obtain ⟨ds, hd, hb⟩ := F.binds1 (ps := ["self", "first", "then"]) 2 0 (List.cons_ne_nil _ _) rfl (fun T kV doc pm an cdv ct us its hu hi => match us, its, hu, hi with | [_, _], [_], _, _ => ⟨_, rfl, rfl⟩)
  exact ⟨_, fd, _, ds, E.mk_Roster, k, E.g_Roster, hb, hd⟩
end
theorem ex_make {H : Hp} {x dx C : Addr} (nx : H x = none) (ndx : H dx = none) : Ex H (upd (upd H dx (.own x)) x (.ins C dx [])) := fun b o e => by
  rw [upd_ne (ne_of_none e nx), upd_ne (ne_of_none e ndx)]
  exact e
section
variable {K : PySem.W.Frag} {H : Hp} {Q : VK} {a b : V} {fs us : List Str} {dvs ws : List V}
/-- Roster(..) made of names -/
theorem mk_ros (e : ws ++ dvs = [a, b]) (g1 : NmG K H a fs) (g2 : NmG K H b us) (q : ∀ x H2, Ex H H2 → RosAt K H2 x fs us → Q (.ref x) H2) : MakeI (He.ga K "Roster") (spRos K) dvs E0 ws H Q := by
  intro x dx nx ndx ne
  rw [e]
  have ex : Ex H (upd (upd H dx (.own x)) x (.ins (He.ga K "Roster") dx [])) := ex_make nx ndx
  refine ⟨_, _, _, rfl, x, dx, rfl, upd_same, .inr ⟨fs, g1.ex ex, .inr ⟨us, g2.ex ex, fun H' t k => ⟨rfl, q x H' (fun b o e => ?_) t⟩⟩⟩⟩
  exact k b o (ne_of_none e nx) (ex b o e)
/-- the same inside try: three ways -/
theorem mk_rosS {σ : L2.St} {W : WX} (e : ws = [a, b]) (h : (NmL K H a false ∧ ∀ dd H', Ex H H' → H' dd = some (.xd [("word", .str "first")]) → W (.ref (He.ga K "BadRoster")) (some dd) σ H') ∨
   ∃ fs, NmG K H a fs ∧ ((NmL K H b false ∧ ∀ dd H', Ex H H' → H' dd = some (.xd [("word", .str "then")]) → W (.ref (He.ga K "BadRoster")) (some dd) σ H') ∨
     ∃ us, NmG K H b us ∧ ∀ x H', Ex H H' → RosAt K H' x fs us → Q (.ref x) H')) :
    ∀ x dx, H x = none → H dx = none → dx ≠ x → (spRos K) (.ref x :: (ws ++ [])) (upd (upd H dx (.own x)) x (.ins (He.ga K "Roster") dx [])) (fun v H2 => v = .non ∧ Q (.ref x) H2) (WE W σ) := by
  intro x dx nx ndx ne
  subst e
  have ex : Ex H (upd (upd H dx (.own x)) x (.ins (He.ga K "Roster") dx [])) := ex_make nx ndx
  refine ⟨_, _, _, rfl, x, dx, rfl, upd_same, ?_⟩
  rcases h with ⟨n, k⟩ | ⟨fs, g1, ⟨n, k⟩ | ⟨us, g2, k⟩⟩
  · exact .inl ⟨nmL_ex ex n, fun dd H' e g => k dd H' (ex.trans e) g⟩
  · exact .inr ⟨fs, g1.ex ex, .inl ⟨nmL_ex ex n, fun dd H' e g => k dd H' (ex.trans e) g⟩⟩
  · exact .inr ⟨fs, g1.ex ex, .inr ⟨us, g2.ex ex, fun H' t kk => ⟨rfl, k x H' (fun b o e => kk b o (ne_of_none e nx) (ex b o e)) t⟩⟩⟩
end

end
section
theorem okW_ok {w : Str} (h : okW w = true) : (PyData.str w).canLay0 = true := by
  have h1 := (Bool.and_eq_true_iff.mp (show ((decide (1 ≤ (w.length : Int)) && decide ((w.length : Int) ≤ 8)) && w.cps.toList.all lwr) = true from h)).2
  show w.cps.all (· < 0x110000) = true
  rw [← Array.all_toList, List.all_eq_true]
  intro c hc
  have := List.all_eq_true.mp h1 c hc
  unfold lwr at this
  simp at this
  simp
  omega
theorem okW_sh {w : Str} (h : okW w = true) : SeqAt.shaped (.str w) = true := by
  show ((PyData.str w).canLay0 && decide (0 ≤ 64)) = true
  rw [okW_ok h]
  rfl
theorem strs_lay {ws : List Str} (h : ∀ w ∈ ws, okW w = true) : PyData.canLayAll0 (ws.map .str) = true ∧ PyData.depthAll (ws.map .str) = 0 := by
  induction ws with
  | nil => exact ⟨rfl, rfl⟩
  | cons w ws ih =>
    obtain ⟨a, b⟩ := ih fun x hx => h x (List.mem_cons_of_mem _ hx)
    refine ⟨?_, ?_⟩
    · show ((PyData.str w).canLay0 && PyData.canLayAll0 (ws.map .str)) = true
      rw [a, okW_ok (h w List.mem_cons_self)]
      rfl
    · show max 0 (PyData.depthAll (ws.map .str)) = 0
      rw [b]
      rfl
theorem shaped_strs {ws : List Str} (h : ∀ w ∈ ws, okW w = true) : SeqAt.shaped (.tuple (ws.map .str)) = true := by
  show (PyData.canLayAll0 (ws.map .str) && decide (PyData.depthAll (ws.map .str) + 1 ≤ 64)) = true
  rw [(strs_lay h).1, (strs_lay h).2]
  rfl
theorem eqv_str (x y : Str) : PyData.eqv (.str x) (.str y) = decide (x = y) := by
  show (x == y) = _
  by_cases c : x = y <;> simp [c]
theorem eqv_strs : ∀ xs ys : List Str, PyData.eqvAll (xs.map .str) (ys.map .str) = decide (xs = ys)
  | [], [] => rfl
  | [], _ :: _ => rfl
  | _ :: _, [] => rfl
  | x :: xs, y :: ys => by
    show (PyData.eqv (.str x) (.str y) && PyData.eqvAll (xs.map .str) (ys.map .str)) = _
    rw [eqv_strs xs ys, eqv_str]
    by_cases h : x = y
    · subst h; simp
    · simp [h]
section
variable {K : PySem.W.Frag} {H : Hp} {a b : Addr} {xs ys : List Str} {Q : VK}
theorem dp_of_strs (h : SqT K H a (xs.map V.str)) : Dp K H (.ref a) (.tuple (xs.map .str)) := .tup h dpAll_of_strs
theorem r_eqTS (ha : SqT K H a (xs.map V.str)) (hb : SqT K H b (ys.map V.str)) (ox : ∀ w ∈ xs, okW w = true) (oy : ∀ w ∈ ys, okW w = true) (h : Q (.bl (decide (xs = ys))) H) : rEqU K (.ref a) (.ref b) H Q :=
  r_eqD (dp_of_strs ha) (dp_of_strs hb) (shaped_strs ox) (shaped_strs oy) (by rw [show PyData.eqv (.tuple (xs.map .str)) (.tuple (ys.map .str)) = decide (xs = ys) from eqv_strs xs ys]; exact h)
theorem r_neTS (ha : SqT K H a (xs.map V.str)) (hb : SqT K H b (ys.map V.str)) (ox : ∀ w ∈ xs, okW w = true) (oy : ∀ w ∈ ys, okW w = true) (h : Q (.bl (!decide (xs = ys))) H) : rNeU K (.ref a) (.ref b) H Q :=
  r_neD (dp_of_strs ha) (dp_of_strs hb) (shaped_strs ox) (shaped_strs oy) (by rw [show PyData.eqv (.tuple (xs.map .str)) (.tuple (ys.map .str)) = decide (xs = ys) from eqv_strs xs ys]; exact h)
end
/-- how often a name stands in a roster -/
structure RosOk (fs us : List Str) : Prop where
  zf : fs.length ≤ 40000
  zu : us.length ≤ 40000
  okf : ∀ w ∈ fs, okW w = true
  oku : ∀ w ∈ us, okW w = true
theorem ros_mine {K : PySem.W.Frag} {H : Hp} {x : Addr} {fs us : List Str} (t : RosAt K H x fs us) : ∃ dx fl, H x = some (.ins (He.ga K "Roster") dx fl) := by
  obtain ⟨dx, a, b, h1, _⟩ := t
  exact ⟨dx, _, h1⟩
abbrev N_Roster_eq : List Str := ["self", "other"]
theorem sc_Roster_eq : FnScope N_Roster_eq ["self", "other"] (defScope s_Roster_eq) := ⟨rfl, rfl, rfl, by decide +kernel, rfl, by decide +kernel, by decide +kernel⟩
theorem fx_Roster_eq {P : Program} {w : World} {K : PySem.W.Frag} {mg : Str → Option Value} {base : Heap} (E : Env P K mg) : ∃ fd, FunD K "__eq__" "Roster.__eq__" (defArgs s_Roster_eq) (defBody s_Roster_eq) (defScope s_Roster_eq) (d_Roster_eq.dvs K) [] (d_Roster_eq.adr K) fd ∧ FnOk P w K mg base CX0 1 (d_Roster_eq.adr K) fd ["self", "other"] (sp2 fun x y H Q _ => ∃ p fs us, x = .ref p ∧ RosAt K H p fs us ∧ RosOk fs us ∧ ((∃ q fs' us', y = .ref q ∧ RosAt K H q fs' us' ∧ RosOk fs' us' ∧ RetD K (.bool (decide (fs = fs' ∧ us = us'))) H Q) ∨ (∃ n ∈ ["tuple", "list"], TyX K H y (.type n) ∧ RetD K (.bool false) H Q))) := by
  obtain ⟨fd, F⟩ := E.dd_Roster_eq
  refine ⟨fd, F, fnok0 F sc_Roster_eq sp2_len (fun cdv A outer s H vs Q X hr h => ?_)⟩
  have nd := sc_Roster_eq.nd
  obtain ⟨v0, v1, rfl, h⟩ := h
  refine ⟨_, (pss_one (ps_ret (pe_and (pe_callB (kIsi K) (by rfl) E.f_isinstance (by decide +kernel) (pa_cons (pv 1) (pa_cons (pe_glob (v := .ref (He.ga K "Roster")) (by rfl) E.g_Roster rfl) pa_nil))) (pe_and (pe_cmpR (kEq K hr) (kFld K (pv 0) rfl) (kFld K (pv 1) rfl) (nomark _)) (pe_one (pe_cmpR (kEq K hr) (kFld K (pv 0) rfl) (kFld K (pv 1) rfl) (nomark _))))))), ?_⟩
  change (_ : TS) _ [some v0, some v1] H
  try dsimp only [cxOf, Cx.nox, Cx.blk]
  obtain ⟨p, fs, us, rfl, ht, ok, h2⟩ := h
  rcases h2 with ⟨q, fs', us', rfl, hu, ok', k⟩ | ⟨n, hn, ty, k⟩
  · walk_at "w"
    refine r_isiC (insB_ok E.ins_Roster E.c_Roster (ros_mine hu).choose_spec.choose_spec) E.kit_Roster_self ?_
    walk_at "w"
    refine r_rosFirst E ht fun a _ sa => ?_
    walk_at "w"
    refine r_rosFirst E hu fun a' _ sa' => ?_
    refine r_eqTS sa sa' ok.okf ok'.okf ?_
    walk_at "w"
    by_cases c1 : fs = fs'
    · walk_at "w"
      refine r_rosThen E ht fun b _ sb => ?_
      walk_at "w"
      refine r_rosThen E hu fun b' _ sb' => ?_
      refine r_eqTS sb sb' ok.oku ok'.oku ?_
      walk_at "w"
      rw [show decide (fs = fs' ∧ us = us') = decide (us = us') by simp [c1]] at k
      exact k.bl (Ex.refl _)
    · walk_at "w"
      rw [show decide (fs = fs' ∧ us = us') = false by simp [c1]] at k
      exact k.bl (Ex.refl _)
  · walk_at "w"
    refine r_isiC (b := false) ty ?_ ?_
    · simp at hn
      rcases hn with rfl | rfl
      · exact E.kit_Roster_tuple
      · exact E.kit_Roster_list
    walk_at "w"
    exact k.bl (Ex.refl _)
theorem ok_Roster_eq {P : Program} {w : World} {K : PySem.W.Frag} {mg : Str → Option Value} {base : Heap} (E : Env P K mg) : EqOf P w K mg base 1 (He.ga K "Roster") (sp2 fun x y H Q _ => ∃ p fs us, x = .ref p ∧ RosAt K H p fs us ∧ RosOk fs us ∧ ((∃ q fs' us', y = .ref q ∧ RosAt K H q fs' us' ∧ RosOk fs' us' ∧ RetD K (.bool (decide (fs = fs' ∧ us = us'))) H Q) ∨ (∃ n ∈ ["tuple", "list"], TyX K H y (.type n) ∧ RetD K (.bool false) H Q))) := by
  obtain ⟨fd, F, k⟩ := fx_Roster_eq (P := P) (w := w) (base := base) E
  exact ⟨_, fd, _, E.m_Roster_eq.at_, E.m_Roster_eq.fn, k, F.bindsN (fun _ _ _ _ _ _ us hl => match us, hl with | [_, _], _ => rfl)⟩

end
section
/-- figures -/
def dg (c : Nat) : Bool := decide (48 ≤ c) && decide (c ≤ 57)
theorem le_zero {c : Nat} : (!decide ((⟨#[c]⟩ : Str).cps.toList < ("0" : Str).cps.toList)) = decide (48 ≤ c) := by
  rw [show ("0" : Str).cps.toList = [48] by decide +kernel]
  show (!decide ([c] < [48])) = _
  by_cases h : 48 ≤ c
  · rw [decide_eq_true h, decide_eq_false]
    · rfl
    · intro q
      rcases List.cons_lt_cons_iff.mp q with q | ⟨_, q⟩
      · omega
      · cases q
  · rw [decide_eq_false h, decide_eq_true]
    · rfl
    · exact List.cons_lt_cons_iff.mpr (.inl (by omega))
theorem le_nine {c : Nat} : (!decide (("9" : Str).cps.toList < (⟨#[c]⟩ : Str).cps.toList)) = decide (c ≤ 57) := by
  rw [show ("9" : Str).cps.toList = [57] by decide +kernel]
  show (!decide ([57] < [c])) = _
  by_cases h : c ≤ 57
  · rw [decide_eq_true h, decide_eq_false]
    · rfl
    · intro q
      rcases List.cons_lt_cons_iff.mp q with q | ⟨_, q⟩
      · omega
      · cases q
  · rw [decide_eq_false h, decide_eq_true]
    · rfl
    · exact List.cons_lt_cons_iff.mpr (.inl (by omega))
/-- the figures that a word begins with, and what is behind them -/
def figL (w : Str) : List Nat := w.cps.toList.takeWhile dg
def namL (w : Str) : List Nat := w.cps.toList.dropWhile dg
def figS (w : Str) : Str := ⟨(figL w).toArray⟩
def namS (w : Str) : Str := ⟨(namL w).toArray⟩
def figV (w : Str) : Int := (NumText.digitsVal (figL w) : Nat)
/-- the run that a word tells -/
def runO (w : Str) : Option (Str × Int) :=
  if okW (namS w) = true ∧ (figL w).length ≤ 5 then
    if figL w = [] then some (namS w, 1) else if (figL w)[0]? = some 48 ∨ figL w = [49] then none else some (namS w, figV w)
  else none
theorem fn_app (w : Str) : w.cps.toList = figL w ++ namL w := List.takeWhile_append_dropWhile.symm
theorem len_list (w : Str) : w.cps.toList.length = w.length := Array.length_toList
theorem fig_le (w : Str) : (figL w).length ≤ w.length := by
  rw [← len_list, fn_app w, List.length_append]
  omega
theorem fig_dg (w : Str) : ∀ c ∈ figL w, dg c = true := by
  unfold figL
  generalize w.cps.toList = l
  induction l with
  | nil => intro c h; cases h
  | cons d r ih =>
    intro c h
    rw [List.takeWhile_cons] at h
    cases hd : dg d with
    | true =>
      rw [hd, if_pos rfl] at h
      rcases List.mem_cons.mp h with rfl | h
      · exact hd
      · exact ih c h
    | false =>
      rw [hd, if_neg (by decide)] at h
      cases h
theorem fig_all (w : Str) : NumText.AllDigits (figL w) := fun c h => by
  have := fig_dg w c h
  unfold dg at this
  rw [Bool.and_eq_true_iff] at this
  exact ⟨of_decide_eq_true this.1, of_decide_eq_true this.2⟩
theorem nam_hd (w : Str) {c : Nat} (h : (namL w)[0]? = some c) : dg c = false := by
  unfold namL at h
  revert h
  generalize w.cps.toList = l
  induction l with
  | nil => intro h; cases h
  | cons d r ih =>
    intro h
    rw [List.dropWhile_cons] at h
    cases hd : dg d with
    | true =>
      rw [hd, if_pos rfl] at h
      exact ih h
    | false =>
      rw [hd, if_neg (by decide)] at h
      cases h
      exact hd
theorem fig_at {w : Str} {j : Nat} (h : j < (figL w).length) : ∃ c, w.cps.toList[j]? = some c ∧ dg c = true :=
  ⟨(figL w)[j], by rw [fn_app w, List.getElem?_append_left h]; exact List.getElem?_eq_getElem h, fig_dg w _ (List.getElem_mem h)⟩
theorem nam_at {w : Str} (h : (figL w).length < w.length) : ∃ c, w.cps.toList[(figL w).length]? = some c ∧ dg c = false := by
  have hl : 0 < (namL w).length := by
    have e := congrArg List.length (fn_app w)
    rw [len_list, List.length_append] at e
    omega
  have hc : (namL w)[0]? = some (namL w)[0] := List.getElem?_eq_getElem hl
  exact ⟨_, by rw [fn_app w, List.getElem?_append_right (Nat.le_refl _), Nat.sub_self]; exact hc, nam_hd w hc⟩
theorem fig_take (w : Str) : (⟨(w.cps.toList.take (figL w).length).toArray⟩ : Str) = figS w := by
  unfold figS
  conv => lhs; rw [fn_app w]
  rw [List.take_left]
theorem nam_drop (w : Str) : (⟨(w.cps.toList.drop (figL w).length).toArray⟩ : Str) = namS w := by
  unfold namS
  conv => lhs; rw [fn_app w]
  rw [List.drop_left]
theorem figS_list (w : Str) : (figS w).cps.toList = figL w := rfl
theorem figS_len (w : Str) : (figS w).length = (figL w).length := by rw [← len_list]; rfl
theorem namS_len (w : Str) : (namS w).length ≤ w.length := by
  rw [← len_list, ← len_list, fn_app w]
  show (namL w).length ≤ _
  rw [List.length_append]
  omega
theorem figS_int {w : Str} (h : figL w ≠ []) (hz : (figL w).length ≤ 640) : PySem.intText? (figS w) = some (figV w) :=
  PySem.intText_digits (x := figS w) (fig_all w) h (by rw [figS_len]; omega)
theorem str_eqL {x y : Str} : x = y ↔ x.cps.toList = y.cps.toList := ⟨fun h => by rw [h], fun h => TL.ext_tl h⟩
theorem figS_nil (w : Str) : decide (figS w = "") = decide (figL w = []) := decide_eq_decide.mpr (str_eqL.trans (by rw [figS_list, show ("" : Str).cps.toList = [] by decide +kernel]))
theorem figS_one (w : Str) : decide (figS w = "1") = decide (figL w = [49]) := decide_eq_decide.mpr (str_eqL.trans (by rw [figS_list, show ("1" : Str).cps.toList = [49] by decide +kernel]))
theorem sg_zero (c : Nat) : decide ((⟨#[c]⟩ : Str) = "0") = decide (c = 48) := decide_eq_decide.mpr (str_eqL.trans (by
  rw [show ("0" : Str).cps.toList = [48] by decide +kernel]
  show [c] = [48] ↔ _
  exact ⟨fun h => (List.cons.inj h).1, fun h => by rw [h]⟩))
abbrev spRun (K : PySem.W.Frag) : Sp := sp1 fun v H Q _ => ∃ w : Str, v = .str w ∧ w.length ≤ 100000 ∧ (runO w = none → ∀ H', Ex H H' → Q .non H') ∧
  ∀ n m, runO w = some (n, m) → ∀ a H', Ex H H' → SqT K H' a [.str n, .int m] → Q (.ref a) H'
abbrev N_read_run : List Str := ["word", "cut", "figures", "name"]
theorem sc_read_run : FnScope N_read_run ["word"] (defScope s_read_run) := ⟨rfl, rfl, rfl, by decide +kernel, rfl, by decide +kernel, by decide +kernel⟩
theorem ok_read_run {P : Program} {w : World} {K : PySem.W.Frag} {mg : Str → Option Value} {base : Heap} (E : Env P K mg) : Fn P w K mg base CX0 3 "read_run" (spRun K) := by
  obtain ⟨fd, F⟩ := E.dd_read_run
  refine Fn.mk0 F E.g_read_run sc_read_run sp1_len (fun _ _ _ _ _ _ us hl => match us, hl with | [_], _ => rfl) (fun cdv A outer s H vs Q X hr h => ?_)
  have nd := sc_read_run.nd
  obtain ⟨v0, rfl, h⟩ := h
  refine ⟨_, (pss_cons (ps_set (i := 1) nd rfl (.inl rfl) (pe_int))
  (pss_cut (ps_while PassesOwn.never (PW.pt (pw_and (pt_cmpR op_lt (pv 1) (pe_callB xLenS (by rfl) E.f_len (by decide +kernel) (pa_cons (pv 0) pa_nil)) (nomark _)) (pw_and1 (pt_chain xLeS xLeS (pe_str) (pe_ix (kIx K) (pv 0) (pv 1) (fun _ _ => rfl)) (pe_str)))))
   (pss_one (ps_aug (i := 1) nd rfl (.inl rfl) (pe_int) ip_add)))
  (pss_cons (ps_par (i := 2) (j := 3) rfl nd rfl rfl (by decide) rfl rfl (pa_cons (pe_slice xSlS (pv 0) po_none (po_some (pv 1))) (pa_cons (pe_slice xSlS (pv 0) (po_some (pv 1)) po_none) pa_nil)) rfl)
  (pss_cons (ps_if (PW.pt (pw_or (pt_not (kTru K (pc (ok_is_row_name E) hr (by decide) pass0 rfl (pa_cons (pv 3) pa_nil)) (by intro _; rfl))) (pw_or1 (pt_cmpR op_gt (pe_callB xLenS (by rfl) E.f_len (by decide +kernel) (pa_cons (pv 2) pa_nil)) ((E.k_MOST_DIGITS).elim fun t e => pe_glob (v := .int 5) (by rfl) e ⟨t, rfl⟩) (nomark _)))))
   (pss_one (ps_ret (pe_non)))
   pss_nil)
  (pss_cons (ps_if (pt_cmpR (kEq K hr) (pv 2) (pe_str) (nomark _))
   (pss_one (ps_ret (pe_tup (pa_cons (pv 3) (pa_cons (pe_int) pa_nil)))))
   pss_nil)
  (pss_cons (ps_if (PW.pt (pw_or (pt_cmpR (kEq K hr) (pe_ix (kIx K) (pv 2) (pe_int) (fun _ _ => rfl)) (pe_str) (nomark _)) (pw_or1 (pt_cmpR (kEq K hr) (pv 2) (pe_str) (nomark _)))))
   (pss_one (ps_ret (pe_non)))
   pss_nil)
  (pss_one (ps_ret (pe_tup (pa_cons (pv 3) (pa_cons (pe_callTy xIntS (by rfl) E.f_int (by decide +kernel) (pa_cons (pv 2) pa_nil)) pa_nil))))))))))), ?_⟩
  change (_ : TS) _ [some v0, none, none, none] H
  try dsimp only [cxOf, Cx.nox, Cx.blk]
  obtain ⟨w, rfl, wz, kN, kS⟩ := h
  have lz : w.length ≤ sizeLine := sz_of (by omega)
  have fl := fig_le w
  walk_at "w"
  refine w_cut (M := fun σ' H' => σ' = [some (.str w), some (.int ((figL w).length : Nat)), none, none] ∧ H' = H) ?_ ?_
  · walk_at "w"
    refine ⟨fun m σ' H' => ∃ j : Nat, σ' = [some (.str w), some (.int (j : Nat)), none, none] ∧ H' = H ∧ j ≤ (figL w).length ∧ m = (figL w).length - j, ⟨_, 0, rfl, rfl, Nat.zero_le _, rfl⟩, ?_⟩
    rintro m σ' H' ⟨j, rfl, rfl, hj, rfl⟩
    walk_at "w"
    refine r_lenS lz ?_
    walk_at "w"
    by_cases c : j < (figL w).length
    · obtain ⟨d, hd, hg⟩ := fig_at c
      unfold dg at hg
      rw [Bool.and_eq_true_iff] at hg
      have c1 : (j : Int) < w.length := by omega
      walk_at "w"
      refine r_ixS (c := d) lz (atI_pos (Int.natCast_nonneg j) (by rw [Int.toNat_natCast]; exact hd)) ?_
      walk_at "w"
      refine r_leUS ?_
      rw [le_zero, hg.1]
      walk_at "w"
      refine r_leUS ?_
      rw [le_nine, hg.2]
      walk_at "w"
      refine ⟨_, fun σ2 H2 h2 => h2, ?_⟩
      walk_at "w"
      refine ⟨_, rfl, w_c ⟨_, _, rfl, rfl, ?_⟩⟩
      exact ⟨(figL w).length - (j + 1), by omega, j + 1, rfl, rfl, by omega, rfl⟩
    · have je : j = (figL w).length := by omega
      subst je
      by_cases c1 : (figL w).length < w.length
      · have c1' : (((figL w).length : Nat) : Int) < w.length := by omega
        obtain ⟨d, hd, hg⟩ := nam_at c1
        unfold dg at hg
        walk_at "w"
        refine r_ixS (c := d) lz (atI_pos (Int.natCast_nonneg _) (by rw [Int.toNat_natCast]; exact hd)) ?_
        walk_at "w"
        refine r_leUS ?_
        rw [le_zero]
        by_cases c2 : 48 ≤ d
        · rw [decide_eq_true c2] at hg ⊢
          walk_at "w"
          refine r_leUS ?_
          rw [le_nine]
          rw [Bool.true_and] at hg
          rw [hg]
          walk_at "w"
          exact ⟨rfl, rfl⟩
        · rw [decide_eq_false c2]
          walk_at "w"
          exact ⟨rfl, rfl⟩
      · have c1' : ¬ ((((figL w).length : Nat) : Int) < w.length) := by omega
        walk_at "w"
        exact ⟨rfl, rfl⟩
  rintro σ' H' ⟨rfl, rfl⟩
  walk_at "w"
  refine r_slSto lz ?_
  walk_at "w"
  refine r_slSfrom lz ?_
  walk_at "w"
  rw [fig_take, nam_drop]
  refine ⟨_, _, rfl, ?_⟩
  dsimp only [List.set]
  have zs : (figS w).length ≤ sizeLine := by rw [figS_len]; omega
  have zn := namS_len w
  have no : ¬ (okW (namS w) = true ∧ (figL w).length ≤ 5) → runO w = none := fun h => by unfold runO; rw [if_neg h]
  walk_at "w"
  refine ⟨.str (namS w), .str (namS w), fun x e => by cases e; omega, fun H1 e1 => ?_⟩
  by_cases c1 : okW (namS w) = true
  · rw [show wordV (.str (namS w)) = true from c1]
    walk_at "w"
    refine r_lenS zs ?_
    rw [figS_len]
    walk_at "w"
    by_cases c2 : (figL w).length ≤ 5
    · have c2' : ¬ ((5 : Int) < ((figL w).length : Nat)) := by omega
      walk_at "w"
      refine r_eqSS ?_
      rw [figS_nil]
      have yes := show runO w = _ from if_pos ⟨c1, c2⟩
      by_cases c3 : figL w = []
      · rw [if_pos c3] at yes
        walk_at "w"
        exact fun p H2 _ e2 g => kS _ _ yes p H2 (e1.trans e2) (st_of g)
      · rw [if_neg c3] at yes
        walk_at "w"
        have l0 : 0 < (figL w).length := List.length_pos_iff.mpr c3
        have g0 : (figL w)[0]? = some (figL w)[0] := List.getElem?_eq_getElem l0
        refine r_ixS (c := (figL w)[0]) zs (atI_pos (Int.le_refl _) (by rw [figS_list]; exact g0)) ?_
        walk_at "w"
        refine r_eqSS ?_
        rw [sg_zero]
        rw [g0] at yes
        by_cases c4 : (figL w)[0] = 48
        · rw [if_pos (.inl (by rw [c4]))] at yes
          rw [decide_eq_true c4]
          walk_at "w"
          exact kN yes _ e1
        · rw [decide_eq_false c4]
          walk_at "w"
          refine r_eqSS ?_
          rw [figS_one]
          by_cases c5 : figL w = [49]
          · rw [if_pos (.inr c5)] at yes
            walk_at "w"
            exact kN yes _ e1
          · rw [if_neg (fun h => h.elim (fun h => c4 (Option.some.inj h)) c5)] at yes
            walk_at "w"
            refine r_intS (figS_int c3 (by omega)) (by rw [figS_len]; omega) ?_
            walk_at "w"
            exact fun p H2 _ e2 g => kS _ _ yes p H2 (e1.trans e2) (st_of g)
    · have c2' : (5 : Int) < ((figL w).length : Nat) := by omega
      rw [decide_eq_true c2']
      walk_at "w"
      exact kN (no fun h => c2 h.2) _ e1
  · rw [show wordV (.str (namS w)) = false from by rw [← Bool.not_eq_true]; exact c1]
    walk_at "w"
    exact kN (no fun h => c1 h.1) _ e1

end
section
theorem abc_list : ("abcdefghijklmnopqrstuvwxyz" : Str).cps.toList = (List.range 26).map (· + 97) := by decide +kernel
theorem mem_abc (c : Nat) : decide (c ∈ ("abcdefghijklmnopqrstuvwxyz" : Str).cps.toList) = lwr c := by
  rw [abc_list]
  unfold lwr
  rw [← Bool.decide_and]
  refine decide_eq_decide.mpr ⟨fun h => ?_, fun h => ?_⟩
  · obtain ⟨k, hk, rfl⟩ := List.mem_map.mp h
    have := List.mem_range.mp hk
    omega
  · exact List.mem_map.mpr ⟨c - 97, List.mem_range.mpr (by omega), by omega⟩
theorem fgs_list : ("0123456789" : Str).cps.toList = (List.range 10).map (· + 48) := by decide +kernel
theorem mem_fgs (c : Nat) : decide (c ∈ ("0123456789" : Str).cps.toList) = dg c := by
  rw [fgs_list]
  unfold dg
  rw [← Bool.decide_and]
  refine decide_eq_decide.mpr ⟨fun h => ?_, fun h => ?_⟩
  · obtain ⟨k, hk, rfl⟩ := List.mem_map.mp h
    have := List.mem_range.mp hk
    omega
  · exact List.mem_map.mpr ⟨c - 48, List.mem_range.mpr (by omega), by omega⟩
theorem fold_lo : ∀ (l : List Nat) (a : Nat), 1 ≤ a → 1 ≤ l.foldl (fun acc c => acc * 10 + (c - 48)) a
  | [], _, h => h
  | c :: r, a, h => fold_lo r (a * 10 + (c - 48)) (by omega)
theorem fold_hi : ∀ (l : List Nat) (a : Nat), NumText.AllDigits l → l.foldl (fun acc c => acc * 10 + (c - 48)) a + 1 ≤ (a + 1) * 10 ^ l.length
  | [], _, _ => by simp
  | c :: r, a, h => by
    have hc := h.head
    have := fold_hi r (a * 10 + (c - 48)) h.tail
    rw [List.foldl_cons]
    refine Nat.le_trans this ?_
    rw [List.length_cons, Nat.pow_succ, Nat.mul_comm (10 ^ r.length) 10, ← Nat.mul_assoc]
    exact Nat.mul_le_mul_right _ (by omega)
theorem figV_lo {w : Str} (h0 : figL w ≠ []) (h : ¬ (figL w)[0]? = some 48) : 1 ≤ figV w := by
  unfold figV NumText.digitsVal
  have ad := fig_all w
  revert h0 h ad
  generalize figL w = l
  intro h0 h ad
  cases l with
  | nil => exact absurd rfl h0
  | cons c r =>
    have hc := ad.head
    have : c ≠ 48 := fun e => h (by rw [e]; rfl)
    have := fold_lo r (0 * 10 + (c - 48)) (by omega)
    rw [List.foldl_cons]
    omega
theorem figV_hi {w : Str} (h : (figL w).length ≤ 5) : figV w ≤ 99999 := by
  have a := fold_hi (figL w) 0 (fig_all w)
  have b : 10 ^ (figL w).length ≤ 10 ^ 5 := Nat.pow_le_pow_right (by decide) h
  unfold figV NumText.digitsVal
  omega
/-- how many names a word tells -/
def lwn (w : Str) : Int := match runO w with
  | some r => r.2
  | none => 0
theorem runO_cases (w : Str) : runO w = none ∨ ∃ m, runO w = some (namS w, m) ∧ 1 ≤ m ∧ m ≤ 99999 ∧ okW (namS w) = true ∧ ((figL w = [] ∧ m = 1) ∨ (figL w ≠ [] ∧ ¬ (figL w)[0]? = some 48 ∧ figL w ≠ [49] ∧ m = figV w ∧ (figL w).length ≤ 5)) := by
  unfold runO
  by_cases c1 : okW (namS w) = true ∧ (figL w).length ≤ 5
  · rw [if_pos c1]
    by_cases c2 : figL w = []
    · rw [if_pos c2]
      exact .inr ⟨1, rfl, by decide, by decide, c1.1, .inl ⟨c2, rfl⟩⟩
    · rw [if_neg c2]
      by_cases c3 : (figL w)[0]? = some 48 ∨ figL w = [49]
      · rw [if_pos c3]
        exact .inl rfl
      · rw [if_neg c3]
        exact .inr ⟨_, rfl, figV_lo c2 (fun h => c3 (.inl h)), figV_hi c1.2, c1.1, .inr ⟨c2, fun h => c3 (.inl h), fun h => c3 (.inr h), rfl, c1.2⟩⟩
  · rw [if_neg c1]
    exact .inl rfl
theorem lwn_zero {w : Str} : lwn w = 0 ↔ runO w = none := by
  unfold lwn
  rcases runO_cases w with h | ⟨m, h, h1, _⟩
  · rw [h]; simp
  · rw [h]
    show m = 0 ↔ _
    simp
    omega
theorem lwn_le (w : Str) : 0 ≤ lwn w ∧ lwn w ≤ 99999 := by
  unfold lwn
  rcases runO_cases w with h | ⟨m, h, h1, h2, _⟩
  · rw [h]; decide
  · rw [h]
    show 0 ≤ m ∧ m ≤ 99999
    omega
abbrev N__law_is_name : List Str := ["word", "most", "sign"]
theorem sc__law_is_name : FnScope N__law_is_name ["word", "most"] (defScope s__law_is_name) := ⟨rfl, rfl, rfl, by decide +kernel, rfl, by decide +kernel, by decide +kernel⟩
theorem ok__law_is_name {P : Program} {w : World} {K : PySem.W.Frag} {mg : Str → Option Value} {base : Heap} (E : Env P K mg) : Fn P w K mg base CX0 1 "_law_is_name" (sp2 fun v m H Q _ => ∃ w : Str, v = .str w ∧ m = .int 8 ∧ w.length ≤ 100000 ∧ ∀ H', Ex H H' → Q (.bl (okW w)) H') := by
  obtain ⟨fd, F⟩ := E.dd__law_is_name
  refine Fn.mk0 F E.g__law_is_name sc__law_is_name sp2_len (fun _ _ _ _ _ _ us hl => match us, hl with | [_, _], _ => rfl) (fun cdv A outer s H vs Q X hr h => ?_)
  have nd := sc__law_is_name.nd
  obtain ⟨v0, v1, rfl, h⟩ := h
  refine ⟨_, (pss_cons (ps_if (PW.pt (pw_or (pt_not (kTru K (pe_callB (kIsi K) (by rfl) E.f_isinstance (by decide +kernel) (pa_cons (pv 0) (pa_cons (pe_bltn (v := .ty "str") (by rfl) E.f_str (by decide +kernel) rfl) pa_nil))) (by intro _; rfl))) (pw_or1 (pt_not (pt_chain op_le op_le (pe_int) (pe_callB xLenS (by rfl) E.f_len (by decide +kernel) (pa_cons (pv 0) pa_nil)) (pv 1))))))
   (pss_one (ps_ret (pe_bl)))
   pss_nil)
  (pss_one (ps_ret (pe_callB (kAll K rfl) (by rfl) E.f_all (by decide +kernel) (pa_cons (pe_lc (own := [("sign", 2)]) (g := gName 2) (tt := tYes) rfl nd (pi_str (pv 0)) (blkOk_by (N := N__law_is_name) (sc := defScope s__law_is_name) (by decide +kernel)) (fun _ _ _ _ _ => pg_name (i := 2) nd rfl (Or.inl rfl)) (fun _ _ _ _ _ => pts_nil) (fun _ _ _ _ _ => pe_cmpR xInSg (pv 2) (pe_str) rfl)) pa_nil))))), ?_⟩
  change (_ : TS) _ [some v0, some v1, none] H
  try dsimp only [cxOf, Cx.nox, Cx.blk]
  obtain ⟨w, rfl, rfl, wz, k⟩ := h
  have lz : w.length ≤ sizeLine := sz_of (by omega)
  walk_at "w"
  refine r_lenS lz ?_
  have ok : okW w = ((decide (1 ≤ (w.length : Int)) && decide ((w.length : Int) ≤ 8)) && w.cps.toList.all lwr) := rfl
  by_cases c1 : (1 : Int) ≤ w.length
  · by_cases c2 : (w.length : Int) ≤ 8
    · walk_at "w"
      refine i_str ?_
      walk_at "w"
      refine ⟨w, rfl, ?_⟩
      refine lcJ_str (v := fun c => .bl (lwr c)) (by have e : w.length = w.cps.size := rfl; omega) (fun y => [_, _, some y]) (fun y => rfl) (fun y => rfl) (fun c H1 Q' e1 hm hq => ?_) (fun p H1 n1 e1 h1 => ?_)
      · walk_at "w"
        refine r_inSg ?_
        rw [mem_abc]
        exact hq _ (Ex.refl _)
      · walk_at "w"
        refine r_all (bs := w.cps.toList.map lwr) (sq_of h1) (by rw [List.map_map]; rfl) ?_
        rw [List.all_map, show (id ∘ lwr) = lwr from rfl]
        have := k _ e1
        rwa [ok, decide_eq_true c1, decide_eq_true c2, Bool.true_and, Bool.true_and] at this
    · walk_at "w"
      have := k _ (Ex.refl _)
      rwa [ok, decide_eq_false c2, Bool.and_false, Bool.false_and] at this
  · walk_at "w"
    have := k _ (Ex.refl _)
    rwa [ok, decide_eq_false c1, Bool.false_and, Bool.false_and] at this
abbrev N__law_word_number : List Str := ["word", "cut", "figures", "name"]
theorem sc__law_word_number : FnScope N__law_word_number ["word"] (defScope s__law_word_number) := ⟨rfl, rfl, rfl, by decide +kernel, rfl, by decide +kernel, by decide +kernel⟩
theorem ok__law_word_number {P : Program} {w : World} {K : PySem.W.Frag} {mg : Str → Option Value} {base : Heap} (E : Env P K mg) : Fn P w K mg base CX0 2 "_law_word_number" (sp1 fun v H Q _ => ∃ w : Str, v = .str w ∧ w.length ≤ 100000 ∧ ∀ H', Ex H H' → Q (.int (lwn w)) H') := by
  obtain ⟨fd, F⟩ := E.dd__law_word_number
  refine Fn.mk0 F E.g__law_word_number sc__law_word_number sp1_len (fun _ _ _ _ _ _ us hl => match us, hl with | [_], _ => rfl) (fun cdv A outer s H vs Q X hr h => ?_)
  have nd := sc__law_word_number.nd
  obtain ⟨v0, rfl, h⟩ := h
  refine ⟨_, (pss_cons (ps_set (i := 1) nd rfl (.inl rfl) (pe_int))
  (pss_cut (ps_while PassesOwn.never (PW.pt (pw_and (pt_cmpR op_lt (pv 1) (pe_callB xLenS (by rfl) E.f_len (by decide +kernel) (pa_cons (pv 0) pa_nil)) (nomark _)) (pw_and1 (pt_cmpR xInSg (pe_ix (kIx K) (pv 0) (pv 1) (fun _ _ => rfl)) (pe_str) rfl))))
   (pss_one (ps_set (i := 1) nd rfl (.inl rfl) (pe_op (kAdd K) (pv 1) (pe_int)))))
  (pss_cons (ps_par (i := 2) (j := 3) rfl nd rfl rfl (by decide) rfl rfl (pa_cons (pe_slice xSlS (pv 0) po_none (po_some (pv 1))) (pa_cons (pe_slice xSlS (pv 0) (po_some (pv 1)) po_none) pa_nil)) rfl)
  (pss_cons (ps_if (PW.pt (pw_or (pt_not (kTru K (pc (ok__law_is_name E) hr (by decide) pass0 rfl (pa_cons (pv 3) (pa_cons (pe_int) pa_nil))) (by intro _; rfl))) (pw_or1 (pt_cmpR op_gt (pv 1) (pe_int) (nomark _)))))
   (pss_one (ps_ret (pe_int)))
   pss_nil)
  (pss_cons (ps_if (pt_cmpR (kEq K hr) (pv 1) (pe_int) (nomark _))
   (pss_one (ps_ret (pe_int)))
   pss_nil)
  (pss_one (ps_ret (pe_ifExp (PW.pt (pw_or (pt_cmpR (kEq K hr) (pe_ix (kIx K) (pv 2) (pe_int) (fun _ _ => rfl)) (pe_str) (nomark _)) (pw_or1 (pt_cmpR (kEq K hr) (pv 2) (pe_str) (nomark _))))) (pe_int) (pe_callTy xIntS (by rfl) E.f_int (by decide +kernel) (pa_cons (pv 2) pa_nil)))))))))), ?_⟩
  change (_ : TS) _ [some v0, none, none, none] H
  try dsimp only [cxOf, Cx.nox, Cx.blk]
  obtain ⟨w, rfl, wz, k⟩ := h
  have lz : w.length ≤ sizeLine := sz_of (by omega)
  have fl := fig_le w
  walk_at "w"
  refine w_cut (M := fun σ' H' => σ' = [some (.str w), some (.int ((figL w).length : Nat)), none, none] ∧ H' = H) ?_ ?_
  · walk_at "w"
    refine ⟨fun m σ' H' => ∃ j : Nat, σ' = [some (.str w), some (.int (j : Nat)), none, none] ∧ H' = H ∧ j ≤ (figL w).length ∧ m = (figL w).length - j, ⟨_, 0, rfl, rfl, Nat.zero_le _, rfl⟩, ?_⟩
    rintro m σ' H' ⟨j, rfl, rfl, hj, rfl⟩
    walk_at "w"
    refine r_lenS lz ?_
    walk_at "w"
    by_cases c : j < (figL w).length
    · obtain ⟨d, hd, hg⟩ := fig_at c
      have c1 : (j : Int) < w.length := by omega
      walk_at "w"
      refine r_ixS (c := d) lz (atI_pos (Int.natCast_nonneg j) (by rw [Int.toNat_natCast]; exact hd)) ?_
      walk_at "w"
      refine r_inSg ?_
      rw [mem_fgs, hg]
      walk_at "w"
      refine ⟨_, fun σ2 H2 h2 => h2, ?_⟩
      walk_at "w"
      exact ⟨(figL w).length - (j + 1), by omega, j + 1, rfl, rfl, by omega, rfl⟩
    · have je : j = (figL w).length := by omega
      subst je
      by_cases c1 : (figL w).length < w.length
      · have c1' : (((figL w).length : Nat) : Int) < w.length := by omega
        obtain ⟨d, hd, hg⟩ := nam_at c1
        walk_at "w"
        refine r_ixS (c := d) lz (atI_pos (Int.natCast_nonneg _) (by rw [Int.toNat_natCast]; exact hd)) ?_
        walk_at "w"
        refine r_inSg ?_
        rw [mem_fgs, hg]
        walk_at "w"
        exact ⟨rfl, rfl⟩
      · have c1' : ¬ ((((figL w).length : Nat) : Int) < w.length) := by omega
        walk_at "w"
        exact ⟨rfl, rfl⟩
  rintro σ' H' ⟨rfl, rfl⟩
  walk_at "w"
  refine r_slSto lz ?_
  walk_at "w"
  refine r_slSfrom lz ?_
  walk_at "w"
  rw [fig_take, nam_drop]
  refine ⟨_, _, rfl, ?_⟩
  dsimp only [List.set]
  have zs : (figS w).length ≤ sizeLine := by rw [figS_len]; omega
  have zn := namS_len w
  have no : runO w = none → lwn w = 0 := lwn_zero.mpr
  have k0 : runO w = none → ∀ H1, Ex H' H1 → Q (.int 0) H1 := fun h H1 e1 => by
    have := k H1 e1
    rwa [no h] at this
  have kS : ∀ n m, runO w = some (n, m) → ∀ H1, Ex H' H1 → Q (.int m) H1 := fun n m h H1 e1 => by
    have := k H1 e1
    unfold lwn at this
    rwa [h] at this
  have not : ¬ (okW (namS w) = true ∧ (figL w).length ≤ 5) → runO w = none := fun h => by unfold runO; rw [if_neg h]
  walk_at "w"
  refine ⟨namS w, rfl, rfl, by omega, fun H1 e1 => ?_⟩
  by_cases c1 : okW (namS w) = true
  · rw [c1]
    walk_at "w"
    by_cases c2 : (figL w).length ≤ 5
    · have c2' : ¬ ((5 : Int) < ((figL w).length : Nat)) := by omega
      rw [decide_eq_false c2']
      walk_at "w"
      have yes := show runO w = _ from if_pos ⟨c1, c2⟩
      by_cases c3 : figL w = []
      · rw [if_pos c3] at yes
        have c3' : ((figL w).length : Int) = 0 := by rw [c3]; rfl
        walk_at "w"
        exact kS _ _ yes _ e1
      · rw [if_neg c3] at yes
        have l0 : 0 < (figL w).length := List.length_pos_iff.mpr c3
        have c3' : ¬ ((figL w).length : Int) = 0 := by omega
        walk_at "w"
        have g0 : (figL w)[0]? = some (figL w)[0] := List.getElem?_eq_getElem l0
        refine r_ixS (c := (figL w)[0]) zs (atI_pos (Int.le_refl _) (by rw [figS_list]; exact g0)) ?_
        walk_at "w"
        refine r_eqSS ?_
        rw [sg_zero]
        rw [g0] at yes
        by_cases c4 : (figL w)[0] = 48
        · rw [if_pos (.inl (by rw [c4]))] at yes
          rw [decide_eq_true c4]
          walk_at "w"
          exact k0 yes _ e1
        · rw [decide_eq_false c4]
          walk_at "w"
          refine r_eqSS ?_
          rw [figS_one]
          by_cases c5 : figL w = [49]
          · rw [if_pos (.inr c5)] at yes
            walk_at "w"
            exact k0 yes _ e1
          · rw [if_neg (fun h => h.elim (fun h => c4 (Option.some.inj h)) c5)] at yes
            walk_at "w"
            refine r_intS (figS_int c3 (by omega)) (by rw [figS_len]; omega) ?_
            walk_at "w"
            exact kS _ _ yes _ e1
    · have c2' : (5 : Int) < ((figL w).length : Nat) := by omega
      rw [decide_eq_true c2']
      walk_at "w"
      exact k0 (not fun h => c2 h.2) _ e1
  · rw [show okW (namS w) = false by rw [← Bool.not_eq_true]; exact c1]
    walk_at "w"
    exact k0 (not fun h => c1 h.1) _ e1

end
section
/-- the words of a text: runs ahead of the cut, the cut or none, runs behind it, and the rest, which begins with a wrong word -/
structure Wds (ws A B : List Str) (c : Bool) (T : List Str) : Prop where
  e : ws = A ++ ((if c = true then [("/" : Str)] else []) ++ (B ++ T))
  ra : ∀ w ∈ A, runO w ≠ none
  rb : ∀ w ∈ B, runO w ≠ none
  cb : c = false → B = []
  t : T = [] ∨ ∃ w R, T = w :: R ∧ runO w = none ∧ (c = false → w ≠ "/")
theorem run_cut : runO "/" = none := by
  unfold runO
  rw [if_neg]
  rintro ⟨h, _⟩
  revert h
  decide +kernel
theorem wds_runs : ∀ ws : List Str, ∃ A T, ws = A ++ T ∧ (∀ w ∈ A, runO w ≠ none) ∧ (T = [] ∨ ∃ w R, T = w :: R ∧ runO w = none)
  | [] => ⟨[], [], rfl, fun _ h => (List.not_mem_nil h).elim, .inl rfl⟩
  | w :: ws => by
    by_cases h : runO w = none
    · exact ⟨[], w :: ws, rfl, fun _ h => (List.not_mem_nil h).elim, .inr ⟨w, ws, rfl, h⟩⟩
    · obtain ⟨A, T, e, ra, t⟩ := wds_runs ws
      refine ⟨w :: A, T, by rw [e]; rfl, fun x hx => ?_, t⟩
      rcases List.mem_cons.mp hx with rfl | hx
      · exact h
      · exact ra x hx
theorem wds_ex (ws : List Str) : ∃ A B c T, Wds ws A B c T := by
  obtain ⟨A, T, e, ra, t⟩ := wds_runs ws
  rcases t with rfl | ⟨w, R, rfl, hw⟩
  · exact ⟨A, [], false, [], by rw [e]; rfl, ra, fun _ h => (List.not_mem_nil h).elim, fun _ => rfl, .inl rfl⟩
  · by_cases c : w = "/"
    · obtain ⟨B, T, e2, rb, t⟩ := wds_runs R
      refine ⟨A, B, true, T, by rw [e, e2, c]; rfl, ra, rb, (fun h => nomatch h), ?_⟩
      rcases t with rfl | ⟨w, R, rfl, hw⟩
      · exact .inl rfl
      · exact .inr ⟨w, R, rfl, hw, fun h => nomatch h⟩
    · exact ⟨A, [], false, w :: R, by rw [e]; rfl, ra, fun _ h => (List.not_mem_nil h).elim, fun _ => rfl, .inr ⟨w, R, rfl, hw, fun _ => c⟩⟩
/-- where the right words end -/
def gl (A B : List Str) (c : Bool) : Nat := A.length + if c = true then B.length + 1 else 0
section
variable {ws A B T : List Str} {c : Bool} {i : Nat} {w : Str}
theorem Wds.len (W : Wds ws A B c T) : ws.length = gl A B c + T.length := by
  have hb := W.cb
  rw [W.e]
  unfold gl
  cases c with
  | true => simp only [if_pos, List.length_append, List.length_cons, List.length_nil]; omega
  | false => rw [hb rfl]; simp
theorem Wds.atA (W : Wds ws A B c T) (h : ws[i]? = some w) (hi : i < A.length) : A[i]? = some w ∧ runO w ≠ none ∧ w ≠ "/" := by
  rw [W.e, List.getElem?_append_left hi] at h
  have := W.ra w (List.mem_of_getElem? h)
  exact ⟨h, this, fun q => this (by rw [q]; exact run_cut)⟩
theorem Wds.atC (W : Wds ws A B true T) (h : ws[A.length]? = some w) : w = "/" := by
  rw [W.e, List.getElem?_append_right (Nat.le_refl _), Nat.sub_self] at h
  cases h
  rfl
theorem Wds.atB (W : Wds ws A B true T) (h : ws[i]? = some w) (h1 : A.length < i) (h2 : i < gl A B true) : B[i - A.length - 1]? = some w ∧ runO w ≠ none ∧ w ≠ "/" := by
  unfold gl at h2
  rw [if_pos rfl] at h2
  rw [W.e, List.getElem?_append_right (by omega), if_pos rfl, List.getElem?_append_right (by show 1 ≤ _; omega)] at h
  have h3 : i - A.length - (["/"] : List Str).length < B.length := by show i - A.length - 1 < _; omega
  rw [List.getElem?_append_left h3] at h
  have := W.rb w (List.mem_of_getElem? h)
  exact ⟨h, this, fun q => this (by rw [q]; exact run_cut)⟩
theorem Wds.atT (W : Wds ws A B c T) (h : ws[gl A B c]? = some w) : runO w = none ∧ (c = false → w ≠ "/") ∧ T ≠ [] := by
  have hT : T[0]? = some w := by
    have hb := W.cb
    rw [W.e] at h
    unfold gl at h
    cases c with
    | true =>
      rw [if_pos rfl, if_pos rfl, List.getElem?_append_right (by omega), List.getElem?_append_right (by show 1 ≤ _; omega), List.getElem?_append_right (by show _ ≤ A.length + (B.length + 1) - A.length - 1; omega)] at h
      rw [show A.length + (B.length + 1) - A.length - (["/"] : List Str).length - B.length = 0 by show A.length + (B.length + 1) - A.length - 1 - B.length = 0; omega] at h
      exact h
    | false =>
      rw [if_neg (by decide), if_neg (by decide), hb rfl, List.getElem?_append_right (by omega)] at h
      rw [show A.length + 0 - A.length = 0 by omega] at h
      exact h
  rcases W.t with rfl | ⟨w', R, rfl, h1, h2⟩
  · cases hT
  · cases hT
    exact ⟨h1, h2, fun q => nomatch q⟩
end
def run1 (w : Str) : Str × Int := (runO w).getD ("", 0)
def runs (A : List Str) : List (Str × Int) := A.map run1
theorem runs_take {A : List Str} {i : Nat} {w : Str} (h : A[i]? = some w) : runs (A.take (i + 1)) = runs (A.take i) ++ [run1 w] := by
  unfold runs
  rw [List.take_add_one, h, List.map_append]
  rfl
theorem runs_over {A : List Str} {i : Nat} (h : A.length ≤ i) : runs (A.take i) = runs A := by
  unfold runs
  rw [List.take_of_length_le h]
theorem run1_some {w : Str} (h : runO w ≠ none) : ∃ n m, runO w = some (n, m) ∧ run1 w = (n, m) := by
  obtain ⟨⟨n, m⟩, e⟩ := Option.ne_none_iff_exists'.mp h
  exact ⟨n, m, e, by unfold run1; rw [e]; rfl⟩
theorem r_isRN {a : Addr} {H : Hp} {Q : VK} (h : Q (.bl false) H) : rIs (.ref a) .non H Q := ⟨rfl, h⟩
theorem r_isNN {H : Hp} {Q : VK} (h : Q (.bl true) H) : rIs .non .non H Q := ⟨rfl, h⟩
theorem none_of_ex {H H1 : Hp} {b : Addr} (e : Ex H H1) (n : H1 b = none) : H b = none := by
  cases h : H b with
  | none => rfl
  | some o => rw [e b o h] at n; cases n
abbrev spReads (K : PySem.W.Frag) : Sp := sp1 fun v H Q X => ∃ (a : Addr) (ws A B : List Str) (c : Bool) (T : List Str), v = .ref a ∧ SqL K H a (ws.map V.str) ∧ ws.length ≤ 100000 ∧ (∀ w ∈ ws, w.length ≤ 100000) ∧ Wds ws A B c T ∧
  (T ≠ [] ∨ c = false → ∀ dd H', Ex H H' → H' dd = some (.xd [("place", .int (gl A B c : Nat))]) → X (.ref (He.ga K "BadText")) (some dd) H') ∧
  (T = [] → c = true → ∀ (p pa pb : Addr) (vsA vsB : List V) H', Ex H H' → H' p = some (.lst [.ref pa, .ref pb]) → H' pa = some (.lst vsA) → H' pb = some (.lst vsB) → Prs K H' vsA (runs A) → Prs K H' vsB (runs B) → Q (.ref p) H')
abbrev N_read_runs : List Str := ["words", "parts", "behind", "place", "word", "run"]
theorem sc_read_runs : FnScope N_read_runs ["words"] (defScope s_read_runs) := ⟨rfl, rfl, rfl, by decide +kernel, rfl, by decide +kernel, by decide +kernel⟩
theorem ok_read_runs {P : Program} {w : World} {K : PySem.W.Frag} {mg : Str → Option Value} {base : Heap} (E : Env P K mg) : Fn P w K mg base (L2.CX P w) 4 "read_runs" (spReads K) := by
  obtain ⟨fd, F⟩ := E.dd_read_runs
  refine Fn.mkX F E.g_read_runs sc_read_runs sp1_len (fun _ _ _ _ _ _ us hl => match us, hl with | [_], _ => rfl) (fun cdv A outer s H vs Q X hr h tk => ?_)
  have nd := sc_read_runs.nd
  obtain ⟨v0, rfl, h⟩ := h
  refine ⟨_, (pss_cons (ps_set (i := 1) nd rfl (.inl rfl) (pe_lst (pa_cons (pe_lst pa_nil) (pa_cons (pe_lst pa_nil) pa_nil))))
  (pss_cons (ps_set (i := 2) nd rfl (.inl rfl) (pe_int))
  (pss_cons (ps_for (passes_of rfl) rfl (pi_enum (by rfl) E.f_enumerate (pa_cons (pv 0) pa_nil)) (kGtup K rfl (pgs_cons (pg_name (i := 3) nd rfl (.inl rfl)) (pgs_cons (pg_name (i := 4) nd rfl (.inl rfl)) (pgs_nil))))
   (pss_cons (ps_if (PW.pt (pw_and (pt_cmpR (kEq K hr) (pv 4) ((E.k_CUT).elim fun t e => pe_glob (v := .str "/") (by rfl) e ⟨t, rfl⟩) (nomark _)) (pw_and1 (pt_cmpR (kEq K hr) (pv 2) (pe_int) (nomark _)))))
   (pss_cons (ps_set (i := 2) nd rfl (.inl rfl) (pe_int))
  (pss_one (ps_continue)))
   pss_nil)
  (pss_cons (ps_set (i := 5) nd rfl (.inl rfl) (pc (ok_read_run E) hr (by decide) pass0 rfl (pa_cons (pv 4) pa_nil)))
  (pss_cons (ps_if (pt_cmpR xIs (pv 5) (pe_non) (nomark _))
   (pss_one (praise (ok_X_BadText E) hr (by decide) rfl tk rfl (pa_cons (pv 3) pa_nil)))
   pss_nil)
  (pss_one (ps_expr (kBM K (pe_bm PySem.F.plainAttrs_list PySem.F.slot_list_append PySem.F.type_list_append mt_append (pe_ix (kIx K) (pv 1) (pv 2) (fun _ _ => rfl)) (pa_cons (pv 5) pa_nil)))))))))
  (pss_cons (ps_if (pt_cmpR (kEq K hr) (pv 2) (pe_int) (nomark _))
   (pss_one (praise (ok_X_BadText E) hr (by decide) rfl tk rfl (pa_cons (pe_callB (kLen K) (by rfl) E.f_len (by decide +kernel) (pa_cons (pv 0) pa_nil)) pa_nil)))
   pss_nil)
  (pss_one (ps_ret (pv 1))))))), ?_⟩
  change (_ : TS) _ [some v0, none, none, none, none, none] H
  try dsimp only [cxOf, Cx.nox, Cx.blk]
  obtain ⟨a, ws, A, B, c, T, rfl, ha, wz, ww, W, kX, kQ⟩ := h
  have wl := W.len
  have ga : A.length ≤ gl A B c := by unfold gl; omega
  walk_at "w"
  intro pa H1 n1 e1 g1
  walk_at "w"
  intro pb H2 n2 e2 g2
  walk_at "w"
  intro p H3 n3 e3 g3
  have ab : pa ≠ pb := fun h => by rw [h, n2] at g1; cases g1
  have pap : pa ≠ p := fun h => by have := e2 _ _ g1; rw [h, n3] at this; cases this
  have pbp : pb ≠ p := fun h => by rw [h, n3] at g2; cases g2
  have e03 := (e1.trans e2).trans e3
  have a3 : H3 pa = some (.lst []) := e3 _ _ (e2 _ _ g1)
  have b3 : H3 pb = some (.lst []) := e3 _ _ g2
  walk_at "w"
  refine i_enumL ?_
  walk_at "w"
  refine ⟨a, _, rfl, ex_l e03 ha, ?_⟩
  refine for_enumL (Pv := fun i σ' H' => ∃ (x y z : Option V) (vsA vsB : List V), σ' = [some (.ref a), some (.ref p), some (.int (if i ≤ A.length then 0 else 1)), x, y, z] ∧ Ex H H' ∧ H' p = some (.lst [.ref pa, .ref pb]) ∧ H' pa = some (.lst vsA) ∧ H' pb = some (.lst vsB) ∧ Prs K H' vsA (runs (A.take i)) ∧ Prs K H' vsB (runs (B.take (i - A.length - 1))) ∧ i ≤ gl A B c)
    ⟨_, _, _, [], [], by rw [if_pos (Nat.zero_le _)], e03, g3, a3, b3, by rw [List.take_zero]; exact .nil, by rw [Nat.zero_sub, Nat.zero_sub, List.take_zero]; exact .nil, Nat.zero_le _⟩ (fun i σ' H' _ h => by obtain ⟨_, _, _, _, _, _, e, _⟩ := h; exact ex_l e ha) ?_ ?_
  · rintro i v σ' H' T hv ⟨x, y, z, vsA, vsB, rfl, e, hp, hA, hB, PA, PB, il⟩ hT
    rw [List.getElem?_map, Option.map_eq_some_iff] at hv
    obtain ⟨w, hw, rfl⟩ := hv
    have e' : Ex H (upd H' T (.tup [.int (i : Nat), .str w])) := e.trans (Ex.new hT)
    have eT : Ex H' (upd H' T (.tup [.int (i : Nat), .str w])) := Ex.new hT
    have st : SqT K (upd H' T (.tup [.int (i : Nat), .str w])) T [.int (i : Nat), .str w] := st_of upd_same
    have zw : w.length ≤ 100000 := ww w (List.mem_of_getElem? hw)
    have hp' := eT _ _ hp
    have hA' := eT _ _ hA
    have hB' := eT _ _ hB
    have PA' := PA.ex eT
    have PB' := PB.ex eT
    generalize upd H' T (.tup [.int (i : Nat), .str w]) = H4 at *
    by_cases c1 : i < A.length
    · obtain ⟨wa, wr, wn⟩ := W.atA hw c1
      obtain ⟨n, m, hr, h1⟩ := run1_some wr
      rw [if_pos (Nat.le_of_lt c1)]
      walk_at "w"
      refine r_eqSS ?_
      rw [decide_eq_false wn]
      walk_at "w"
      refine ⟨w, rfl, zw, fun h => absurd h wr, fun n' m' hr' b H5 e5 sb => ?_⟩
      rw [hr] at hr'
      cases hr'
      have hp5 := e5 _ _ hp'
      have hA5 := e5 _ _ hA'
      walk_at "w"
      refine r_app (K := K) hA5 (sz_lt (by have := PA.len; unfold runs at this; rw [List.length_map, List.length_take] at this; omega)) ?_
      walk_at "w"
      refine ⟨_, _, _, _, vsB, by rw [if_pos (show i + 1 ≤ A.length from c1)], Ex.mut (e'.trans e5) (by have := n1; exact n1), ?_, upd_same, ?_, ?_, ?_, by unfold gl; omega⟩
      · rw [upd_ne (fun q => pap q.symm)]; exact hp5
      · rw [upd_ne (fun q => ab q.symm)]; exact e5 _ _ hB'
      · rw [runs_take wa, h1]
        exact (Prs.updL hA5 (PA'.ex e5)).app (Prs.one (st_updL hA5 _ _ sb))
      · have z : i + 1 - A.length - 1 = i - A.length - 1 := by omega
        rw [z]
        exact Prs.updL hA5 (PB'.ex e5)
    · by_cases c2 : i = gl A B c
      · subst c2
        obtain ⟨wr, wn, tn⟩ := W.atT hw
        have tail : ∀ H5, Ex H4 H5 → tSeq (tIfS (tTest (tOp rIs (tVar 5) (tC V.non))) (tRaise (He.ga K "BadText") (spXN K (He.ga K "BadText") "place") (tCons (tVar 3) tNil) fun cls d x H => X cls d H) tNext) (tDrop (tBM K "list" rAppend (tOp (rIx K) (tVar 1) (tVar 2)) (tCons (tVar 5) tNil)))
            { nx := fun _ _ => True, rt := Q } [some (.ref a), some (.ref p), some (.int (if gl A B c ≤ A.length then 0 else 1)), some (.int ((gl A B c : Nat) : Int)), some (.str w), some .non] H5 → True := fun _ _ _ => trivial
        clear tail
        by_cases c3 : gl A B c ≤ A.length
        · have cf : c = false := by
            cases c with
            | false => rfl
            | true => unfold gl at c3; rw [if_pos rfl] at c3; omega
          rw [if_pos c3]
          walk_at "w"
          refine r_eqSS ?_
          rw [decide_eq_false (wn cf)]
          walk_at "w"
          refine ⟨w, rfl, zw, fun h H5 e5 => ?_, fun n' m' hr' => by rw [wr] at hr'; cases hr'⟩
          walk_at "w"
          refine w_raise ?_
          walk_at "w"
          refine r_mkON E.ox_BadText E.xs_BadText E.nf_BadText_place (by omega) (by omega) fun dd H' n e g => ?_
          exact kX (.inl tn) dd H' ((e'.trans e5).trans e) g
        · rw [if_neg c3]
          walk_at "w"
          refine r_eqSS ?_
          have go : ∀ H5, Ex H4 H5 → X (.ref (He.ga K "BadText")) none H5 → True := fun _ _ _ => trivial
          clear go
          by_cases c4 : w = "/"
          · rw [decide_eq_true c4]
            walk_at "w"
            refine ⟨w, rfl, zw, fun h H5 e5 => ?_, fun n' m' hr' => by rw [wr] at hr'; cases hr'⟩
            walk_at "w"
            refine w_raise ?_
            walk_at "w"
            refine r_mkON E.ox_BadText E.xs_BadText E.nf_BadText_place (by omega) (by omega) fun dd H' n e g => ?_
            exact kX (.inl tn) dd H' ((e'.trans e5).trans e) g
          · rw [decide_eq_false c4]
            walk_at "w"
            refine ⟨w, rfl, zw, fun h H5 e5 => ?_, fun n' m' hr' => by rw [wr] at hr'; cases hr'⟩
            walk_at "w"
            refine w_raise ?_
            walk_at "w"
            refine r_mkON E.ox_BadText E.xs_BadText E.nf_BadText_place (by omega) (by omega) fun dd H' n e g => ?_
            exact kX (.inl tn) dd H' ((e'.trans e5).trans e) g
      · have ct : c = true := by
          cases c with
          | true => rfl
          | false => unfold gl at il c2; rw [if_neg (by decide)] at il c2; omega
        subst ct
        have glv : gl A B true = A.length + (B.length + 1) := by unfold gl; rw [if_pos rfl]
        by_cases c3 : i = A.length
        · subst c3
          obtain rfl := W.atC hw
          rw [if_pos (Nat.le_refl _)]
          walk_at "w"
          refine r_eqSS ?_
          rw [decide_eq_true rfl]
          walk_at "w"
          dsimp only [List.set]
          refine w_contn ?_
          refine ⟨_, _, _, vsA, vsB, by rw [if_neg (by omega)], e', hp', hA', hB', ?_, ?_, by omega⟩
          · rw [runs_over (by omega)]
            rwa [runs_over (Nat.le_refl _)] at PA'
          · rw [show A.length + 1 - A.length - 1 = A.length - A.length - 1 by omega]
            exact PB'
        · have c4 : A.length < i := by omega
          obtain ⟨wa, wr, wn⟩ := W.atB hw c4 (by omega)
          obtain ⟨n, m, hr, h1⟩ := run1_some wr
          rw [if_neg (by omega)]
          walk_at "w"
          refine r_eqSS ?_
          rw [decide_eq_false wn]
          walk_at "w"
          refine ⟨w, rfl, zw, fun h => absurd h wr, fun n' m' hr' b H5 e5 sb => ?_⟩
          rw [hr] at hr'
          cases hr'
          have hp5 := e5 _ _ hp'
          have hB5 := e5 _ _ hB'
          walk_at "w"
          refine r_app (K := K) hB5 (sz_lt (by have := PB.len; unfold runs at this; rw [List.length_map, List.length_take] at this; omega)) ?_
          walk_at "w"
          refine ⟨_, _, _, vsA, _, by rw [if_neg (by omega)], Ex.mut (e'.trans e5) (none_of_ex e1 n2), ?_, ?_, upd_same, ?_, ?_, by omega⟩
          · rw [upd_ne (fun q => pbp q.symm)]; exact hp5
          · rw [upd_ne ab]; exact e5 _ _ hA'
          · have := Prs.updL (ys := vsB ++ [.ref b]) hB5 (PA'.ex e5)
            rw [runs_over (by omega)]
            rwa [runs_over (by omega)] at this
          · rw [show i + 1 - A.length - 1 = i - A.length - 1 + 1 by omega, runs_take wa, h1]
            exact (Prs.updL hB5 (PB'.ex e5)).app (Prs.one (st_updL hB5 _ _ sb))
  · rintro σ' H' ⟨x, y, z, vsA, vsB, rfl, e, hp, hA, hB, PA, PB, il⟩
    rw [List.length_map] at *
    have t0 : T = [] := List.eq_nil_of_length_eq_zero (by omega)
    subst t0
    have wg : ws.length = gl A B c := by rw [wl]; rfl
    cases c with
    | false =>
      have gv : gl A B false = A.length := by unfold gl; rw [if_neg (by decide)]; rfl
      rw [if_pos (by omega)]
      walk_at "w"
      refine w_raise ?_
      walk_at "w"
      rw [List.length_map, wg]
      refine r_mkON E.ox_BadText E.xs_BadText E.nf_BadText_place (by omega) (by omega) fun dd H2 n e2 g => ?_
      exact kX (.inr rfl) dd H2 (e.trans e2) g
    | true =>
      have gv : gl A B true = A.length + (B.length + 1) := by unfold gl; rw [if_pos rfl]
      rw [if_neg (by omega)]
      walk_at "w"
      rw [runs_over (by omega)] at PA PB
      exact kQ rfl rfl p pa pb vsA vsB H' e hp hA hB PA PB

end
section
theorem spl_mem : ∀ (l acc : List Nat), ∀ p ∈ TL.spl [32] 0 acc l, p.length ≤ acc.length + l.length
  | [], acc, p, h => by
    rw [TL.spl_nil, List.mem_singleton] at h
    rw [h]
    exact Nat.le_add_right _ _
  | c :: r, acc, p, h => by
    by_cases q : TL.pre [32] (c :: r) = true
    · rw [TL.spl_hit q] at h
      rcases List.mem_cons.mp h with rfl | h
      · exact Nat.le_add_right _ _
      · have := spl_mem r [] p h
        rw [List.length_nil] at this
        rw [List.length_cons]
        omega
    · rw [TL.spl_miss (by rw [← Bool.not_eq_true]; exact q)] at h
      have := spl_mem r (acc ++ [c]) p h
      rw [List.length_append, List.length_singleton] at this
      rw [List.length_cons]
      omega
/-- the words of a text -/
def wds (t : Str) : List Str := Txt.split t " "
theorem sp_list : TL.tl (" " : Str) = [32] := by decide +kernel
theorem wds_spl (t : Str) : (wds t).map TL.tl = TL.spl [32] 0 [] (TL.tl t) := by
  have := TL.split_spl t " " (by rw [sp_list]; exact List.cons_ne_nil _ _) (TL.kind_ok (by decide +kernel))
  rwa [sp_list] at this
theorem wds_mem {t w : Str} (h : w ∈ wds t) : w.length ≤ t.length := by
  have h1 : TL.tl w ∈ TL.spl [32] 0 [] (TL.tl t) := by rw [← wds_spl]; exact List.mem_map.mpr ⟨w, h, rfl⟩
  have := spl_mem _ _ _ h1
  rw [TL.len_tl, TL.len_tl]
  simpa using this
theorem wds_len (t : Str) : (wds t).length ≤ t.length + 2 := PyProof.Rows.split_le t " "
theorem run1_cases {w : Str} (h : runO w ≠ none) : ∃ m : Int, run1 w = (namS w, m) ∧ lwn w = m ∧ 1 ≤ m ∧ m ≤ 99999 ∧ okW (namS w) = true ∧ ((figL w = [] ∧ m = 1) ∨ (figL w ≠ [] ∧ ¬ (figL w)[0]? = some 48 ∧ figL w ≠ [49] ∧ m = figV w ∧ (figL w).length ≤ 5)) := by
  rcases runO_cases w with e | ⟨m, e, r⟩
  · exact absurd e h
  · exact ⟨m, by unfold run1; rw [e]; rfl, by unfold lwn; rw [e], r⟩
/-- the names that runs tell -/
def spreadR (rs : List (Str × Int)) : List Str := rs.flatMap fun r => List.replicate r.2.toNat r.1
def spreadW (A : List Str) : List Str := spreadR (runs A)
/-- how many names words tell -/
def smW (A : List Str) : Int := (A.map lwn).sum
theorem smW_take {A : List Str} {i : Nat} {w : Str} (h : A[i]? = some w) : smW (A.take (i + 1)) = smW (A.take i) + lwn w := by
  unfold smW
  rw [List.take_add_one, h, List.map_append, List.sum_append]
  simp
theorem smW_over {A : List Str} {i : Nat} (h : A.length ≤ i) : smW (A.take i) = smW A := by
  unfold smW
  rw [List.take_of_length_le h]
theorem smW_nn (A : List Str) : 0 ≤ smW A := by
  unfold smW
  induction A with
  | nil => exact Int.le_refl _
  | cons w A ih =>
    rw [List.map_cons, List.sum_cons]
    have := (lwn_le w).1
    omega
theorem spreadR_len : ∀ (rs : List (Str × Int)), (∀ r ∈ rs, 0 ≤ r.2) → ((spreadR rs).length : Int) = (rs.map (·.2)).sum
  | [], _ => rfl
  | r :: rs, h => by
    have ih := spreadR_len rs fun x hx => h x (List.mem_cons_of_mem _ hx)
    have := h r List.mem_cons_self
    unfold spreadR at ih ⊢
    rw [List.flatMap_cons, List.length_append, List.length_replicate, List.map_cons, List.sum_cons, ← ih]
    omega
theorem runs_sum {A : List Str} (h : ∀ w ∈ A, runO w ≠ none) : ((runs A).map (·.2)).sum = smW A ∧ ∀ r ∈ runs A, 1 ≤ r.2 ∧ r.2 ≤ 99999 ∧ okW r.1 = true := by
  induction A with
  | nil => exact ⟨rfl, fun _ h => (List.not_mem_nil h).elim⟩
  | cons w A ih =>
    obtain ⟨i1, i2⟩ := ih fun x hx => h x (List.mem_cons_of_mem _ hx)
    obtain ⟨m, e1, e2, m1, m2, ok, _⟩ := run1_cases (h w List.mem_cons_self)
    refine ⟨?_, fun r hr => ?_⟩
    · show (run1 w).2 + ((runs A).map (·.2)).sum = (lwn w) + (A.map lwn).sum
      rw [i1, e1, e2]
      rfl
    · rcases List.mem_cons.mp hr with rfl | hr
      · rw [e1]; exact ⟨m1, m2, ok⟩
      · exact i2 r hr
theorem spreadW_len {A : List Str} (h : ∀ w ∈ A, runO w ≠ none) : ((spreadW A).length : Int) = smW A := by
  obtain ⟨a, b⟩ := runs_sum h
  unfold spreadW
  rw [spreadR_len _ fun r hr => by have := (b r hr).1; omega]
  exact a
theorem spreadW_ok {A : List Str} (h : ∀ w ∈ A, runO w ≠ none) : ∀ w ∈ spreadW A, okW w = true := by
  obtain ⟨a, b⟩ := runs_sum h
  intro w hw
  unfold spreadW spreadR at hw
  obtain ⟨r, hr, hx⟩ := List.mem_flatMap.mp hw
  rw [(List.mem_replicate.mp hx).2]
  exact (b r hr).2.2
theorem spreadR_take {rs : List (Str × Int)} {i : Nat} {n : Str} {m : Int} (h : rs[i]? = some (n, m)) : spreadR (rs.take (i + 1)) = spreadR (rs.take i) ++ List.replicate m.toNat n := by
  unfold spreadR
  rw [List.take_add_one, h, List.flatMap_append]
  simp
theorem r_repLB {K : PySem.W.Frag} {l : Addr} {k : Int} {xs : List V} {H : Hp} {Q : VK} (h : H l = some (.lst xs)) (h1 : 0 ≤ k) (h2 : k < 1000000) (hz : xs.length * k.toNat ≤ sizeLine) (q : ∀ p H1, H p = none → Ex H H1 → H1 p = some (.lst (List.replicate k.toNat xs).flatten) → Q (.ref p) H1) : rMul K (.ref l) (.int k) H Q :=
  .inr (.inl ⟨l, k, xs, rfl, rfl, h, by omega, by omega, hz, fun p hp => q p _ hp (Ex.new hp) upd_same⟩)
theorem flat_one (n : Nat) (x : V) : (List.replicate n [x]).flatten = List.replicate n x := by
  induction n with
  | zero => rfl
  | succ n ih => rw [List.replicate_succ, List.flatten_cons, ih, List.replicate_succ]; rfl
theorem spreadR_le {rs : List (Str × Int)} (h : ∀ r ∈ rs, 0 ≤ r.2) (i : Nat) : (spreadR (rs.take i)).length ≤ (spreadR rs).length := by
  conv => rhs; rw [← List.take_append_drop i rs]
  unfold spreadR
  rw [List.flatMap_append, List.length_append]
  omega
abbrev spSpread (K : PySem.W.Frag) : Sp := sp1 fun v H Q _ => ∃ (p : Addr) (vs : List V) (rs : List (Str × Int)), v = .ref p ∧ SqL K H p vs ∧ Prs K H vs rs ∧ rs.length ≤ 100000 ∧ (∀ r ∈ rs, 0 ≤ r.2 ∧ r.2 ≤ 99999) ∧ (spreadR rs).length ≤ 100000 ∧
  ∀ q H', H q = none → Ex H H' → H' q = some (.lst ((spreadR rs).map V.str)) → Q (.ref q) H'
abbrev N_spread : List Str := ["runs", "told", "name", "many"]
theorem sc_spread : FnScope N_spread ["runs"] (defScope s_spread) := ⟨rfl, rfl, rfl, by decide +kernel, rfl, by decide +kernel, by decide +kernel⟩
theorem ok_spread {P : Program} {w : World} {K : PySem.W.Frag} {mg : Str → Option Value} {base : Heap} (E : Env P K mg) : Fn P w K mg base CX0 1 "spread" (spSpread K) := by
  obtain ⟨fd, F⟩ := E.dd_spread
  refine Fn.mk0 F E.g_spread sc_spread sp1_len (fun _ _ _ _ _ _ us hl => match us, hl with | [_], _ => rfl) (fun cdv A outer s H vs Q X hr h => ?_)
  have nd := sc_spread.nd
  obtain ⟨v0, rfl, h⟩ := h
  refine ⟨_, (pss_cons (ps_set (i := 1) nd rfl (.inl rfl) (pe_lst (pa_nil)))
  (pss_cons (ps_for PassesOwn.never rfl (kSeq K (pv 0)) (kGtup K rfl (pgs_cons (pg_name (i := 2) nd rfl (.inl rfl)) (pgs_cons (pg_name (i := 3) nd rfl (.inl rfl)) (pgs_nil))))
   (pss_one (ps_expr (kBM K (pe_bm PySem.F.plainAttrs_list PySem.F.slot_list_extend PySem.F.type_list_extend mt_extend (pv 1) (pa_cons (pe_op (kMul K) (pe_lst (pa_cons (pv 2) pa_nil)) (pv 3)) pa_nil))))))
  (pss_one (ps_ret (pv 1))))), ?_⟩
  change (_ : TS) _ [some v0, none, none, none] H
  try dsimp only [cxOf, Cx.nox, Cx.blk]
  obtain ⟨p, vs, rs, rfl, hp, P, rz, rb, sz, k⟩ := h
  walk_at "w"
  intro q H1 n1 e1 g1
  walk_at "w"
  have vl := P.len
  refine i_seqL ?_
  walk_at "w"
  refine for_list (xs := vs) (Pv := fun i σ' H' => ∃ (x y : Option V), σ' = [some (.ref p), some (.ref q), x, y] ∧ Ex H H' ∧ H' q = some (.lst ((spreadR (rs.take i)).map V.str))) ⟨_, _, rfl, e1, by rw [List.take_zero]; exact g1⟩ (fun i σ' H' _ h => by obtain ⟨_, _, _, e, _⟩ := h; exact ex_l e hp) ?_ ?_
  · rintro i v σ' H' hv ⟨x, y, rfl, e, g⟩
    obtain ⟨b, n, m, rfl, hr, hb⟩ := P.get hv
    obtain ⟨m0, m1⟩ := rb _ (List.mem_of_getElem? hr)
    have st : SqT K H' b [.str n, .int m] := ex_t e hb
    have le1 := spreadR_le (fun r hr => (rb r hr).1) (i + 1)
    rw [spreadR_take hr, List.length_append, List.length_replicate] at le1
    walk_at "w"
    intro l H2 n2 e2 g2
    walk_at "w"
    refine r_repLB g2 m0 (show m < 1000000 by have : m ≤ 99999 := m1; omega) (sz_of (by show 1 * m.toNat ≤ 100000; omega)) fun l2 H3 n3 e3 g3 => ?_
    walk_at "w"
    have gq : H3 q = some (.lst ((spreadR (rs.take i)).map V.str)) := e3 _ _ (e2 _ _ g)
    refine ⟨q, l2, _, _, rfl, rfl, gq, g3, sz_of (by rw [flat_one, List.length_replicate, List.length_map]; omega), ?_⟩
    walk_at "w"
    refine ⟨_, _, rfl, Ex.mut ((e.trans e2).trans e3) n1, ?_⟩
    rw [upd_same, flat_one, spreadR_take hr, List.map_append, List.map_replicate]
  · rintro σ' H' ⟨x, y, rfl, e, g⟩
    walk_at "w"
    rw [vl, List.take_length] at g
    exact k q H' n1 e g
/-- what is due for a text -/
abbrev spDue (K : PySem.W.Frag) : Sp := sp1 fun v H Q _ => ∃ (t : Str) (A B : List Str) (c : Bool) (T : List Str), v = .str t ∧ t.length ≤ 90000 ∧ Wds (wds t) A B c T ∧
  (T ≠ [] ∨ c = false → ∀ p H', Ex H H' → SqT K H' p [.str "place", .int (gl A B c : Nat)] → Q (.ref p) H') ∧
  (T = [] → c = true → (20000 < smW A + smW B → ∀ p H', Ex H H' → SqT K H' p [.str "many"] → Q (.ref p) H') ∧
    (¬ 20000 < smW A + smW B → ∀ p pa pb H', Ex H H' → SqT K H' p [.str "roster", .ref pa, .ref pb] → SqL K H' pa (A.map V.str) → SqL K H' pb (B.map V.str) → Q (.ref p) H'))
abbrev N__law_due : List Str := ["text", "words", "cut", "total", "place", "many"]
theorem sc__law_due : FnScope N__law_due ["text"] (defScope s__law_due) := ⟨rfl, rfl, rfl, by decide +kernel, rfl, by decide +kernel, by decide +kernel⟩
theorem ok__law_due {P : Program} {w : World} {K : PySem.W.Frag} {mg : Str → Option Value} {base : Heap} (E : Env P K mg) : Fn P w K mg base CX0 3 "_law_due" (spDue K) := by
  obtain ⟨fd, F⟩ := E.dd__law_due
  refine Fn.mk0 F E.g__law_due sc__law_due sp1_len (fun _ _ _ _ _ _ us hl => match us, hl with | [_], _ => rfl) (fun cdv A outer s H vs Q X hr h => ?_)
  have nd := sc__law_due.nd
  obtain ⟨v0, rfl, h⟩ := h
  refine ⟨_, (pss_cons (ps_set (i := 1) nd rfl (.inl rfl) (xSplit (pv 0) (pe_str)))
  (pss_cons (ps_set (i := 2) nd rfl (.inl rfl) (pe_non))
  (pss_cons (ps_set (i := 3) nd rfl (.inl rfl) (pe_int))
  (pss_cons (ps_for PassesOwn.never rfl (pi_range1 (by rfl) E.f_range (pa_cons (pe_callB (kLen K) (by rfl) E.f_len (by decide +kernel) (pa_cons (pv 1) pa_nil)) pa_nil)) (pg_name (i := 4) nd rfl (.inl rfl))
   (pss_cons (ps_if (PW.pt (pw_and (pt_cmpR (kEq K hr) (pe_ix (kIx K) (pv 1) (pv 4) (fun _ _ => rfl)) (pe_str) (nomark _)) (pw_and1 (pt_cmpR xIs (pv 2) (pe_non) (nomark _)))))
   (pss_cons (ps_set (i := 2) nd rfl (.inl rfl) (pv 4))
  (pss_one (ps_continue)))
   pss_nil)
  (pss_cons (ps_set (i := 5) nd rfl (.inl rfl) (pc (ok__law_word_number E) hr (by decide) pass0 rfl (pa_cons (pe_ix (kIx K) (pv 1) (pv 4) (fun _ _ => rfl)) pa_nil)))
  (pss_cons (ps_if (pt_cmpR (kEq K hr) (pv 5) (pe_int) (nomark _))
   (pss_one (ps_ret (pe_tup (pa_cons (pe_str) (pa_cons (pv 4) pa_nil)))))
   pss_nil)
  (pss_one (ps_set (i := 3) nd rfl (.inl rfl) (pe_op (kAdd K) (pv 3) (pv 5))))))))
  (pss_cons (ps_if (pt_cmpR xIs (pv 2) (pe_non) (nomark _))
   (pss_one (ps_ret (pe_tup (pa_cons (pe_str) (pa_cons (pe_callB (kLen K) (by rfl) E.f_len (by decide +kernel) (pa_cons (pv 1) pa_nil)) pa_nil)))))
   pss_nil)
  (pss_one (ps_ret (pe_ifExp (pt_cmpR op_gt (pv 3) (pe_int) (nomark _)) (pe_tup (pa_cons (pe_str) pa_nil)) (pe_tup (pa_cons (pe_str) (pa_cons (pe_slice (kSl K) (pv 1) po_none (po_some (pv 2))) (pa_cons (pe_slice (kSl K) (pv 1) (po_some (pe_op (kAdd K) (pv 2) (pe_int))) po_none) pa_nil)))))))))))), ?_⟩
  change (_ : TS) _ [some v0, none, none, none, none, none] H
  try dsimp only [cxOf, Cx.nox, Cx.blk]
  obtain ⟨t, A, B, c, T, rfl, tz, W, kX, kQ⟩ := h
  have wl := W.len
  have wn := wds_len t
  have ga : A.length ≤ gl A B c := by unfold gl; omega
  walk_at "w"
  refine w_m1 ?_
  walk_at "w"
  refine ⟨⟨_, rfl⟩, ?_⟩
  walk_at "w"
  refine r_split (by decide +kernel) (sz_of (by omega)) fun a H1 n1 e1 g1 => ?_
  have ha : SqL K H1 a ((wds t).map V.str) := sq_of g1
  walk_at "w"
  rw [List.length_map]
  have z1 : (-1000000000 : Int) ≤ ((wds t).length : Nat) ∧ (((wds t).length : Nat) : Int) ≤ 1000000000 := by omega
  refine i_x1 z1 ?_
  rw [Int.toNat_natCast]
  have fin0 : runO "/" = none := run_cut
  refine for_range (lo := 0) (Pv := fun i σ' H' => ∃ (x y : Option V), σ' = [some (.str t), some (.ref a), some (if i ≤ A.length then .non else .int (A.length : Nat)), some (.int (smW (A.take i) + smW (B.take (i - A.length - 1)))), x, y] ∧ Ex H1 H' ∧ i ≤ gl A B c)
    ⟨_, _, by rw [if_pos (Nat.zero_le _), List.take_zero, Nat.zero_sub, Nat.zero_sub, List.take_zero]; rfl, Ex.refl _, Nat.zero_le _⟩ ?_ ?_
  · rintro i σ' H' hi ⟨x, y, rfl, e, il⟩
    have a' := ex_l e ha
    obtain ⟨w, hw⟩ : ∃ w, (wds t)[i]? = some w := ⟨_, List.getElem?_eq_getElem hi⟩
    have zw : w.length ≤ 100000 := Nat.le_trans (wds_mem (List.mem_of_getElem? hw)) (by omega)
    have gv : ((wds t).map V.str)[i]? = some (.str w) := by rw [List.getElem?_map, hw]; rfl
    rw [Int.zero_add]
    walk_at "w"
    refine r_ixL a' (v := .str w) (atI_pos (Int.natCast_nonneg i) (by rw [Int.toNat_natCast]; exact gv)) ?_
    walk_at "w"
    refine r_eqSS ?_
    have run : ∀ σ2, σ2 = [some (.str t), some (.ref a), some (if i ≤ A.length then V.non else .int (A.length : Nat)), some (.int (smW (A.take i) + smW (B.take (i - A.length - 1)))), some (.int (i : Nat)), y] → True := fun _ _ => trivial
    clear run
    by_cases c1 : i < A.length
    · obtain ⟨wa, wr, wnn⟩ := W.atA hw c1
      rw [if_pos (Nat.le_of_lt c1), decide_eq_false wnn]
      walk_at "w"
      refine r_ixL a' (v := .str w) (atI_pos (Int.natCast_nonneg i) (by rw [Int.toNat_natCast]; exact gv)) ?_
      walk_at "w"
      refine ⟨w, rfl, zw, fun H5 e5 => ?_⟩
      have l0 : ¬ lwn w = 0 := fun h => wr (lwn_zero.mp h)
      walk_at "w"
      refine ⟨some (.int (i : Nat)), some (.int (lwn w)), ?_, e.trans e5, by unfold gl; omega⟩
      rw [if_pos (show i + 1 ≤ A.length from c1), smW_take wa, show i + 1 - A.length - 1 = i - A.length - 1 by omega, show smW (A.take i) + lwn w + smW (B.take (i - A.length - 1)) = smW (A.take i) + smW (B.take (i - A.length - 1)) + lwn w by omega]
    · by_cases c2 : i = gl A B c
      · subst c2
        obtain ⟨wr, wnn, tn⟩ := W.atT hw
        have l0 : lwn w = 0 := lwn_zero.mpr wr
        by_cases c3 : gl A B c ≤ A.length
        · have cf : c = false := by
            cases c with
            | false => rfl
            | true => unfold gl at c3; rw [if_pos rfl] at c3; omega
          rw [if_pos c3, decide_eq_false (wnn cf)]
          walk_at "w"
          refine r_ixL a' (v := .str w) (atI_pos (Int.natCast_nonneg _) (by rw [Int.toNat_natCast]; exact gv)) ?_
          walk_at "w"
          refine ⟨w, rfl, zw, fun H5 e5 => ?_⟩
          rw [l0]
          walk_at "w"
          exact fun p H6 _ e6 g6 => kX (.inl tn) p H6 (((e1.trans e).trans e5).trans e6) (st_of g6)
        · rw [if_neg c3]
          by_cases c4 : w = "/"
          · rw [decide_eq_true c4]
            walk_at "w"
            refine r_ixL a' (v := .str w) (atI_pos (Int.natCast_nonneg _) (by rw [Int.toNat_natCast]; exact gv)) ?_
            walk_at "w"
            refine ⟨w, rfl, zw, fun H5 e5 => ?_⟩
            rw [l0]
            walk_at "w"
            exact fun p H6 _ e6 g6 => kX (.inl tn) p H6 (((e1.trans e).trans e5).trans e6) (st_of g6)
          · rw [decide_eq_false c4]
            walk_at "w"
            refine r_ixL a' (v := .str w) (atI_pos (Int.natCast_nonneg _) (by rw [Int.toNat_natCast]; exact gv)) ?_
            walk_at "w"
            refine ⟨w, rfl, zw, fun H5 e5 => ?_⟩
            rw [l0]
            walk_at "w"
            exact fun p H6 _ e6 g6 => kX (.inl tn) p H6 (((e1.trans e).trans e5).trans e6) (st_of g6)
      · have ct : c = true := by
          cases c with
          | true => rfl
          | false => unfold gl at il c2; rw [if_neg (by decide)] at il c2; omega
        subst ct
        have glv : gl A B true = A.length + (B.length + 1) := by unfold gl; rw [if_pos rfl]
        by_cases c3 : i = A.length
        · subst c3
          obtain rfl := W.atC hw
          rw [if_pos (Nat.le_refl _), decide_eq_true rfl]
          walk_at "w"
          dsimp only [List.set]
          refine w_contn ?_
          refine ⟨some (.int (A.length : Nat)), y, ?_, e, by omega⟩
          rw [if_neg (by omega), smW_over (i := A.length + 1) (by omega), smW_over (i := A.length) (Nat.le_refl _), show A.length + 1 - A.length - 1 = A.length - A.length - 1 by omega]
        · have c4 : A.length < i := by omega
          obtain ⟨wa, wr, wnn⟩ := W.atB hw c4 (by omega)
          rw [if_neg (by omega), decide_eq_false wnn]
          walk_at "w"
          refine r_ixL a' (v := .str w) (atI_pos (Int.natCast_nonneg i) (by rw [Int.toNat_natCast]; exact gv)) ?_
          walk_at "w"
          refine ⟨w, rfl, zw, fun H5 e5 => ?_⟩
          have l0 : ¬ lwn w = 0 := fun h => wr (lwn_zero.mp h)
          walk_at "w"
          refine ⟨some (.int (i : Nat)), some (.int (lwn w)), ?_, e.trans e5, by omega⟩
          rw [if_neg (by omega), smW_over (A := A) (i := i + 1) (by omega), smW_over (A := A) (i := i) (by omega), show i + 1 - A.length - 1 = i - A.length - 1 + 1 by omega, smW_take wa, Int.add_assoc]
  · rintro σ' H' ⟨x, y, rfl, e, il⟩
    have t0 : T = [] := List.eq_nil_of_length_eq_zero (by omega)
    subst t0
    have wg : (wds t).length = gl A B c := by rw [wl]; rfl
    cases c with
    | false =>
      have gv : gl A B false = A.length := by unfold gl; rw [if_neg (by decide)]; rfl
      rw [if_pos (by omega)]
      walk_at "w"
      rw [List.length_map, wg]
      walk_at "w"
      exact fun p H6 _ e6 g6 => kX (.inr rfl) p H6 ((e1.trans e).trans e6) (st_of g6)
    | true =>
      have gv : gl A B true = A.length + (B.length + 1) := by unfold gl; rw [if_pos rfl]
      obtain ⟨kM, kR⟩ := kQ rfl rfl
      have ew : (wds t) = A ++ (("/" : Str) :: B) := by
        rw [W.e, if_pos rfl, List.append_nil]
        rfl
      rw [if_neg (by omega), smW_over (A := A) (by omega), smW_over (A := B) (by omega)]
      have a' := ex_l e ha
      walk_at "w"
      by_cases cm : 20000 < smW A + smW B
      · walk_at "w"
        exact fun p H6 _ e6 g6 => kM cm p H6 ((e1.trans e).trans e6) (st_of g6)
      · walk_at "w"
        refine r_slL a' ?_
        rw [cutV_to (Int.natCast_nonneg _) V.str, Int.toNat_natCast, ew, List.take_left]
        intro pa H5 n5 e5 g5
        walk_at "w"
        refine r_slL (ex_l e5 a') ?_
        rw [cutV_from (by omega) V.str, show ((A.length : Nat) + 1 : Int).toNat = A.length + 1 by omega, ew, ← List.drop_drop, List.drop_left]
        intro pb H6 n6 e6 g6
        walk_at "w"
        exact fun p H7 _ e7 g7 => kR cm p pa pb H7 ((((e1.trans e).trans e5).trans e6).trans e7) (st_of g7) (sq_of (e7 _ _ (e6 _ _ g5))) (sq_of (e7 _ _ g6))

end
section
theorem numL_back : ∀ (n : Nat) (l : List Nat), l.length = n + 1 → NumText.AllDigits l → ¬ l[0]? = some 48 → TL.numL (NumText.digitsVal l) = l
  | 0, l, hn, ad, h0 => by
    match l, hn with
    | [c], _ =>
      have hc := ad.head
      have e : NumText.digitsVal [c] = c - 48 := by show 0 * 10 + (c - 48) = _; omega
      rw [e, TL.numL_lt (by omega)]
      congr 1
      omega
  | n + 1, l, hn, ad, h0 => by
    have hne : l ≠ [] := fun e => by rw [e] at hn; cases hn
    obtain ⟨r, d, rfl⟩ : ∃ r d, l = r ++ [d] := ⟨_, _, (List.dropLast_concat_getLast hne).symm⟩
    rw [List.length_append, List.length_singleton] at hn
    have hr : r.length = n + 1 := by omega
    have adr : NumText.AllDigits r := fun c hc => ad c (List.mem_append_left _ hc)
    have add := ad d (List.mem_append_right _ List.mem_cons_self)
    have r0 : ¬ r[0]? = some 48 := fun h => h0 (by rw [List.getElem?_append_left (by omega)]; exact h)
    have ih := numL_back n r hr adr r0
    have ev : NumText.digitsVal (r ++ [d]) = NumText.digitsVal r * 10 + (d - 48) := by
      unfold NumText.digitsVal
      rw [List.foldl_append]
      rfl
    have lo : 1 ≤ NumText.digitsVal r := by
      cases r with
      | nil => cases hr
      | cons c q =>
        have hc := adr.head
        have : c ≠ 48 := fun e => r0 (by rw [e]; rfl)
        have := fold_lo q (0 * 10 + (c - 48)) (by omega)
        unfold NumText.digitsVal
        rw [List.foldl_cons]
        exact this
    rw [ev, TL.numL_step (by omega), show (NumText.digitsVal r * 10 + (d - 48)) / 10 = NumText.digitsVal r by omega, ih, show 48 + (NumText.digitsVal r * 10 + (d - 48)) % 10 = d by omega]
theorem fig_back {w : Str} (h0 : figL w ≠ []) (h : ¬ (figL w)[0]? = some 48) : TL.numL (NumText.digitsVal (figL w)) = figL w := by
  have l0 := List.length_pos_iff.mpr h0
  exact numL_back ((figL w).length - 1) (figL w) (by omega) (fig_all w) h
/-- a number's text -/
def nS (n : Int) : Str := Str.ofString (toString n)
theorem nS_list (n : Nat) : (nS n).cps.toList = TL.numL n := TL.tl_num n
theorem nS_figV {w : Str} (h0 : figL w ≠ []) (h : ¬ (figL w)[0]? = some 48) : (nS (figV w)).cps.toList = figL w := by
  unfold figV
  rw [nS_list, fig_back h0 h]
theorem nam_self {w : Str} (h : figL w = []) : namS w = w := by
  refine TL.ext_tl ?_
  show namL w = w.cps.toList
  conv => rhs; rw [fn_app w, h]
  rfl
theorem run_parts {w : Str} {m : Int} (h : (figL w = [] ∧ m = 1) ∨ (figL w ≠ [] ∧ ¬ (figL w)[0]? = some 48 ∧ figL w ≠ [49] ∧ m = figV w ∧ (figL w).length ≤ 5)) : (m = 1 ∧ namS w = w) ∨ (1 < m ∧ (nS m).length = (figL w).length) ∨ m < 1 := by
  rcases h with ⟨a, b⟩ | ⟨a, b, c, d, e⟩
  · exact .inl ⟨b, nam_self a⟩
  · have q := nS_figV a b
    rw [← d] at q
    by_cases c1 : 1 < m
    · refine .inr (.inl ⟨c1, ?_⟩)
      rw [← len_list, q]
    · by_cases c2 : m = 1
      · exfalso
        rw [c2] at q
        have := nS_list 1
        rw [show ((1 : Nat) : Int) = 1 from rfl, q, TL.numL_lt (by decide)] at this
        exact c this
      · exact .inr (.inr (by omega))
abbrev spSpr (K : PySem.W.Frag) : Sp := sp1 fun v H Q _ => ∃ (p : Addr) (A : List Str), v = .ref p ∧ SqL K H p (A.map V.str) ∧ A.length ≤ 100000 ∧ (∀ w ∈ A, runO w ≠ none ∧ w.length ≤ 100000) ∧ (spreadW A).length ≤ 100000 ∧
  ∀ q H', Ex H H' → SqT K H' q ((spreadW A).map V.str) → Q (.ref q) H'
abbrev N__law_spread : List Str := ["words", "told", "word", "many"]
theorem sc__law_spread : FnScope N__law_spread ["words"] (defScope s__law_spread) := ⟨rfl, rfl, rfl, by decide +kernel, rfl, by decide +kernel, by decide +kernel⟩
theorem ok__law_spread {P : Program} {w : World} {K : PySem.W.Frag} {mg : Str → Option Value} {base : Heap} (E : Env P K mg) : Fn P w K mg base CX0 3 "_law_spread" (spSpr K) := by
  obtain ⟨fd, F⟩ := E.dd__law_spread
  refine Fn.mk0 F E.g__law_spread sc__law_spread sp1_len (fun _ _ _ _ _ _ us hl => match us, hl with | [_], _ => rfl) (fun cdv A outer s H vs Q X hr h => ?_)
  have nd := sc__law_spread.nd
  obtain ⟨v0, rfl, h⟩ := h
  refine ⟨_, (pss_cons (ps_set (i := 1) nd rfl (.inl rfl) (pe_lst (pa_nil)))
  (pss_cons (ps_for PassesOwn.never rfl (kSeq K (pv 0)) (pg_name (i := 2) nd rfl (.inl rfl))
   (pss_cons (ps_set (i := 3) nd rfl (.inl rfl) (pc (ok__law_word_number E) hr (by decide) pass0 rfl (pa_cons (pv 2) pa_nil)))
  (pss_one (ps_expr (kBM K (pe_bm PySem.F.plainAttrs_list PySem.F.slot_list_extend PySem.F.type_list_extend mt_extend (pv 1) (pa_cons (pe_op (kMul K) (pe_lst (pa_cons (pe_ifExp (pt_cmpR op_gt (pv 3) (pe_int) (nomark _)) (pe_slice xSlS (pv 2) (po_some (pe_callB xLenS (by rfl) E.f_len (by decide +kernel) (pa_cons (pe_callTy xStrI (by rfl) E.f_str (by decide +kernel) (pa_cons (pv 3) pa_nil)) pa_nil))) po_none) (pv 2)) pa_nil)) (pv 3)) pa_nil)))))))
  (pss_one (ps_ret (pe_callTy (kTup K) (by rfl) E.f_tuple (by decide +kernel) (pa_cons (pv 1) pa_nil)))))), ?_⟩
  change (_ : TS) _ [some v0, none, none, none] H
  try dsimp only [cxOf, Cx.nox, Cx.blk]
  obtain ⟨p, A, rfl, hp, az, aw, sz, k⟩ := h
  have rs0 := (runs_sum fun w hw => (aw w hw).1).2
  walk_at "w"
  intro q H1 n1 e1 g1
  walk_at "w"
  refine i_seqL ?_
  walk_at "w"
  refine for_list (xs := A.map V.str) (Pv := fun i σ' H' => ∃ (x y : Option V), σ' = [some (.ref p), some (.ref q), x, y] ∧ Ex H H' ∧ H' q = some (.lst ((spreadW (A.take i)).map V.str))) ⟨_, _, rfl, e1, by rw [List.take_zero]; exact g1⟩ (fun i σ' H' _ h => by obtain ⟨_, _, _, e, _⟩ := h; exact ex_l e hp) ?_ ?_
  · rintro i v σ' H' hv ⟨x, y, rfl, e, g⟩
    rw [List.getElem?_map, Option.map_eq_some_iff] at hv
    obtain ⟨w, hw, rfl⟩ := hv
    obtain ⟨wr, zw⟩ := aw w (List.mem_of_getElem? hw)
    obtain ⟨m, e1', e2', m1, m2, ok, parts⟩ := run1_cases wr
    have lz : w.length ≤ sizeLine := sz_of (by omega)
    have hr : (runs A)[i]? = some (namS w, m) := by unfold runs; rw [List.getElem?_map, hw, ← e1']; rfl
    have tk : spreadW (A.take (i + 1)) = spreadW (A.take i) ++ List.replicate m.toNat (namS w) := by
      have := spreadR_take hr
      unfold spreadW runs at this ⊢
      rwa [← List.map_take, ← List.map_take] at this
    have le1 : (spreadW (A.take (i + 1))).length ≤ (spreadW A).length := by
      have := spreadR_le (rs := runs A) (fun r hr => by have := (rs0 r hr).1; omega) (i + 1)
      unfold spreadW runs at this ⊢
      rwa [← List.map_take] at this
    rw [tk, List.length_append, List.length_replicate] at le1
    have fin : ∀ l H2, H2 q = some (.lst ((spreadW (A.take i)).map V.str)) → Ex H H2 → H2 l = some (.lst (List.replicate m.toNat [V.str (namS w)]).flatten) → rExtend (.ref q) [.ref l] H2 fun x H3 => ∃ (x y : Option V), [some (V.ref p), some (V.ref q), some (V.str w), some (V.int m)] = [some (.ref p), some (.ref q), x, y] ∧ Ex H H3 ∧ H3 q = some (.lst ((spreadW (A.take (i + 1))).map V.str)) := fun l H2 gq e2 gl => by
      refine ⟨q, l, _, _, rfl, rfl, gq, gl, sz_of (by rw [flat_one, List.length_replicate, List.length_map]; omega), _, _, rfl, Ex.mut e2 n1, ?_⟩
      rw [upd_same, flat_one, tk, List.map_append, List.map_replicate]
    walk_at "w"
    refine ⟨w, rfl, zw, fun H2 e2 => ?_⟩
    rw [e2']
    walk_at "w"
    rcases run_parts parts with ⟨rfl, nm⟩ | ⟨c1, nl⟩ | c1
    · rw [decide_eq_false (by decide)]
      walk_at "w"
      intro l H3 n3 e3 g3
      walk_at "w"
      refine r_repLB g3 (by decide) (by decide) (sz_of (by show 1 * _ ≤ 100000; exact (by decide : 1 * 1 ≤ 100000))) fun l2 H4 n4 e4 g4 => ?_
      walk_at "w"
      have := fin l2 H4 (e4 _ _ (e3 _ _ (e2 _ _ g))) (((e.trans e2).trans e3).trans e4) (by rw [nm]; exact g4)
      exact this
    · rw [decide_eq_true c1]
      walk_at "w"
      refine r_strI (sml_log (by omega) (by omega)) ?_
      walk_at "w"
      refine r_lenS (sz_of (Nat.le_trans (sml_len (by omega) (by omega)) (by decide))) ?_
      rw [show (Str.ofString (toString m)).length = (figL w).length from nl]
      walk_at "w"
      refine r_slSfrom lz ?_
      rw [nam_drop]
      walk_at "w"
      intro l H3 n3 e3 g3
      walk_at "w"
      refine r_repLB g3 (by omega) (by omega) (sz_of (by show 1 * _ ≤ 100000; omega)) fun l2 H4 n4 e4 g4 => ?_
      walk_at "w"
      exact fin l2 H4 (e4 _ _ (e3 _ _ (e2 _ _ g))) (((e.trans e2).trans e3).trans e4) g4
    · omega
  · rintro σ' H' ⟨x, y, rfl, e, g⟩
    rw [List.length_map, List.take_length] at g
    walk_at "w"
    exact fun q2 H3 e3 s3 => k q2 H3 (e.trans e3) s3

end
section
def dIsS : PyData → Bool
  | .str _ => true
  | _ => false
theorem w_xcatL {K : PySem.W.Frag} {l b : Addr} {xs zs : List V} {H : Hp} {Q : VK} (h1 : H l = some (.lst xs)) (h2 : H b = some (.lst zs)) (hz : xs.length + zs.length ≤ sizeLine) (q : ∀ p H1, H p = none → Ex H H1 → H1 p = some (.lst (xs ++ zs)) → Q (.ref p) H1) : rAdd K (.ref l) (.ref b) H Q :=
  .inr (.inl ⟨l, b, xs, zs, rfl, rfl, h1, h2, hz, fun p hp => q p _ hp (Ex.new hp) upd_same⟩)
theorem r_sumL {K : PySem.W.Frag} {p : Addr} {ns : List Int} {H : Hp} {Q : VK} (h : SqL K H p (ns.map V.int)) (q : Q (.int ns.sum) H) : rSum K [.ref p] H Q := ⟨p, ns, rfl, h, q⟩
abbrev spRead (K : PySem.W.Frag) : Sp := sp1 fun v H Q X =>
  ((∃ d, Dp K H v d ∧ dIsS d = false) ∧ ∀ dd H', Ex H H' → H' dd = some (.xd [("place", .int (-1))]) → X (.ref (He.ga K "BadText")) (some dd) H') ∨
  ∃ (t : Str) (A B : List Str) (c : Bool) (T : List Str), v = .str t ∧ t.length ≤ 90000 ∧ Wds (wds t) A B c T ∧
  (T ≠ [] ∨ c = false → ∀ dd H', Ex H H' → H' dd = some (.xd [("place", .int (gl A B c : Nat))]) → X (.ref (He.ga K "BadText")) (some dd) H') ∧
  (T = [] → c = true → (20000 < smW A + smW B → ∀ dd H', Ex H H' → H' dd = some (.xd [("word", .str "name")]) → X (.ref (He.ga K "TooMany")) (some dd) H') ∧
    (¬ 20000 < smW A + smW B → ∀ x H', Ex H H' → RosAt K H' x (spreadW A) (spreadW B) → Q (.ref x) H'))
abbrev N_read_roster : List Str := ["text", "first", "then", "name", "many"]
theorem sc_read_roster : FnScope N_read_roster ["text"] (defScope s_read_roster) := ⟨rfl, rfl, rfl, by decide +kernel, rfl, by decide +kernel, by decide +kernel⟩
theorem ok_read_roster {P : Program} {w : World} {K : PySem.W.Frag} {mg : Str → Option Value} {base : Heap} (E : Env P K mg) : Fn P w K mg base (L2.CX P w) 11 "read_roster" (spRead K) := by
  obtain ⟨fd, F⟩ := E.dd_read_roster
  refine Fn.mkX F E.g_read_roster sc_read_roster sp1_len (fun _ _ _ _ _ _ us hl => match us, hl with | [_], _ => rfl) (fun cdv A outer s H vs Q X hr h tk => ?_)
  have nd := sc_read_roster.nd
  obtain ⟨v0, rfl, h⟩ := h
  refine ⟨_, (pss_cons (ps_if (pt_not (kTru K (pe_callB (kIsi K) (by rfl) E.f_isinstance (by decide +kernel) (pa_cons (pv 0) (pa_cons (pe_bltn (v := .ty "str") (by rfl) E.f_str (by decide +kernel) rfl) pa_nil))) (by intro _; rfl)))
   (pss_one (praise (ok_X_BadText E) hr (by decide) rfl tk rfl (pa_cons (pe_un un_neg (pe_int)) pa_nil)))
   pss_nil)
  (pss_cons (ps_asg (pcS (ok_read_runs E) hr (by decide) tk rfl (pa_cons (xSplit (pv 0) (pe_str)) pa_nil)) (kGunl (K := K) rfl (pgs_cons (pg_name (i := 1) nd rfl (.inl rfl)) (pgs_cons (pg_name (i := 2) nd rfl (.inl rfl)) (pgs_nil)))))
  (pss_cons (ps_if (pt_cmpR op_gt (pe_callB (kSum K rfl) (by rfl) E.f_sum (by decide +kernel) (pa_cons (pe_lc (own := [("name", 3), ("many", 4)]) (tt := tYes) rfl nd (kSeq K (pe_op (kAdd K) (pv 1) (pv 2))) (blkOk_by (N := N_read_roster) (sc := defScope s_read_roster) (by decide +kernel)) (fun _ _ _ _ _ => kGtup (n := 2) K rfl (pgs_cons (pg_name (i := 3) nd rfl (Or.inl rfl)) (pgs_cons (pg_name (i := 4) nd rfl (Or.inl rfl)) (pgs_nil)))) (fun _ _ _ _ _ => pts_nil) (fun _ _ _ _ _ => pv 4)) pa_nil)) ((E.k_MOST_NAMES).elim fun t e => pe_glob (v := .int 20000) (by rfl) e ⟨t, rfl⟩) (nomark _))
   (pss_one (praise (ok_X_TooMany E) hr (by decide) rfl tk rfl (pa_cons (pe_str) pa_nil)))
   pss_nil)
  (pss_one (ps_ret (pmk (ok_Roster2 E) hr (by decide) passN rfl (pa_cons (pc (ok_spread E) hr (by decide) pass0 rfl (pa_cons (pv 1) pa_nil)) (pa_cons (pc (ok_spread E) hr (by decide) pass0 rfl (pa_cons (pv 2) pa_nil)) pa_nil)))))))), ?_⟩
  change (_ : TS) _ [some v0, none, none, none, none] H
  try dsimp only [cxOf, Cx.nox, Cx.blk]
  rcases h with ⟨⟨d, dv, ds⟩, kX⟩ | ⟨t, A, B, c, T, rfl, tz, W, kX, kQ⟩
  · have out : ∀ H1, Ex H H1 → MkOI (He.ga K "BadText") (spXN K (He.ga K "BadText") "place") [.int (-1)] H1 fun cls dd H' => X cls dd H' := fun H1 e1 =>
      r_mkON E.ox_BadText E.xs_BadText E.nf_BadText_place (by decide) (by decide) fun dd H' n e g => kX dd H' (e1.trans e) g
    cases dv with
    | str w => cases ds
    | non => walk_at "w"; refine w_raise ?_; walk_at "w"; exact out _ (Ex.refl _)
    | bl b => walk_at "w"; refine w_raise ?_; walk_at "w"; exact out _ (Ex.refl _)
    | int i => walk_at "w"; refine w_raise ?_; walk_at "w"; exact out _ (Ex.refl _)
    | lst s q => walk_at "w"; refine w_raise ?_; walk_at "w"; exact out _ (Ex.refl _)
    | tup s q => walk_at "w"; refine w_raise ?_; walk_at "w"; exact out _ (Ex.refl _)
  · have wn := wds_len t
    have wl := W.len
    walk_at "w"
    refine w_callS ?_
    walk_at "w"
    refine w_m1 ?_
    walk_at "w"
    refine ⟨⟨_, rfl⟩, ?_⟩
    walk_at "w"
    refine r_split (by decide +kernel) (sz_of (by omega)) fun a H1 n1 e1 g1 => ?_
    walk_at "w"
    refine ⟨_, rfl, a, wds t, A, B, c, T, rfl, sq_of g1, by omega, fun w hw => Nat.le_trans (wds_mem hw) (by omega), W, fun hb dd H' e g => kX hb dd H' (e1.trans e) g, ?_⟩
    rintro rfl rfl p pa pb vsA vsB H2 e2 gp gA gB PA PB
    obtain ⟨kM, kR⟩ := kQ rfl rfl
    obtain ⟨sA, oA⟩ := runs_sum W.ra
    obtain ⟨sB, oB⟩ := runs_sum W.rb
    have glv : gl A B true = A.length + (B.length + 1) := by unfold gl; rw [if_pos rfl]
    have lA : (runs A).length = A.length := List.length_map ..
    have lB : (runs B).length = B.length := List.length_map ..
    have zA := PA.len
    have zB := PB.len
    have wl' : (wds t).length = gl A B true := by rw [wl]; rfl
    refine w_glst (sq_of gp) rfl ?_
    walk_at "w"
    refine i_seqL ?_
    walk_at "w"
    refine w_xcatL gA gB (sz_of (by omega)) fun q H3 n3 e3 g3 => ?_
    have gA3 := e3 _ _ gA
    have gB3 := e3 _ _ gB
    have PP : Prs K H3 (vsA ++ vsB) (runs A ++ runs B) := (PA.ex e3).app (PB.ex e3)
    refine i_xL (sq_of g3) ?_
    refine lcJ_prs (fun _ m => .int m) (sq_of g3) PP (by rw [List.length_append]; omega) (fun n m => [some (.str t), some (.ref pa), some (.ref pb), some (.str n), some (.int m)]) (fun n m => rfl) (fun n m b H4 R hb hR => ?_) (fun n m H4 Q' e4 hm hq => ?_) (fun p4 H4 n4 e4 g4 => ?_)
    · exact w_gtup hb rfl (w_gcons (w_gcons (w_gnil hR)))
    · walk_at "w"
      exact hq _ (Ex.refl _)
    walk_at "w"
    have sums : ((runs A ++ runs B).map fun r => V.int r.2) = (((runs A).map (·.2)) ++ ((runs B).map (·.2))).map V.int := by rw [← List.map_append, List.map_map]; rfl
    rw [sums] at g4
    refine r_sumL (sq_of g4) ?_
    rw [List.sum_append, sA, sB]
    walk_at "w"
    have e04 := ((e1.trans e2).trans e3).trans e4
    by_cases cm : 20000 < smW A + smW B
    · walk_at "w"
      refine w_raise ?_
      walk_at "w"
      refine r_mkOS E.ox_TooMany E.xs_TooMany E.nf_TooMany_word (by decide +kernel) fun dd H' n e g => ?_
      exact kM cm dd H' (e04.trans e) g
    · have lsA := spreadW_len W.ra
      have lsB := spreadW_len W.rb
      have nnA := smW_nn A
      have nnB := smW_nn B
      walk_at "w"
      refine ⟨pa, vsA, runs A, rfl, sq_of (e4 _ _ gA3), (PA.ex e3).ex e4, by omega, fun r hr => by have := oA r hr; omega, (by show (spreadW A).length ≤ 100000; omega), fun qa H5 n5 e5 g5 => ?_⟩
      walk_at "w"
      refine ⟨pb, vsB, runs B, rfl, sq_of (e5 _ _ (e4 _ _ gB3)), ((PB.ex e3).ex e4).ex e5, by omega, fun r hr => by have := oB r hr; omega, (by show (spreadW B).length ≤ 100000; omega), fun qb H6 n6 e6 g6 => ?_⟩
      walk_at "w"
      refine mk_ros rfl ⟨qa, rfl, .inl (sq_of (e6 _ _ g5)), (by show (spreadW A).length ≤ 50000; omega), spreadW_ok W.ra⟩ ⟨qb, rfl, .inl (sq_of g6), (by show (spreadW B).length ≤ 50000; omega), spreadW_ok W.rb⟩ fun x H7 e7 ros => ?_
      exact kR cm x H7 (((e04.trans e5).trans e6).trans e7) ros

end
section
theorem kEqS (K : PySem.W.Frag) {X : Cx} {a : Addr} {pn : List (Addr × Obj)} {j : Nat} (hr : Room j X.A) (h : X.K = K := by rfl) : OpR (X.suite a pn) (compareOp .Eq) (rEqU K) := by
  subst h
  exact op_eq.or (op_eqD (by have := hr.un; show X.A.units + 64 < cLine; omega))
/-- what the program tells for a text: place, many, or a roster's parts -/
abbrev spLRd (K : PySem.W.Frag) : Sp := sp1 fun v H Q _ =>
  ((∃ d, Dp K H v d ∧ dIsS d = false) ∧ ∀ p H', Ex H H' → SqT K H' p [.str "place", .int (-1)] → Q (.ref p) H') ∨
  ∃ (t : Str) (A B : List Str) (c : Bool) (T : List Str), v = .str t ∧ t.length ≤ 90000 ∧ Wds (wds t) A B c T ∧
  (T ≠ [] ∨ c = false → ∀ p H', Ex H H' → SqT K H' p [.str "place", .int (gl A B c : Nat)] → Q (.ref p) H') ∧
  (T = [] → c = true → (20000 < smW A + smW B → ∀ p H', Ex H H' → SqT K H' p [.str "many"] → Q (.ref p) H') ∧
    (¬ 20000 < smW A + smW B → ∀ p a b H', Ex H H' → SqT K H' p [.str "roster", .ref a, .ref b] → SqT K H' a ((spreadW A).map V.str) → SqT K H' b ((spreadW B).map V.str) → Q (.ref p) H'))
abbrev N__law_read : List Str := ["text", "roster", "error"]
theorem sc__law_read : FnScope N__law_read ["text"] (defScope s__law_read) := ⟨rfl, rfl, rfl, by decide +kernel, rfl, by decide +kernel, by decide +kernel⟩
theorem ok__law_read {P : Program} {w : World} {K : PySem.W.Frag} {mg : Str → Option Value} {base : Heap} (E : Env P K mg) : Fn P w K mg base CX0 12 "_law_read" (spLRd K) := by
  obtain ⟨fd, F⟩ := E.dd__law_read
  refine Fn.mk0 F E.g__law_read sc__law_read sp1_len (fun _ _ _ _ _ _ us hl => match us, hl with | [_], _ => rfl) (fun cdv A outer s H vs Q X hr h => ?_)
  have nd := sc__law_read.nd
  obtain ⟨v0, rfl, h⟩ := h
  refine ⟨_, (pss_one (ptryas2 K (i := 2) rfl rfl nd rfl rfl ⟨rfl, rfl, .inl E.g_BadText⟩ ⟨rfl, rfl, .inl E.g_TooMany⟩ (fun W pn xe tk =>
   (pss_cons (ps_set (i := 1) nd rfl (.inl rfl) (pcS (ok_read_roster E) hr (by decide) tk rfl (pa_cons (pv 0) pa_nil)))
  (pss_one (ps_ret (pe_ifExp (kTru K (pe_callB (kIsi K) (by rfl) E.f_isinstance (by decide +kernel) (pa_cons (pv 1) (pa_cons (pe_glob (v := .ref (He.ga K "Roster")) (by rfl) E.g_Roster rfl) pa_nil))) (by intro _; rfl)) (pe_tup (pa_cons (pe_str) (pa_cons (kFld K (pv 1) rfl) (pa_cons (kFld K (pv 1) rfl) pa_nil)))) (pe_tup (pa_cons (pe_str) pa_nil))))))) (fun a oe cls d pn hz hf =>
   (pss_one (ps_ret (pe_ifExp (kTru K (pe_callB (kIsEd K E.xc_BadText hz hf) (by rfl) E.f_isinstance (by decide +kernel) (pa_cons (pv 2) (pa_cons (pe_glob (v := .ref (He.ga K "Unreadable")) (by rfl) E.g_Unreadable rfl) pa_nil))) (by intro _; rfl)) (pe_tup (pa_cons (pe_str) (pa_cons (pe_xf E.xf_BadText E.nf_BadText_place hz hf (pv 2)) pa_nil))) (pe_tup (pa_cons (pe_str) pa_nil)))))) (fun a oe cls d pn hz hf =>
   (pss_one (ps_ret (pe_ifExp (pt_cmpR (kEqS K hr) (pe_xf E.xf_TooMany E.nf_TooMany_word hz hf (pv 2)) (pe_str) (nomark _)) (pe_tup (pa_cons (pe_str) pa_nil)) (pe_tup (pa_cons (pe_str) pa_nil)))))))), ?_⟩
  change (_ : TS) _ [some v0, none, none] H
  try dsimp only [cxOf, Cx.nox, Cx.blk]
  refine w_tryAs2 ?_
  walk_at "w"
  refine w_callS ?_
  walk_at "w"
  refine ⟨_, rfl, ?_⟩
  rcases h with ⟨hd, k⟩ | ⟨t, A, B, c, T, rfl, tz, W, kX, kQ⟩
  · refine .inl ⟨hd, fun dd H1 e1 g1 => ?_⟩
    refine w_mas1 E.xe_BadText fun ae na => ?_
    dsimp only [List.set]
    walk_at "w"
    refine r_isEd g1 E.kit_Unreadable_BadText ?_
    walk_at "w"
    refine w_xf (fs := []) (v := .non) ?_
    walk_at "w"
    refine ⟨rfl, rfl, dd, _, .int (-1), rfl, g1, by simp only [List.lookup, beq_self_eq_true], ?_⟩
    walk_at "w"
    exact fun p H2 _ e2 g2 => k p H2 (e1.trans e2) (st_of g2)
  · refine .inr ⟨t, A, B, c, T, rfl, tz, W, fun hb dd H1 e1 g1 => ?_, fun hT hc => ⟨fun hm dd H1 e1 g1 => ?_, fun hm x H1 e1 ros => ?_⟩⟩
    · refine w_mas1 E.xe_BadText fun ae na => ?_
      dsimp only [List.set]
      walk_at "w"
      refine r_isEd g1 E.kit_Unreadable_BadText ?_
      walk_at "w"
      refine w_xf (fs := []) (v := .non) ?_
      walk_at "w"
      refine ⟨rfl, rfl, dd, _, .int (gl A B c : Nat), rfl, g1, by simp only [List.lookup, beq_self_eq_true], ?_⟩
      walk_at "w"
      exact fun p H2 _ e2 g2 => kX hb p H2 (e1.trans e2) (st_of g2)
    · refine w_mas0 E.xn_TooMany_BadText (w_mas1 E.xe_TooMany fun ae na => ?_)
      dsimp only [List.set]
      walk_at "w"
      refine w_xf (fs := []) (v := .non) ?_
      walk_at "w"
      refine ⟨rfl, rfl, dd, _, .str "name", rfl, g1, by simp only [List.lookup, beq_self_eq_true], ?_⟩
      walk_at "w"
      refine r_eqSS ?_
      rw [decide_eq_true rfl]
      walk_at "w"
      exact fun p H2 _ e2 g2 => (kQ hT hc).1 hm p H2 (e1.trans e2) (st_of g2)
    · walk_at "w"
      refine r_isiC (insB_ok E.ins_Roster E.c_Roster (ros_mine ros).choose_spec.choose_spec) E.kit_Roster_self ?_
      walk_at "w"
      refine r_rosFirst E ros fun a _ sa => ?_
      walk_at "w"
      refine r_rosThen E ros fun b _ sb => ?_
      walk_at "w"
      exact fun p H2 _ e2 g2 => (kQ hT hc).2 hm p a b H2 (e1.trans e2) (st_of g2) (ex_t e2 sa) (ex_t e2 sb)
theorem ev_two (x y : PyData) : PyData.eqv (.tuple [x, y]) (.tuple [x, y]) = (PyData.eqv x x && (PyData.eqv y y && true)) := rfl
theorem ev_three (x y z : PyData) : PyData.eqv (.tuple [x, y, z]) (.tuple [x, y, z]) = (PyData.eqv x x && (PyData.eqv y y && (PyData.eqv z z && true))) := rfl
theorem ev_int (n : Int) : PyData.eqv (.int n) (.int n) = true := by
  show (n == n) = true
  exact beq_self_eq_true n
theorem ev_str (w : Str) : PyData.eqv (.str w) (.str w) = true := by rw [eqv_str, decide_eq_true rfl]
theorem ev_strs (ws : List Str) : PyData.eqv (.tuple (ws.map .str)) (.tuple (ws.map .str)) = true := by
  show PyData.eqvAll (ws.map .str) (ws.map .str) = true
  rw [eqv_strs, decide_eq_true rfl]
section
variable {K : PySem.W.Frag} {H : Hp} {p q a b c d : Addr} {Q : VK} {n : Int} {w : Str} {xs ys : List Str}
theorem sh_place (hw : (PyData.str w).canLay0 = true) : SeqAt.shaped (.tuple [.str w, .int n]) = true := by
  show (PyData.canLayAll0 [.str w, .int n] && _) = true
  rw [show PyData.canLayAll0 [.str w, .int n] = true by show ((PyData.str w).canLay0 && _) = true; rw [hw]; rfl]
  rfl
theorem r_eqPl (hp : SqT K H p [.str "place", .int n]) (hq : SqT K H q [.str "place", .int n]) (h : Q (.bl true) H) : rEqU K (.ref p) (.ref q) H Q :=
  r_eqD (.tup hp (.cons (.str _) (.cons (.int _) .nil))) (.tup hq (.cons (.str _) (.cons (.int _) .nil))) (sh_place (by decide +kernel)) (sh_place (by decide +kernel)) (by rw [ev_two, ev_str, ev_int]; exact h)
theorem r_eqMn (hp : SqT K H p [.str "many"]) (hq : SqT K H q [.str "many"]) (h : Q (.bl true) H) : rEqU K (.ref p) (.ref q) H Q :=
  r_eqD (.tup hp (.cons (.str _) .nil)) (.tup hq (.cons (.str _) .nil)) (by decide +kernel) (by decide +kernel) (by rw [show PyData.eqv (.tuple [.str "many"]) (.tuple [.str "many"]) = true by decide +kernel]; exact h)
theorem sh_ros (hx : ∀ w ∈ xs, okW w = true) (hy : ∀ w ∈ ys, okW w = true) : SeqAt.shaped (.tuple [.str "roster", .tuple (xs.map .str), .tuple (ys.map .str)]) = true := by
  obtain ⟨a1, a2⟩ := strs_lay hx
  obtain ⟨b1, b2⟩ := strs_lay hy
  show ((PyData.canLay0 (.str "roster") && (PyData.canLay0 (.tuple (xs.map .str)) && (PyData.canLay0 (.tuple (ys.map .str)) && true))) && decide (max 0 (max (PyData.depthAll (xs.map .str) + 1) (max (PyData.depthAll (ys.map .str) + 1) 0)) + 1 ≤ 64)) = true
  rw [a2, b2, show PyData.canLay0 (.tuple (xs.map .str)) = true from a1, show PyData.canLay0 (.tuple (ys.map .str)) = true from b1]
  decide +kernel
theorem r_eqRs (hp : SqT K H p [.str "roster", .ref a, .ref b]) (ha : SqT K H a (xs.map V.str)) (hb : SqT K H b (ys.map V.str)) (hq : SqT K H q [.str "roster", .ref c, .ref d]) (hc : SqT K H c (xs.map V.str)) (hd : SqT K H d (ys.map V.str))
    (hx : ∀ w ∈ xs, okW w = true) (hy : ∀ w ∈ ys, okW w = true) (h : Q (.bl true) H) : rEqU K (.ref p) (.ref q) H Q :=
  r_eqD (.tup hp (.cons (.str _) (.cons (dp_of_strs ha) (.cons (dp_of_strs hb) .nil)))) (.tup hq (.cons (.str _) (.cons (dp_of_strs hc) (.cons (dp_of_strs hd) .nil)))) (sh_ros hx hy) (sh_ros hx hy) (by rw [ev_three, ev_str, ev_strs, ev_strs]; exact h)
end
abbrev N__law_right : List Str := ["text", "due"]
theorem sc__law_right : FnScope N__law_right ["text"] (defScope s__law_right) := ⟨rfl, rfl, rfl, by decide +kernel, rfl, by decide +kernel, by decide +kernel⟩
theorem ok__law_right {P : Program} {w : World} {K : PySem.W.Frag} {mg : Str → Option Value} {base : Heap} (E : Env P K mg) : Fn P w K mg base CX0 13 "_law_right" (sp1 fun v H Q _ => ∃ t : Str, v = .str t ∧ t.length ≤ 90000 ∧ ∀ H', Ex H H' → Q (.bl true) H') := by
  obtain ⟨fd, F⟩ := E.dd__law_right
  refine Fn.mk0 F E.g__law_right sc__law_right sp1_len (fun _ _ _ _ _ _ us hl => match us, hl with | [_], _ => rfl) (fun cdv A outer s H vs Q X hr h => ?_)
  have nd := sc__law_right.nd
  obtain ⟨v0, rfl, h⟩ := h
  refine ⟨_, (pss_cons (ps_set (i := 1) nd rfl (.inl rfl) (pc (ok__law_due E) hr (by decide) pass0 rfl (pa_cons (pv 0) pa_nil)))
  (pss_cut (ps_if (pt_cmpR (kEq K hr) (pe_ix (kIx K) (pv 1) (pe_int) (fun _ _ => rfl)) (pe_str) (nomark _))
   (pss_one (ps_set (i := 1) nd rfl (.inl rfl) (pe_tup (pa_cons (pe_str) (pa_cons (pc (ok__law_spread E) hr (by decide) pass0 rfl (pa_cons (pe_ix (kIx K) (pv 1) (pe_int) (fun _ _ => rfl)) pa_nil)) (pa_cons (pc (ok__law_spread E) hr (by decide) pass0 rfl (pa_cons (pe_ix (kIx K) (pv 1) (pe_int) (fun _ _ => rfl)) pa_nil)) pa_nil))))))
   pss_nil)
  (pss_one (ps_ret (pe_cmpR (kEq K hr) (pc (ok__law_read E) hr (by decide) pass0 rfl (pa_cons (pv 0) pa_nil)) (pv 1) (nomark _)))))), ?_⟩
  change (_ : TS) _ [some v0, none] H
  try dsimp only [cxOf, Cx.nox, Cx.blk]
  obtain ⟨t, rfl, tz, k⟩ := h
  obtain ⟨A, B, c, T, W⟩ := wds_ex (wds t)
  have wn := wds_len t
  have wl := W.len
  have np : decide (("place" : Str) = "roster") = false := by decide +kernel
  have nm : decide (("many" : Str) = "roster") = false := by decide +kernel
  by_cases hb : T ≠ [] ∨ c = false
  · walk_at "w"
    refine ⟨t, A, B, c, T, rfl, tz, W, fun _ p H1 e1 s1 => ?_, fun h1 h2 => (hb.elim (fun h => h h1) fun h => by rw [h] at h2; cases h2).elim⟩
    walk_at "w"
    refine w_cut (M := fun σ' H' => σ' = [some (.str t), some (.ref p)] ∧ H' = H1) ?_ ?_
    · walk_at "w"
      refine r_eqSS ?_
      rw [np]
      walk_at "w"
      exact ⟨rfl, rfl⟩
    rintro σ' H' ⟨rfl, rfl⟩
    walk_at "w"
    refine .inr ⟨t, A, B, c, T, rfl, tz, W, fun _ q H2 e2 s2 => ?_, fun h1 h2 => (hb.elim (fun h => h h1) fun h => by rw [h] at h2; cases h2).elim⟩
    walk_at "w"
    refine r_eqPl s2 (ex_t e2 s1) ?_
    exact k _ (e1.trans e2)
  · have t0 : T = [] := Classical.byContradiction fun h => hb (.inl h)
    have c0 : c = true := by
      cases c with
      | true => rfl
      | false => exact absurd (.inr rfl) hb
    subst t0 c0
    have glv : gl A B true = A.length + (B.length + 1) := by unfold gl; rw [if_pos rfl]
    have wl' : (wds t).length = gl A B true := by rw [wl]; rfl
    have mA : ∀ w ∈ A, w ∈ wds t := fun w hw => by rw [W.e]; exact List.mem_append_left _ hw
    have mB : ∀ w ∈ B, w ∈ wds t := fun w hw => by rw [W.e]; exact List.mem_append_right _ (List.mem_append_right _ (List.mem_append_left _ hw))
    by_cases cm : 20000 < smW A + smW B
    · walk_at "w"
      refine ⟨t, A, B, true, [], rfl, tz, W, fun h => absurd h hb, fun _ _ => ⟨fun _ p H1 e1 s1 => ?_, fun h => absurd cm h⟩⟩
      walk_at "w"
      refine w_cut (M := fun σ' H' => σ' = [some (.str t), some (.ref p)] ∧ H' = H1) ?_ ?_
      · walk_at "w"
        refine r_eqSS ?_
        rw [nm]
        walk_at "w"
        exact ⟨rfl, rfl⟩
      rintro σ' H' ⟨rfl, rfl⟩
      walk_at "w"
      refine .inr ⟨t, A, B, true, [], rfl, tz, W, fun h => absurd h hb, fun _ _ => ⟨fun _ q H2 e2 s2 => ?_, fun h => absurd cm h⟩⟩
      walk_at "w"
      refine r_eqMn s2 (ex_t e2 s1) ?_
      exact k _ (e1.trans e2)
    · have lsA := spreadW_len W.ra
      have lsB := spreadW_len W.rb
      have nnA := smW_nn A
      have nnB := smW_nn B
      walk_at "w"
      refine ⟨t, A, B, true, [], rfl, tz, W, fun h => absurd h hb, fun _ _ => ⟨fun h => absurd h cm, fun _ p pa pb H1 e1 s1 sA sB => ?_⟩⟩
      walk_at "w"
      refine w_cut (M := fun σ' H' => ∃ p2 a b, σ' = [some (.str t), some (.ref p2)] ∧ Ex H1 H' ∧ SqT K H' p2 [.str "roster", .ref a, .ref b] ∧ SqT K H' a ((spreadW A).map V.str) ∧ SqT K H' b ((spreadW B).map V.str)) ?_ ?_
      · walk_at "w"
        refine r_eqSS ?_
        rw [decide_eq_true rfl]
        walk_at "w"
        refine ⟨pa, A, rfl, sA, by omega, fun w hw => ⟨W.ra w hw, Nat.le_trans (wds_mem (mA w hw)) (by omega)⟩, by omega, fun a H2 e2 s2 => ?_⟩
        walk_at "w"
        refine ⟨pb, B, rfl, ex_l e2 sB, by omega, fun w hw => ⟨W.rb w hw, Nat.le_trans (wds_mem (mB w hw)) (by omega)⟩, by omega, fun b H3 e3 s3 => ?_⟩
        walk_at "w"
        intro q H4 n4 e4 g4
        walk_at "w"
        exact ⟨q, a, b, rfl, (e2.trans e3).trans e4, st_of g4, ex_t (e3.trans e4) s2, ex_t e4 s3⟩
      rintro σ' H' ⟨p2, a, b, rfl, e, s0, sa, sb⟩
      walk_at "w"
      refine .inr ⟨t, A, B, true, [], rfl, tz, W, fun h => absurd h hb, fun _ _ => ⟨fun h => absurd h cm, fun _ q c d H2 e2 s2 sc sd => ?_⟩⟩
      walk_at "w"
      refine r_eqRs s2 sc sd (ex_t e2 s0) (ex_t e2 sa) (ex_t e2 sb) (spreadW_ok W.ra) (spreadW_ok W.rb) ?_
      exact k _ ((e1.trans e).trans e2)

end
section
/-- one more name in runs -/
def addR (rs : List (Str × Int)) (n : Str) : List (Str × Int) := match rs.getLast? with
  | some r => if r.1 = n then rs.dropLast ++ [(n, r.2 + 1)] else rs ++ [(n, 1)]
  | none => [(n, 1)]
/-- the runs of equal names -/
def rls (ws : List Str) : List (Str × Int) := ws.foldl addR []
theorem rls_take {ws : List Str} {i : Nat} {w : Str} (h : ws[i]? = some w) : rls (ws.take (i + 1)) = addR (rls (ws.take i)) w := by
  unfold rls
  rw [List.take_add_one, h, List.foldl_append]
  rfl
theorem addR_nil (w : Str) : addR [] w = [(w, 1)] := rfl
theorem addR_eq (rs : List (Str × Int)) (w : Str) (k : Int) : addR (rs ++ [(w, k)]) w = rs ++ [(w, k + 1)] := by
  unfold addR
  rw [List.getLast?_concat]
  show (if w = w then (rs ++ [(w, k)]).dropLast ++ [(w, k + 1)] else _) = _
  rw [if_pos rfl, List.dropLast_concat]
theorem addR_ne (rs : List (Str × Int)) {m w : Str} (k : Int) (h : ¬ m = w) : addR (rs ++ [(m, k)]) w = rs ++ [(m, k)] ++ [(w, 1)] := by
  unfold addR
  rw [List.getLast?_concat]
  show (if m = w then _ else (rs ++ [(m, k)]) ++ [(w, 1)]) = _
  rw [if_neg h]
theorem snoc_cases {α : Type} (l : List α) : l = [] ∨ ∃ r x, l = r ++ [x] := by
  by_cases h : l = []
  · exact .inl h
  · exact .inr ⟨_, _, (List.dropLast_concat_getLast h).symm⟩
theorem spreadR_app (a b : List (Str × Int)) : spreadR (a ++ b) = spreadR a ++ spreadR b := by
  unfold spreadR
  rw [List.flatMap_append]
theorem spreadR_one (n : Str) (k : Int) : spreadR [(n, k)] = List.replicate k.toNat n := by
  unfold spreadR
  rw [List.flatMap_cons, List.flatMap_nil, List.append_nil]
structure RlsOk (ws : List Str) (rs : List (Str × Int)) : Prop where
  sp : spreadR rs = ws
  lo : ∀ r ∈ rs, 1 ≤ r.2
  nm : ∀ r ∈ rs, r.1 ∈ ws
theorem RlsOk.add {ws : List Str} {rs : List (Str × Int)} (h : RlsOk ws rs) (w : Str) : RlsOk (ws ++ [w]) (addR rs w) := by
  rcases snoc_cases rs with rfl | ⟨r, ⟨m, k⟩, rfl⟩
  · have := h.sp
    refine ⟨?_, fun x hx => ?_, fun x hx => ?_⟩
    · rw [← this, addR_nil, spreadR_one]
      rfl
    · rw [addR_nil, List.mem_singleton] at hx; rw [hx]; exact Int.le_refl 1
    · rw [addR_nil, List.mem_singleton] at hx; rw [hx]; exact List.mem_append_right _ List.mem_cons_self
  · have l1 := h.lo (m, k) (List.mem_append_right _ List.mem_cons_self)
    by_cases c : m = w
    · subst c
      rw [addR_eq]
      refine ⟨?_, fun x hx => ?_, fun x hx => ?_⟩
      · rw [← h.sp, spreadR_app, spreadR_app, spreadR_one, spreadR_one, show (k + 1).toNat = k.toNat + 1 by have : 1 ≤ k := l1; omega, List.replicate_succ', List.append_assoc]
      · rcases List.mem_append.mp hx with hx | hx
        · exact h.lo x (List.mem_append_left _ hx)
        · rw [List.mem_singleton] at hx; rw [hx]; show 1 ≤ k + 1; have : 1 ≤ k := l1; omega
      · rcases List.mem_append.mp hx with hx | hx
        · exact List.mem_append_left _ (h.nm x (List.mem_append_left _ hx))
        · rw [List.mem_singleton] at hx; rw [hx]; exact List.mem_append_right _ List.mem_cons_self
    · rw [addR_ne _ _ c]
      refine ⟨?_, fun x hx => ?_, fun x hx => ?_⟩
      · rw [spreadR_app _ [(w, 1)], h.sp, spreadR_one]
        rfl
      · rcases List.mem_append.mp hx with hx | hx
        · exact h.lo x hx
        · rw [List.mem_singleton] at hx; rw [hx]; exact Int.le_refl 1
      · rcases List.mem_append.mp hx with hx | hx
        · exact List.mem_append_left _ (h.nm x hx)
        · rw [List.mem_singleton] at hx; rw [hx]; exact List.mem_append_right _ List.mem_cons_self
theorem rls_ok (ws : List Str) : RlsOk ws (rls ws) := by
  have key : ∀ i, i ≤ ws.length → RlsOk (ws.take i) (rls (ws.take i)) := by
    intro i
    induction i with
    | zero => intro _; rw [List.take_zero]; exact ⟨rfl, fun _ h => (List.not_mem_nil h).elim, fun _ h => (List.not_mem_nil h).elim⟩
    | succ i ih =>
      intro hi
      have hw : ws[i]? = some ws[i] := List.getElem?_eq_getElem hi
      rw [rls_take hw, List.take_add_one, hw]
      exact (ih (by omega)).add _
  have := key ws.length (Nat.le_refl _)
  rwa [List.take_length] at this
theorem spreadR_many : ∀ {rs : List (Str × Int)}, (∀ r ∈ rs, 1 ≤ r.2) → rs.length ≤ (spreadR rs).length ∧ ∀ r ∈ rs, r.2 ≤ ((spreadR rs).length : Nat)
  | [], _ => ⟨Nat.le_refl _, fun _ h => (List.not_mem_nil h).elim⟩
  | (n, k) :: rs, h => by
    obtain ⟨a, b⟩ := spreadR_many fun r hr => h r (List.mem_cons_of_mem _ hr)
    have k1 : 1 ≤ k := h (n, k) List.mem_cons_self
    have e : (spreadR ((n, k) :: rs)).length = k.toNat + (spreadR rs).length := by
      unfold spreadR
      rw [List.flatMap_cons, List.length_append, List.length_replicate]
    rw [e]
    refine ⟨by rw [List.length_cons]; omega, fun r hr => ?_⟩
    rcases List.mem_cons.mp hr with rfl | hr
    · show k ≤ _; omega
    · have := b r hr; omega
/-- the word of a run -/
def wordOf (n : Str) (m : Int) : Str := if m = 1 then n else nS m ++ n
theorem okW_parts {n : Str} (h : okW n = true) : 1 ≤ n.length ∧ n.length ≤ 8 ∧ ∀ c ∈ n.cps.toList, 97 ≤ c ∧ c ≤ 122 := by
  obtain ⟨h1, h2⟩ := Bool.and_eq_true_iff.mp (show ((decide (1 ≤ (n.length : Int)) && decide ((n.length : Int) ≤ 8)) && n.cps.toList.all lwr) = true from h)
  obtain ⟨h3, h4⟩ := Bool.and_eq_true_iff.mp h1
  have a := of_decide_eq_true h3
  have b := of_decide_eq_true h4
  refine ⟨by omega, by omega, fun c hc => ?_⟩
  have := List.all_eq_true.mp h2 c hc
  unfold lwr at this
  rw [Bool.and_eq_true_iff] at this
  exact ⟨of_decide_eq_true this.1, of_decide_eq_true this.2⟩
theorem dg_low {c : Nat} (h : 97 ≤ c) : dg c = false := by
  unfold dg
  rw [decide_eq_false (show ¬ c ≤ 57 by omega), Bool.and_false]
theorem take_dg {a b : List Nat} (ha : ∀ c ∈ a, dg c = true) (hb : ∀ c ∈ b, dg c = false) : (a ++ b).takeWhile dg = a ∧ (a ++ b).dropWhile dg = b := by
  induction a with
  | nil =>
    cases b with
    | nil => exact ⟨rfl, rfl⟩
    | cons c r =>
      have := hb c List.mem_cons_self
      rw [List.nil_append, List.takeWhile_cons, List.dropWhile_cons, this]
      exact ⟨rfl, rfl⟩
  | cons c a ih =>
    have := ha c List.mem_cons_self
    obtain ⟨i1, i2⟩ := ih fun x hx => ha x (List.mem_cons_of_mem _ hx)
    rw [List.cons_append, List.takeWhile_cons, List.dropWhile_cons, this, if_pos rfl, if_pos rfl, i1, i2]
    exact ⟨rfl, rfl⟩
theorem word_list {n : Str} {m : Int} (h : 1 ≤ m) : (wordOf n m).cps.toList = (if m = 1 then [] else TL.numL m.toNat) ++ n.cps.toList := by
  unfold wordOf
  by_cases c : m = 1
  · rw [if_pos c, if_pos c]; rfl
  · rw [if_neg c, if_neg c]
    show TL.tl (nS m ++ n) = _
    rw [TL.tl_append]
    obtain ⟨k, rfl⟩ := Int.eq_ofNat_of_zero_le (show 0 ≤ m by omega)
    rw [show TL.tl (nS (k : Int)) = TL.numL k from nS_list k]
    rfl
theorem numL_dg (k : Nat) : ∀ c ∈ TL.numL k, dg c = true := fun c hc => by
  have := TL.numL_digits k c hc
  unfold dg
  rw [decide_eq_true this.1, decide_eq_true this.2]
  rfl
theorem word_parts {n : Str} {m : Int} (h : 1 ≤ m) (ok : okW n = true) : figL (wordOf n m) = (if m = 1 then [] else TL.numL m.toNat) ∧ namS (wordOf n m) = n := by
  obtain ⟨_, _, low⟩ := okW_parts ok
  have hd : ∀ c ∈ (if m = 1 then [] else TL.numL m.toNat), dg c = true := fun c hc => by
    by_cases q : m = 1
    · rw [if_pos q] at hc; exact (List.not_mem_nil hc).elim
    · rw [if_neg q] at hc; exact numL_dg _ c hc
  obtain ⟨t1, t2⟩ := take_dg hd fun c hc => dg_low (low c hc).1
  rw [← word_list h] at t1 t2
  refine ⟨t1, TL.ext_tl ?_⟩
  show namL (wordOf n m) = _
  exact t2
theorem numL_head1 {k : Nat} (h : 1 ≤ k) : ¬ (TL.numL k)[0]? = some 48 := by
  induction k using Nat.strongRecOn with
  | _ k ih =>
    by_cases c : k < 10
    · rw [TL.numL_lt c]
      intro e
      have := Option.some.inj (show some (48 + k) = some 48 from e)
      omega
    · rw [TL.numL_step (by omega)]
      have l0 := List.length_pos_iff.mpr (TL.numL_ne (k / 10))
      rw [List.getElem?_append_left l0]
      exact ih (k / 10) (by omega) (by omega)
theorem word_run {n : Str} {m : Int} (h : 1 ≤ m) (h2 : m ≤ 99999) (ok : okW n = true) : runO (wordOf n m) = some (n, m) := by
  obtain ⟨f1, f2⟩ := word_parts h ok
  unfold runO figV
  rw [f1, f2]
  by_cases c : m = 1
  · rw [if_pos c, if_pos ⟨ok, by decide⟩, if_pos rfl, c]
  · rw [if_neg c]
    have k1 : 1 ≤ m.toNat := by omega
    have l5 : (TL.numL m.toNat).length ≤ 5 := TL.numL_len (by decide) (by omega)
    rw [if_pos ⟨ok, l5⟩, if_neg (TL.numL_ne _), if_neg]
    · rw [TL.numL_val]
      congr 2
      omega
    · rintro (e | e)
      · exact numL_head1 k1 e
      · have v := TL.numL_val m.toNat
        rw [e] at v
        have : NumText.digitsVal [49] = 1 := rfl
        omega
theorem word_len {n : Str} {m : Int} (h : 1 ≤ m) (h2 : m ≤ 99999) (ok : okW n = true) : (wordOf n m).length ≤ 13 := by
  obtain ⟨_, l8, _⟩ := okW_parts ok
  rw [← len_list, word_list h, List.length_append, len_list]
  by_cases c : m = 1
  · rw [if_pos c]; show 0 + _ ≤ 13; omega
  · rw [if_neg c]
    have l5 : (TL.numL m.toNat).length ≤ 5 := TL.numL_len (by decide) (by omega)
    omega
theorem word_free {n : Str} {m : Int} (h : 1 ≤ m) (ok : okW n = true) : 32 ∉ TL.tl (wordOf n m) := by
  obtain ⟨_, _, low⟩ := okW_parts ok
  show 32 ∉ (wordOf n m).cps.toList
  rw [word_list h]
  intro q
  rcases List.mem_append.mp q with q | q
  · by_cases c : m = 1
    · rw [if_pos c] at q; exact (List.not_mem_nil q).elim
    · rw [if_neg c] at q; exact TL.numL_free (.inl (by decide)) q
  · have := low _ q; omega
/-- words of runs -/
def wof (rs : List (Str × Int)) : List Str := rs.map fun r => wordOf r.1 r.2
def RsOk (rs : List (Str × Int)) : Prop := ∀ r ∈ rs, 1 ≤ r.2 ∧ r.2 ≤ 99999 ∧ okW r.1 = true
theorem wof_run {rs : List (Str × Int)} (h : RsOk rs) : runs (wof rs) = rs ∧ ∀ w ∈ wof rs, runO w ≠ none ∧ w.length ≤ 13 ∧ 32 ∉ TL.tl w := by
  induction rs with
  | nil => exact ⟨rfl, fun _ h => (List.not_mem_nil h).elim⟩
  | cons r rs ih =>
    obtain ⟨i1, i2⟩ := ih fun x hx => h x (List.mem_cons_of_mem _ hx)
    obtain ⟨a, b, c⟩ := h r List.mem_cons_self
    have e := word_run a b c
    refine ⟨?_, fun w hw => ?_⟩
    · show run1 (wordOf r.1 r.2) :: runs (wof rs) = _
      rw [i1]
      unfold run1
      rw [e]
      rfl
    · rcases List.mem_cons.mp hw with rfl | hw
      · refine ⟨?_, word_len a b c, word_free a c⟩
        rw [e]
        exact fun q => nomatch q
      · exact i2 w hw
theorem rls_rs {ws : List Str} (hz : ws.length ≤ 50000) (ok : ∀ w ∈ ws, okW w = true) : RsOk (rls ws) ∧ spreadR (rls ws) = ws ∧ (rls ws).length ≤ ws.length := by
  have R := rls_ok ws
  obtain ⟨a, b⟩ := spreadR_many R.lo
  rw [R.sp] at a b
  exact ⟨fun r hr => ⟨R.lo r hr, by have := b r hr; omega, ok _ (R.nm r hr)⟩, R.sp, a⟩
theorem ix_last {vs : List V} {v : V} : ixN (vs ++ [v]).length (-1) = some vs.length := by
  rw [List.length_append, List.length_singleton]
  unfold ixN
  rw [if_neg (by decide), if_pos (by omega)]
  congr 1
  omega
theorem at_last {vs : List V} {v : V} : atI (vs ++ [v]) (-1) = some v := by
  unfold atI
  rw [ix_last]
  show (vs ++ [v])[vs.length]? = some v
  rw [List.getElem?_append_right (Nat.le_refl _), Nat.sub_self]
  rfl
theorem set_last {vs : List V} {v u : V} : (vs ++ [v]).set vs.length u = vs ++ [u] := by
  rw [List.set_append_right _ _ (Nat.le_refl _), Nat.sub_self]
  rfl
theorem Prs.snoc {K : PySem.W.Frag} {H : Hp} {vs : List V} {rs : List (Str × Int)} {n : Str} {m : Int} (p : Prs K H vs (rs ++ [(n, m)])) : ∃ vs' b, vs = vs' ++ [.ref b] ∧ Prs K H vs' rs ∧ SqT K H b [.str n, .int m] := by
  induction rs generalizing vs with
  | nil =>
    cases p with
    | cons h r => cases r; exact ⟨[], _, rfl, .nil, h⟩
  | cons r rs ih =>
    cases p with
    | cons h q =>
      obtain ⟨vs', b, rfl, q1, q2⟩ := ih q
      exact ⟨_ :: vs', b, rfl, .cons h q1, q2⟩
abbrev spRuns (K : PySem.W.Frag) : Sp := sp1 fun v H Q _ => ∃ (p : Addr) (ws : List Str), v = .ref p ∧ SqE K H p (ws.map V.str) ∧ ws.length ≤ 50000 ∧
  ∀ q vs H', H q = none → Ex H H' → H' q = some (.lst vs) → Prs K H' vs (rls ws) → Q (.ref q) H'
abbrev N_runs_of : List Str := ["names", "told", "name"]
theorem sc_runs_of : FnScope N_runs_of ["names"] (defScope s_runs_of) := ⟨rfl, rfl, rfl, by decide +kernel, rfl, by decide +kernel, by decide +kernel⟩
theorem ok_runs_of {P : Program} {w : World} {K : PySem.W.Frag} {mg : Str → Option Value} {base : Heap} (E : Env P K mg) : Fn P w K mg base CX0 1 "runs_of" (spRuns K) := by
  obtain ⟨fd, F⟩ := E.dd_runs_of
  refine Fn.mk0 F E.g_runs_of sc_runs_of sp1_len (fun _ _ _ _ _ _ us hl => match us, hl with | [_], _ => rfl) (fun cdv A outer s H vs Q X hr h => ?_)
  have nd := sc_runs_of.nd
  obtain ⟨v0, rfl, h⟩ := h
  refine ⟨_, (pss_cons (ps_set (i := 1) nd rfl (.inl rfl) (pe_lst (pa_nil)))
  (pss_cons (ps_for PassesOwn.never rfl (kSeq K (pv 0)) (pg_name (i := 2) nd rfl (.inl rfl))
   (pss_one (ps_if (PW.pt (pw_and (pt_cmpR op_gt (pe_callB (kLen K) (by rfl) E.f_len (by decide +kernel) (pa_cons (pv 1) pa_nil)) (pe_int) (nomark _)) (pw_and1 (pt_cmpR (kEq K hr) (pe_ix (kIx K) (pe_ix (kIx K) (pv 1) (pe_un un_neg (pe_int)) (fun _ _ => rfl)) (pe_int) (fun _ _ => rfl)) (pv 2) (nomark _)))))
   (pss_one (ps_asg (pe_tup (pa_cons (pv 2) (pa_cons (pe_op (kAdd K) (pe_ix (kIx K) (pe_ix (kIx K) (pv 1) (pe_un un_neg (pe_int)) (fun _ _ => rfl)) (pe_int) (fun _ _ => rfl)) (pe_int)) pa_nil))) (pg_sub (pv 1) (pe_un un_neg (pe_int)) set_list)))
   (pss_one (ps_expr (kBM K (pe_bm PySem.F.plainAttrs_list PySem.F.slot_list_append PySem.F.type_list_append mt_append (pv 1) (pa_cons (pe_tup (pa_cons (pv 2) (pa_cons (pe_int) pa_nil))) pa_nil))))))))
  (pss_one (ps_ret (pv 1))))), ?_⟩
  change (_ : TS) _ [some v0, none, none] H
  try dsimp only [cxOf, Cx.nox, Cx.blk]
  obtain ⟨p, ws, rfl, hp, wz, k⟩ := h
  have R := rls_ok
  walk_at "w"
  intro q H1 n1 e1 g1
  walk_at "w"
  have fin : ∀ σ' H', (∃ (x : Option V) (vs : List V), σ' = [some (.ref p), some (.ref q), x] ∧ Ex H H' ∧ H' q = some (.lst vs) ∧ Prs K H' vs (rls (ws.take (ws.map V.str).length))) → tRet (tVar 1) { nx := fun _ H' => Q .non H', rt := Q } σ' H' := fun σ' H' ⟨x, vs, e0, e, g, P⟩ => by
    subst e0
    rw [List.length_map, List.take_length] at P
    walk_at "w"
    exact k q vs H' n1 e g P
  have h0 : ∃ (x : Option V) (vs : List V), [some (V.ref p), some (V.ref q), none] = [some (.ref p), some (.ref q), x] ∧ Ex H H1 ∧ H1 q = some (.lst vs) ∧ Prs K H1 vs (rls (ws.take 0)) := ⟨_, [], rfl, e1, g1, by rw [List.take_zero]; exact .nil⟩
  rcases hp with s | s
  case' inl =>
    refine i_seqL ?_
    walk_at "w"
    refine for_list (xs := ws.map V.str) (Pv := fun i σ' H' => ∃ (x : Option V) (vs : List V), σ' = [some (.ref p), some (.ref q), x] ∧ Ex H H' ∧ H' q = some (.lst vs) ∧ Prs K H' vs (rls (ws.take i))) h0 (fun i σ' H' _ h => by obtain ⟨_, _, _, e, _⟩ := h; exact ex_l e s) ?_ fin
  case' inr =>
    refine i_seqT ?_
    walk_at "w"
    refine for_tup (xs := ws.map V.str) (Pv := fun i σ' H' => ∃ (x : Option V) (vs : List V), σ' = [some (.ref p), some (.ref q), x] ∧ Ex H H' ∧ H' q = some (.lst vs) ∧ Prs K H' vs (rls (ws.take i))) h0 (fun i σ' H' _ h => by obtain ⟨_, _, _, e, _⟩ := h; exact ex_t e s) ?_ fin
  all_goals
    rintro i v σ' H' hv ⟨x, vs, rfl, e, g, P⟩
    rw [List.getElem?_map, Option.map_eq_some_iff] at hv
    obtain ⟨w, hw, rfl⟩ := hv
    have lv := P.len
    have ln : (rls (ws.take i)).length ≤ 50000 := by
      have := (spreadR_many (rls_ok (ws.take i)).lo).1
      rw [(rls_ok (ws.take i)).sp, List.length_take] at this
      omega
    have new : ∀ H2 b, Ex H' H2 → SqT K H2 b [.str w, .int 1] → addR (rls (ws.take i)) w = rls (ws.take i) ++ [(w, 1)] → ∃ (x : Option V) (vs2 : List V), [some (V.ref p), some (V.ref q), some (V.str w)] = [some (.ref p), some (.ref q), x] ∧ Ex H (upd H2 q (.lst (vs ++ [.ref b]))) ∧ upd H2 q (.lst (vs ++ [.ref b])) q = some (.lst vs2) ∧ Prs K (upd H2 q (.lst (vs ++ [.ref b]))) vs2 (rls (ws.take (i + 1))) := fun H2 b e2 sb ea => by
      have gq := e2 _ _ g
      refine ⟨_, _, rfl, Ex.mut (e.trans e2) n1, upd_same, ?_⟩
      rw [rls_take hw, ea]
      exact (Prs.updL gq (P.ex e2)).app (Prs.one (st_updL gq _ _ sb))
    rcases snoc_cases (rls (ws.take i)) with h | ⟨r, ⟨m, k1⟩, h⟩
    · have v0 : vs = [] := List.eq_nil_of_length_eq_zero (by rw [lv, h]; rfl)
      subst v0
      walk_at "w"
      intro b H2 n2 e2 g2
      walk_at "w"
      refine r_app (K := K) (e2 _ _ g) (sz_lt (by show 0 + 1 ≤ _; decide)) ?_
      walk_at "w"
      exact new H2 b e2 (st_of g2) (by rw [h]; rfl)
    · have P' := P
      rw [h] at P'
      obtain ⟨vs', b, rfl, Pr, sb⟩ := P'.snoc
      have lp : 0 < ((vs' ++ [V.ref b]).length : Int) := by rw [List.length_append, List.length_singleton]; omega
      walk_at "w"
      refine r_ixL (sq_of g) (v := .ref b) at_last ?_
      walk_at "w"
      refine r_eqSS ?_
      by_cases c : m = w
      · subst c
        rw [decide_eq_true rfl]
        walk_at "w"
        refine r_ixL (sq_of g) (v := .ref b) at_last ?_
        walk_at "w"
        intro b2 H2 n2 e2 g2
        have gq := e2 _ _ g
        walk_at "w"
        refine r_set gq ix_last ?_
        rw [set_last]
        refine ⟨_, _, rfl, Ex.mut (e.trans e2) n1, upd_same, ?_⟩
        rw [rls_take hw, h, addR_eq]
        exact (Prs.updL gq (Pr.ex e2)).app (Prs.one (st_updL gq _ _ (st_of g2)))
      · rw [decide_eq_false c]
        walk_at "w"
        intro b2 H2 n2 e2 g2
        walk_at "w"
        refine r_app (K := K) (e2 _ _ g) (sz_lt (by omega)) ?_
        walk_at "w"
        exact new H2 b2 e2 (st_of g2) (by rw [h]; exact addR_ne _ _ c)

end
section
/-- all but lists stand -/
def Ls (H H' : Hp) : Prop := ∀ a o, H a = some o → (∀ zs, o ≠ .lst zs) → H' a = some o
section
variable {K : PySem.W.Frag} {H H' H2 : Hp} {a p x : Addr} {xs ys : List V} {fs us : List Str}
theorem Ls.of (e : Ex H H') : Ls H H' := fun a o h _ => e a o h
theorem Ls.trans (l : Ls H H') (m : Ls H' H2) : Ls H H2 := fun a o h n => m a o (l a o h n) n
theorem Ls.upd (h : H p = some (.lst xs)) : Ls H (upd H p (.lst ys)) := fun a o ha hn => by
  have : a ≠ p := by
    rintro rfl
    rw [h] at ha
    exact hn xs (Option.some.inj ha).symm
  rw [upd_ne this]
  exact ha
theorem Ls.fr (f : Fr a H H') (s : SrcAt H a) : Ls H H' := fun b o hb hn => by
  obtain ⟨d, s, c, h1, _⟩ := s
  have : b ≠ a := by
    rintro rfl
    rw [h1] at hb
    exact hn _ (Option.some.inj hb).symm
  exact f b o this hb
theorem ls_t (l : Ls H H') (s : SqT K H a xs) : SqT K H' a xs := by
  rcases s with (s | ⟨o', s⟩) | s
  · exact .inl (.inl (l _ _ s fun _ e => nomatch e))
  · exact .inl (.inr ⟨o', l _ _ s fun _ e => nomatch e⟩)
  · exact .inr s
theorem ls_f (l : Ls H H') (s : SqF H a xs) : SqF H' a xs := by
  obtain ⟨o, s, r⟩ := s
  exact ⟨o, l _ _ s (fun _ e => nomatch e), r⟩
theorem ls_ros (l : Ls H H') (s : RosAt K H a fs us) : RosAt K H' a fs us := by
  obtain ⟨dx, b, c, h1, h2, h3⟩ := s
  exact ⟨dx, b, c, l _ _ h1 (fun _ e => nomatch e), ls_f l h2, ls_f l h3⟩
end
/-- a comprehension over a range, whose element draws from the source at s -/
theorem lcS_range {K : PySem.W.Frag} {H : Hp} {Q : VK} {n j : Nat} {te : TE} {vs : List Nat} {σ : L2.St} {s : Addr} (P : V → Prop) (hn : n ≤ 100000) (hs : SrcAt H s) (σ' : V → L2.St) (hσ : ∀ x, (wipe σ vs).set j (some x) = σ' x) (hw : ∀ x, wipe ((wipe σ vs).set j (some x)) vs = wipe σ vs)
    (he : ∀ (i : Nat) (H1 : Hp) (Q' : VK), Fr s H H1 → SrcAt H1 s → i < n → (∀ v H2, P v → Fr s H1 H2 → SrcAt H2 s → Q' v H2) → te (σ' (.int (i : Int))) H1 Q')
    (hq : ∀ p H2 ys, H p = none → Fr s H H2 → SrcAt H2 s → H2 p = some (.lst ys) → ys.length = n → (∀ y ∈ ys, P y) → Q (.ref p) H2) : LcJ (Itr 0 n) (gName j) tYes te vs σ H Q := fun D hD =>
  lc_range (Pv := fun i H' => Fr s H H' ∧ SrcAt H' s ∧ ∃ ys, H' D = some (.lst ys) ∧ ys.length = i ∧ ∀ y ∈ ys, P y) ⟨Fr.of (Ex.new hD), hs.ex (Ex.new hD), [], upd_same, rfl, fun y hy => absurd hy List.not_mem_nil⟩ (fun i H' hi ⟨f, q, ys, g, hl, hp⟩ => ⟨hw _, by
    show te ((wipe σ vs).set j _) H' _
    rw [hσ, Int.zero_add]
    refine he i H' _ f q hi fun v H2 pv f2 q2 => ?_
    have hne : D ≠ s := hs.ne hD
    refine ⟨ys, f2 D _ hne g, sz_lt (by omega), fun b o nb hb => ?_, ?_, ys ++ [v], upd_same, by rw [List.length_append, hl]; rfl, fun y hy => ?_⟩
    · rw [upd_ne (ne_of_none hb hD)]
      exact f2 b o nb (f b o nb hb)
    · obtain ⟨d, s2, c, w1, w2⟩ := q2
      exact ⟨d, s2, c, by rw [upd_ne hne.symm]; exact w1, w2⟩
    · rcases List.mem_append.mp hy with hy | hy
      · exact hp y hy
      · rw [List.mem_singleton.mp hy]
        exact pv⟩) fun H' ⟨f, q, ys, g, hl, hp⟩ => hq D H' ys hD f q g hl hp
def isW (v : V) : Prop := ∃ w, v = .str w ∧ okW w = true
theorem isW_list : ∀ {ys : List V}, (∀ y ∈ ys, isW y) → ∃ ws : List Str, ys = ws.map V.str ∧ ∀ w ∈ ws, okW w = true
  | [], _ => ⟨[], rfl, fun w h => absurd h List.not_mem_nil⟩
  | y :: ys, h => by
    obtain ⟨w, rfl, hw⟩ := h y List.mem_cons_self
    obtain ⟨ws, rfl, hws⟩ := isW_list fun z hz => h z (List.mem_cons_of_mem _ hz)
    exact ⟨w :: ws, rfl, fun u hu => (List.mem_cons.mp hu).elim (fun e => e ▸ hw) (hws u)⟩
theorem atI_strs {xs : List Str} {i : Int} (h0 : 0 ≤ i) (h1 : i < xs.length) : ∃ w ∈ xs, atI (xs.map V.str) i = some (.str w) := by
  have hl : i.toNat < xs.length := by omega
  refine ⟨xs[i.toNat], List.getElem_mem _, atI_pos h0 ?_⟩
  rw [List.getElem?_map, List.getElem?_eq_getElem hl]
  rfl
def menuL : List Str := ["g", "x", "y", "row", "abcdefgh", "zz"]
theorem menu_ok : ∀ w ∈ menuL, okW w = true := List.all_eq_true.mp (by decide +kernel)
theorem r_neB {K : PySem.W.Frag} {i j : Bool} {H : Hp} {Q : VK} (h : Q (.bl (!decide (i = j))) H) : rNeU K (.bl i) (.bl j) H Q := .inl ⟨rfl, by
  rw [show decide (V.bl i = V.bl j) = decide (i = j) from decide_eq_decide.mpr ⟨V.bl.inj, congrArg _⟩]
  exact h⟩
theorem r_neSS {K : PySem.W.Frag} {x : Str} {H : Hp} {Q : VK} (h : Q (.bl false) H) : rNeU K (.str x) (.str x) H Q := .inl ⟨rfl, by
  rw [decide_eq_true rfl]
  exact h⟩
theorem r_repL {K : PySem.W.Frag} {l : Addr} {k : Int} {xs : List V} {H : Hp} {Q : VK} (h : H l = some (.lst xs)) (h1 : 0 ≤ k) (h2 : k < 1000) (hz : xs.length * k.toNat ≤ sizeLine) (q : ∀ p H1, H p = none → Ex H H1 → H1 p = some (.lst (List.replicate k.toNat xs).flatten) → Q (.ref p) H1) : rMul K (.ref l) (.int k) H Q :=
  .inr (.inl ⟨l, k, xs, rfl, rfl, h, by omega, by omega, hz, fun p hp => q p _ hp (Ex.new hp) upd_same⟩)
theorem flat_strs (n : Nat) (fs : List Str) : (List.replicate n (fs.map V.str)).flatten = ((List.replicate n fs).flatten).map V.str := by
  rw [List.map_flatten, List.map_replicate]
theorem flat_len (n : Nat) (fs : List Str) : ((List.replicate n fs).flatten).length = n * fs.length := by
  rw [List.length_flatten, List.map_replicate, List.sum_replicate_nat]
theorem flat_mem {n : Nat} {fs : List Str} {w : Str} (h : w ∈ (List.replicate n fs).flatten) : w ∈ fs := by
  obtain ⟨l, hl, hw⟩ := List.mem_flatten.mp h
  rw [(List.mem_replicate.mp hl).2] at hw
  exact hw
theorem r_ins {l : Addr} {xs : List V} {y : V} {H : Hp} {Q : VK} (h : H l = some (.lst xs)) (hz : xs.length < sizeLine) (q : Q .non (upd H l (.lst (y :: xs)))) :
    ∃ (l' : Addr) (xs' : List V) (i : Int) (y' : V), V.ref l = .ref l' ∧ [V.int 0, y] = [.int i, y'] ∧ H l' = some (.lst xs') ∧ xs'.length < sizeLine ∧ 0 ≤ i ∧ i < 2 ^ 63 ∧ Q .non (upd H l' (.lst (xs'.take i.toNat ++ [y'] ++ xs'.drop i.toNat))) :=
  ⟨l, xs, 0, y, rfl, rfl, h, hz, Int.le_refl _, by decide, q⟩

end
section
theorem r_addSS {K : PySem.W.Frag} {a b : Str} {H : Hp} {Q : VK} (hz : a.length + b.length ≤ sizeLine) (q : Q (.str (a ++ b)) H) : rAdd K (.str a) (.str b) H Q := .inr (.inr (.inr ⟨a, b, rfl, rfl, hz, q⟩))
theorem word_one (n : Str) : wordOf n 1 = n := if_pos rfl
theorem word_more {n : Str} {m : Int} (h : ¬ m = 1) : wordOf n m = nS m ++ n := if_neg h
theorem word_sz {n : Str} {m : Int} (h1 : 1 ≤ m) (h2 : m ≤ 99999) (ok : okW n = true) : (Str.ofString (toString m)).length + n.length ≤ sizeLine := by
  have := sml_len (n := m) (by omega) (by omega)
  have := (okW_parts ok).2.1
  exact sz_of (by omega)
theorem wof_strs (rs : List (Str × Int)) : (rs.map fun r => V.str (wordOf r.1 r.2)) = (wof rs).map V.str := by
  unfold wof
  rw [List.map_map]
  rfl
theorem wof_len (rs : List (Str × Int)) : (wof rs).length = rs.length := List.length_map ..
abbrev spRW (K : PySem.W.Frag) : Sp := sp1 fun v H Q _ => ∃ (p : Addr) (ws : List Str), v = .ref p ∧ SqE K H p (ws.map V.str) ∧ ws.length ≤ 50000 ∧ (∀ w ∈ ws, okW w = true) ∧
  ∀ q H', H q = none → Ex H H' → H' q = some (.lst ((wof (rls ws)).map V.str)) → Q (.ref q) H'
abbrev N_run_words : List Str := ["names", "name", "many"]
theorem sc_run_words : FnScope N_run_words ["names"] (defScope s_run_words) := ⟨rfl, rfl, rfl, by decide +kernel, rfl, by decide +kernel, by decide +kernel⟩
theorem ok_run_words {P : Program} {w : World} {K : PySem.W.Frag} {mg : Str → Option Value} {base : Heap} (E : Env P K mg) : Fn P w K mg base CX0 2 "run_words" (spRW K) := by
  obtain ⟨fd, F⟩ := E.dd_run_words
  refine Fn.mk0 F E.g_run_words sc_run_words sp1_len (fun _ _ _ _ _ _ us hl => match us, hl with | [_], _ => rfl) (fun cdv A outer s H vs Q X hr h => ?_)
  have nd := sc_run_words.nd
  obtain ⟨v0, rfl, h⟩ := h
  refine ⟨_, (pss_one (ps_ret (pe_lc (own := [("name", 1), ("many", 2)]) (tt := tYes) rfl nd (kSeq K (pc (ok_runs_of E) hr (by decide) pass0 rfl (pa_cons (pv 0) pa_nil))) (blkOk_by (N := N_run_words) (sc := defScope s_run_words) (by decide +kernel)) (fun _ _ _ _ _ => kGtup (n := 2) K rfl (pgs_cons (pg_name (i := 1) nd rfl (Or.inl rfl)) (pgs_cons (pg_name (i := 2) nd rfl (Or.inl rfl)) (pgs_nil)))) (fun _ _ _ _ _ => pts_nil) (fun _ _ _ _ _ => pe_ifExp (pt_cmpR (kEq K hr) (pv 2) (pe_int) (nomark _)) (pv 1) (pe_op (kAdd K) (pe_callTy xStrI (by rfl) E.f_str (by decide +kernel) (pa_cons (pv 2) pa_nil)) (pv 1)))))), ?_⟩
  change (_ : TS) _ [some v0, none, none] H
  try dsimp only [cxOf, Cx.nox, Cx.blk]
  obtain ⟨p, ws, rfl, hp, wz, ok, k⟩ := h
  obtain ⟨ro, sp, ln⟩ := rls_rs wz ok
  walk_at "w"
  refine i_seqL ?_
  walk_at "w"
  refine ⟨p, ws, rfl, hp, wz, fun q vs H1 n1 e1 g1 P => ?_⟩
  refine i_xL (sq_of g1) ?_
  refine lcJ_prs (fun n m => .str (wordOf n m)) (sq_of g1) P (by omega) (fun n m => [some (.ref p), some (.str n), some (.int m)]) (fun n m => rfl) (fun n m b H4 R hb hR => w_gtup hb rfl (w_gcons (w_gcons (w_gnil hR)))) (fun n m H4 Q' e4 hm hq => ?_) (fun p4 H4 n4 e4 g4 => ?_)
  · obtain ⟨m1, m2, on⟩ := ro _ hm
    by_cases c : m = 1
    · walk_at "w"
      have := hq _ (Ex.refl _)
      rwa [c, word_one] at this
    · walk_at "w"
      refine r_strI (sml_log (show -1 ≤ m by have : 1 ≤ m := m1; omega) (show m ≤ 10 ^ 9 by have : m ≤ 99999 := m2; omega)) ?_
      walk_at "w"
      refine r_addSS (word_sz m1 m2 on) ?_
      have := hq _ (Ex.refl _)
      rwa [word_more c] at this
  · rw [wof_strs] at g4
    exact k p4 H4 (none_of_ex e1 n4) (e1.trans e4) g4
/-- the text of a roster -/
def rtext (rs us : List (Str × Int)) : Str := Txt.join " " (wof rs ++ ("/" : Str) :: wof us)
theorem sumL_le {k : Nat} : ∀ {ws : List Str}, (∀ w ∈ ws, w.length ≤ k) → (ws.map (·.length)).sum ≤ k * ws.length
  | [], _ => Nat.zero_le _
  | w :: ws, h => by
    rw [List.map_cons, List.sum_cons, List.length_cons, Nat.mul_succ]
    have := sumL_le fun x hx => h x (List.mem_cons_of_mem _ hx)
    have := h w List.mem_cons_self
    omega
theorem rtext_words {rs us : List (Str × Int)} (hr : RsOk rs) (hu : RsOk us) : ∀ w ∈ wof rs ++ ("/" : Str) :: wof us, w.length ≤ 13 ∧ 32 ∉ TL.tl w := by
  intro w hw
  rcases List.mem_append.mp hw with hw | hw
  · exact ((wof_run hr).2 w hw).2
  · rcases List.mem_cons.mp hw with rfl | hw
    · exact ⟨by decide +kernel, by decide +kernel⟩
    · exact ((wof_run hu).2 w hw).2
theorem rtext_split {rs us : List (Str × Int)} (hr : RsOk rs) (hu : RsOk us) : wds (rtext rs us) = wof rs ++ ("/" : Str) :: wof us :=
  TL.split_join (s := 32) (S := []) (by decide +kernel) (by decide +kernel) (by intro h; cases (List.append_eq_nil_iff.mp h).2) fun w hw => (rtext_words hr hu w hw).2
theorem rtext_W {rs us : List (Str × Int)} (hr : RsOk rs) (hu : RsOk us) : Wds (wds (rtext rs us)) (wof rs) (wof us) true [] :=
  ⟨by rw [rtext_split hr hu, if_pos rfl, List.append_nil]; rfl, fun w hw => ((wof_run hr).2 w hw).1, fun w hw => ((wof_run hu).2 w hw).1, (fun h => nomatch h), .inl rfl⟩
theorem rtext_sp {rs : List (Str × Int)} (hr : RsOk rs) : spreadW (wof rs) = spreadR rs := by
  unfold spreadW
  rw [(wof_run hr).1]
theorem spc_len : (" " : Str).length = 1 := by decide +kernel
theorem rt_size {rs us : List (Str × Int)} (hr : RsOk rs) (hu : RsOk us) (zr : rs.length ≤ 50000) (zu : us.length ≤ 50000) : ((wof rs ++ ("/" : Str) :: wof us).map (·.length)).sum + (wof rs ++ ("/" : Str) :: wof us).length * (" " : Str).length ≤ 16777216 := by
  have a := sumL_le fun w hw => (rtext_words hr hu w hw).1
  rw [spc_len]
  rw [List.length_append, List.length_cons, wof_len, wof_len] at a ⊢
  omega
abbrev spWrite (K : PySem.W.Frag) : Sp := sp1 fun v H Q _ => ∃ (x : Addr) (fs us : List Str), v = .ref x ∧ RosAt K H x fs us ∧ fs.length ≤ 40000 ∧ us.length ≤ 40000 ∧ (∀ w ∈ fs, okW w = true) ∧ (∀ w ∈ us, okW w = true) ∧
  ∀ H', Ex H H' → Q (.str (rtext (rls fs) (rls us))) H'
abbrev N_write_roster : List Str := ["roster"]
theorem sc_write_roster : FnScope N_write_roster ["roster"] (defScope s_write_roster) := ⟨rfl, rfl, rfl, by decide +kernel, rfl, by decide +kernel, by decide +kernel⟩
theorem ok_write_roster {P : Program} {w : World} {K : PySem.W.Frag} {mg : Str → Option Value} {base : Heap} (E : Env P K mg) : Fn P w K mg base CX0 3 "write_roster" (spWrite K) := by
  obtain ⟨fd, F⟩ := E.dd_write_roster
  refine Fn.mk0 F E.g_write_roster sc_write_roster sp1_len (fun _ _ _ _ _ _ us hl => match us, hl with | [_], _ => rfl) (fun cdv A outer s H vs Q X hr h => ?_)
  have nd := sc_write_roster.nd
  obtain ⟨v0, rfl, h⟩ := h
  refine ⟨_, (pss_one (ps_ret (kJoin K (pe_str) (pe_op (kAdd K) (pe_op (kAdd K) (pc (ok_run_words E) hr (by decide) pass0 rfl (pa_cons (kFld K (pv 0) rfl) pa_nil)) (pe_lst (pa_cons ((E.k_CUT).elim fun t e => pe_glob (v := .str "/") (by rfl) e ⟨t, rfl⟩) pa_nil))) (pc (ok_run_words E) hr (by decide) pass0 rfl (pa_cons (kFld K (pv 0) rfl) pa_nil)))))), ?_⟩
  change (_ : TS) _ [some v0] H
  try dsimp only [cxOf, Cx.nox, Cx.blk]
  obtain ⟨x, fs, us, rfl, ros, zf, zu, okf, oku, k⟩ := h
  obtain ⟨rf, _, lf⟩ := rls_rs (Nat.le_trans zf (by decide)) okf
  obtain ⟨ru, _, lu⟩ := rls_rs (Nat.le_trans zu (by decide)) oku
  walk_at "w"
  refine w_m1 ?_
  walk_at "w"
  refine ⟨⟨_, rfl⟩, ?_⟩
  walk_at "w"
  refine r_rosFirst E ros fun a _ sa => ?_
  walk_at "w"
  refine ⟨a, fs, rfl, .inr sa, by omega, okf, fun q H1 n1 e1 g1 => ?_⟩
  walk_at "w"
  intro c H2 n2 e2 g2
  refine w_xcatL (e2 _ _ g1) g2 (sz_of (by rw [List.length_map, wof_len]; show _ + 1 ≤ _; omega)) fun r H3 n3 e3 g3 => ?_
  walk_at "w"
  have e03 := (e1.trans e2).trans e3
  refine r_rosThen E (ex_ros e03 ros) fun b _ sb => ?_
  walk_at "w"
  refine ⟨b, us, rfl, .inr sb, by omega, oku, fun q2 H4 n4 e4 g4 => ?_⟩
  refine w_xcatL (e4 _ _ g3) g4 (sz_of (by rw [List.length_append, List.length_map, List.length_map, wof_len, wof_len]; show _ + 1 + _ ≤ _; omega)) fun r2 H5 n5 e5 g5 => ?_
  rw [show ((wof (rls fs)).map V.str ++ [V.str "/"]) ++ (wof (rls us)).map V.str = (wof (rls fs) ++ ("/" : Str) :: wof (rls us)).map V.str by rw [List.map_append, List.map_cons, List.append_assoc]; rfl] at g5
  refine r_joinL (sq_of g5) (rt_size rf ru (by omega) (by omega)) ?_
  exact k _ ((e03.trans e4).trans e5)
/-! the law's runs: lists of two -/
inductive Pls (H : Hp) : List V → List (Str × Int) → Prop
  | nil : Pls H [] []
  | cons {a : Addr} {n : Str} {m : Int} {vs : List V} {rs : List (Str × Int)} (h : H a = some (.lst [.str n, .int m])) (r : Pls H vs rs) : Pls H (.ref a :: vs) ((n, m) :: rs)
section
variable {H H' : Hp} {vs : List V} {rs : List (Str × Int)}
theorem Pls.len (p : Pls H vs rs) : vs.length = rs.length := by
  induction p with
  | nil => rfl
  | cons _ _ ih => rw [List.length_cons, List.length_cons, ih]
theorem Pls.map (p : Pls H vs rs) (f : ∀ a, V.ref a ∈ vs → ∀ n m, H a = some (.lst [.str n, .int m]) → H' a = some (.lst [.str n, .int m])) : Pls H' vs rs := by
  induction p with
  | nil => exact .nil
  | cons h _ ih => exact .cons (f _ List.mem_cons_self _ _ h) (ih fun a ha => f a (List.mem_cons_of_mem _ ha))
theorem Pls.ex (e : Ex H H') (p : Pls H vs rs) : Pls H' vs rs := p.map fun a _ _ _ h => e a _ h
theorem Pls.app {vs2 : List V} {rs2 : List (Str × Int)} (p : Pls H vs rs) (q : Pls H vs2 rs2) : Pls H (vs ++ vs2) (rs ++ rs2) := by
  induction p with
  | nil => exact q
  | cons h _ ih => exact .cons h ih
theorem Pls.one {a : Addr} {n : Str} {m : Int} (h : H a = some (.lst [.str n, .int m])) : Pls H [.ref a] [(n, m)] := .cons h .nil
theorem Pls.has (p : Pls H vs rs) {a : Addr} (h : V.ref a ∈ vs) : ∃ n m, H a = some (.lst [.str n, .int m]) := by
  induction p with
  | nil => cases h
  | cons hh _ ih =>
    rcases List.mem_cons.mp h with e | h
    · cases e; exact ⟨_, _, hh⟩
    · exact ih h
theorem Pls.snoc {n : Str} {m : Int} (p : Pls H vs (rs ++ [(n, m)])) : ∃ vs' b, vs = vs' ++ [.ref b] ∧ Pls H vs' rs ∧ H b = some (.lst [.str n, .int m]) := by
  induction rs generalizing vs with
  | nil =>
    cases p with
    | cons h r => cases r; exact ⟨[], _, rfl, .nil, h⟩
  | cons r rs ih =>
    cases p with
    | cons h q =>
      obtain ⟨vs', b, rfl, q1, q2⟩ := ih q
      exact ⟨_ :: vs', b, rfl, .cons h q1, q2⟩
theorem Pls.get (p : Pls H vs rs) : ∀ {i : Nat} {v : V}, vs[i]? = some v → ∃ a n m, v = .ref a ∧ rs[i]? = some (n, m) ∧ H a = some (.lst [.str n, .int m]) := by
  induction p with
  | nil => intro i v h; cases h
  | @cons a n m vs rs hh _ ih =>
    intro i v h
    cases i with
    | zero => cases h; exact ⟨a, n, m, rfl, rfl, hh⟩
    | succ i => exact ih h
/-- a comprehension over a list of lists of two -/
theorem lcJ_pls {K : PySem.W.Frag} {Q : VK} {a : Addr} {g : TG} {te : TE} {ws : List Nat} {σ : L2.St} (f : Str → Int → V) (hx : SqL K H a vs) (hp : Pls H vs rs) (hn : rs.length ≤ 100000) (σ' : Str → Int → L2.St) (hw : ∀ n m, wipe (σ' n m) ws = wipe σ ws)
    (hg : ∀ (n : Str) (m : Int) (b : Addr) (H1 : Hp) (R : L2.St → Hp → Prop), SqL K H1 b [.str n, .int m] → R (σ' n m) H1 → g (.ref b) (wipe σ ws) H1 R)
    (he : ∀ (n : Str) (m : Int) (H1 : Hp) (Q' : VK), Ex H H1 → (n, m) ∈ rs → (∀ H2, Ex H1 H2 → Q' (f n m) H2) → te (σ' n m) H1 Q')
    (hq : ∀ p H2, H p = none → Ex H H2 → H2 p = some (.lst (rs.map fun r => f r.1 r.2)) → Q (.ref p) H2) : LcJ (Itl K a) g tYes te ws σ H Q := fun D hD => by
  have hl := hp.len
  refine lc_it (walk_list (K := K) (a := a) (xs := vs)) (Pv := fun i H' => Ex H H' ∧ H' D = some (.lst ((rs.take i).map fun r => f r.1 r.2))) ⟨Ex.new hD, upd_same⟩ (fun i H' _ p => ex_l p.1 hx) ?_ (fun H' p => hq D H' hD p.1 (by rw [hl, List.take_length] at p; exact p.2))
  rintro i x H1 H' hi ⟨e1, p1⟩ ⟨rfl, hv⟩
  obtain ⟨b, n, m, rfl, hr, hb⟩ := hp.get hv
  refine hg n m b H' _ (ex_l e1 (sq_of hb)) ⟨hw n m, ?_⟩
  show te (σ' n m) H' _
  refine he n m H' _ e1 (List.mem_of_getElem? hr) fun H2 e2 => ⟨_, e2 D _ p1, sz_lt (by rw [List.length_map, List.length_take]; omega), Ex.mut (e1.trans e2) hD, ?_⟩
  rw [List.take_add_one, hr, List.map_append]
  exact upd_same
end
abbrev spLR (K : PySem.W.Frag) : Sp := sp1 fun v H Q _ => ∃ (p : Addr) (ws : List Str), v = .ref p ∧ SqL K H p (ws.map V.str) ∧ ws.length ≤ 50000 ∧
  ∀ q vs H', H q = none → Ex H H' → H' q = some (.lst vs) → Pls H' vs (rls ws) → (∀ a, V.ref a ∈ vs → H a = none) → Q (.ref q) H'
abbrev N__law_runs : List Str := ["names", "told", "name"]
theorem sc__law_runs : FnScope N__law_runs ["names"] (defScope s__law_runs) := ⟨rfl, rfl, rfl, by decide +kernel, rfl, by decide +kernel, by decide +kernel⟩
theorem ok__law_runs {P : Program} {w : World} {K : PySem.W.Frag} {mg : Str → Option Value} {base : Heap} (E : Env P K mg) : Fn P w K mg base CX0 1 "_law_runs" (spLR K) := by
  obtain ⟨fd, F⟩ := E.dd__law_runs
  refine Fn.mk0 F E.g__law_runs sc__law_runs sp1_len (fun _ _ _ _ _ _ us hl => match us, hl with | [_], _ => rfl) (fun cdv A outer s H vs Q X hr h => ?_)
  have nd := sc__law_runs.nd
  obtain ⟨v0, rfl, h⟩ := h
  refine ⟨_, (pss_cons (ps_set (i := 1) nd rfl (.inl rfl) (pe_lst (pa_nil)))
  (pss_cons (ps_for PassesOwn.never rfl (kSeq K (pv 0)) (pg_name (i := 2) nd rfl (.inl rfl))
   (pss_one (ps_if (PW.pt (pw_and (pt_cmpR op_gt (pe_callB (kLen K) (by rfl) E.f_len (by decide +kernel) (pa_cons (pv 1) pa_nil)) (pe_int) (nomark _)) (pw_and1 (pt_cmpR (kEq K hr) (pe_ix (kIx K) (pe_ix (kIx K) (pv 1) (pe_un un_neg (pe_int)) (fun _ _ => rfl)) (pe_int) (fun _ _ => rfl)) (pv 2) (nomark _)))))
   (pss_one (ps_asg (pe_op (kAdd K) (pe_ix (kIx K) (pe_ix (kIx K) (pv 1) (pe_un un_neg (pe_int)) (fun _ _ => rfl)) (pe_int) (fun _ _ => rfl)) (pe_int)) (pg_sub (pe_ix (kIx K) (pv 1) (pe_un un_neg (pe_int)) (fun _ _ => rfl)) (pe_int) set_list)))
   (pss_one (ps_expr (kBM K (pe_bm PySem.F.plainAttrs_list PySem.F.slot_list_append PySem.F.type_list_append mt_append (pv 1) (pa_cons (pe_lst (pa_cons (pv 2) (pa_cons (pe_int) pa_nil))) pa_nil))))))))
  (pss_one (ps_ret (pv 1))))), ?_⟩
  change (_ : TS) _ [some v0, none, none] H
  try dsimp only [cxOf, Cx.nox, Cx.blk]
  obtain ⟨p, ws, rfl, hp, wz, k⟩ := h
  walk_at "w"
  intro q H1 n1 e1 g1
  walk_at "w"
  refine i_seqL ?_
  walk_at "w"
  refine for_list (xs := ws.map V.str) (Pv := fun i σ' H' => ∃ (x : Option V) (vs : List V), σ' = [some (.ref p), some (.ref q), x] ∧ Ex H H' ∧ H' q = some (.lst vs) ∧ Pls H' vs (rls (ws.take i)) ∧ (∀ a, V.ref a ∈ vs → H a = none) ∧ vs.Nodup) ⟨_, [], rfl, e1, g1, by rw [List.take_zero]; exact .nil, fun a h => (List.not_mem_nil h).elim, .nil⟩ (fun i σ' H' _ h => by obtain ⟨_, _, _, e, _⟩ := h; exact ex_l e hp) ?_ ?_
  · rintro i v σ' H' hv ⟨x, vs, rfl, e, g, P, fr, nd'⟩
    rw [List.getElem?_map, Option.map_eq_some_iff] at hv
    obtain ⟨w, hw, rfl⟩ := hv
    have lv := P.len
    have ln : (rls (ws.take i)).length ≤ 50000 := by
      have := (spreadR_many (rls_ok (ws.take i)).lo).1
      rw [(rls_ok (ws.take i)).sp, List.length_take] at this
      omega
    have new : ∀ H2 b, H' b = none → Ex H' H2 → H2 b = some (.lst [.str w, .int 1]) → addR (rls (ws.take i)) w = rls (ws.take i) ++ [(w, 1)] → ∃ (x : Option V) (vs2 : List V), [some (V.ref p), some (V.ref q), some (V.str w)] = [some (.ref p), some (.ref q), x] ∧ Ex H (upd H2 q (.lst (vs ++ [.ref b]))) ∧ upd H2 q (.lst (vs ++ [.ref b])) q = some (.lst vs2) ∧ Pls (upd H2 q (.lst (vs ++ [.ref b]))) vs2 (rls (ws.take (i + 1))) ∧ (∀ a, V.ref a ∈ vs2 → H a = none) ∧ vs2.Nodup := fun H2 b nb e2 sb ea => by
      have gq := e2 _ _ g
      have key : ∀ a n m, H2 a = some (.lst [.str n, .int m]) → V.ref a ∈ vs ++ [.ref b] → upd H2 q (.lst (vs ++ [.ref b])) a = some (.lst [.str n, .int m]) := fun a n m ha hm => by
        rw [upd_ne (fun h => ?_)]
        · exact ha
        · subst h
          rcases List.mem_append.mp hm with hm | hm
          · exact absurd (fr _ hm) (by rw [n1] <;> exact fun _ => (by
              obtain ⟨n', m', hh⟩ := P.has hm
              have a1 := e2 _ _ hh
              rw [gq] at a1
              have a2 := HO.lst.inj (Option.some.inj a1)
              rw [a2] at hm
              rcases List.mem_cons.mp hm with z | hm
              · cases z
              · rcases List.mem_cons.mp hm with z | hm
                · cases z
                · exact (List.not_mem_nil hm).elim))
          · cases List.mem_singleton.mp hm
            rw [g] at nb
            cases nb
      refine ⟨_, _, rfl, Ex.mut (e.trans e2) n1, upd_same, ?_, ?_, ?_⟩
      · rw [rls_take hw, ea]
        exact ((P.ex e2).map fun a hm n m ha => key a n m ha (List.mem_append_left _ hm)).app (Pls.one (key b w 1 sb (List.mem_append_right _ List.mem_cons_self)))
      · intro a hm
        rcases List.mem_append.mp hm with hm | hm
        · exact fr a hm
        · cases List.mem_singleton.mp hm
          exact none_of_ex e nb
      · rw [List.nodup_append]
        refine ⟨nd', List.nodup_cons.mpr ⟨List.not_mem_nil, .nil⟩, fun a ha b' hb' h => ?_⟩
        rw [List.mem_singleton.mp hb'] at h
        subst h
        obtain ⟨n', m', hh⟩ := P.has ha
        rw [nb] at hh
        cases hh
    rcases snoc_cases (rls (ws.take i)) with h | ⟨r, ⟨m, k1⟩, h⟩
    · have v0 : vs = [] := List.eq_nil_of_length_eq_zero (by rw [lv, h]; rfl)
      subst v0
      walk_at "w"
      intro b H2 n2 e2 g2
      walk_at "w"
      refine r_app (K := K) (e2 _ _ g) (sz_lt (by show 0 + 1 ≤ _; decide)) ?_
      walk_at "w"
      exact new H2 b n2 e2 g2 (by rw [h]; rfl)
    · have P' := P
      rw [h] at P'
      obtain ⟨vs', b, rfl, Pr, sb⟩ := P'.snoc
      have lp : 0 < ((vs' ++ [V.ref b]).length : Int) := by rw [List.length_append, List.length_singleton]; omega
      have sbl : SqL K H' b [.str m, .int k1] := sq_of sb
      have qb : q ≠ b := fun h => by
        rw [h, sb] at g
        have := HO.lst.inj (Option.some.inj g)
        have := congrArg List.getLast? this
        rw [List.getLast?_concat] at this
        cases this
      walk_at "w"
      refine r_ixL (sq_of g) (v := .ref b) at_last ?_
      walk_at "w"
      refine r_eqSS ?_
      by_cases c : m = w
      · subst c
        rw [decide_eq_true rfl]
        walk_at "w"
        refine r_ixL (sq_of g) (v := .ref b) at_last ?_
        walk_at "w"
        refine r_ixL (sq_of g) (v := .ref b) at_last ?_
        walk_at "w"
        refine r_set sb (j := 1) (by rfl) ?_
        have nb : V.ref b ∉ vs' := fun h => (List.nodup_append.mp nd').2.2 _ h _ List.mem_cons_self rfl
        have bn : H b = none := fr b (List.mem_append_right _ List.mem_cons_self)
        refine ⟨_, _, rfl, Ex.mut e bn, by rw [upd_ne qb]; exact g, ?_, fr, nd'⟩
        rw [rls_take hw, h, addR_eq]
        refine Pls.app (Pr.map fun a hm n m ha => ?_) (Pls.one upd_same)
        rw [upd_ne (fun h => nb (by rw [← h]; exact hm))]
        exact ha
      · rw [decide_eq_false c]
        walk_at "w"
        intro b2 H2 n2 e2 g2
        walk_at "w"
        refine r_app (K := K) (e2 _ _ g) (sz_lt (by omega)) ?_
        walk_at "w"
        exact new H2 b2 n2 e2 g2 (by rw [h]; exact addR_ne _ _ c)
  · rintro σ' H' ⟨x, vs, rfl, e, g, P, fr, _⟩
    rw [List.length_map, List.take_length] at P
    walk_at "w"
    exact k q vs H' n1 e g P fr

end
section
theorem fr_mutS {p t : Addr} {H H' : Hp} {o : HO} (f : Fr p H H') (n : H t = none) : Fr p H (upd H' t o) := fun b u ne e => by
  rw [upd_ne (ne_of_none e n)]
  exact f b u ne e
theorem src_fr {x y : Addr} {H H' : Hp} (n : x ≠ y) (f : Fr y H H') (q : SrcAt H x) : SrcAt H' x := by
  obtain ⟨d, s, c, w1, w2⟩ := q
  exact ⟨d, s, c, f _ _ n w1, w2⟩
theorem fr_ob {y p : Addr} {H H' : Hp} {o : HO} (f : Fr y H H') (s : SrcAt H y) (h : H p = some o) (n : ∀ d s c, o ≠ .lst [.int d, .int s, .int c]) : H' p = some o := by
  obtain ⟨d, s, c, w1, _⟩ := s
  refine f p o ?_ h
  rintro rfl
  rw [w1] at h
  exact n d s c (Option.some.inj h).symm
theorem src_upd {x p : Addr} {H : Hp} {o : HO} (n : x ≠ p) (q : SrcAt H x) : SrcAt (upd H p o) x := by
  obtain ⟨d, s, c, w1, w2⟩ := q
  exact ⟨d, s, c, by rw [upd_ne n]; exact w1, w2⟩
abbrev spLW (K : PySem.W.Frag) : Sp := sp1 fun v H Q _ => ∃ (p : Addr) (ws : List Str), v = .ref p ∧ SqL K H p (ws.map V.str) ∧ ws.length ≤ 50000 ∧ (∀ w ∈ ws, okW w = true) ∧
  ∀ q H', H q = none → Ex H H' → H' q = some (.lst ((wof (rls ws)).map V.str)) → Q (.ref q) H'
abbrev N__law_words : List Str := ["names", "name", "many"]
theorem sc__law_words : FnScope N__law_words ["names"] (defScope s__law_words) := ⟨rfl, rfl, rfl, by decide +kernel, rfl, by decide +kernel, by decide +kernel⟩
theorem ok__law_words {P : Program} {w : World} {K : PySem.W.Frag} {mg : Str → Option Value} {base : Heap} (E : Env P K mg) : Fn P w K mg base CX0 2 "_law_words" (spLW K) := by
  obtain ⟨fd, F⟩ := E.dd__law_words
  refine Fn.mk0 F E.g__law_words sc__law_words sp1_len (fun _ _ _ _ _ _ us hl => match us, hl with | [_], _ => rfl) (fun cdv A outer s H vs Q X hr h => ?_)
  have nd := sc__law_words.nd
  obtain ⟨v0, rfl, h⟩ := h
  refine ⟨_, (pss_one (ps_ret (pe_lc (own := [("name", 1), ("many", 2)]) (tt := tYes) rfl nd (kSeq K (pc (ok__law_runs E) hr (by decide) pass0 rfl (pa_cons (pv 0) pa_nil))) (blkOk_by (N := N__law_words) (sc := defScope s__law_words) (by decide +kernel)) (fun _ _ _ _ _ => kGunl (n := 2) (K := K) rfl (pgs_cons (pg_name (i := 1) nd rfl (Or.inl rfl)) (pgs_cons (pg_name (i := 2) nd rfl (Or.inl rfl)) (pgs_nil)))) (fun _ _ _ _ _ => pts_nil) (fun _ _ _ _ _ => pe_ifExp (pt_cmpR (kEq K hr) (pv 2) (pe_int) (nomark _)) (pv 1) (pe_op (kAdd K) (pe_callTy xStrI (by rfl) E.f_str (by decide +kernel) (pa_cons (pv 2) pa_nil)) (pv 1)))))), ?_⟩
  change (_ : TS) _ [some v0, none, none] H
  try dsimp only [cxOf, Cx.nox, Cx.blk]
  obtain ⟨p, ws, rfl, hp, wz, ok, k⟩ := h
  obtain ⟨ro, sp, ln⟩ := rls_rs wz ok
  walk_at "w"
  refine i_seqL ?_
  walk_at "w"
  refine ⟨p, ws, rfl, hp, wz, fun q vs H1 n1 e1 g1 P _ => ?_⟩
  refine i_xL (sq_of g1) ?_
  refine lcJ_pls (fun n m => .str (wordOf n m)) (sq_of g1) P (by omega) (fun n m => [some (.ref p), some (.str n), some (.int m)]) (fun n m => rfl) (fun n m b H4 R hb hR => w_glst hb rfl (w_gcons (w_gcons (w_gnil hR)))) (fun n m H4 Q' e4 hm hq => ?_) (fun p4 H4 n4 e4 g4 => ?_)
  · obtain ⟨m1, m2, on⟩ := ro _ hm
    by_cases c : m = 1
    · walk_at "w"
      have := hq _ (Ex.refl _)
      rwa [c, word_one] at this
    · walk_at "w"
      refine r_strI (sml_log (show -1 ≤ m by have : 1 ≤ m := m1; omega) (show m ≤ 10 ^ 9 by have : m ≤ 99999 := m2; omega)) ?_
      walk_at "w"
      refine r_addSS (word_sz m1 m2 on) ?_
      have := hq _ (Ex.refl _)
      rwa [word_more c] at this
  · rw [wof_strs] at g4
    exact k p4 H4 (none_of_ex e1 n4) (e1.trans e4) g4
theorem wof_snoc (rs : List (Str × Int)) (n : Str) (m : Int) : (wof (rs ++ [(n, m)])).map V.str = (wof rs).map V.str ++ [.str (wordOf n m)] := by
  unfold wof
  rw [List.map_append, List.map_append]
  rfl
theorem RsOk.snoc {rs : List (Str × Int)} {n : Str} {m : Int} (h : RsOk rs) (m1 : 1 ≤ m) (m2 : m ≤ 99999) (ok : okW n = true) : RsOk (rs ++ [(n, m)]) := fun r hr => by
  rcases List.mem_append.mp hr with hr | hr
  · exact h r hr
  · rw [List.mem_singleton.mp hr]
    exact ⟨m1, m2, ok⟩
/-- the state of the cutting -/
structure CutSt (H H' : Hp) (x q r : Addr) (vs : List V) (rs ps : List (Str × Int)) : Prop where
  fr : Fr x H H'
  src : SrcAt H' x
  gq : H' q = some (.lst ((wof ps).map V.str))
  ok : RsOk ps
  gr : H' r = some (.lst vs)
  pl : Pls H' vs rs
theorem not_strs {ys : List Str} {n : Str} {m : Int} (h : ys.map V.str = [.str n, .int m]) : False := by
  match ys, h with
  | [_, _], h => cases h
theorem CutSt.draw {H H' H5 : Hp} {x q r : Addr} {vs : List V} {rs ps : List (Str × Int)} (c : CutSt H H' x q r vs rs ps) (qx : q ≠ x) (rx : r ≠ x) (f : Fr x H' H5) (s : SrcAt H5 x) : CutSt H H5 x q r vs rs ps :=
  ⟨c.fr.trans f, s, f _ _ qx c.gq, c.ok, f _ _ rx c.gr, c.pl.map fun a _ n m h => fr_ob f c.src h fun d s2 c2 e => by cases HO.lst.inj e⟩
theorem CutSt.app {H H' : Hp} {x q r : Addr} {vs : List V} {rs ps : List (Str × Int)} {n : Str} {m : Int} (c : CutSt H H' x q r vs rs ps) (n1 : H q = none) (qx : q ≠ x) (rq : r ≠ q) (m1 : 1 ≤ m) (m2 : m ≤ 99999) (ok : okW n = true) :
    CutSt H (upd H' q (.lst ((wof ps).map V.str ++ [.str (wordOf n m)]))) x q r vs rs (ps ++ [(n, m)]) :=
  ⟨fr_mutS c.fr n1, src_upd qx.symm c.src, by rw [upd_same, wof_snoc], c.ok.snoc m1 m2 ok, by rw [upd_ne rq]; exact c.gr, c.pl.map fun a _ n' m' h => by
    rw [upd_ne (fun e => by subst e; rw [c.gq] at h; exact not_strs (HO.lst.inj (Option.some.inj h)))]
    exact h⟩
abbrev spCut (K : PySem.W.Frag) : Sp := sp2 fun s v H Q _ => ∃ (x p : Addr) (ws : List Str), s = .ref x ∧ v = .ref p ∧ SrcAt H x ∧ SqL K H p (ws.map V.str) ∧ ws.length ≤ 40000 ∧ (∀ w ∈ ws, okW w = true) ∧
  ∀ q ps H', H q = none → Fr x H H' → SrcAt H' x → H' q = some (.lst ((wof ps).map V.str)) → RsOk ps → spreadR ps = ws → Q (.ref q) H'
abbrev N__law_cut_words : List Str := ["source", "names", "told", "name", "many", "left", "turn", "part"]
theorem sc__law_cut_words : FnScope N__law_cut_words ["source", "names"] (defScope s__law_cut_words) := ⟨rfl, rfl, rfl, by decide +kernel, rfl, by decide +kernel, by decide +kernel⟩
theorem ok__law_cut_words {P : Program} {w : World} {K : PySem.W.Frag} {mg : Str → Option Value} {base : Heap} (E : Env P K mg) : Fn P w K mg base CX0 2 "_law_cut_words" (spCut K) := by
  obtain ⟨fd, F⟩ := E.dd__law_cut_words
  refine Fn.mk0 F E.g__law_cut_words sc__law_cut_words sp2_len (fun _ _ _ _ _ _ us hl => match us, hl with | [_, _], _ => rfl) (fun cdv A outer s H vs Q X hr h => ?_)
  have nd := sc__law_cut_words.nd
  obtain ⟨v0, v1, rfl, h⟩ := h
  refine ⟨_, (pss_cons (ps_set (i := 2) nd rfl (.inl rfl) (pe_lst (pa_nil)))
  (pss_cons (ps_for PassesOwn.never rfl (kSeq K (pc (ok__law_runs E) hr (by decide) pass0 rfl (pa_cons (pv 1) pa_nil))) (kGunl (K := K) rfl (pgs_cons (pg_name (i := 3) nd rfl (.inl rfl)) (pgs_cons (pg_name (i := 4) nd rfl (.inl rfl)) (pgs_nil))))
   (pss_cons (ps_set (i := 5) nd rfl (.inl rfl) (pv 4))
  (pss_cut (ps_for PassesOwn.never rfl (pi_range1 (by rfl) E.f_range (pa_cons (pe_int) pa_nil)) (pg_name (i := 6) nd rfl (.inl rfl))
   (pss_cons (ps_set (i := 7) nd rfl (.inl rfl) (pe_op (kAdd K) (pe_int) (pc (ok__law_pick E) hr (by decide) pass0 rfl (pa_cons (pv 0) (pa_cons (pv 5) pa_nil)))))
  (pss_cons (ps_expr (kBM K (pe_bm PySem.F.plainAttrs_list PySem.F.slot_list_append PySem.F.type_list_append mt_append (pv 2) (pa_cons (pe_ifExp (pt_cmpR (kEq K hr) (pv 7) (pe_int) (nomark _)) (pv 3) (pe_op (kAdd K) (pe_callTy xStrI (by rfl) E.f_str (by decide +kernel) (pa_cons (pv 7) pa_nil)) (pv 3))) pa_nil))))
  (pss_cons (ps_set (i := 5) nd rfl (.inl rfl) (pe_op xSub (pv 5) (pv 7)))
  (pss_one (ps_if (pt_cmpR (kEq K hr) (pv 5) (pe_int) (nomark _))
   (pss_one (ps_break))
   pss_nil))))))
  (pss_one (ps_if (pt_cmpR op_gt (pv 5) (pe_int) (nomark _))
   (pss_one (ps_expr (kBM K (pe_bm PySem.F.plainAttrs_list PySem.F.slot_list_append PySem.F.type_list_append mt_append (pv 2) (pa_cons (pe_ifExp (pt_cmpR (kEq K hr) (pv 5) (pe_int) (nomark _)) (pv 3) (pe_op (kAdd K) (pe_callTy xStrI (by rfl) E.f_str (by decide +kernel) (pa_cons (pv 5) pa_nil)) (pv 3))) pa_nil)))))
   pss_nil)))))
  (pss_one (ps_ret (pv 2))))), ?_⟩
  change (_ : TS) _ [some v0, some v1, none, none, none, none, none, none] H
  try dsimp only [cxOf, Cx.nox, Cx.blk]
  obtain ⟨x, p, ws, rfl, rfl, q0, hp, wz, ok, k⟩ := h
  obtain ⟨ro, sp, ln⟩ := rls_rs (Nat.le_trans wz (by decide)) ok
  walk_at "w"
  intro q H1 n1 e1 g1
  walk_at "w"
  refine i_seqL ?_
  walk_at "w"
  refine ⟨p, ws, rfl, ex_l e1 hp, by omega, fun r vs H2 n2 e2 g2 P fv => ?_⟩
  refine i_xL (sq_of g2) ?_
  have q2 := (q0.ex e1).ex e2
  have gq2 := e2 _ _ g1
  have qx : x ≠ q := (q0.ne n1).symm
  have rx : r ≠ x := (q0.ex e1).ne n2
  have rq : r ≠ q := fun h => by rw [h, g1] at n2; cases n2
  have qx' : q ≠ x := qx.symm
  have zs := spreadR_many (fun t ht => (ro t ht).1)
  rw [sp] at zs
  have C0 : CutSt H H2 x q r vs (rls ws) [] := ⟨(Fr.of e1).trans (Fr.of e2), q2, gq2, fun _ h => (List.not_mem_nil h).elim, g2, P⟩
  have vl := P.len
  refine for_list (xs := vs) (Pv := fun i σ' H' => ∃ (a b c d e : Option V) (ps : List (Str × Int)), σ' = [some (.ref x), some (.ref p), some (.ref q), a, b, c, d, e] ∧ CutSt H H' x q r vs (rls ws) ps ∧ spreadR ps = spreadR ((rls ws).take i))
    ⟨_, _, _, _, _, [], rfl, C0, by rw [List.take_zero]⟩ (fun i σ' H' _ h => by obtain ⟨_, _, _, _, _, _, _, c, _⟩ := h; exact sq_of c.gr) ?_ ?_
  · rintro i v σ' H' hv ⟨a, b, c, d, e, ps, rfl, C, es⟩
    obtain ⟨bb, n, m, rfl, hr, hb⟩ := C.pl.get hv
    have hmem := List.mem_of_getElem? hr
    obtain ⟨m1, m2, on⟩ := ro _ hmem
    have mz := zs.2 _ hmem
    dsimp only at m1 m2 on mz
    have tk := spreadR_take hr
    have le0 := spreadR_le (rs := rls ws) (fun t ht => by have := (ro t ht).1; omega) i
    rw [sp] at le0
    have plen : ∀ ps2 : List (Str × Int), RsOk ps2 → ∀ l : Int, 0 ≤ l → spreadR ps2 = spreadR ((rls ws).take i) ++ List.replicate (m - l).toNat n → ps2.length ≤ 90000 := fun ps2 o2 l hl e2 => by
      have a1 := (spreadR_many (fun t ht => (o2 t ht).1)).1
      rw [e2, List.length_append, List.length_replicate] at a1
      omega
    have app1 : ∀ (ps2 : List (Str × Int)) (l k : Int), 1 ≤ k → k ≤ l → l ≤ m → spreadR ps2 = spreadR ((rls ws).take i) ++ List.replicate (m - l).toNat n → spreadR (ps2 ++ [(n, k)]) = spreadR ((rls ws).take i) ++ List.replicate (m - (l - k)).toNat n := fun ps2 l k k1 kl lm e2 => by
      rw [spreadR_app, spreadR_one, e2, List.append_assoc, List.replicate_append_replicate]
      congr 2
      omega
    refine w_glst (sq_of hb) rfl ?_
    walk_at "w"
    refine w_cut (M := fun σ' H' => ∃ (l : Int) (d e : Option V) (ps2 : List (Str × Int)), σ' = [some (.ref x), some (.ref p), some (.ref q), some (.str n), some (.int m), some (.int l), d, e] ∧ CutSt H H' x q r vs (rls ws) ps2 ∧ 0 ≤ l ∧ l ≤ m ∧ spreadR ps2 = spreadR ((rls ws).take i) ++ List.replicate (m - l).toNat n) ?_ ?_
    · walk_at "w"
      refine for_range (lo := 0) (Pv := fun j σ' H' => ∃ (l : Int) (d e : Option V) (ps2 : List (Str × Int)), σ' = [some (.ref x), some (.ref p), some (.ref q), some (.str n), some (.int m), some (.int l), d, e] ∧ CutSt H H' x q r vs (rls ws) ps2 ∧ 1 ≤ l ∧ l ≤ m ∧ spreadR ps2 = spreadR ((rls ws).take i) ++ List.replicate (m - l).toNat n)
        ⟨m, d, e, ps, rfl, C, m1, Int.le_refl _, by rw [es, show (m - m).toNat = 0 by omega]; simp⟩ ?_ ?_
      · rintro j σ' H3 hj ⟨l, d, e, ps2, rfl, C3, l1, l2, e3⟩
        walk_at "w"
        refine ⟨x, l, rfl, rfl, by omega, by omega, C3.src, fun dr H4 d0 d1 q4 f4 => ?_⟩
        have C4 := C3.draw qx' rx f4 q4
        have pz := plen ps2 C4.ok l (by omega) e3
        have lw : m ≤ 99999 := m2
        have wlen : ((wof ps2).map V.str).length ≤ 90000 := by rw [List.length_map, wof_len]; exact pz
        have nxt : ∀ H5, H5 = upd H4 q (.lst ((wof ps2).map V.str ++ [.str (wordOf n (1 + dr))])) → CutSt H H5 x q r vs (rls ws) (ps2 ++ [(n, 1 + dr)]) := fun H5 h => by rw [h]; exact C4.app n1 qx' rq (by omega) (by omega) on
        have sp2 := app1 ps2 l (1 + dr) (by omega) (by omega) l2 e3
        have gq4 := C4.gq
        by_cases cp : 1 + dr = 1
        case' pos =>
          walk_at "w"
          have wd : V.str n = V.str (wordOf n (1 + dr)) := by rw [cp, word_one]
        case' neg =>
          walk_at "w"
          refine r_strI (i := 1 + dr) (sml_log (by omega) (by omega)) ?_
          walk_at "w"
          refine r_addSS (word_sz (m := 1 + dr) (by omega) (by omega) on) ?_
          have wd : V.str (Str.ofString (toString (1 + dr)) ++ n) = V.str (wordOf n (1 + dr)) := by rw [word_more cp]; rfl
        all_goals
          walk_at "w"
          refine r_app (K := K) C4.gq (sz_lt (by omega)) ?_
          rw [wd]
          have C5 := nxt _ rfl
          clear nxt
          generalize upd H4 q (.lst ((wof ps2).map V.str ++ [.str (wordOf n (1 + dr))])) = H5 at *
          walk_at "w"
          by_cases cl : l - (1 + dr) = 0
          · walk_at "w"
            exact ⟨_, _, _, _, rfl, C5, by omega, by omega, sp2⟩
          · walk_at "w"
            exact ⟨_, _, _, _, rfl, C5, by omega, by omega, sp2⟩
      · rintro σ' H3 ⟨l, d, e, ps2, rfl, C3, l1, l2, e3⟩
        exact ⟨l, d, e, ps2, rfl, C3, by omega, l2, e3⟩
    rintro σ' H3 ⟨l, d, e, ps2, rfl, C3, l1, l2, e3⟩
    have pz := plen ps2 C3.ok l (by omega) e3
    have wlen : ((wof ps2).map V.str).length ≤ 90000 := by rw [List.length_map, wof_len]; exact pz
    have lw : m ≤ 99999 := m2
    have gq3 := C3.gq
    by_cases c0 : 0 < l
    · walk_at "w"
      have nxt : ∀ H5, H5 = upd H3 q (.lst ((wof ps2).map V.str ++ [.str (wordOf n l)])) → CutSt H H5 x q r vs (rls ws) (ps2 ++ [(n, l)]) := fun H5 h => by rw [h]; exact C3.app n1 qx' rq (by omega) (by omega) on
      have sp2 := app1 ps2 l l (by omega) (Int.le_refl _) l2 e3
      rw [show m - (l - l) = m by omega, ← tk] at sp2
      by_cases cp : l = 1
      case' pos =>
        walk_at "w"
        have wd : V.str n = V.str (wordOf n l) := by rw [cp, word_one]
      case' neg =>
        walk_at "w"
        refine r_strI (i := l) (sml_log (by omega) (by omega)) ?_
        walk_at "w"
        refine r_addSS (word_sz (m := l) (by omega) (by omega) on) ?_
        have wd : V.str (Str.ofString (toString l) ++ n) = V.str (wordOf n l) := by rw [word_more cp]; rfl
      all_goals
        walk_at "w"
        refine r_app (K := K) C3.gq (sz_lt (by omega)) ?_
        rw [wd]
        have C5 := nxt _ rfl
        clear nxt
        generalize upd H3 q (.lst ((wof ps2).map V.str ++ [.str (wordOf n l)])) = H5 at *
        walk_at "w"
        exact ⟨_, _, _, _, _, _, rfl, C5, sp2⟩
    · walk_at "w"
      have l0 : l = 0 := by omega
      rw [l0, show m - 0 = m by omega, ← tk] at e3
      exact ⟨_, _, _, _, _, _, rfl, C3, e3⟩
  · rintro σ' H' ⟨a, b, c, d, e, ps, rfl, C, es⟩
    rw [vl, List.take_length, sp] at es
    walk_at "w"
    exact k q ps H' n1 C.fr C.src C.gq C.ok es

end
section
theorem w_v16 {v : V} {H : Hp} {Q : VK} {x0 x1 x2 x3 x4 x5 x6 x7 x8 x9 x10 x11 x12 x13 x14 x15 : Option V} {l : L2.St} (h : Q v H) : GetN 16 (x0 :: x1 :: x2 :: x3 :: x4 :: x5 :: x6 :: x7 :: x8 :: x9 :: x10 :: x11 :: x12 :: x13 :: x14 :: x15 :: some v :: l) H Q := ⟨v, rfl, h⟩
theorem w_v17 {v : V} {H : Hp} {Q : VK} {x0 x1 x2 x3 x4 x5 x6 x7 x8 x9 x10 x11 x12 x13 x14 x15 x16 : Option V} {l : L2.St} (h : Q v H) : GetN 17 (x0 :: x1 :: x2 :: x3 :: x4 :: x5 :: x6 :: x7 :: x8 :: x9 :: x10 :: x11 :: x12 :: x13 :: x14 :: x15 :: x16 :: some v :: l) H Q := ⟨v, rfl, h⟩
local macro_rules | `(tactic| walk_at "vv") => `(tactic| first | refine w_v0 ?_ | refine w_v1 ?_ | refine w_v2 ?_ | refine w_v3 ?_ | refine w_v4 ?_ | refine w_v5 ?_ | refine w_v6 ?_ | refine w_v7 ?_ | refine w_v8 ?_ | refine w_v9 ?_ | refine w_v10 ?_ | refine w_v11 ?_ | refine w_v12 ?_ | refine w_v13 ?_ | refine w_v14 ?_ | refine w_v15 ?_ | refine w_v16 ?_ | refine w_v17 ?_)
theorem l_fr {K : PySem.W.Frag} {a x : Addr} {H0 H H' : Hp} {xs : List V} (f : Fr x H H') (s0 : SqL K H0 a xs) (n : H0 x = none) (s : SqL K H a xs) : SqL K H' a xs := by
  rcases s0 with s0 | s0
  · have hne : a ≠ x := by
      rintro rfl
      rcases s0 with q | ⟨o', q⟩ <;> rw [n] at q <;> cases q
    rcases s with s | s
    · rcases s with q | ⟨o', q⟩
      · exact .inl (.inl (f _ _ hne q))
      · exact .inl (.inr ⟨o', f _ _ hne q⟩)
    · exact .inr s
  · exact .inr s0
theorem joinL_len : ∀ ps : List (List Nat), (TL.joinL [32] ps).length ≤ (ps.map List.length).sum + ps.length
  | [] => Nat.zero_le _
  | [p] => by simp [TL.joinL]
  | p :: q :: r => by
    have := joinL_len (q :: r)
    simp only [TL.joinL, List.length_append, List.map_cons, List.sum_cons, List.length_cons, List.length_nil] at this ⊢
    omega
theorem join_len {ws : List Str} {k : Nat} (h : ∀ w ∈ ws, w.length ≤ k) : (Txt.join " " ws).length ≤ (k + 1) * ws.length := by
  have a := sumL_le h
  have b := joinL_len (ws.map TL.tl)
  rw [TL.len_tl, TL.join_eq, TL.tl_join, sp_list]
  rw [List.map_map, show ws.map (List.length ∘ TL.tl) = ws.map (·.length) from List.map_congr_left fun w _ => (TL.len_tl w).symm, List.length_map] at b
  rw [Nat.add_mul, Nat.one_mul]
  omega
theorem join_sz {ws : List Str} {k : Nat} (h : ∀ w ∈ ws, w.length ≤ k) (hz : (k + 1) * ws.length ≤ 16777216) : (ws.map (·.length)).sum + ws.length * (" " : Str).length ≤ 16777216 := by
  have a := sumL_le h
  rw [spc_len]
  rw [Nat.add_mul, Nat.one_mul] at hz
  omega
theorem strs_src {fs : List Str} {d s c : Int} (h : fs.map V.str = [.int d, .int s, .int c]) : False := by
  match fs, h with
  | [_, _, _], h => cases h
theorem fr_strs {y p : Addr} {H H' : Hp} {fs : List Str} (f : Fr y H H') (s : SrcAt H y) (h : H p = some (.lst (fs.map V.str))) : H' p = some (.lst (fs.map V.str)) :=
  fr_ob f s h fun d s c e => strs_src (HO.lst.inj e)
theorem fr_ros {y p : Addr} {K : PySem.W.Frag} {H H' : Hp} {fs us : List Str} (f : Fr y H H') (s : SrcAt H y) (h : RosAt K H p fs us) : RosAt K H' p fs us := ls_ros (Ls.fr f s) h
theorem at_ints {xs : List Int} {i : Int} (h0 : 0 ≤ i) (h1 : i < xs.length) : ∃ w ∈ xs, atI (xs.map V.int) i = some (.int w) := by
  have hl : i.toNat < xs.length := by omega
  refine ⟨xs[i.toNat], List.getElem_mem _, atI_pos h0 ?_⟩
  rw [List.getElem?_map, List.getElem?_eq_getElem hl]
  rfl
def menu5 : List Str := ["g", "x", "y", "row", "abcdefgh"]
theorem menu5_ok : ∀ w ∈ menu5, okW w = true := List.all_eq_true.mp (by decide +kernel)
def oddL : List Str := ["", "/", "1x", "0x", "02x", "x1", "X", "99999x", "100000x", "x/", "2", "20000g", "g", "3 x", "abcdefghi", "2abcdefgh"]
theorem odd_len : ∀ w ∈ oddL, w.length ≤ 13 := fun w hw => of_decide_eq_true (List.all_eq_true.mp (show oddL.all (fun w => decide (w.length ≤ 13)) = true by decide +kernel) w hw)
def edgeL : List Str := ["20000g /", "/ 20000g", "12000g / 8000x", "12000g / 8001x", "20001g /", "/ 19999g 2g", "99999g / x", "/", "", " /"]
theorem edge_len : ∀ w ∈ edgeL, w.length ≤ 90000 := fun w hw => by
  have := of_decide_eq_true (List.all_eq_true.mp (show edgeL.all (fun w => decide (w.length ≤ 20)) = true by decide +kernel) w hw)
  omega
theorem rep_mem {n : Nat} {w u : Str} (h : u ∈ List.replicate n w) : u = w := (List.mem_replicate.mp h).2
theorem rtext_len {rs us : List (Str × Int)} (hr : RsOk rs) (hu : RsOk us) (hz : rs.length + us.length ≤ 6260) : (rtext rs us).length ≤ 88000 := by
  have a := join_len fun w hw => (rtext_words hr hu w hw).1
  rw [List.length_append, List.length_cons, wof_len, wof_len] at a
  unfold rtext
  omega
theorem sm_of {rs : List (Str × Int)} {fs : List Str} (hr : RsOk rs) (h : spreadR rs = fs) : smW (wof rs) = (fs.length : Nat) := by
  rw [← spreadW_len fun w hw => ((wof_run hr).2 w hw).1, rtext_sp hr, h]
theorem ixN_in {n : Nat} {i : Int} (h0 : 0 ≤ i) (h1 : i < n) : ixN n i = some i.toNat := by
  unfold ixN
  rw [if_pos h0, if_pos h1]
theorem not_bad {A : Prop} (h : ([] : List Str) ≠ [] ∨ true = false) : A := (h.elim (fun h => h rfl) fun h => nomatch h).elim
theorem not_many {rs us : List (Str × Int)} {fs ts : List Str} (hr : RsOk rs) (hu : RsOk us) (hf : spreadR rs = fs) (ht : spreadR us = ts) (hl : fs.length + ts.length ≤ 20000) {A : Prop} (h : 20000 < smW (wof rs) + smW (wof us)) : A := by
  rw [sm_of hr hf, sm_of hu ht] at h
  omega
abbrev N_law : List Str := ["script", "source", "menu", "first", "k", "drawer", "then", "text", "roster", "other", "odd", "turn", "words", "place", "word", "way", "edges", "thing"]
theorem sc_law : FnScope N_law ["script"] (defScope s_law) := ⟨rfl, rfl, rfl, by decide +kernel, rfl, by decide +kernel, by decide +kernel⟩
abbrev lawSp (K : PySem.W.Frag) : Sp := sp1 fun s H Q _ => ∃ (a : Addr) (ns : List Int), s = .ref a ∧ SqL K H a (vI ns) ∧ (∀ z ∈ ns, Builtin.Int.intBits z ≤ 1048576) ∧ ns.length ≤ 63 ∧ ∀ H', Q (.bl true) H'
theorem ok_law {P : Program} {w : World} {K : PySem.W.Frag} {mg : Str → Option Value} {base : Heap} (E : Env P K mg) {fd : FuncData} (F : FunD K "law" "law" (defArgs s_law) (defBody s_law) (defScope s_law) (d_law.dvs K) [] (d_law.adr K) fd) : FnOk P w K mg base CX0 14 (d_law.adr K) fd ["script"] (lawSp K) := by
  refine fnok0 F sc_law sp1_len (fun cdv A outer s H vs Q X hr h => ?_)
  have nd := sc_law.nd
  obtain ⟨v0, rfl, h⟩ := h
  refine ⟨_, (pss_cons (ps_set (i := 1) nd rfl (.inl rfl) (pc (ok__law_source E) hr (by decide) pass0 rfl (pa_cons (pv 0) (pa_cons (pe_int) pa_nil))))
  (pss_cons (ps_set (i := 2) nd rfl (.inr rfl) (pe_slice (kSl K) (pe_lst (pa_cons (pe_str) (pa_cons (pe_str) (pa_cons (pe_str) (pa_cons (pe_str) (pa_cons (pe_str) pa_nil)))))) po_none (po_some (pe_op (kAdd K) (pe_int) (pc (ok__law_pick E) hr (by decide) pass0 rfl (pa_cons (pv 1) (pa_cons (pe_int) pa_nil)))))))
  (pss_cons (ps_set (i := 3) nd rfl (.inl rfl) (pe_lst (pa_nil)))
  (pss_cons (ps_for PassesOwn.never rfl (pi_range1 (by rfl) E.f_range (pa_cons (pc (ok__law_pick E) hr (by decide) pass0 rfl (pa_cons (pv 1) (pa_cons (pe_int) pa_nil))) pa_nil)) (pg_name (i := 4) nd rfl (.inl rfl))
   (pss_one (ps_set (i := 3) nd rfl (.inl rfl) (pe_op (kAdd K) (pv 3) (pe_op (kMul K) (pe_lst (pa_cons (pe_ix (kIx K) (pv 2) (pc (ok__law_pick E) hr (by decide) pass0 rfl (pa_cons (pv 1) (pa_cons (pe_callB (kLen K) (by rfl) E.f_len (by decide +kernel) (pa_cons (pv 2) pa_nil)) pa_nil))) (fun _ _ => rfl)) pa_nil)) (pe_ix (kIx K) (pe_lst (pa_cons (pe_int) (pa_cons (pe_int) (pa_cons (pe_int) (pa_cons (pe_int) (pa_cons (pe_int) (pa_cons (pe_int) pa_nil))))))) (pc (ok__law_pick E) hr (by decide) pass0 rfl (pa_cons (pv 1) (pa_cons (pe_int) pa_nil))) (fun _ _ => rfl)))))))
  (pss_cons (ps_set (i := 5) nd rfl (.inr rfl) (pc (ok__law_source E) hr (by decide) pass0 rfl (pa_cons (pv 0) (pa_cons (pe_int) pa_nil))))
  (pss_cons (ps_setLc (i := 6) (own := [("k", 4)]) (g := gName 4) (tt := tYes) rfl nd rfl rfl (sw_true rfl rfl rfl (by decide +kernel)) (pi_range1 (by rfl) E.f_range (pa_cons (pc (ok__law_pick E) hr (by decide) pass0 rfl (pa_cons (pv 5) (pa_cons (pe_int) pa_nil))) pa_nil)) (blkOk_by (N := N_law) (sc := defScope s_law) (by decide +kernel)) (fun _ _ _ _ _ => pg_name (i := 4) nd rfl (Or.inl rfl)) (fun _ _ _ _ _ => pts_nil) (fun _ _ _ _ _ => pe_ix (kIx K) (pv 2) (pc (ok__law_pick E) hr (by decide) pass0 rfl (pa_cons (pv 5) (pa_cons (pe_callB (kLen K) (by rfl) E.f_len (by decide +kernel) (pa_cons (pv 2) pa_nil)) pa_nil))) (fun _ _ => rfl)))
  (pss_cut (ps_if (pt_cmpR (kEq K hr) (pc (ok__law_pick E) hr (by decide) pass0 rfl (pa_cons (pv 5) (pa_cons (pe_int) pa_nil))) (pe_int) (nomark _))
   (pss_one (ps_set (i := 3) nd rfl (.inl rfl) (pe_op (kMul K) (pv 3) (pe_int))))
   pss_nil)
  (pss_cons (ps_set (i := 7) nd rfl (.inl rfl) (kJoin K (pe_str) (pe_op (kAdd K) (pe_op (kAdd K) (pc (ok__law_words E) hr (by decide) pass0 rfl (pa_cons (pv 3) pa_nil)) (pe_lst (pa_cons (pe_str) pa_nil))) (pc (ok__law_words E) hr (by decide) pass0 rfl (pa_cons (pv 6) pa_nil)))))
  (pss_cons (ps_set (i := 8) nd rfl (.inl rfl) (pmk (ok_Roster2 E) hr (by decide) passN rfl (pa_cons (pv 3) (pa_cons (pv 6) pa_nil))))
  (pss_cons (ps_if (PW.pt (pw_or (pt_cmpR (kNe K hr) (pc (ok_write_roster E) hr (by decide) pass0 rfl (pa_cons (pv 8) pa_nil)) (pv 7) (nomark _)) (pw_or (pt_not (pt_cmpR (kEqO K (ok_Roster_eq E) hr (by decide)) (pc (ok_read_roster E) hr (by decide) passN rfl (pa_cons (pv 7) pa_nil)) (pv 8) (nomark _))) (pw_or1 (pt_not (kTru K (pc (ok__law_right E) hr (by decide) pass0 rfl (pa_cons (pv 7) pa_nil)) (by intro _; rfl)))))))
   (pss_one (ps_ret (pe_bl)))
   pss_nil)
  (pss_cons (ps_set (i := 9) nd rfl (.inl rfl) (kJoin K (pe_str) (pe_op (kAdd K) (pe_op (kAdd K) (pc (ok__law_cut_words E) hr (by decide) pass0 rfl (pa_cons (pv 5) (pa_cons (pv 3) pa_nil))) (pe_lst (pa_cons (pe_str) pa_nil))) (pc (ok__law_cut_words E) hr (by decide) pass0 rfl (pa_cons (pv 5) (pa_cons (pv 6) pa_nil))))))
  (pss_cons (ps_if (PW.pt (pw_or (pt_not (pt_cmpR (kEqO K (ok_Roster_eq E) hr (by decide)) (pc (ok_read_roster E) hr (by decide) passN rfl (pa_cons (pv 9) pa_nil)) (pv 8) (nomark _))) (pw_or1 (pt_cmpR (kNe K hr) (pc (ok_write_roster E) hr (by decide) pass0 rfl (pa_cons (pc (ok_read_roster E) hr (by decide) passN rfl (pa_cons (pv 9) pa_nil)) pa_nil)) (pv 7) (nomark _)))))
   (pss_one (ps_ret (pe_bl)))
   pss_nil)
  (pss_cons (ps_set (i := 10) nd rfl (.inl rfl) (pe_lst (pa_cons (pe_str) (pa_cons (pe_str) (pa_cons (pe_str) (pa_cons (pe_str) (pa_cons (pe_str) (pa_cons (pe_str) (pa_cons (pe_str) (pa_cons (pe_str) (pa_cons (pe_str) (pa_cons (pe_str) (pa_cons (pe_str) (pa_cons (pe_str) (pa_cons (pe_str) (pa_cons (pe_str) (pa_cons (pe_str) (pa_cons (pe_str) pa_nil))))))))))))))))))
  (pss_cons (ps_for PassesOwn.never rfl (pi_range1 (by rfl) E.f_range (pa_cons (pe_int) pa_nil)) (pg_name (i := 11) nd rfl (.inl rfl))
   (pss_cons (ps_set (i := 12) nd rfl (.inl rfl) (xSplit (pv 9) (pe_str)))
  (pss_cons (ps_set (i := 13) nd rfl (.inl rfl) (pc (ok__law_pick E) hr (by decide) pass0 rfl (pa_cons (pv 5) (pa_cons (pe_callB (kLen K) (by rfl) E.f_len (by decide +kernel) (pa_cons (pv 12) pa_nil)) pa_nil))))
  (pss_cons (ps_set (i := 14) nd rfl (.inl rfl) (pe_ix (kIx K) (pv 10) (pc (ok__law_pick E) hr (by decide) pass0 rfl (pa_cons (pv 5) (pa_cons (pe_callB (kLen K) (by rfl) E.f_len (by decide +kernel) (pa_cons (pv 10) pa_nil)) pa_nil))) (fun _ _ => rfl)))
  (pss_cons (ps_set (i := 15) nd rfl (.inl rfl) (pc (ok__law_pick E) hr (by decide) pass0 rfl (pa_cons (pv 5) (pa_cons (pe_int) pa_nil))))
  (pss_cut (ps_if (pt_cmpR (kEq K hr) (pv 15) (pe_int) (nomark _))
   (pss_one (ps_asg (pv 14) (pg_sub (pv 12) (pv 13) set_list)))
   (pss_one (ps_if (pt_cmpR (kEq K hr) (pv 15) (pe_int) (nomark _))
   (pss_one (ps_expr (kBM K (pe_bm PySem.F.plainAttrs_list PySem.F.slot_list_insert PySem.F.type_list_insert mt_insert (pv 12) (pa_cons (pv 13) (pa_cons (pv 14) pa_nil))))))
   (pss_one (ps_if (pt_cmpR (kEq K hr) (pv 15) (pe_int) (nomark _))
   (pss_one (ps_expr (kBM K (pe_bm PySem.F.plainAttrs_list PySem.F.slot_list_pop PySem.F.type_list_pop mt_popAt (pv 12) (pa_cons (pv 13) pa_nil)))))
   (pss_one (ps_expr (kBM K (pe_bm PySem.F.plainAttrs_list PySem.F.slot_list_append PySem.F.type_list_append mt_append (pv 12) (pa_cons (pv 14) pa_nil))))))))))
  (pss_one (ps_if (pt_not (kTru K (pc (ok__law_right E) hr (by decide) pass0 rfl (pa_cons (kJoin K (pe_str) (pv 12)) pa_nil)) (by intro _; rfl)))
   (pss_one (ps_ret (pe_bl)))
   pss_nil))))))))
  (pss_cons (ps_set (i := 16) nd rfl (.inl rfl) (pe_lst (pa_cons (pe_str) (pa_cons (pe_str) (pa_cons (pe_str) (pa_cons (pe_str) (pa_cons (pe_str) (pa_cons (pe_str) (pa_cons (pe_str) (pa_cons (pe_str) (pa_cons (pe_str) (pa_cons (pe_str) pa_nil))))))))))))
  (pss_cons (ps_if (pt_not (kTru K (pc (ok__law_right E) hr (by decide) pass0 rfl (pa_cons (pe_ix (kIx K) (pv 16) (pc (ok__law_pick E) hr (by decide) pass0 rfl (pa_cons (pv 5) (pa_cons (pe_callB (kLen K) (by rfl) E.f_len (by decide +kernel) (pa_cons (pv 16) pa_nil)) pa_nil))) (fun _ _ => rfl)) pa_nil)) (by intro _; rfl)))
   (pss_one (ps_ret (pe_bl)))
   pss_nil)
  (pss_one (ps_ret (pe_callB (kAll K rfl) (by rfl) E.f_all (by decide +kernel) (pa_cons (pe_lc (own := [("thing", 17)]) (g := gName 17) (tt := tYes) rfl nd (kSeq K (pe_lst (pa_cons (pe_non) (pa_cons (pe_int) (pa_cons (pe_tup (pa_cons (pe_str) (pa_cons (pe_str) pa_nil))) (pa_cons (pe_lst (pa_cons (pe_str) pa_nil)) (pa_cons (pe_bl) pa_nil))))))) (blkOk_by (N := N_law) (sc := defScope s_law) (by decide +kernel)) (fun _ _ _ _ _ => pg_name (i := 17) nd rfl (Or.inl rfl)) (fun _ _ _ _ _ => pts_nil) (fun _ _ _ _ _ => pe_cmpR (kEq K hr) (pc (ok__law_read E) hr (by decide) pass0 rfl (pa_cons (pv 17) pa_nil)) (pe_tup (pa_cons (pe_str) (pa_cons (pe_un un_neg (pe_int)) pa_nil))) (nomark _))) pa_nil)))))))))))))))))))), ?_⟩
  change (_ : TS) _ [some v0, none, none, none, none, none, none, none, none, none, none, none, none, none, none, none, none, none] H
  try dsimp only [cxOf, Cx.nox, Cx.blk]
  obtain ⟨sa, ns, rfl, s0, hb, hz, k⟩ := h
  walk_at "w"
  refine ⟨sa, ns, 0, rfl, rfl, s0, hb, hz, by decide, by decide, fun x H1 n1 e1 q1 => ?_⟩
  walk_at "w"
  intro p0 H2 n2 e2 g2
  have m2 : H2 p0 = some (.lst (menu5.map V.str)) := g2
  walk_at "w"
  refine ⟨x, 5, rfl, rfl, by decide, by decide, q1.ex e2, fun r0 H3 r00 r01 q3 f3 => ?_⟩
  have m3 := fr_strs f3 (q1.ex e2) m2
  walk_at "w"
  refine r_slL (sq_of m3) ?_
  rw [cutV_to (by omega) V.str]
  intro pm H4 n4 e4 m4
  have ml : 1 ≤ (menu5.take (1 + r0).toNat).length ∧ (menu5.take (1 + r0).toNat).length ≤ 5 := by rw [List.length_take]; show 1 ≤ min _ 5 ∧ min _ 5 ≤ 5; omega
  have mok : ∀ w ∈ menu5.take (1 + r0).toNat, okW w = true := fun w hw => menu5_ok w (List.mem_of_mem_take hw)
  have q4 := q3.ex e4
  have s4 : SqL K H4 sa (vI ns) := ex_l e4 (l_fr f3 s0 n1 (ex_l e2 (ex_l e1 s0)))
  generalize menu5.take (1 + r0).toNat = menu at m4 ml mok
  clear q1 q3 m2 m3 g2
  walk_at "w"
  intro pf0 H5 n5 e5 g5
  walk_at "w"
  refine ⟨x, 14, rfl, rfl, by decide, by decide, q4.ex e5, fun r1 H6 r10 r11 q6 f6 => ?_⟩
  have m6 := fr_strs f6 (q4.ex e5) (e5 _ _ m4)
  have g6 : H6 pf0 = some (.lst (([] : List Str).map V.str)) := fr_strs f6 (q4.ex e5) g5
  have s6 : SqL K H6 sa (vI ns) := l_fr f6 s0 n1 (ex_l e5 s4)
  walk_at "w"
  refine for_range (lo := 0) (Pv := fun i σ' G => ∃ (pf : Addr) (fs : List Str) (z : Option V), σ' = [some (.ref sa), some (.ref x), some (.ref pm), some (.ref pf), z, none, none, none, none, none, none, none, none, none, none, none, none, none] ∧ Fr x H5 G ∧ SrcAt G x ∧ G pm = some (.lst (menu.map V.str)) ∧ G pf = some (.lst (fs.map V.str)) ∧ fs.length ≤ 12 * i ∧ ∀ w ∈ fs, okW w = true)
    ⟨pf0, [], _, rfl, f6, q6, m6, g6, Nat.zero_le _, fun w h => (List.not_mem_nil h).elim⟩ ?_ ?_
  · rintro i σ' G hi ⟨pf, fs, z, rfl, f, q, m, g, zf, okf⟩
    have i13 : i < 13 := by omega
    walk_at "w"
    rw [List.length_map]
    refine ⟨x, (menu.length : Nat), rfl, rfl, by omega, by omega, q, fun r G1 r0 r1 q1 f1 => ?_⟩
    have m1 := fr_strs f1 q m
    have g1 := fr_strs f1 q g
    walk_at "w"
    obtain ⟨w, hw, ha⟩ := atI_strs (xs := menu) r0 r1
    refine r_ixL (sq_of m1) ha ?_
    walk_at "w"
    intro p1 G2 n2 e2 h2
    walk_at "w"
    intro p2 G3 n3 e3 h3
    walk_at "w"
    have q3 := (q1.ex e2).ex e3
    refine ⟨x, 6, rfl, rfl, by decide, by decide, q3, fun r' G4 r0' r1' q4 f4 => ?_⟩
    have l4 : G4 p2 = some (.lst (([1, 2, 1, 3, 12, 1] : List Int).map V.int)) := fr_ob f4 q3 h3 fun d s c e => by cases HO.lst.inj e
    have w4 : G4 p1 = some (.lst (([w] : List Str).map V.str)) := fr_strs f4 q3 (e3 _ _ h2)
    have g4 := fr_strs f4 q3 (e3 _ _ (e2 _ _ g1))
    have m4' := fr_strs f4 q3 (e3 _ _ (e2 _ _ m1))
    walk_at "w"
    have nb : 0 ≤ gI [1, 2, 1, 3, 12, 1] r' ∧ gI [1, 2, 1, 3, 12, 1] r' ≤ 12 := by
      have : r' = 0 ∨ r' = 1 ∨ r' = 2 ∨ r' = 3 ∨ r' = 4 ∨ r' = 5 := by omega
      rcases this with rfl | rfl | rfl | rfl | rfl | rfl <;> decide
    generalize gI [1, 2, 1, 3, 12, 1] r' = n at nb ⊢
    refine r_repLB w4 nb.1 (by omega) (sz_of (by show 1 * n.toNat ≤ 100000; omega)) fun p3 G5 n5 e5 h5 => ?_
    rw [show (List.replicate n.toNat (([w] : List Str).map V.str)).flatten = (List.replicate n.toNat w).map V.str by rw [List.map_replicate]; exact flat_one _ _] at h5
    refine w_xcatL (e5 _ _ g4) h5 (sz_of (by rw [List.length_map, List.length_map, List.length_replicate]; omega)) fun p4 G6 n6 e6 h6 => ?_
    rw [← List.map_append] at h6
    walk_at "w"
    refine ⟨p4, fs ++ List.replicate n.toNat w, some (.int (0 + i)), rfl, (((((f.trans f1).trans (Fr.of e2)).trans (Fr.of e3)).trans f4).trans (Fr.of e5)).trans (Fr.of e6), (q4.ex e5).ex e6, e6 _ _ (e5 _ _ m4'), h6, by rw [List.length_append, List.length_replicate]; omega, fun u hu => ?_⟩
    rcases List.mem_append.mp hu with hu | hu
    · exact okf u hu
    · rw [rep_mem hu]; exact mok w hw
  rintro σ' G ⟨pf, fs, z, rfl, fG, qG, mG, gG, zf, okf⟩
  have sG : SqL K G sa (vI ns) := l_fr fG s0 n1 (ex_l e5 s4)
  have zf' : fs.length ≤ 156 := by omega
  clear zf s6 g6 m6 f6 q6 g5 m4 q4
  walk_at "w"
  refine ⟨sa, ns, 1, rfl, rfl, sG, hb, hz, by decide, by decide, fun y G1 n7 e7 q7 => ?_⟩
  walk_at "w"
  refine ⟨y, 20, rfl, rfl, by decide, by decide, q7, fun r2 G2 r20 r21 q8 f8 => ?_⟩
  have m8 := fr_strs f8 q7 (e7 _ _ mG)
  have g8 := fr_strs f8 q7 (e7 _ _ gG)
  walk_at "w"
  refine lcS_range (K := K) (s := y) isW (by omega) q8 (fun v => [_, _, _, _, some v, _, _, _, _, _, _, _, _, _, _, _, _, _]) (fun _ => rfl) (fun _ => rfl) (fun i G3 Q' f9 q9 hi hq => ?_) (fun pt G3 ys n9 f9 q9 g9 hl hp => ?_)
  · have m9 := fr_strs f9 q8 m8
    walk_at "w"
    rw [List.length_map]
    refine ⟨y, (menu.length : Nat), rfl, rfl, by omega, by omega, q9, fun r3 G4 r30 r31 q10 f10 => ?_⟩
    walk_at "w"
    obtain ⟨w, hw, ha⟩ := atI_strs (xs := menu) r30 r31
    refine r_ixL (sq_of (fr_strs f10 q9 m9)) ha ?_
    exact hq _ _ ⟨w, rfl, mok w hw⟩ f10 q10
  obtain ⟨us, rfl, oku⟩ := isW_list hp
  have zu : us.length ≤ 19 := by rw [List.length_map] at hl; omega
  have g10 := fr_strs f9 q8 g8
  clear hp hl
  dsimp only [List.set]
  refine w_cut (M := fun σ' H' => ∃ (pf' : Addr) (fs : List Str) (z : Option V), σ' = [some (.ref sa), some (.ref x), some (.ref pm), some (.ref pf'), z, some (.ref y), some (.ref pt), none, none, none, none, none, none, none, none, none, none, none] ∧
      SrcAt H' y ∧ H' pt = some (.lst (us.map V.str)) ∧ H' pf' = some (.lst (fs.map V.str)) ∧ (∀ w ∈ fs, okW w = true) ∧ fs.length ≤ 6240) ?_ ?_
  · dsimp only [List.set]
    walk_at "w"
    refine ⟨y, 9, rfl, rfl, by decide, by decide, q9, fun r3 H8 r30 r31 q8 f8 => ?_⟩
    walk_at "w"
    have t8 := fr_strs f8 q9 g9
    have g8 := fr_strs f8 q9 g10
    refine w_ite (fun c => ?_) (fun c => ?_)
    · walk_at "w"
      refine r_repLB g8 (by decide) (by decide) (sz_of (by rw [List.length_map, show (40 : Int).toNat = 40 from rfl]; omega)) fun p H9 n9 e9 g9 => ?_
      rw [flat_strs] at g9
      walk_at "w"
      exact ⟨_, _, _, rfl, q8.ex e9, e9 _ _ t8, g9, fun w hw => okf w (flat_mem hw), by rw [flat_len, show (40 : Int).toNat = 40 from rfl]; omega⟩
    · walk_at "w"
      exact ⟨_, _, _, rfl, q8, t8, g8, okf, by omega⟩
  clear qG mG gG sG q7 q8 m8 g8 q9 g9 g10 okf zf' fG f8 f9 n7 n9
  rintro σ' G0 ⟨pf', fs, z, rfl, q, gt, gf, okf, zf⟩
  have OK : RosOk fs us := ⟨by omega, by omega, okf, oku⟩
  obtain ⟨rf, sf, lf⟩ := rls_rs (show fs.length ≤ 50000 by omega) okf
  obtain ⟨ru, su, lu⟩ := rls_rs (show us.length ≤ 50000 by omega) oku
  walk_at "w"
  refine w_m1 ?_
  walk_at "w"
  refine ⟨⟨_, rfl⟩, ?_⟩
  walk_at "w"
  refine ⟨pf', fs, rfl, sq_of gf, by omega, okf, fun p1 G1 n1' e1' g1 => ?_⟩
  walk_at "w"
  intro p2 G2 n2' e2' g2
  refine w_xcatL (e2' _ _ g1) g2 (sz_of (by rw [List.length_map, wof_len]; show _ + 1 ≤ _; omega)) fun p3 G3 n3' e3' g3 => ?_
  walk_at "w"
  have E3 := (e1'.trans e2').trans e3'
  refine ⟨pt, us, rfl, sq_of (E3 _ _ gt), by omega, oku, fun p4 G4 n4' e4' g4 => ?_⟩
  refine w_xcatL (e4' _ _ g3) g4 (sz_of (by rw [List.length_append, List.length_map, List.length_map, wof_len, wof_len]; show _ + 1 + _ ≤ _; omega)) fun p5 G5 n5' e5' g5 => ?_
  rw [show ((wof (rls fs)).map V.str ++ [V.str "/"]) ++ (wof (rls us)).map V.str = (wof (rls fs) ++ ("/" : Str) :: wof (rls us)).map V.str by rw [List.map_append, List.map_cons, List.append_assoc]; rfl] at g5
  walk_at "w"
  refine r_joinL (sq_of g5) (rt_size rf ru (by omega) (by omega)) ?_
  rw [show Txt.join " " (wof (rls fs) ++ ("/" : Str) :: wof (rls us)) = rtext (rls fs) (rls us) from rfl]
  have E5 := (E3.trans e4').trans e5'
  have gf5 := E5 _ _ gf
  have gt5 := E5 _ _ gt
  have q5 := q.ex E5
  clear gf gt q g1 g2 g3 g4 g5 n1' n2' n3' n4' n5' e1' e2' e3' e4' e5' E3 E5
  walk_at "w"
  refine mk_ros rfl (fs := fs) (us := us) ⟨pf', rfl, .inl (sq_of gf5), by omega, okf⟩ ⟨pt, rfl, .inl (sq_of gt5), by omega, oku⟩ fun ro G6 e6 ros => ?_
  walk_at "w"
  refine ⟨ro, fs, us, rfl, ros, by omega, by omega, okf, oku, fun G7 e7 => ?_⟩
  walk_at "w"
  refine r_neSS ?_
  walk_at "w"
  refine .inr ⟨_, wof (rls fs), wof (rls us), true, [], rfl, Nat.le_trans (rtext_len rf ru (by omega)) (by decide), rtext_W rf ru, fun h => not_bad h, fun _ _ => ⟨fun h => not_many rf ru sf su (by omega) h, fun _ x1 G8 e8 ros8 => ?_⟩⟩
  rw [rtext_sp rf, rtext_sp ru, sf, su] at ros8
  have rosA := ex_ros (e7.trans e8) ros
  have gf8 := e8 _ _ (e7 _ _ (e6 _ _ gf5))
  have gt8 := e8 _ _ (e7 _ _ (e6 _ _ gt5))
  have q8 := ((q5.ex e6).ex e7).ex e8
  clear e6 e7 e8 gf5 gt5 q5 ros
  walk_at "w"
  obtain ⟨d1, d2, d3, hi, _⟩ := id ros8
  obtain ⟨d4, d5, d6, hj, _⟩ := id rosA
  refine r_ownEq hi (insB_ok E.ins_Roster E.c_Roster hj) E.nf_Roster_self ?_
  refine ⟨x1, fs, us, rfl, ros8, OK, .inl ⟨ro, fs, us, rfl, rosA, OK, fun b G9 e9 dv => ?_⟩⟩
  rw [decide_eq_true ⟨rfl, rfl⟩] at dv
  obtain rfl := dp_toBl dv
  refine ⟨⟨_, rfl⟩, ?_⟩
  have ros9 := ex_ros e9 rosA
  have gf9 := e9 _ _ gf8
  have gt9 := e9 _ _ gt8
  have q9 := q8.ex e9
  clear e9 hi hj rosA gf8 gt8 q8 ros8
  walk_at "w"
  refine ⟨_, rfl, Nat.le_trans (rtext_len rf ru (by omega)) (by decide), fun G10 e10 => ?_⟩
  have rosB := ex_ros e10 ros9
  have gf10 := e10 _ _ gf9
  have gt10 := e10 _ _ gt9
  have q10 := q9.ex e10
  clear e10 ros9 gf9 gt9 q9
  walk_at "w"
  refine w_m1 ?_
  walk_at "w"
  refine ⟨⟨_, rfl⟩, ?_⟩
  walk_at "w"
  refine ⟨y, pf', fs, rfl, rfl, q10, sq_of gf10, by omega, okf, fun p1 ps G11 n11 f11 q11 g11 ok1 sp1' => ?_⟩
  have gt11 := fr_strs f11 q10 gt10
  have ros11 := fr_ros f11 q10 rosB
  clear gf10 gt10 q10 rosB f11
  walk_at "w"
  intro p2 G12 n12 e12 g12
  refine w_xcatL (e12 _ _ g11) g12 (sz_of (by
    have := (spreadR_many fun t ht => (ok1 t ht).1).1
    rw [sp1'] at this
    rw [List.length_map, wof_len]
    show _ + 1 ≤ _
    omega)) fun p3 G13 n13 e13 g13 => ?_
  rw [show (wof ps).map V.str ++ [V.str "/"] = (wof ps ++ ([("/" : Str)])).map V.str by rw [List.map_append]; rfl] at g13
  have gt13 := e13 _ _ (e12 _ _ gt11)
  have ros13 := ex_ros (e12.trans e13) ros11
  have q13 := (q11.ex e12).ex e13
  clear e12 e13 g11 g12 gt11 ros11 q11 n11 n12 n13
  walk_at "w"
  refine ⟨y, pt, us, rfl, rfl, q13, sq_of gt13, by omega, oku, fun p4 ps2 G14 n14 f14 q14 g14 ok2 sp2' => ?_⟩
  have g13' := fr_strs f14 q13 g13
  have ros14 := fr_ros f14 q13 ros13
  have lp1 : ps.length ≤ fs.length := by
    have := (spreadR_many fun t ht => (ok1 t ht).1).1
    rwa [sp1'] at this
  have lp2 : ps2.length ≤ us.length := by
    have := (spreadR_many fun t ht => (ok2 t ht).1).1
    rwa [sp2'] at this
  clear g13 gt13 ros13 q13 f14 n14
  refine w_xcatL g13' g14 (sz_of (by rw [List.length_map, List.length_map, List.length_append, wof_len, wof_len]; show _ + 1 + _ ≤ _; omega)) fun p5 G15 n15 e15 g15 => ?_
  rw [show (wof ps ++ ([("/" : Str)])).map V.str ++ (wof ps2).map V.str = (wof ps ++ ("/" : Str) :: wof ps2).map V.str by rw [← List.map_append, List.append_assoc]; rfl] at g15
  walk_at "w"
  refine r_joinL (sq_of g15) (rt_size ok1 ok2 (by omega) (by omega)) ?_
  rw [show Txt.join " " (wof ps ++ ("/" : Str) :: wof ps2) = rtext ps ps2 from rfl]
  have ros15 := ex_ros e15 ros14
  have q15 := q14.ex e15
  clear g13' g14 ros14 q14 e15 n15 g15
  walk_at "w"
  refine .inr ⟨_, wof ps, wof ps2, true, [], rfl, Nat.le_trans (rtext_len ok1 ok2 (by omega)) (by decide), rtext_W ok1 ok2, fun h => not_bad h, fun _ _ => ⟨fun h => not_many ok1 ok2 sp1' sp2' (by omega) h, fun _ x2 G16 e16 rosX => ?_⟩⟩
  rw [rtext_sp ok1, rtext_sp ok2, sp1', sp2'] at rosX
  have ros16 := ex_ros e16 ros15
  have q16 := q15.ex e16
  clear e16 ros15 q15
  walk_at "w"
  obtain ⟨d1, d2, d3, hi, _⟩ := id rosX
  obtain ⟨d4, d5, d6, hj, _⟩ := id ros16
  refine r_ownEq hi (insB_ok E.ins_Roster E.c_Roster hj) E.nf_Roster_self ?_
  refine ⟨x2, fs, us, rfl, rosX, OK, .inl ⟨ro, fs, us, rfl, ros16, OK, fun b G17 e17 dv => ?_⟩⟩
  rw [decide_eq_true ⟨rfl, rfl⟩] at dv
  obtain rfl := dp_toBl dv
  refine ⟨⟨_, rfl⟩, ?_⟩
  have q17 := q16.ex e17
  clear e17 hi hj ros16 q16 rosX
  walk_at "w"
  refine .inr ⟨_, wof ps, wof ps2, true, [], rfl, Nat.le_trans (rtext_len ok1 ok2 (by omega)) (by decide), rtext_W ok1 ok2, fun h => not_bad h, fun _ _ => ⟨fun h => not_many ok1 ok2 sp1' sp2' (by omega) h, fun _ x3 G18 e18 rosX => ?_⟩⟩
  rw [rtext_sp ok1, rtext_sp ok2, sp1', sp2'] at rosX
  walk_at "w"
  refine ⟨x3, fs, us, rfl, rosX, by omega, by omega, okf, oku, fun G19 e19 => ?_⟩
  have q19 := (q17.ex e18).ex e19
  clear e18 e19 rosX q17
  walk_at "w"
  refine r_neSS ?_
  walk_at "w"
  intro po G20 n20 e20 g20
  have o20 : G20 po = some (.lst (oddL.map V.str)) := g20
  have q20 := q19.ex e20
  clear e20 n20 g20 q19
  walk_at "w"
  have hW : ∀ w ∈ wof ps ++ ("/" : Str) :: wof ps2, w.length ≤ 13 := fun w hw => (rtext_words ok1 ok2 w hw).1
  have lW : (wof ps ++ ("/" : Str) :: wof ps2).length = ps.length + (ps2.length + 1) := by rw [List.length_append, List.length_cons, wof_len, wof_len]
  have tl0 := rtext_len ok1 ok2 (by omega)
  have spt : Txt.split (rtext ps ps2) " " = wof ps ++ ("/" : Str) :: wof ps2 := rtext_split ok1 ok2
  generalize wof ps ++ ("/" : Str) :: wof ps2 = W at hW lW spt
  refine for_range (lo := 0) (Pv := fun i σ' G => ∃ (a b c d e : Option V), σ' = [some (.ref sa), some (.ref x), some (.ref pm), some (.ref pf'), z, some (.ref y), some (.ref pt), some (.str (rtext (rls fs) (rls us))), some (.ref ro), some (.str (rtext ps ps2)), some (.ref po), a, b, c, d, e, none, none] ∧ SrcAt G y ∧ G po = some (.lst (oddL.map V.str)))
    ⟨_, _, _, _, _, rfl, q20, o20⟩ ?_ ?_
  · rintro i σ' G hi ⟨a, b, c, d, e, rfl, q, o⟩
    walk_at "w"
    refine w_m1 ?_
    walk_at "w"
    refine ⟨⟨_, rfl⟩, ?_⟩
    walk_at "w"
    refine r_split (by decide +kernel) (sz_of (by omega)) fun pw G1 n1 e1 g1 => ?_
    rw [spt] at g1
    have q1 := q.ex e1
    have o1 := e1 _ _ o
    have yw : y ≠ pw := (q.ne n1).symm
    have ow : po ≠ pw := fun h => by rw [h, n1] at o; cases o
    walk_at "w"
    rw [List.length_map]
    refine ⟨y, (W.length : Nat), rfl, rfl, by omega, by omega, q1, fun r G2 r0 r1 q2 f2 => ?_⟩
    have g2 := fr_strs f2 q1 g1
    have o2 := fr_strs f2 q1 o1
    walk_at "w"
    rw [List.length_map]
    refine ⟨y, (oddL.length : Nat), rfl, rfl, by decide, by decide, q2, fun r' G3 r0' r1' q3 f3 => ?_⟩
    have g3 := fr_strs f3 q2 g2
    have o3 := fr_strs f3 q2 o2
    walk_at "w"
    obtain ⟨w, hw, ha⟩ := atI_strs (xs := oddL) r0' r1'
    refine r_ixL (sq_of o3) ha ?_
    walk_at "w"
    refine ⟨y, 4, rfl, rfl, by decide, by decide, q3, fun wy G4 w0 w1 q4 f4 => ?_⟩
    have g4 := fr_strs f4 q3 g3
    have o4 := fr_strs f4 q3 o3
    have wl := odd_len w hw
    clear g1 g2 g3 o1 o2 o3 q1 q2 q3 f2 f3 f4
    walk_at "w"
    refine w_cut (M := fun σ' H' => ∃ W' : List Str, σ' = [some (.ref sa), some (.ref x), some (.ref pm), some (.ref pf'), z, some (.ref y), some (.ref pt), some (.str (rtext (rls fs) (rls us))), some (.ref ro), some (.str (rtext ps ps2)), some (.ref po), some (.int (0 + i)), some (.ref pw), some (.int r), some (.str w), some (.int wy), none, none] ∧
        SrcAt H' y ∧ H' po = some (.lst (oddL.map V.str)) ∧ H' pw = some (.lst (W'.map V.str)) ∧ (∀ u ∈ W', u.length ≤ 13) ∧ W'.length ≤ 6261) ?_ ?_
    · dsimp only [List.set]
      have keep : ∀ (W' : List Str) xs, xs = W'.map V.str → (∀ u ∈ W', u.length ≤ 13) → W'.length ≤ 6261 → ∃ W' : List Str, [some (V.ref sa), some (.ref x), some (.ref pm), some (.ref pf'), z, some (.ref y), some (.ref pt), some (.str (rtext (rls fs) (rls us))), some (.ref ro), some (.str (rtext ps ps2)), some (.ref po), some (.int (0 + i)), some (.ref pw), some (.int r), some (.str w), some (.int wy), none, none] = [some (.ref sa), some (.ref x), some (.ref pm), some (.ref pf'), z, some (.ref y), some (.ref pt), some (.str (rtext (rls fs) (rls us))), some (.ref ro), some (.str (rtext ps ps2)), some (.ref po), some (.int (0 + i)), some (.ref pw), some (.int r), some (.str w), some (.int wy), none, none] ∧
          SrcAt (upd G4 pw (.lst xs)) y ∧ upd G4 pw (.lst xs) po = some (.lst (oddL.map V.str)) ∧ upd G4 pw (.lst xs) pw = some (.lst (W'.map V.str)) ∧ (∀ u ∈ W', u.length ≤ 13) ∧ W'.length ≤ 6261 := fun W' xs h h1 h2 => ⟨W', rfl, src_upd yw q4, by rw [upd_ne ow]; exact o4, by rw [upd_same, h], h1, h2⟩
      have zl : (W.map V.str).length < sizeLine := sz_lt (by rw [List.length_map]; omega)
      have rl : r < ((W.map V.str).length : Nat) := by rw [List.length_map]; exact r1
      walk_at "w"
      by_cases c0 : wy = 0
      · walk_at "w"
        refine r_set g4 (ixN_in r0 rl) ?_
        refine keep (W.set r.toNat w) _ (by rw [List.map_set]) (fun u hu => ?_) (by rw [List.length_set]; omega)
        rcases List.mem_or_eq_of_mem_set hu with hu | rfl
        · exact hW u hu
        · exact wl
      · walk_at "w"
        by_cases c1 : wy = 1
        · walk_at "w"
          refine ⟨pw, W.map V.str, r, .str w, rfl, rfl, g4, zl, r0, by omega, ?_⟩
          refine keep (W.take r.toNat ++ [w] ++ W.drop r.toNat) _ (by rw [List.map_append, List.map_append, List.map_take, List.map_drop]; rfl) (fun u hu => ?_) (by rw [List.length_append, List.length_append, List.length_take, List.length_drop, List.length_singleton]; omega)
          rcases List.mem_append.mp hu with hu | hu
          · rcases List.mem_append.mp hu with hu | hu
            · exact hW u (List.mem_of_mem_take hu)
            · rw [List.mem_singleton.mp hu]; exact wl
          · exact hW u (List.mem_of_mem_drop hu)
        · walk_at "w"
          by_cases c2 : wy = 2
          · walk_at "w"
            have hk : r.toNat < W.length := by omega
            refine ⟨pw, W.map V.str, r, r.toNat, .str W[r.toNat], rfl, rfl, g4, by omega, by omega, (ixN_seq (ixN_in r0 rl)).1, by rw [List.getElem?_map, List.getElem?_eq_getElem hk]; rfl, ?_⟩
            refine keep (W.eraseIdx r.toNat) _ (by rw [List.eraseIdx_eq_take_drop_succ, List.eraseIdx_eq_take_drop_succ, List.map_append, List.map_take, List.map_drop]) (fun u hu => hW u (List.mem_of_mem_eraseIdx hu)) (by have := List.length_eraseIdx_le W r.toNat; omega)
          · walk_at "w"
            refine r_app (K := K) g4 zl ?_
            refine keep (W ++ [w]) _ (by rw [List.map_append]; rfl) (fun u hu => ?_) (by rw [List.length_append, List.length_singleton]; omega)
            rcases List.mem_append.mp hu with hu | hu
            · exact hW u hu
            · rw [List.mem_singleton.mp hu]; exact wl
    rintro σ' G5 ⟨W', rfl, q5, o5, g5, hW', lW'⟩
    walk_at "w"
    refine w_m1 ?_
    walk_at "w"
    refine ⟨⟨_, rfl⟩, ?_⟩
    walk_at "w"
    refine r_joinL (sq_of g5) (join_sz hW' (by omega)) ?_
    refine ⟨_, rfl, _, rfl, Nat.le_trans (join_len hW') (by omega), fun G6 e6 => ?_⟩
    walk_at "w"
    exact ⟨_, _, _, _, _, rfl, q5.ex e6, e6 _ _ o5⟩
  rintro σ' G ⟨a, b, c, d, e, rfl, q, o⟩
  walk_at "w"
  intro pe G1 n1 e1 g1
  have m1 : G1 pe = some (.lst (edgeL.map V.str)) := g1
  have q1 := q.ex e1
  clear g1 e1 n1 o
  dsimp only [gName, List.set]
  walk_at "w"
  refine ⟨y, (edgeL.length : Nat), rfl, rfl, by decide, by decide, q1, fun r G2 r0 r1 q2 f2 => ?_⟩
  have m2 := fr_strs f2 q1 m1
  walk_at "w"
  obtain ⟨w, hw, ha⟩ := atI_strs (xs := edgeL) r0 r1
  refine r_ixL (sq_of m2) ha ?_
  walk_at "w"
  refine ⟨w, rfl, edge_len w hw, fun G3 e3 => ?_⟩
  walk_at "w"
  refine i_seqL ?_
  walk_at "w"
  intro p1 G4 n4 e4 g4
  walk_at "w"
  intro p2 G5 n5 e5 g5
  walk_at "w"
  intro p3 G6 n6 e6 g6
  have h1 : SqT K G6 p1 [.str "g", .str "/"] := st_of (e6 _ _ (e5 _ _ g4))
  have h2 : SqL K G6 p2 [.str "/"] := sq_of (e6 _ _ g5)
  refine i_xL (sq_of g6) ?_
  refine lcJ_list (v := fun _ => .bl true) (sq_of g6) (show 5 ≤ 100000 by decide) (fun v => [_, _, _, _, _, _, _, _, _, _, _, _, _, _, _, _, _, some v]) (fun _ => rfl) (fun _ => rfl) (fun v G7 Q' e7 hv hq => ?_) (fun p4 G7 n7 e7 g7 => ?_)
  · have data : ∃ d, Dp K G7 v d ∧ dIsS d = false := by
      rcases List.mem_cons.mp hv with rfl | hv
      · exact ⟨_, .non, rfl⟩
      rcases List.mem_cons.mp hv with rfl | hv
      · exact ⟨_, .int _, rfl⟩
      rcases List.mem_cons.mp hv with rfl | hv
      · exact ⟨_, .tup (ex_t e7 h1) (.cons (.str _) (.cons (.str _) .nil)), rfl⟩
      rcases List.mem_cons.mp hv with rfl | hv
      · exact ⟨_, .lst (ex_l e7 h2) (.cons (.str _) .nil), rfl⟩
      rw [List.mem_singleton.mp hv]
      exact ⟨_, .bl _, rfl⟩
    walk_at "w"
    refine .inl ⟨data, fun p5 G8 e8 s8 => ?_⟩
    walk_at "w"
    intro p6 G9 n9 e9 g9
    refine r_eqPl (ex_t e9 s8) (st_of g9) ?_
    exact hq _ (e8.trans e9)
  · walk_at "w"
    refine r_all (bs := [true, true, true, true, true]) (sq_of g7) rfl ?_
    exact k _

end
end M
namespace M
open PySem PySem.Spec PyProof.Rows L2 Evl MS
theorem facts {P : Program} {w : World} {K : PySem.W.Frag} {h : Heap} {mg : Str → Option Value} {f : Addr} (X : K.In h) (G : h.Ns mainGlobals mg) (hfa : mg ("law" : Str) = some (.ref f)) (c : SaysM fa fn exB K) (pf : ((P.main.file : Str) == mainFile) = true ∧ (P.main.scope.names.lookup ("super" : Str)).isSome = false) :
    ∃ fd : FuncData, (∀ (s : Shared) (v : Value), BindsTo s fd ⟨[v], []⟩ [("script", v)]) ∧ ∀ base : Heap, K.In base → base.Ns mainGlobals mg → FnOk P w K mg base CX0 14 f fd ["script"] (lawSp K) := by
  have E : Env P K mg := ⟨⟨h, X, G⟩, c, pf⟩
  obtain ⟨fd, F⟩ := E.dd_law
  have e := hfa.symm.trans E.g_law
  cases e
  have b := FunD.bindsA (ps := ["script"]) F fun _ _ _ _ _ _ us hl => match us, hl with | [_], _ => rfl
  exact ⟨fd, fun s v => b s [v] rfl, fun base _ _ => ok_law E F⟩
end M
open PySem PySem.W PySem.Calls PyProof.Rows
theorem PySem.Challenge.cw_rosterneed_k71_whole_roster_texts_holds : PySem.Challenge.rw_rosterneed_k71_whole_roster_texts.Holds := by
  w_on; o_law
  refine HandSHeadRun.head_any (r := OpenLaw.row PySem.Challenge.rw_rosterneed_k71_whole_roster_texts) (q := view (OpenLaw.row PySem.Challenge.rw_rosterneed_k71_whole_roster_texts).prog [71]) (H := M.hk) (ob := M.ob) (M := 6000) (loose := M.nmL) (d := HandSHeadRun.topDef (OpenLaw.row PySem.Challenge.rw_rosterneed_k71_whole_roster_texts).prog 71) (kwd := []) M.ob_eq
    (by kernel_rfl) (fun s => by kernel_rfl) M.run (by kernel_rfl) (by kernel_rfl) (by kernel_rfl) (by rfl) (by first | assumption | decide +kernel) (by decide +kernel) ⟨rfl, rfl, rfl, rfl, rfl, by decide +kernel⟩ ?hw ?hc
  case hw => w_witness2
  case hc =>
    refine Att.attach_callB (l := PySem.Challenge.rw_rosterneed_k71_whole_roster_texts) (n := 63) rfl (by kernel_rfl) fun w s₀ s₁ mg mb fa o pm cd doc a vs ns G Y ho hd hcd hmg0 hobj hints hlen hbits hg => ?_
    obtain ⟨K, KX, c⟩ := Y
    have hmg : mg ("law" : PySem.Str) = some (.ref fa) := by
      have e : (HandSHeadRun.topDef (OpenLaw.row PySem.Challenge.rw_rosterneed_k71_whole_roster_texts).prog 71).name = ("law" : PySem.Str) := by kernel_rfl
      rw [← e]
      exact hmg0
    obtain ⟨fd, hb, hF⟩ := M.facts (P := (PySem.Challenge.rw_rosterneed_k71_whole_roster_texts).prog) (w := w) KX G.T.g hmg c ⟨by kernel_rfl, by kernel_rfl⟩
    exact L2.law_call (CX := L2.CX0) KX G.T.g G.T.b G.T.builtins G.T.nolimit hg hobj hints (Nat.le_trans hlen (by decide)) ⟨rfl, by decide, by decide⟩ hF hb (fun H _ hS => ⟨_, rfl, a, ns, rfl, hS, hbits, hlen, fun _ => rfl⟩) fun _ _ _ z => z

