import PyProof.Rows.All
import Wide.All
import OpenK.AllK
import Wide.FinOn
import HandS.ForMost
import HandS.ForExc
import HandS.Deep
import HandS.IsInst
import HandS.Conv
import HandS.SortRule
import HandS.CallLocal
import HandS.CallSlots
import HandS.Defaults
import HandS.More
import HandS.Style
import HandS.Walk
import KE.KDictDisplayH
import PyProof.StrBlock2
import HandS.TryOnly
import PySem.Challenge.RW_craterooms_k02_whole_pushes
set_option Elab.async false
set_option linter.all false
set_option maxRecDepth 100000
set_option maxHeartbeats 8000000
/-! Canonical readings: the weakest wish of a piece of syntax, and one line a construct. -/
namespace CR
open PySem PySem.Spec PyProof.Rows L2

@[irreducible] def wE (X : Cx) (e : Expr) : TE := fun σ H Q => ∀ (pins : List (Addr × Obj)) (s : Shared), Inv X pins σ H s → wpAny (model X.prog X.w) X.A (eval e X.env) (EP X pins σ Q) X.xe s
@[irreducible] def wT (X : Cx) (e : Expr) : TT := fun σ H Q => ∀ (pins : List (Addr × Obj)) (s : Shared), Inv X pins σ H s → wpAny (model X.prog X.w) X.A (isTrue e X.env (eval e X.env)) (TP X pins σ Q) X.xe s
@[irreducible] def wW (X : Cx) (e : Expr) : TT := fun σ H Q => ∀ (whole : Sem Value) (pins : List (Addr × Obj)) (s : Shared), Inv X pins σ H s → wpAny (model X.prog X.w) X.A (isTrue e X.env whole) (TP X pins σ Q) X.xe s
@[irreducible] def wA (X : Cx) (es : List Expr) : TA := fun σ H Q => ∀ (pos : Pos) (pins : List (Addr × Obj)) (s : Shared), Inv X pins σ H s → wpAny (model X.prog X.w) X.A (spliced (backTo pos (starEach es X.env))) (AP X pins σ Q) X.xe s
@[irreducible] def wS (X : Cx) (st : Stmt) : TS := fun D σ H => ∀ (pins : List (Addr × Obj)) (s : Shared), Inv X pins σ H s → wpAny (model X.prog X.w) X.A (exec st X.env) (SP X pins D) X.xe s
@[irreducible] def wSs (X : Cx) (sts : List Stmt) : TS := fun D σ H => ∀ (pins : List (Addr × Obj)) (s : Shared), Inv X pins σ H s → wpAny (model X.prog X.w) X.A (execs sts X.env) (SP X pins D) X.xe s
@[irreducible] def wG (X : Cx) (tg : Expr) : TG := fun v σ H Q => ∀ (pins : List (Addr × Obj)) (s : Shared) (u : Value), Inv X pins σ H s → RelV v u →
  wpAny (model X.prog X.w) X.A (assign tg X.env u) (fun _ s' => ∃ σ' H', Inv X pins σ' H' s' ∧ Q σ' H') X.xe s
@[irreducible] def wI (X : Cx) (tg it : Expr) : TI := fun σ H R => ∀ (pins : List (Addr × Obj)) (s : Shared), Inv X pins σ H s →
  wpAny (model X.prog X.w) X.A (eval it X.env) (fun v s1 => wpAny (model X.prog X.w) X.A (pyIter v) (PIE X pins σ tg R) X.xe s1) X.xe s

section
variable {X : Cx}
theorem pE {e : Expr} : PE X e (wE X e) := ⟨fun pins s σ H Q I h => by unfold wE at h; exact h pins s I⟩
theorem pT {e : Expr} : PT X e (wT X e) := ⟨fun pins s σ H Q I h => by unfold wT at h; exact h pins s I⟩
theorem pW {e : Expr} : PW X e (wW X e) := ⟨fun wh pins s σ H Q I h => by unfold wW at h; exact h wh pins s I⟩
theorem pA {es : List Expr} : PA X es (wA X es) := ⟨fun pos pins s σ H Q I h => by unfold wA at h; exact h pos pins s I⟩
theorem pS {st : Stmt} : PS X st (wS X st) := ⟨fun pins s σ H D I h => by unfold wS at h; exact h pins s I⟩
theorem pSs {sts : List Stmt} : PSs X sts (wSs X sts) := ⟨fun pins s σ H D I h => by unfold wSs at h; exact h pins s I⟩
theorem pG {tg : Expr} : PG X tg (wG X tg) := ⟨fun pins s σ H v u Q I r h => by unfold wG at h; exact h pins s u I r⟩
theorem pI {tg it : Expr} : PI X tg it (wI X tg it) := ⟨fun pins s σ H R I h => by unfold wI at h; exact h pins s I⟩
variable {σ : L2.St} {H : Hp}
theorem oE {e : Expr} {t : TE} {Q : VK} (h : PE X e t) (q : t σ H Q) : wE X e σ H Q := by unfold wE; exact fun pins s I => h.run pins s σ H Q I q
theorem oT {e : Expr} {t : TT} {Q : Bool → Hp → Prop} (h : PT X e t) (q : t σ H Q) : wT X e σ H Q := by unfold wT; exact fun pins s I => h.run pins s σ H Q I q
theorem oW {e : Expr} {t : TT} {Q : Bool → Hp → Prop} (h : PW X e t) (q : t σ H Q) : wW X e σ H Q := by unfold wW; exact fun wh pins s I => h.run wh pins s σ H Q I q
theorem oA {es : List Expr} {t : TA} {Q : List V → Hp → Prop} (h : PA X es t) (q : t σ H Q) : wA X es σ H Q := by unfold wA; exact fun pos pins s I => h.run pos pins s σ H Q I q
theorem oS {st : Stmt} {t : TS} {D : Ends} (h : PS X st t) (q : t D σ H) : wS X st D σ H := by unfold wS; exact fun pins s I => h.run pins s σ H D I q
theorem oSs {sts : List Stmt} {t : TS} {D : Ends} (h : PSs X sts t) (q : t D σ H) : wSs X sts D σ H := by unfold wSs; exact fun pins s I => h.run pins s σ H D I q
theorem oG {tg : Expr} {t : TG} {v : V} {Q : L2.St → Hp → Prop} (h : PG X tg t) (q : t v σ H Q) : wG X tg v σ H Q := by unfold wG; exact fun pins s u I r => h.run pins s σ H v u Q I r q
theorem oI {tg it : Expr} {t : TI} {R : It → Hp → Prop} (h : PI X tg it t) (q : t σ H R) : wI X tg it σ H R := by unfold wI; exact fun pins s I => h.run pins s σ H R I q
end
end CR
/-! One line a construct: what is to be shown of a piece of syntax, in the order in which it runs. -/
namespace CR
open PySem PySem.Spec PyProof.Rows L2
section
variable {X : Cx} {σ : L2.St} {H : Hp} {Q : VK} {K2 : Bool → Hp → Prop} {a b c e : Expr} {es : List Expr} {pos p apos tpos : Pos} {D : Ends}
/-! ### expressions -/
theorem wVar (i : Nat) {x : Str} {v : V} (hs : σ[i]? = some (some v)) (h : Q v H) (hN : X.N[i]? = some x := by rfl) (hv : Vis X.env.scope x := by first | exact Or.inl rfl | exact Or.inr (Or.inl rfl) | exact Or.inr (Or.inr rfl))
    (hd : (x == ("__debug__" : Str)) = false := by decide) (hcd : (x == ("__classdict__" : Str)) = false := by decide) : wE X (.Name x pos) σ H Q := oE (pe_var hN hv hd hcd) ⟨v, hs, h⟩
theorem wInt {i : Int} {j : Nat} (h : Q (.int i) H) : wE X (.Constant (.int i) j pos) σ H Q := oE pe_int h
theorem wBl {k : Bool} {j : Nat} (h : Q (.bl k) H) : wE X (.Constant (.bool k) j pos) σ H Q := oE pe_bl h
theorem wNon {j : Nat} (h : Q .non H) : wE X (.Constant .none j pos) σ H Q := oE pe_non h
theorem wStr {x : Str} {j : Nat} (h : Q (.str x) H) : wE X (.Constant (.str x) j pos) σ H Q := oE pe_str h
theorem wGlob {x : Str} {v : V} {u : Value} (hm : X.mg x = some u) (r : RelV v u) (h : Q v H) (hg : Gl X x := by rfl) (hd : (x == ("__debug__" : Str)) = false := by decide) : wE X (.Name x pos) σ H Q := oE (pe_glob hg hm r hd) h
theorem wBltn {x : Str} {v : V} {u : Value} (hm : X.mg x = none) (hv : bootBuiltins x = some u) (r : RelV v u) (h : Q v H) (hg : Gl X x := by rfl) (hn : x ≠ "__name__" := by decide) (hd : (x == ("__debug__" : Str)) = false := by decide) :
    wE X (.Name x pos) σ H Q := oE (pe_bltn hg hm hv r hn hd) h
theorem wBin {op : Operator} {r : R2} (ho : OpR X (binaryOp op) r) (h : wE X a σ H fun x H1 => wE X b σ H1 fun y H2 => r x y H2 Q) : wE X (.BinOp a op b pos) σ H Q := oE (pe_op ho pE pE) h
theorem wUn {op : UnaryOp} {r : V → Hp → VK → Prop} (ho : UnR X (unaryOp op) r) (h : wE X a σ H fun x H1 => r x H1 Q) : wE X (.UnaryOp op a pos) σ H Q := oE (pe_un ho pE) h
theorem wCmp {op : CmpOp} {r : R2} (ho : OpR X (compareOp op) r) (h : wE X a σ H fun x H1 => wE X b σ H1 fun y H2 => r x y H2 Q) (hm : behindInMarks op b = false := by first | exact nomark _ | rfl) : wE X (.Compare a [op] [b] pos) σ H Q := oE (pe_cmpR ho pE pE hm) h
theorem wChain {op op' : CmpOp} {r r' : R2} (ho : OpR X (compareOp op) r) (ho' : OpR X (compareOp op') r')
    (h : wE X a σ H fun x H1 => wE X b σ H1 fun y H2 => r x y H2 fun z H3 => ∃ k, z = .bl k ∧ (if k = true then wE X c σ H3 fun w' H4 => r' y w' H4 Q else Q (.bl false) H3))
    (hm : lastMarks [op, op'] [b, c] = false := by with_unfolding_all rfl) : wE X (.Compare a [op, op'] [b, c] pos) σ H Q := oE (pe_chain ho ho' pE pE pE hm) h
theorem wANil {R : List V → Hp → Prop} (h : R [] H) : wA X [] σ H R := oA pa_nil h
theorem wACons {R : List V → Hp → Prop} (h : wE X e σ H fun x H1 => wA X es σ H1 fun xs H2 => R (x :: xs) H2) (hs : starEach (e :: es) X.env = (false, eval e X.env) :: starEach es X.env := by rfl) : wA X (e :: es) σ H R := oA (pa_cons pE pA hs) h
theorem wTup {x1 : Nat} (h : wA X es σ H fun xs H1 => xs.length ≤ sizeLine ∧ ∀ p, H1 p = none → Q (.ref p) (upd H1 p (.tup xs))) : wE X (.Tuple es x1 pos) σ H Q := oE (pe_tup pA) h
theorem wLst (h : wA X es σ H fun xs H1 => xs.length ≤ sizeLine ∧ ∀ p, H1 p = none → Q (.ref p) (upd H1 p (.lst xs))) : wE X (.List es pos) σ H Q := oE (pe_lst pA) h
theorem wIx {r : R2} (hr : IxR X r) (h : wE X a σ H fun x H1 => wE X b σ H1 fun y H2 => r x y H2 Q) (hs : PlainIx b := by exact fun _ _ => rfl) : wE X (.Subscript a b pos) σ H Q := oE (pe_ix hr pE pE hs) h
theorem wIfE (h : wT X c σ H fun k H1 => if k = true then wE X a σ H1 Q else wE X b σ H1 Q) : wE X (.IfExp c a b pos) σ H Q := oE (pe_ifExp pT pE pE) h
theorem wAndE (h : wE X a σ H fun x H1 => ∃ k, x = .bl k ∧ if k = true then wE X b σ H1 Q else Q (.bl false) H1) : wE X (.BoolOp .And [a, b] pos) σ H Q := oE (pe_and pE (pe_one pE)) h
theorem wAndE3 (h : wE X a σ H fun x H1 => ∃ k, x = .bl k ∧ if k = true then (wE X b σ H1 fun x H1 => ∃ k, x = .bl k ∧ if k = true then wE X c σ H1 Q else Q (.bl false) H1) else Q (.bl false) H1) : wE X (.BoolOp .And [a, b, c] pos) σ H Q :=
  oE (pe_and pE (pe_and pE (pe_one pE))) h
theorem wNotE (h : wE X a σ H fun x H1 => ∃ k, x = .bl k ∧ Q (.bl (!k)) H1) : wE X (.UnaryOp .Not a pos) σ H Q := oE (pe_not pE) h
theorem wCallB {x : Str} {id : String} {r : List V → Hp → VK → Prop} (hc : CallR X (.builtin id) r) (hm : X.mg x = none) (hv : bootBuiltins x = some (.builtin id)) (h : wA X (e :: es) σ H fun vs H1 => r vs H1 Q) (hg : Gl X x := by rfl)
    (hn : x ≠ "__name__" := by decide) (hdb : (x == ("__debug__" : Str)) = false := by decide) (he : starEach (e :: es) X.env = (false, eval e X.env) :: starEach es X.env := by rfl) (hpl : (backTo pos (starEach es X.env)).any (·.1) = false := by rfl) :
    wE X (.Call (.Name x p) (e :: es) [] pos) σ H Q := oE (pe_callB hc hg hm hv pA hn hdb he hpl) h
theorem wCallTy {x : Str} {T : String} {r : List V → Hp → VK → Prop} (hc : CallR X (.type T) r) (hm : X.mg x = none) (hv : bootBuiltins x = some (.type T)) (h : wA X (e :: es) σ H fun vs H1 => r vs H1 Q) (hg : Gl X x := by rfl)
    (hn : x ≠ "__name__" := by decide) (hdb : (x == ("__debug__" : Str)) = false := by decide) (he : starEach (e :: es) X.env = (false, eval e X.env) :: starEach es X.env := by rfl) (hpl : (backTo pos (starEach es X.env)).any (·.1) = false := by rfl) :
    wE X (.Call (.Name x p) (e :: es) [] pos) σ H Q := oE (pe_callTy hc hg hm hv pA hn hdb he hpl) h
/-! ### tests -/
theorem tCmp {op : CmpOp} {r : R2} (ho : OpR X (compareOp op) r) (h : wE X a σ H fun x H1 => wE X b σ H1 fun y H2 => r x y H2 fun z H3 => ∃ k, z = .bl k ∧ K2 k H3) (hm : behindInMarks op b = false := by first | exact nomark _ | rfl) :
    wT X (.Compare a [op] [b] pos) σ H K2 := oT (pt_cmpR ho pE pE hm) h
theorem tChain {op op' : CmpOp} {r r' : R2} (ho : OpR X (compareOp op) r) (ho' : OpR X (compareOp op') r')
    (h : wE X a σ H fun x H1 => wE X b σ H1 fun y H2 => r x y H2 fun z H3 => ∃ k, z = .bl k ∧ (if k = true then wE X c σ H3 fun w' H4 => r' y w' H4 fun z H5 => ∃ k, z = .bl k ∧ K2 k H5 else ∃ k', V.bl false = .bl k' ∧ K2 k' H3))
    (hm : lastMarks [op, op'] [b, c] = false := by with_unfolding_all rfl) : wT X (.Compare a [op, op'] [b, c] pos) σ H K2 := oT (pt_chain ho ho' pE pE pE hm) h
theorem tVal (h : wE X e σ H fun x H1 => ∃ k, x = .bl k ∧ K2 k H1) (he : ∀ whole, isTrue e X.env whole = (do let v ← whole; standAt e.pos; holding [v] (truthy v)) := by intro _; rfl) : wT X e σ H K2 := oT (pt_val pE he) h
theorem tNotT (h : wT X a σ H fun k H1 => K2 (!k) H1) : wT X (.UnaryOp .Not a pos) σ H K2 := oT (pt_not pT) h
theorem tAnd2 (h : wT X a σ H fun k H1 => if k = true then wT X b σ H1 K2 else K2 false H1) : wT X (.BoolOp .And [a, b] pos) σ H K2 := oT (PW.pt (pw_and pT (pw_and1 pT))) h
theorem tAnd3 (h : wT X a σ H fun k H1 => if k = true then (wT X b σ H1 fun k H1 => if k = true then wT X c σ H1 K2 else K2 false H1) else K2 false H1) : wT X (.BoolOp .And [a, b, c] pos) σ H K2 := oT (PW.pt (pw_and pT (pw_and pT (pw_and1 pT)))) h
theorem tOr2 (h : wT X a σ H fun k H1 => if k = true then K2 true H1 else wT X b σ H1 K2) : wT X (.BoolOp .Or [a, b] pos) σ H K2 := oT (PW.pt (pw_or pT (pw_or1 pT))) h
theorem tOr3 (h : wT X a σ H fun k H1 => if k = true then K2 true H1 else (wT X b σ H1 fun k H1 => if k = true then K2 true H1 else wT X c σ H1 K2)) : wT X (.BoolOp .Or [a, b, c] pos) σ H K2 := oT (PW.pt (pw_or pT (pw_or pT (pw_or1 pT)))) h
/-! ### statements -/
theorem sNil (h : D.nx σ H) : wSs X [] D σ H := oSs pss_nil h
theorem sCons {st : Stmt} {rest : List Stmt} (h : wS X st { D with nx := fun σ' H' => wSs X rest D σ' H' } σ H) : wSs X (st :: rest) D σ H := oSs (pss_cons pS pSs) h
theorem sOne {st : Stmt} (h : wS X st D σ H) : wSs X [st] D σ H := oSs (pss_one pS) h
theorem sSet (i : Nat) {x : Str} {pos' : Pos} (h : wE X e σ H fun v H1 => D.nx (σ.set i (some v)) H1) (hN : X.N.Nodup) (hi : X.N[i]? = some x := by rfl) (hx : Loc X.env.scope x := by first | exact Or.inl rfl | exact Or.inr rfl)
    (hs : swapsWith e (some (.Name x pos')) pos.line X.env = pure false := by rfl) (hf : X.fn x = true ∨ X.env.scope.names.lookup x = some .local := by first | exact .inl rfl | exact .inr rfl) : wS X (.Assign [.Name x pos'] e pos) D σ H :=
  oS (ps_set hN hi hx pE hs hf) h
theorem sAsg {tg : Expr} (h : wE X e σ H fun v H1 => wG X tg v σ H1 D.nx) (hs : swapsWithSole [tg] e pos.line X.env = pure false := by rfl) (hw : swappedStores [tg] e X.env = pure none := by rfl)
    (h1 : (assignEach [tg] X.env).map (·.2) = [assign tg X.env] := by rfl) : wS X (.Assign [tg] e pos) D σ H := oS (ps_asg pE pG hs hw h1) h
theorem gNm (i : Nat) {x : Str} {v : V} {R : L2.St → Hp → Prop} (h : R (σ.set i (some v)) H) (hN : X.N.Nodup) (hi : X.N[i]? = some x := by rfl) (hx : Loc X.env.scope x := by first | exact Or.inl rfl | exact Or.inr rfl)
    (hf : X.fn x = true ∨ X.env.scope.names.lookup x = some .local := by first | exact .inl rfl | exact .inr rfl) : wG X (.Name x pos) v σ H R := oG (pg_name hN hi hx hf) h
theorem gSb {r : TSet} {v : V} {R : L2.St → Hp → Prop} (hs : PSet X r) (h : wE X a σ H fun o H1 => wE X b σ H1 fun i H2 => r o i v H2 fun H3 => R σ H3)
    (ha : ∀ v, assign (.Subscript a b pos) X.env v = (do let ov ← holding [v] (eval a X.env)
                                                         let iv ← holding [v, ov] (eval b X.env)
                                                         standAt pos
                                                         holding [v, ov, iv] (setItem ov iv v)
                                                         release [v, ov, iv] []) := by intro _; rfl) : wG X (.Subscript a b pos) v σ H R := oG (pg_sub pE pE hs ha) h
theorem sExpr (h : wE X e σ H fun _ H1 => D.nx σ H1) (hs : swapsWith e none pos.line X.env = pure false := by rfl) : wS X (.Expr e pos) D σ H := oS (ps_expr pE hs) h
theorem sRet (h : wE X e σ H D.rt) : wS X (.Return (some e) pos) D σ H := oS (ps_ret pE) h
theorem sIf {A B : List Stmt} (h : wT X c σ H fun k H1 => if k = true then wSs X A D σ H1 else wSs X B D σ H1) : wS X (.If c A B pos) D σ H := oS (ps_if pT pSs pSs) h
theorem sWhile {B : List Stmt} (hp : PassesOwn (model X.prog X.w) X.A X.env X.xe) (h : ∃ W : Nat → L2.St → Hp → Prop, (∃ m, W m σ H) ∧ ∀ m σ H, W m σ H →
    wT X c σ H fun k H1 => if k = true then ∃ N : L2.St → Hp → Prop, (∀ σ' H', N σ' H' → ∃ m', m' < m ∧ W m' σ' H') ∧ wSs X B { D with nx := N, ct := N, bk := D.nx } σ H1 else D.nx σ H1) : wS X (.While c B [] pos) D σ H := oS (ps_while hp pT pSs) h
theorem sNever {st : Stmt} (h : False) : wS X st D σ H := h.elim
theorem sPass (h : D.nx σ H) : wS X (.Pass pos) D σ H := oS ps_pass h
end
/-! ### weaker ends -/
section
variable {X : Cx} {σ : L2.St} {H : Hp} {e : Expr} {es : List Expr}
theorem wE_mono {Q Q' : VK} (h : wE X e σ H Q) (k : ∀ v H', Q v H' → Q' v H') : wE X e σ H Q' := by
  unfold wE at h ⊢
  exact fun pins s I => thn (h pins s I) fun u s' ⟨v, H', I', r, q⟩ => ⟨v, H', I', r, k v H' q⟩
theorem wT_mono {Q Q' : Bool → Hp → Prop} (h : wT X e σ H Q) (k : ∀ v H', Q v H' → Q' v H') : wT X e σ H Q' := by
  unfold wT at h ⊢
  exact fun pins s I => thn (h pins s I) fun u s' ⟨H', I', q⟩ => ⟨H', I', k u H' q⟩
theorem wA_mono {Q Q' : List V → Hp → Prop} (h : wA X es σ H Q) (k : ∀ v H', Q v H' → Q' v H') : wA X es σ H Q' := by
  unfold wA at h ⊢
  exact fun pos pins s I => thn (h pos pins s I) fun u s' ⟨v, H', I', r, q⟩ => ⟨v, H', I', r, k v H' q⟩
theorem wI_mono {tg it : Expr} {R R' : It → Hp → Prop} (h : wI X tg it σ H R) (k : ∀ J H', R J H' → R' J H') : wI X tg it σ H R' := by
  unfold wI at h ⊢
  exact fun pins s I => thn (h pins s I) fun u s' q => thn q fun v s'' ⟨it, fp, tn, J, H', a, b, c, d, f, g⟩ => ⟨it, fp, tn, J, H', a, b, c, d, f, k J H' g⟩
end
/-! ### loops -/
section
variable {X : Cx} {σ : L2.St} {H : Hp} {tg it a b c elt : Expr} {pos p pos' : Pos} {D : Ends} {B : List Stmt} {R : It → Hp → Prop}
theorem iL (h : wE X it σ H fun x H1 => ∃ l, x = .ref l ∧ (∃ xs, SqL X.K H1 l xs) ∧ R (Itl X.K l) H1) : wI X tg it σ H R := oI (pi_list pE) h
theorem iT (h : wE X it σ H fun x H1 => ∃ l, x = .ref l ∧ (∃ xs, SqT X.K H1 l xs) ∧ R (Itt X.K l) H1) : wI X tg it σ H R := oI (pi_tup pE) h
theorem iR (h : wA X [a] σ H fun vs H1 => ∃ j : Int, vs = [.int j] ∧ -(2 ^ 62) ≤ j ∧ j < 2 ^ 62 ∧ R (Itr 0 j.toNat) H1) (hm : X.mg "range" = none) (hg : Gl X "range" := by rfl) (hs : starEach [a] X.env = [(false, eval a X.env)] := by rfl) :
    wI X tg (.Call (.Name "range" p) [a] [] pos) σ H R := oI (pi_range1 hg hm pA hs) h
theorem iS (h : wE X it σ H fun v H1 => ∃ x, v = .str x ∧ R (Its x) H1) : wI X tg it σ H R := oI (pi_str pE) h
/-- a loop over a walk: Pv by the turn -/
theorem sForW (hp : PassesOwn (model X.prog X.w) X.A X.env X.xe) (hc : X.calm = true)
    (h : wI X tg it σ H fun J H1 => ∃ (n : Nat) (G : Hp → Prop) (Y : Nat → Hp → V → Hp → Prop), Walk J n G Y ∧ ∃ Pv : Nat → L2.St → Hp → Prop, Pv 0 σ H1 ∧ (∀ i σ H, i ≤ n → Pv i σ H → G H) ∧
      (∀ i x σ H H', i < n → Pv i σ H → Y i H x H' → wG X tg x σ H' fun σ2 H2 => wSs X B { D with nx := Pv (i + 1), ct := Pv (i + 1), bk := D.nx } σ2 H2) ∧ ∀ σ H, Pv n σ H → D.nx σ H)
    (hs : ∀ x, foldedSetIterable it X.env x = pure x := by intro _; rfl) : wS X (.For tg it B [] pos) D σ H :=
  oS (ps_for hp hc pI pG pSs hs) (wI_mono h fun J H1 ⟨n, G, Y, w, Pv, h0, hG, ht, hd⟩ => for_it w Pv h0 hG ht hd)
theorem sForL (hp : PassesOwn (model X.prog X.w) X.A X.env X.xe) (hc : X.calm = true)
    (h : wE X it σ H fun x H1 => ∃ l xs, x = .ref l ∧ SqL X.K H1 l xs ∧ ∃ Pv : Nat → L2.St → Hp → Prop, Pv 0 σ H1 ∧ (∀ i σ H, i ≤ xs.length → Pv i σ H → SqL X.K H l xs) ∧
      (∀ i y σ H, xs[i]? = some y → Pv i σ H → wG X tg y σ H fun σ2 H2 => wSs X B { D with nx := Pv (i + 1), ct := Pv (i + 1), bk := D.nx } σ2 H2) ∧ ∀ σ H, Pv xs.length σ H → D.nx σ H)
    (hs : ∀ x, foldedSetIterable it X.env x = pure x := by intro _; rfl) : wS X (.For tg it B [] pos) D σ H :=
  sForW hp hc (iL (wE_mono h fun v H1 ⟨l, xs, e, q, Pv, h0, hG, ht, hd⟩ => ⟨l, e, ⟨xs, q⟩, xs.length, _, _, walk_list, Pv, h0, hG, fun i x σ H H' _ p y => by
    obtain ⟨e1, e2⟩ := y
    subst e1
    exact ht i x σ H' e2 p, hd⟩)) hs
theorem sForT (hp : PassesOwn (model X.prog X.w) X.A X.env X.xe) (hc : X.calm = true)
    (h : wE X it σ H fun x H1 => ∃ l xs, x = .ref l ∧ SqT X.K H1 l xs ∧ ∃ Pv : Nat → L2.St → Hp → Prop, Pv 0 σ H1 ∧ (∀ i σ H, i ≤ xs.length → Pv i σ H → SqT X.K H l xs) ∧
      (∀ i y σ H, xs[i]? = some y → Pv i σ H → wG X tg y σ H fun σ2 H2 => wSs X B { D with nx := Pv (i + 1), ct := Pv (i + 1), bk := D.nx } σ2 H2) ∧ ∀ σ H, Pv xs.length σ H → D.nx σ H)
    (hs : ∀ x, foldedSetIterable it X.env x = pure x := by intro _; rfl) : wS X (.For tg it B [] pos) D σ H :=
  sForW hp hc (iT (wE_mono h fun v H1 ⟨l, xs, e, q, Pv, h0, hG, ht, hd⟩ => ⟨l, e, ⟨xs, q⟩, xs.length, _, _, walk_tup, Pv, h0, hG, fun i x σ H H' _ p y => by
    obtain ⟨e1, e2⟩ := y
    subst e1
    exact ht i x σ H' e2 p, hd⟩)) hs
/-- for over range(n) -/
theorem sForR (hp : PassesOwn (model X.prog X.w) X.A X.env X.xe) (hc : X.calm = true) (hm : X.mg "range" = none)
    (h : wA X [a] σ H fun vs H1 => ∃ n : Nat, vs = [.int n] ∧ n < 1000000 ∧ ∃ Pv : Nat → L2.St → Hp → Prop, Pv 0 σ H1 ∧
      (∀ i σ H, i < n → Pv i σ H → wG X tg (.int (i : Nat)) σ H fun σ2 H2 => wSs X B { D with nx := Pv (i + 1), ct := Pv (i + 1), bk := D.nx } σ2 H2) ∧ ∀ σ H, Pv n σ H → D.nx σ H)
    (hg : Gl X "range" := by rfl) (hs1 : starEach [a] X.env = [(false, eval a X.env)] := by rfl)
    (hs : ∀ x, foldedSetIterable (.Call (.Name "range" p) [a] [] pos') X.env x = pure x := by intro _; rfl) : wS X (.For tg (.Call (.Name "range" p) [a] [] pos') B [] pos) D σ H :=
  sForW hp hc (iR (wA_mono h fun v H1 ⟨n, e, hn, Pv, h0, ht, hd⟩ => ⟨(n : Int), e, by omega, by omega, n, _, _, by
    have w := walk_range (lo := 0) (n := n)
    exact w, Pv, h0, fun _ _ _ _ _ => True.intro, fun i x σ H H' hi p y => by
      obtain ⟨e1, e2⟩ := y
      subst e1 e2
      have e3 : (0 : Int) + (i : Nat) = (i : Nat) := Int.zero_add _
      dsimp only
      rw [e3]
      exact ht i σ H' hi p, hd⟩) hm hg hs1) hs
end
/-! ### comprehensions: what is to be shown of a part in every frame of its own -/
section
def bE (X : Cx) (scope : Scope) (e : Expr) : TE := fun σ H Q => ∀ (s0 : Shared) (H0 : Hp) (C : Addr) (cl : List (Str × Addr)) (fp : List Addr), wE (X.blk s0 H0 scope (compEnvC scope cl C X.env) fp) e σ H Q
def bT (X : Cx) (scope : Scope) (e : Expr) : TT := fun σ H Q => ∀ (s0 : Shared) (H0 : Hp) (C : Addr) (cl : List (Str × Addr)) (fp : List Addr), wT (X.blk s0 H0 scope (compEnvC scope cl C X.env) fp) e σ H Q
def bG (X : Cx) (scope : Scope) (e : Expr) : TG := fun v σ H Q => ∀ (s0 : Shared) (H0 : Hp) (C : Addr) (cl : List (Str × Addr)) (fp : List Addr), wG (X.blk s0 H0 scope (compEnvC scope cl C X.env) fp) e v σ H Q
def bI (X : Cx) (scope : Scope) (tg e : Expr) : TI := fun σ H R => ∀ (s0 : Shared) (H0 : Hp) (C : Addr) (cl : List (Str × Addr)) (fp : List Addr), wI (X.blk s0 H0 scope (compEnvC scope cl C X.env) fp) tg e σ H R
variable {X : Cx} {scope : Scope} {e tg : Expr}
theorem pbE (s : Shared) (H : Hp) (C : Addr) (cl : List (Str × Addr)) (fp : List Addr) : PE (X.blk s H scope (compEnvC scope cl C X.env) fp) e (bE X scope e) := ⟨fun pins s' σ H' Q I h => pE.run pins s' σ H' Q I (h s H C cl fp)⟩
theorem pbT (s : Shared) (H : Hp) (C : Addr) (cl : List (Str × Addr)) (fp : List Addr) : PT (X.blk s H scope (compEnvC scope cl C X.env) fp) e (bT X scope e) := ⟨fun pins s' σ H' Q I h => pT.run pins s' σ H' Q I (h s H C cl fp)⟩
theorem pbG (s : Shared) (H : Hp) (C : Addr) (cl : List (Str × Addr)) (fp : List Addr) : PG (X.blk s H scope (compEnvC scope cl C X.env) fp) tg (bG X scope tg) := ⟨fun pins s' σ H' v u Q I r h => pG.run pins s' σ H' v u Q I r (h s H C cl fp)⟩
theorem pbI (s : Shared) (H : Hp) (C : Addr) (cl : List (Str × Addr)) (fp : List Addr) : PI (X.blk s H scope (compEnvC scope cl C X.env) fp) tg e (bI X scope tg e) := ⟨fun pins s' σ H' R I h => pI.run pins s' σ H' R I (h s H C cl fp)⟩
variable {σ : L2.St} {H : Hp} {Q : VK} {it elt c : Expr} {pos : Pos} {own : List (Str × Nat)}
/-- [elt for tg in it], [elt for tg in it if c]: what they ask -/
def LC0 (X : Cx) (scope : Scope) (own : List (Str × Nat)) (elt tg it : Expr) : TE := tLc (wI X tg it) (bG X scope tg) tYes (bE X scope elt) (own.map (·.2))
def LC1 (X : Cx) (scope : Scope) (own : List (Str × Nat)) (elt tg it c : Expr) : TE := tLc (wI X tg it) (bG X scope tg) (bT X scope c) (bE X scope elt) (own.map (·.2))
theorem oLc0 (hc : X.calm = true) (hN : X.N.Nodup) (ok : BlkOk X.N X.env.scope scope own) (h : LC0 X scope own elt tg it σ H Q) (hs : ∀ x, foldedSetIterable it X.env x = pure x := by intro _; rfl) : wE X (.ListComp elt [⟨tg, it, [], 0⟩] scope pos) σ H Q :=
  oE (pe_lc hc hN pI ok pbG (fun _ _ _ _ _ => pts_nil) pbE hs) h
theorem oLc1 (hc : X.calm = true) (hN : X.N.Nodup) (ok : BlkOk X.N X.env.scope scope own) (h : LC1 X scope own elt tg it c σ H Q) (hs : ∀ x, foldedSetIterable it X.env x = pure x := by intro _; rfl) : wE X (.ListComp elt [⟨tg, it, [c], 0⟩] scope pos) σ H Q :=
  oE (pe_lc hc hN pI ok pbG (fun s H C cl fp => pts_one (pbT s H C cl fp)) pbE hs) h
/-- y = [..] on one line, y a local -/
theorem sLc0 (i : Nat) {y : Str} {py spos : Pos} {D : Ends} (hc : X.calm = true) (hN : X.N.Nodup) (ok : BlkOk X.N X.env.scope scope own) (h : LC0 X scope own elt tg it σ H fun v H1 => D.nx (σ.set i (some v)) H1) (hy : X.N[i]? = some y := by rfl) (hyl : X.env.scope.names.lookup y = some .local := by rfl)
    (hsw : swapsWith (.ListComp elt [⟨tg, it, [], 0⟩] scope pos) (some (.Name y py)) spos.line X.env = pure true := by exact sw_true rfl rfl rfl (by decide +kernel)) (hs : ∀ x, foldedSetIterable it X.env x = pure x := by intro _; rfl) : wS X (.Assign [.Name y py] (.ListComp elt [⟨tg, it, [], 0⟩] scope pos) spos) D σ H :=
  oS (ps_setLc hc hN hy hyl hsw pI ok pbG (fun _ _ _ _ _ => pts_nil) pbE hs) h
theorem sLc1 (i : Nat) {y : Str} {py spos : Pos} {D : Ends} (hc : X.calm = true) (hN : X.N.Nodup) (ok : BlkOk X.N X.env.scope scope own) (h : LC1 X scope own elt tg it c σ H fun v H1 => D.nx (σ.set i (some v)) H1) (hy : X.N[i]? = some y := by rfl) (hyl : X.env.scope.names.lookup y = some .local := by rfl)
    (hsw : swapsWith (.ListComp elt [⟨tg, it, [c], 0⟩] scope pos) (some (.Name y py)) spos.line X.env = pure true := by exact sw_true rfl rfl rfl (by decide +kernel)) (hs : ∀ x, foldedSetIterable it X.env x = pure x := by intro _; rfl) : wS X (.Assign [.Name y py] (.ListComp elt [⟨tg, it, [c], 0⟩] scope pos) spos) D σ H :=
  oS (ps_setLc hc hN hy hyl hsw pI ok pbG (fun s H C cl fp => pts_one (pbT s H C cl fp)) pbE hs) h
/-- .. over a walk -/
theorem lc0 (h : wI X tg it σ H fun J H1 => ∃ (n : Nat) (G : Hp → Prop) (Y : Nat → Hp → V → Hp → Prop), Walk J n G Y ∧ ∀ Dl, H1 Dl = none → ∃ Pv : Nat → Hp → Prop, Pv 0 (upd H1 Dl (.lst [])) ∧ (∀ i H, i ≤ n → Pv i H → G H) ∧
      (∀ i x H H', i < n → Pv i H → Y i H x H' → bG X scope tg x (wipe σ (own.map (·.2))) H' fun σ2 H2 => wipe σ2 (own.map (·.2)) = wipe σ (own.map (·.2)) ∧
        bE X scope elt σ2 H2 fun y H4 => ∃ acc, H4 Dl = some (.lst acc) ∧ acc.length < sizeLine ∧ Pv (i + 1) (upd H4 Dl (.lst (acc ++ [y])))) ∧ ∀ H, Pv n H → Q (.ref Dl) H) : LC0 X scope own elt tg it σ H Q :=
  wI_mono h fun J H1 ⟨n, G, Y, w, k⟩ => fun Dl hD => by
    obtain ⟨Pv, h0, hG, ht, hd⟩ := k Dl hD
    exact lc_it w Pv h0 hG ht hd
theorem lc1 (h : wI X tg it σ H fun J H1 => ∃ (n : Nat) (G : Hp → Prop) (Y : Nat → Hp → V → Hp → Prop), Walk J n G Y ∧ ∀ Dl, H1 Dl = none → ∃ Pv : Nat → Hp → Prop, Pv 0 (upd H1 Dl (.lst [])) ∧ (∀ i H, i ≤ n → Pv i H → G H) ∧
      (∀ i x H H', i < n → Pv i H → Y i H x H' → bG X scope tg x (wipe σ (own.map (·.2))) H' fun σ2 H2 => wipe σ2 (own.map (·.2)) = wipe σ (own.map (·.2)) ∧ bT X scope c σ2 H2 fun k H3 =>
        if k = true then bE X scope elt σ2 H3 fun y H4 => ∃ acc, H4 Dl = some (.lst acc) ∧ acc.length < sizeLine ∧ Pv (i + 1) (upd H4 Dl (.lst (acc ++ [y]))) else Pv (i + 1) H3) ∧ ∀ H, Pv n H → Q (.ref Dl) H) : LC1 X scope own elt tg it c σ H Q :=
  wI_mono h fun J H1 ⟨n, G, Y, w, k⟩ => fun Dl hD => by
    obtain ⟨Pv, h0, hG, ht, hd⟩ := k Dl hD
    exact lc_it w Pv h0 hG ht hd
end
end CR
/-! The text by places, and what the top leaves of it. -/
namespace CR
open PySem PySem.Spec PyProof.Rows L2
def top (i : Nat) : Stmt := PySem.Challenge.pw_craterooms_k02_whole_pushes.main.body.getD i (.Pass ⟨0, 0, 0, 0⟩)
abbrev sHasRows : Stmt := top 10
abbrev sHasWalls : Stmt := top 11
abbrev sCellsWith : Stmt := top 12
abbrev sWrongWord : Stmt := top 13
abbrev sNeedRoom : Stmt := top 14
abbrev sFloorOf : Stmt := top 15
abbrev sGoalsOf : Stmt := top 16
abbrev sStartOf : Stmt := top 17
abbrev sIsCell : Stmt := top 18
abbrev sAreCells : Stmt := top 19
abbrev sIsStandingOf : Stmt := top 20
abbrev sNeedStanding : Stmt := top 21
abbrev sWalkedFrom : Stmt := top 28
abbrev sReachOf : Stmt := top 29
abbrev sPlainOf : Stmt := top 30
abbrev sPushesAt : Stmt := top 32
abbrev sPullsAt : Stmt := top 33
abbrev sMoved : Stmt := top 34
abbrev sPushOf : Stmt := top 35
abbrev sPullOf : Stmt := top 36
abbrev sIsMove : Stmt := top 37
abbrev sPushes : Stmt := top 38
abbrev sPushed : Stmt := top 39
abbrev sPulls : Stmt := top 40
abbrev sPulled : Stmt := top 41
abbrev sLawTaken : Stmt := top 43
abbrev sLawPick : Stmt := top 44
abbrev sLawAlike : Stmt := top 45
abbrev sLawCells : Stmt := top 46
abbrev sLawShown : Stmt := top 47
abbrev sLawShape : Stmt := top 48
abbrev sLawSome : Stmt := top 49
abbrev sLawRoom : Stmt := top 50
abbrev sLawWays : Stmt := top 51
abbrev sLawReach : Stmt := top 52
abbrev sLawPlain : Stmt := top 53
abbrev sLawPulls : Stmt := top 54
abbrev sLawPushes : Stmt := top 55
abbrev sLawOf : Stmt := top 60
abbrev sLawPullRows : Stmt := top 61
abbrev sLawRefused : Stmt := top 62
abbrev sLaw : Stmt := top 63
abbrev sBeside : Stmt := top 25
abbrev sInit : Stmt := inClass (top 26) 0
abbrev sFree : Stmt := inClass (top 26) 1
/-- the def x of the text st stands in the module's names, its parameters are ps -/
def DefAt (K : PySem.W.Frag) (mg : Str → Option Value) (x : Str) (st : Stmt) (ps : List Str) : Prop := ∃ (f : Addr) (fd : FuncData), Fun K x x st f fd ∧ mg x = some (.ref f) ∧ Binds K fd ps []
/-- a written tuple of two ints -/
def KPair (K : PySem.W.Frag) (u : Value) (i j : Int) : Prop := ∃ (a : Addr) (o : Obj) (t1 t2 : Tok) (n : Nat), u = .ref a ∧ K.lookup a = some o ∧ o.cls = .type "tuple" ∧ o.data = .seq #[.int i t1, .int j t2] n
theorem exm_own {K : PySem.W.Frag} {C : Addr} (b : PySem.W.subIn K (.ref C) (.type "BaseException") = some true) (i : PySem.W.isClsIn K C = true) (t : PySem.W.typeIn K (.ref C) = some (.type "type")) (s : PySem.W.subIn K (.ref C) (.ref C) = some true) :
    PySem.W.exmOne K (.ref C) (.ref C) = some true := by
  have e1 : (PySem.W.subIn K (.ref C) (.type "BaseException") == some true) = true := by rw [b]; rfl
  have e2 : ((PySem.W.clsIn K C).isSome && PySem.W.typeIn K (.ref C) == some (.type "type")) = true := by
    rw [t, show (PySem.W.clsIn K C).isSome = true from i]
    simp
  unfold PySem.W.exmOne PySem.W.kitCls
  rw [if_pos e1]
  dsimp only
  rw [if_pos e2, s]
structure ClsG (K : PySem.W.Frag) (mg : Str → Option Value) (C fI fF : Addr) : Prop where
  cl : Cls K C
  mgC : mg "Ground" = some (.ref C)
  mkg : Mk K C fI
  mt : Meth K C "free" fF
  n1 : NoAttr K C "room"
  n2 : NoAttr K C "cells"
  n3 : NoAttr K C "ends"
  n4 : NoAttr K C "first"
  n5 : NoAttr K C "far"
  FI : ∃ fd, Fun K "__init__" "Ground.__init__" sInit fI fd ∧ Binds K fd ["self", "room"] []
  FF : ∃ fd, Fun K "free" "Ground.free" sFree fF fd ∧ Binds K fd ["self", "crates"] []
structure ClsP (K : PySem.W.Frag) (mg : Str → Option Value) (C : Addr) : Prop where
  gP : mg "BadPush" = some (.ref C)
  xP : PySem.W.excIn K C [.type "ValueError", .type "Exception", .type "BaseException", .type "object"] "ValueError.__new__" = true
  kP : PySem.W.keepIn K (.ref C) = true
  bP : PySem.W.subIn K (.ref C) (.type "BaseException") = some true
  tP : PySem.W.typeIn K (.ref C) = some (.type "type")
  te : PySem.W.exmOne K (.ref C) (.ref C) = some true
/-- a written dict of four letters -/
structure DctS (K : PySem.W.Frag) (w : World) (mg : Str → Option Value) (x : Str) (d : Addr) (es : Array DictEntry) (n : Nat) : Prop where
  g : mg x = some (.ref d)
  kd : KDict K w d es n
  keys : ∃ (t1 t2 t3 t4 : Tok), es.toList.map (·.key) = [.str "e" t1, .str "n" t2, .str "s" t3, .str "w" t4]
  nx : PySem.W.nsIn K d "x" = some none
  nE : PySem.W.nsIn K d "E" = some none
structure Facts (K : PySem.W.Frag) (w : World) (mg : Str → Option Value) : Prop where
  d_has_rows : DefAt K mg "has_rows" sHasRows ["value"]
  d_has_walls : DefAt K mg "has_walls" sHasWalls ["room"]
  d_cells_with : DefAt K mg "cells_with" sCellsWith ["room", "signs"]
  d_wrong_word : DefAt K mg "wrong_word" sWrongWord ["value"]
  d_need_room : DefAt K mg "need_room" sNeedRoom ["value"]
  d_floor_of : DefAt K mg "floor_of" sFloorOf ["room"]
  d_goals_of : DefAt K mg "goals_of" sGoalsOf ["room"]
  d_start_of : DefAt K mg "start_of" sStartOf ["room"]
  d_is_cell : DefAt K mg "is_cell" sIsCell ["room", "value"]
  d_are_cells : DefAt K mg "are_cells" sAreCells ["room", "value"]
  d_is_standing_of : DefAt K mg "is_standing_of" sIsStandingOf ["room", "value"]
  d_need_standing : DefAt K mg "need_standing" sNeedStanding ["room", "value"]
  d_walked_from : DefAt K mg "walked_from" sWalkedFrom ["free", "cell"]
  d_reach_of : DefAt K mg "reach_of" sReachOf ["ground", "standing"]
  d_plain_of : DefAt K mg "plain_of" sPlainOf ["ground", "standing"]
  d_pushes_at : DefAt K mg "pushes_at" sPushesAt ["ground", "standing"]
  d_pulls_at : DefAt K mg "pulls_at" sPullsAt ["ground", "standing"]
  d_moved : DefAt K mg "moved" sMoved ["crates", "cell", "there"]
  d_push_of : DefAt K mg "push_of" sPushOf ["ground", "standing", "push"]
  d_pull_of : DefAt K mg "pull_of" sPullOf ["ground", "standing", "pull"]
  d_is_move : DefAt K mg "is_move" sIsMove ["value"]
  d_pushes : DefAt K mg "pushes" sPushes ["room", "standing"]
  d_pushed : DefAt K mg "pushed" sPushed ["room", "standing", "push"]
  d_pulls : DefAt K mg "pulls" sPulls ["room", "standing"]
  d_pulled : DefAt K mg "pulled" sPulled ["room", "standing", "pull"]
  d_law_taken : DefAt K mg "_law_taken" sLawTaken ["_law_row", "_law_many"]
  d_law_pick : DefAt K mg "_law_pick" sLawPick ["_law_row", "_law_things"]
  d_law_alike : DefAt K mg "_law_alike" sLawAlike ["_law_found", "_law_due"]
  d_law_cells : DefAt K mg "_law_cells" sLawCells ["_law_room_here", "_law_signs"]
  d_law_shown : DefAt K mg "_law_shown" sLawShown ["_law_room_here", "_law_crates", "_law_mover"]
  d_law_shape : DefAt K mg "_law_shape" sLawShape ["_law_row", "_law_most"]
  d_law_some : DefAt K mg "_law_some" sLawSome ["_law_row", "_law_cells_here", "_law_many"]
  d_law_room : DefAt K mg "_law_room" sLawRoom ["_law_row", "_law_most", "_law_crates"]
  d_law_ways : DefAt K mg "_law_ways" sLawWays []
  d_law_reach : DefAt K mg "_law_reach" sLawReach ["_law_area", "_law_crates", "_law_mover"]
  d_law_plain : DefAt K mg "_law_plain" sLawPlain ["_law_area", "_law_crates", "_law_mover"]
  d_law_pulls : DefAt K mg "_law_pulls" sLawPulls ["_law_area", "_law_crates", "_law_mover"]
  d_law_pushes : DefAt K mg "_law_pushes" sLawPushes ["_law_area", "_law_crates", "_law_mover"]
  d_law_of : DefAt K mg "_law_of" sLawOf ["_law_room_here"]
  d_law_pull_rows : DefAt K mg "_law_pull_rows" sLawPullRows ["_law_area", "_law_crates", "_law_mover"]
  d_law_refused : DefAt K mg "_law_refused" sLawRefused ["_law_ask", "_law_room_here", "_law_here", "_law_value"]
  d_law : DefAt K mg "law" sLaw ["_law_script"]
  d_beside : ∃ (f : Addr) (fd : FuncData), FunD K "beside" "beside" (defArgs sBeside) (defBody sBeside) (defScope sBeside) [.int 1] [] f fd ∧ mg "beside" = some (.ref f)
  ground : ∃ C fI fF, ClsG K mg C fI fF
  badPush : ∃ C, ClsP K mg C
  steps : ∃ d es n, DctS K w mg "STEPS" d es n ∧ (∃ (u : Value), PySem.W.nsIn K d "e" = some (some u) ∧ KPair K u 0 1) ∧ (∃ (u : Value), PySem.W.nsIn K d "n" = some (some u) ∧ KPair K u (-1) 0) ∧ (∃ (u : Value), PySem.W.nsIn K d "s" = some (some u) ∧ KPair K u 1 0) ∧ (∃ (u : Value), PySem.W.nsIn K d "w" = some (some u) ∧ KPair K u 0 (-1))
  back : ∃ d es n, DctS K w mg "BACK" d es n ∧ (∃ (t : Tok), PySem.W.nsIn K d "e" = some (some (.str "w" t))) ∧ (∃ (t : Tok), PySem.W.nsIn K d "n" = some (some (.str "s" t))) ∧ (∃ (t : Tok), PySem.W.nsIn K d "s" = some (some (.str "n" t))) ∧ (∃ (t : Tok), PySem.W.nsIn K d "w" = some (some (.str "e" t)))
  signs : ∃ (t : Tok), mg "SIGNS" = some (.str "#-ocCmM" t)
  mostF : ∃ (t : Tok), mg "MOST_FLOOR" = some (.int 16 t)
  mostC : ∃ (t : Tok), mg "MOST_CRATES" = some (.int 4 t)
  n_len : mg "len" = none
  n_isinstance : mg "isinstance" = none
  n_all : mg "all" = none
  n_tuple : mg "tuple" = none
  n_list : mg "list" = none
  n_str : mg "str" = none
  n_int : mg "int" = none
  n_bool : mg "bool" = none
  n_range : mg "range" = none
  n_sorted : mg "sorted" = none
  n_min : mg "min" = none
theorem facts_mk {w : World} {K : PySem.W.Frag} {h : Heap} {mg : Str → Option Value} (X : K.In h) (G : h.Ns mainGlobals mg)
    {f0 : Addr} {od0 an0 : Option Addr} {sl0 : Array (Option Value)} {oc0 kV0 dc0 pm0 cd0 ct0 : Value}
    (a0 : PySem.W.nsIn K mainGlobals "has_rows" = some (some (.ref f0))) (l0 : K.lookup f0 = some ⟨oc0, od0, .func (PySem.W.fnOf "has_rows" "has_rows" (defArgs sHasRows) (defBody sHasRows) (defScope sHasRows) .none kV0 dc0 pm0 an0 cd0 ct0), sl0⟩) (c0 : PySem.W.codeIn K cd0 "has_rows" = true) (k0 : PySem.W.keepIn K (.ref f0) = true)
    {f1 : Addr} {od1 an1 : Option Addr} {sl1 : Array (Option Value)} {oc1 kV1 dc1 pm1 cd1 ct1 : Value}
    (a1 : PySem.W.nsIn K mainGlobals "has_walls" = some (some (.ref f1))) (l1 : K.lookup f1 = some ⟨oc1, od1, .func (PySem.W.fnOf "has_walls" "has_walls" (defArgs sHasWalls) (defBody sHasWalls) (defScope sHasWalls) .none kV1 dc1 pm1 an1 cd1 ct1), sl1⟩) (c1 : PySem.W.codeIn K cd1 "has_walls" = true) (k1 : PySem.W.keepIn K (.ref f1) = true)
    {f2 : Addr} {od2 an2 : Option Addr} {sl2 : Array (Option Value)} {oc2 kV2 dc2 pm2 cd2 ct2 : Value}
    (a2 : PySem.W.nsIn K mainGlobals "cells_with" = some (some (.ref f2))) (l2 : K.lookup f2 = some ⟨oc2, od2, .func (PySem.W.fnOf "cells_with" "cells_with" (defArgs sCellsWith) (defBody sCellsWith) (defScope sCellsWith) .none kV2 dc2 pm2 an2 cd2 ct2), sl2⟩) (c2 : PySem.W.codeIn K cd2 "cells_with" = true) (k2 : PySem.W.keepIn K (.ref f2) = true)
    {f3 : Addr} {od3 an3 : Option Addr} {sl3 : Array (Option Value)} {oc3 kV3 dc3 pm3 cd3 ct3 : Value}
    (a3 : PySem.W.nsIn K mainGlobals "wrong_word" = some (some (.ref f3))) (l3 : K.lookup f3 = some ⟨oc3, od3, .func (PySem.W.fnOf "wrong_word" "wrong_word" (defArgs sWrongWord) (defBody sWrongWord) (defScope sWrongWord) .none kV3 dc3 pm3 an3 cd3 ct3), sl3⟩) (c3 : PySem.W.codeIn K cd3 "wrong_word" = true) (k3 : PySem.W.keepIn K (.ref f3) = true)
    {f4 : Addr} {od4 an4 : Option Addr} {sl4 : Array (Option Value)} {oc4 kV4 dc4 pm4 cd4 ct4 : Value}
    (a4 : PySem.W.nsIn K mainGlobals "need_room" = some (some (.ref f4))) (l4 : K.lookup f4 = some ⟨oc4, od4, .func (PySem.W.fnOf "need_room" "need_room" (defArgs sNeedRoom) (defBody sNeedRoom) (defScope sNeedRoom) .none kV4 dc4 pm4 an4 cd4 ct4), sl4⟩) (c4 : PySem.W.codeIn K cd4 "need_room" = true) (k4 : PySem.W.keepIn K (.ref f4) = true)
    {f5 : Addr} {od5 an5 : Option Addr} {sl5 : Array (Option Value)} {oc5 kV5 dc5 pm5 cd5 ct5 : Value}
    (a5 : PySem.W.nsIn K mainGlobals "floor_of" = some (some (.ref f5))) (l5 : K.lookup f5 = some ⟨oc5, od5, .func (PySem.W.fnOf "floor_of" "floor_of" (defArgs sFloorOf) (defBody sFloorOf) (defScope sFloorOf) .none kV5 dc5 pm5 an5 cd5 ct5), sl5⟩) (c5 : PySem.W.codeIn K cd5 "floor_of" = true) (k5 : PySem.W.keepIn K (.ref f5) = true)
    {f6 : Addr} {od6 an6 : Option Addr} {sl6 : Array (Option Value)} {oc6 kV6 dc6 pm6 cd6 ct6 : Value}
    (a6 : PySem.W.nsIn K mainGlobals "goals_of" = some (some (.ref f6))) (l6 : K.lookup f6 = some ⟨oc6, od6, .func (PySem.W.fnOf "goals_of" "goals_of" (defArgs sGoalsOf) (defBody sGoalsOf) (defScope sGoalsOf) .none kV6 dc6 pm6 an6 cd6 ct6), sl6⟩) (c6 : PySem.W.codeIn K cd6 "goals_of" = true) (k6 : PySem.W.keepIn K (.ref f6) = true)
    {f7 : Addr} {od7 an7 : Option Addr} {sl7 : Array (Option Value)} {oc7 kV7 dc7 pm7 cd7 ct7 : Value}
    (a7 : PySem.W.nsIn K mainGlobals "start_of" = some (some (.ref f7))) (l7 : K.lookup f7 = some ⟨oc7, od7, .func (PySem.W.fnOf "start_of" "start_of" (defArgs sStartOf) (defBody sStartOf) (defScope sStartOf) .none kV7 dc7 pm7 an7 cd7 ct7), sl7⟩) (c7 : PySem.W.codeIn K cd7 "start_of" = true) (k7 : PySem.W.keepIn K (.ref f7) = true)
    {f8 : Addr} {od8 an8 : Option Addr} {sl8 : Array (Option Value)} {oc8 kV8 dc8 pm8 cd8 ct8 : Value}
    (a8 : PySem.W.nsIn K mainGlobals "is_cell" = some (some (.ref f8))) (l8 : K.lookup f8 = some ⟨oc8, od8, .func (PySem.W.fnOf "is_cell" "is_cell" (defArgs sIsCell) (defBody sIsCell) (defScope sIsCell) .none kV8 dc8 pm8 an8 cd8 ct8), sl8⟩) (c8 : PySem.W.codeIn K cd8 "is_cell" = true) (k8 : PySem.W.keepIn K (.ref f8) = true)
    {f9 : Addr} {od9 an9 : Option Addr} {sl9 : Array (Option Value)} {oc9 kV9 dc9 pm9 cd9 ct9 : Value}
    (a9 : PySem.W.nsIn K mainGlobals "are_cells" = some (some (.ref f9))) (l9 : K.lookup f9 = some ⟨oc9, od9, .func (PySem.W.fnOf "are_cells" "are_cells" (defArgs sAreCells) (defBody sAreCells) (defScope sAreCells) .none kV9 dc9 pm9 an9 cd9 ct9), sl9⟩) (c9 : PySem.W.codeIn K cd9 "are_cells" = true) (k9 : PySem.W.keepIn K (.ref f9) = true)
    {f10 : Addr} {od10 an10 : Option Addr} {sl10 : Array (Option Value)} {oc10 kV10 dc10 pm10 cd10 ct10 : Value}
    (a10 : PySem.W.nsIn K mainGlobals "is_standing_of" = some (some (.ref f10))) (l10 : K.lookup f10 = some ⟨oc10, od10, .func (PySem.W.fnOf "is_standing_of" "is_standing_of" (defArgs sIsStandingOf) (defBody sIsStandingOf) (defScope sIsStandingOf) .none kV10 dc10 pm10 an10 cd10 ct10), sl10⟩) (c10 : PySem.W.codeIn K cd10 "is_standing_of" = true) (k10 : PySem.W.keepIn K (.ref f10) = true)
    {f11 : Addr} {od11 an11 : Option Addr} {sl11 : Array (Option Value)} {oc11 kV11 dc11 pm11 cd11 ct11 : Value}
    (a11 : PySem.W.nsIn K mainGlobals "need_standing" = some (some (.ref f11))) (l11 : K.lookup f11 = some ⟨oc11, od11, .func (PySem.W.fnOf "need_standing" "need_standing" (defArgs sNeedStanding) (defBody sNeedStanding) (defScope sNeedStanding) .none kV11 dc11 pm11 an11 cd11 ct11), sl11⟩) (c11 : PySem.W.codeIn K cd11 "need_standing" = true) (k11 : PySem.W.keepIn K (.ref f11) = true)
    {f12 : Addr} {od12 an12 : Option Addr} {sl12 : Array (Option Value)} {oc12 kV12 dc12 pm12 cd12 ct12 : Value}
    (a12 : PySem.W.nsIn K mainGlobals "walked_from" = some (some (.ref f12))) (l12 : K.lookup f12 = some ⟨oc12, od12, .func (PySem.W.fnOf "walked_from" "walked_from" (defArgs sWalkedFrom) (defBody sWalkedFrom) (defScope sWalkedFrom) .none kV12 dc12 pm12 an12 cd12 ct12), sl12⟩) (c12 : PySem.W.codeIn K cd12 "walked_from" = true) (k12 : PySem.W.keepIn K (.ref f12) = true)
    {f13 : Addr} {od13 an13 : Option Addr} {sl13 : Array (Option Value)} {oc13 kV13 dc13 pm13 cd13 ct13 : Value}
    (a13 : PySem.W.nsIn K mainGlobals "reach_of" = some (some (.ref f13))) (l13 : K.lookup f13 = some ⟨oc13, od13, .func (PySem.W.fnOf "reach_of" "reach_of" (defArgs sReachOf) (defBody sReachOf) (defScope sReachOf) .none kV13 dc13 pm13 an13 cd13 ct13), sl13⟩) (c13 : PySem.W.codeIn K cd13 "reach_of" = true) (k13 : PySem.W.keepIn K (.ref f13) = true)
    {f14 : Addr} {od14 an14 : Option Addr} {sl14 : Array (Option Value)} {oc14 kV14 dc14 pm14 cd14 ct14 : Value}
    (a14 : PySem.W.nsIn K mainGlobals "plain_of" = some (some (.ref f14))) (l14 : K.lookup f14 = some ⟨oc14, od14, .func (PySem.W.fnOf "plain_of" "plain_of" (defArgs sPlainOf) (defBody sPlainOf) (defScope sPlainOf) .none kV14 dc14 pm14 an14 cd14 ct14), sl14⟩) (c14 : PySem.W.codeIn K cd14 "plain_of" = true) (k14 : PySem.W.keepIn K (.ref f14) = true)
    {f15 : Addr} {od15 an15 : Option Addr} {sl15 : Array (Option Value)} {oc15 kV15 dc15 pm15 cd15 ct15 : Value}
    (a15 : PySem.W.nsIn K mainGlobals "pushes_at" = some (some (.ref f15))) (l15 : K.lookup f15 = some ⟨oc15, od15, .func (PySem.W.fnOf "pushes_at" "pushes_at" (defArgs sPushesAt) (defBody sPushesAt) (defScope sPushesAt) .none kV15 dc15 pm15 an15 cd15 ct15), sl15⟩) (c15 : PySem.W.codeIn K cd15 "pushes_at" = true) (k15 : PySem.W.keepIn K (.ref f15) = true)
    {f16 : Addr} {od16 an16 : Option Addr} {sl16 : Array (Option Value)} {oc16 kV16 dc16 pm16 cd16 ct16 : Value}
    (a16 : PySem.W.nsIn K mainGlobals "pulls_at" = some (some (.ref f16))) (l16 : K.lookup f16 = some ⟨oc16, od16, .func (PySem.W.fnOf "pulls_at" "pulls_at" (defArgs sPullsAt) (defBody sPullsAt) (defScope sPullsAt) .none kV16 dc16 pm16 an16 cd16 ct16), sl16⟩) (c16 : PySem.W.codeIn K cd16 "pulls_at" = true) (k16 : PySem.W.keepIn K (.ref f16) = true)
    {f17 : Addr} {od17 an17 : Option Addr} {sl17 : Array (Option Value)} {oc17 kV17 dc17 pm17 cd17 ct17 : Value}
    (a17 : PySem.W.nsIn K mainGlobals "moved" = some (some (.ref f17))) (l17 : K.lookup f17 = some ⟨oc17, od17, .func (PySem.W.fnOf "moved" "moved" (defArgs sMoved) (defBody sMoved) (defScope sMoved) .none kV17 dc17 pm17 an17 cd17 ct17), sl17⟩) (c17 : PySem.W.codeIn K cd17 "moved" = true) (k17 : PySem.W.keepIn K (.ref f17) = true)
    {f18 : Addr} {od18 an18 : Option Addr} {sl18 : Array (Option Value)} {oc18 kV18 dc18 pm18 cd18 ct18 : Value}
    (a18 : PySem.W.nsIn K mainGlobals "push_of" = some (some (.ref f18))) (l18 : K.lookup f18 = some ⟨oc18, od18, .func (PySem.W.fnOf "push_of" "push_of" (defArgs sPushOf) (defBody sPushOf) (defScope sPushOf) .none kV18 dc18 pm18 an18 cd18 ct18), sl18⟩) (c18 : PySem.W.codeIn K cd18 "push_of" = true) (k18 : PySem.W.keepIn K (.ref f18) = true)
    {f19 : Addr} {od19 an19 : Option Addr} {sl19 : Array (Option Value)} {oc19 kV19 dc19 pm19 cd19 ct19 : Value}
    (a19 : PySem.W.nsIn K mainGlobals "pull_of" = some (some (.ref f19))) (l19 : K.lookup f19 = some ⟨oc19, od19, .func (PySem.W.fnOf "pull_of" "pull_of" (defArgs sPullOf) (defBody sPullOf) (defScope sPullOf) .none kV19 dc19 pm19 an19 cd19 ct19), sl19⟩) (c19 : PySem.W.codeIn K cd19 "pull_of" = true) (k19 : PySem.W.keepIn K (.ref f19) = true)
    {f20 : Addr} {od20 an20 : Option Addr} {sl20 : Array (Option Value)} {oc20 kV20 dc20 pm20 cd20 ct20 : Value}
    (a20 : PySem.W.nsIn K mainGlobals "is_move" = some (some (.ref f20))) (l20 : K.lookup f20 = some ⟨oc20, od20, .func (PySem.W.fnOf "is_move" "is_move" (defArgs sIsMove) (defBody sIsMove) (defScope sIsMove) .none kV20 dc20 pm20 an20 cd20 ct20), sl20⟩) (c20 : PySem.W.codeIn K cd20 "is_move" = true) (k20 : PySem.W.keepIn K (.ref f20) = true)
    {f21 : Addr} {od21 an21 : Option Addr} {sl21 : Array (Option Value)} {oc21 kV21 dc21 pm21 cd21 ct21 : Value}
    (a21 : PySem.W.nsIn K mainGlobals "pushes" = some (some (.ref f21))) (l21 : K.lookup f21 = some ⟨oc21, od21, .func (PySem.W.fnOf "pushes" "pushes" (defArgs sPushes) (defBody sPushes) (defScope sPushes) .none kV21 dc21 pm21 an21 cd21 ct21), sl21⟩) (c21 : PySem.W.codeIn K cd21 "pushes" = true) (k21 : PySem.W.keepIn K (.ref f21) = true)
    {f22 : Addr} {od22 an22 : Option Addr} {sl22 : Array (Option Value)} {oc22 kV22 dc22 pm22 cd22 ct22 : Value}
    (a22 : PySem.W.nsIn K mainGlobals "pushed" = some (some (.ref f22))) (l22 : K.lookup f22 = some ⟨oc22, od22, .func (PySem.W.fnOf "pushed" "pushed" (defArgs sPushed) (defBody sPushed) (defScope sPushed) .none kV22 dc22 pm22 an22 cd22 ct22), sl22⟩) (c22 : PySem.W.codeIn K cd22 "pushed" = true) (k22 : PySem.W.keepIn K (.ref f22) = true)
    {f23 : Addr} {od23 an23 : Option Addr} {sl23 : Array (Option Value)} {oc23 kV23 dc23 pm23 cd23 ct23 : Value}
    (a23 : PySem.W.nsIn K mainGlobals "pulls" = some (some (.ref f23))) (l23 : K.lookup f23 = some ⟨oc23, od23, .func (PySem.W.fnOf "pulls" "pulls" (defArgs sPulls) (defBody sPulls) (defScope sPulls) .none kV23 dc23 pm23 an23 cd23 ct23), sl23⟩) (c23 : PySem.W.codeIn K cd23 "pulls" = true) (k23 : PySem.W.keepIn K (.ref f23) = true)
    {f24 : Addr} {od24 an24 : Option Addr} {sl24 : Array (Option Value)} {oc24 kV24 dc24 pm24 cd24 ct24 : Value}
    (a24 : PySem.W.nsIn K mainGlobals "pulled" = some (some (.ref f24))) (l24 : K.lookup f24 = some ⟨oc24, od24, .func (PySem.W.fnOf "pulled" "pulled" (defArgs sPulled) (defBody sPulled) (defScope sPulled) .none kV24 dc24 pm24 an24 cd24 ct24), sl24⟩) (c24 : PySem.W.codeIn K cd24 "pulled" = true) (k24 : PySem.W.keepIn K (.ref f24) = true)
    {f25 : Addr} {od25 an25 : Option Addr} {sl25 : Array (Option Value)} {oc25 kV25 dc25 pm25 cd25 ct25 : Value}
    (a25 : PySem.W.nsIn K mainGlobals "_law_taken" = some (some (.ref f25))) (l25 : K.lookup f25 = some ⟨oc25, od25, .func (PySem.W.fnOf "_law_taken" "_law_taken" (defArgs sLawTaken) (defBody sLawTaken) (defScope sLawTaken) .none kV25 dc25 pm25 an25 cd25 ct25), sl25⟩) (c25 : PySem.W.codeIn K cd25 "_law_taken" = true) (k25 : PySem.W.keepIn K (.ref f25) = true)
    {f26 : Addr} {od26 an26 : Option Addr} {sl26 : Array (Option Value)} {oc26 kV26 dc26 pm26 cd26 ct26 : Value}
    (a26 : PySem.W.nsIn K mainGlobals "_law_pick" = some (some (.ref f26))) (l26 : K.lookup f26 = some ⟨oc26, od26, .func (PySem.W.fnOf "_law_pick" "_law_pick" (defArgs sLawPick) (defBody sLawPick) (defScope sLawPick) .none kV26 dc26 pm26 an26 cd26 ct26), sl26⟩) (c26 : PySem.W.codeIn K cd26 "_law_pick" = true) (k26 : PySem.W.keepIn K (.ref f26) = true)
    {f27 : Addr} {od27 an27 : Option Addr} {sl27 : Array (Option Value)} {oc27 kV27 dc27 pm27 cd27 ct27 : Value}
    (a27 : PySem.W.nsIn K mainGlobals "_law_alike" = some (some (.ref f27))) (l27 : K.lookup f27 = some ⟨oc27, od27, .func (PySem.W.fnOf "_law_alike" "_law_alike" (defArgs sLawAlike) (defBody sLawAlike) (defScope sLawAlike) .none kV27 dc27 pm27 an27 cd27 ct27), sl27⟩) (c27 : PySem.W.codeIn K cd27 "_law_alike" = true) (k27 : PySem.W.keepIn K (.ref f27) = true)
    {f28 : Addr} {od28 an28 : Option Addr} {sl28 : Array (Option Value)} {oc28 kV28 dc28 pm28 cd28 ct28 : Value}
    (a28 : PySem.W.nsIn K mainGlobals "_law_cells" = some (some (.ref f28))) (l28 : K.lookup f28 = some ⟨oc28, od28, .func (PySem.W.fnOf "_law_cells" "_law_cells" (defArgs sLawCells) (defBody sLawCells) (defScope sLawCells) .none kV28 dc28 pm28 an28 cd28 ct28), sl28⟩) (c28 : PySem.W.codeIn K cd28 "_law_cells" = true) (k28 : PySem.W.keepIn K (.ref f28) = true)
    {f29 : Addr} {od29 an29 : Option Addr} {sl29 : Array (Option Value)} {oc29 kV29 dc29 pm29 cd29 ct29 : Value}
    (a29 : PySem.W.nsIn K mainGlobals "_law_shown" = some (some (.ref f29))) (l29 : K.lookup f29 = some ⟨oc29, od29, .func (PySem.W.fnOf "_law_shown" "_law_shown" (defArgs sLawShown) (defBody sLawShown) (defScope sLawShown) .none kV29 dc29 pm29 an29 cd29 ct29), sl29⟩) (c29 : PySem.W.codeIn K cd29 "_law_shown" = true) (k29 : PySem.W.keepIn K (.ref f29) = true)
    {f30 : Addr} {od30 an30 : Option Addr} {sl30 : Array (Option Value)} {oc30 kV30 dc30 pm30 cd30 ct30 : Value}
    (a30 : PySem.W.nsIn K mainGlobals "_law_shape" = some (some (.ref f30))) (l30 : K.lookup f30 = some ⟨oc30, od30, .func (PySem.W.fnOf "_law_shape" "_law_shape" (defArgs sLawShape) (defBody sLawShape) (defScope sLawShape) .none kV30 dc30 pm30 an30 cd30 ct30), sl30⟩) (c30 : PySem.W.codeIn K cd30 "_law_shape" = true) (k30 : PySem.W.keepIn K (.ref f30) = true)
    {f31 : Addr} {od31 an31 : Option Addr} {sl31 : Array (Option Value)} {oc31 kV31 dc31 pm31 cd31 ct31 : Value}
    (a31 : PySem.W.nsIn K mainGlobals "_law_some" = some (some (.ref f31))) (l31 : K.lookup f31 = some ⟨oc31, od31, .func (PySem.W.fnOf "_law_some" "_law_some" (defArgs sLawSome) (defBody sLawSome) (defScope sLawSome) .none kV31 dc31 pm31 an31 cd31 ct31), sl31⟩) (c31 : PySem.W.codeIn K cd31 "_law_some" = true) (k31 : PySem.W.keepIn K (.ref f31) = true)
    {f32 : Addr} {od32 an32 : Option Addr} {sl32 : Array (Option Value)} {oc32 kV32 dc32 pm32 cd32 ct32 : Value}
    (a32 : PySem.W.nsIn K mainGlobals "_law_room" = some (some (.ref f32))) (l32 : K.lookup f32 = some ⟨oc32, od32, .func (PySem.W.fnOf "_law_room" "_law_room" (defArgs sLawRoom) (defBody sLawRoom) (defScope sLawRoom) .none kV32 dc32 pm32 an32 cd32 ct32), sl32⟩) (c32 : PySem.W.codeIn K cd32 "_law_room" = true) (k32 : PySem.W.keepIn K (.ref f32) = true)
    {f33 : Addr} {od33 an33 : Option Addr} {sl33 : Array (Option Value)} {oc33 kV33 dc33 pm33 cd33 ct33 : Value}
    (a33 : PySem.W.nsIn K mainGlobals "_law_ways" = some (some (.ref f33))) (l33 : K.lookup f33 = some ⟨oc33, od33, .func (PySem.W.fnOf "_law_ways" "_law_ways" (defArgs sLawWays) (defBody sLawWays) (defScope sLawWays) .none kV33 dc33 pm33 an33 cd33 ct33), sl33⟩) (c33 : PySem.W.codeIn K cd33 "_law_ways" = true) (k33 : PySem.W.keepIn K (.ref f33) = true)
    {f34 : Addr} {od34 an34 : Option Addr} {sl34 : Array (Option Value)} {oc34 kV34 dc34 pm34 cd34 ct34 : Value}
    (a34 : PySem.W.nsIn K mainGlobals "_law_reach" = some (some (.ref f34))) (l34 : K.lookup f34 = some ⟨oc34, od34, .func (PySem.W.fnOf "_law_reach" "_law_reach" (defArgs sLawReach) (defBody sLawReach) (defScope sLawReach) .none kV34 dc34 pm34 an34 cd34 ct34), sl34⟩) (c34 : PySem.W.codeIn K cd34 "_law_reach" = true) (k34 : PySem.W.keepIn K (.ref f34) = true)
    {f35 : Addr} {od35 an35 : Option Addr} {sl35 : Array (Option Value)} {oc35 kV35 dc35 pm35 cd35 ct35 : Value}
    (a35 : PySem.W.nsIn K mainGlobals "_law_plain" = some (some (.ref f35))) (l35 : K.lookup f35 = some ⟨oc35, od35, .func (PySem.W.fnOf "_law_plain" "_law_plain" (defArgs sLawPlain) (defBody sLawPlain) (defScope sLawPlain) .none kV35 dc35 pm35 an35 cd35 ct35), sl35⟩) (c35 : PySem.W.codeIn K cd35 "_law_plain" = true) (k35 : PySem.W.keepIn K (.ref f35) = true)
    {f36 : Addr} {od36 an36 : Option Addr} {sl36 : Array (Option Value)} {oc36 kV36 dc36 pm36 cd36 ct36 : Value}
    (a36 : PySem.W.nsIn K mainGlobals "_law_pulls" = some (some (.ref f36))) (l36 : K.lookup f36 = some ⟨oc36, od36, .func (PySem.W.fnOf "_law_pulls" "_law_pulls" (defArgs sLawPulls) (defBody sLawPulls) (defScope sLawPulls) .none kV36 dc36 pm36 an36 cd36 ct36), sl36⟩) (c36 : PySem.W.codeIn K cd36 "_law_pulls" = true) (k36 : PySem.W.keepIn K (.ref f36) = true)
    {f37 : Addr} {od37 an37 : Option Addr} {sl37 : Array (Option Value)} {oc37 kV37 dc37 pm37 cd37 ct37 : Value}
    (a37 : PySem.W.nsIn K mainGlobals "_law_pushes" = some (some (.ref f37))) (l37 : K.lookup f37 = some ⟨oc37, od37, .func (PySem.W.fnOf "_law_pushes" "_law_pushes" (defArgs sLawPushes) (defBody sLawPushes) (defScope sLawPushes) .none kV37 dc37 pm37 an37 cd37 ct37), sl37⟩) (c37 : PySem.W.codeIn K cd37 "_law_pushes" = true) (k37 : PySem.W.keepIn K (.ref f37) = true)
    {f38 : Addr} {od38 an38 : Option Addr} {sl38 : Array (Option Value)} {oc38 kV38 dc38 pm38 cd38 ct38 : Value}
    (a38 : PySem.W.nsIn K mainGlobals "_law_of" = some (some (.ref f38))) (l38 : K.lookup f38 = some ⟨oc38, od38, .func (PySem.W.fnOf "_law_of" "_law_of" (defArgs sLawOf) (defBody sLawOf) (defScope sLawOf) .none kV38 dc38 pm38 an38 cd38 ct38), sl38⟩) (c38 : PySem.W.codeIn K cd38 "_law_of" = true) (k38 : PySem.W.keepIn K (.ref f38) = true)
    {f39 : Addr} {od39 an39 : Option Addr} {sl39 : Array (Option Value)} {oc39 kV39 dc39 pm39 cd39 ct39 : Value}
    (a39 : PySem.W.nsIn K mainGlobals "_law_pull_rows" = some (some (.ref f39))) (l39 : K.lookup f39 = some ⟨oc39, od39, .func (PySem.W.fnOf "_law_pull_rows" "_law_pull_rows" (defArgs sLawPullRows) (defBody sLawPullRows) (defScope sLawPullRows) .none kV39 dc39 pm39 an39 cd39 ct39), sl39⟩) (c39 : PySem.W.codeIn K cd39 "_law_pull_rows" = true) (k39 : PySem.W.keepIn K (.ref f39) = true)
    {f40 : Addr} {od40 an40 : Option Addr} {sl40 : Array (Option Value)} {oc40 kV40 dc40 pm40 cd40 ct40 : Value}
    (a40 : PySem.W.nsIn K mainGlobals "_law_refused" = some (some (.ref f40))) (l40 : K.lookup f40 = some ⟨oc40, od40, .func (PySem.W.fnOf "_law_refused" "_law_refused" (defArgs sLawRefused) (defBody sLawRefused) (defScope sLawRefused) .none kV40 dc40 pm40 an40 cd40 ct40), sl40⟩) (c40 : PySem.W.codeIn K cd40 "_law_refused" = true) (k40 : PySem.W.keepIn K (.ref f40) = true)
    {f41 : Addr} {od41 an41 : Option Addr} {sl41 : Array (Option Value)} {oc41 kV41 dc41 pm41 cd41 ct41 : Value}
    (a41 : PySem.W.nsIn K mainGlobals "law" = some (some (.ref f41))) (l41 : K.lookup f41 = some ⟨oc41, od41, .func (PySem.W.fnOf "law" "law" (defArgs sLaw) (defBody sLaw) (defScope sLaw) .none kV41 dc41 pm41 an41 cd41 ct41), sl41⟩) (c41 : PySem.W.codeIn K cd41 "law" = true) (k41 : PySem.W.keepIn K (.ref f41) = true)
    {fB TB : Addr} {odB anB odT : Option Addr} {slB slT : Array (Option Value)} {ocB kVB dcB pmB cdB ctB : Value} {tB : Tok} {nB : Nat} {ocT : Value}
    (aB : PySem.W.nsIn K mainGlobals "beside" = some (some (.ref fB))) (lB : K.lookup fB = some ⟨ocB, odB, .func (PySem.W.fnOf "beside" "beside" (defArgs sBeside) (defBody sBeside) (defScope sBeside) (.ref TB) kVB dcB pmB anB cdB ctB), slB⟩) (cB : PySem.W.codeIn K cdB "beside" = true) (kB : PySem.W.keepIn K (.ref fB) = true)
    (lT : K.lookup TB = some ⟨ocT, odT, .seq #[.int 1 tB] nB, slT⟩)
    {C fI fF : Addr} {odI anI odF anF : Option Addr} {slI slF : Array (Option Value)} {ocI kVI dcI pmI cdI ctI ocF kVF dcF pmF cdF ctF : Value}
    (aC : PySem.W.nsIn K mainGlobals "Ground" = some (some (.ref C)))
    (aI : PySem.W.findIn K (.ref C) "__init__" = some (some (.ref fI))) (iI : PySem.W.isFn K (.ref fI) = true) (lI : K.lookup fI = some ⟨ocI, odI, .func (PySem.W.fnOf "__init__" "Ground.__init__" (defArgs sInit) (defBody sInit) (defScope sInit) .none kVI dcI pmI anI cdI ctI), slI⟩) (cI : PySem.W.codeIn K cdI "Ground.__init__" = true) (kI : PySem.W.keepIn K (.ref fI) = true)
    (aF : PySem.W.findIn K (.ref C) "free" = some (some (.ref fF))) (iF : PySem.W.isFn K (.ref fF) = true) (lF : K.lookup fF = some ⟨ocF, odF, .func (PySem.W.fnOf "free" "Ground.free" (defArgs sFree) (defBody sFree) (defScope sFree) .none kVF dcF pmF anF cdF ctF), slF⟩) (cF : PySem.W.codeIn K cdF "Ground.free" = true) (kF : PySem.W.keepIn K (.ref fF) = true)
    (pgC : PySem.W.plainGet K C Str.empty = true) (hdC : PySem.W.hasDictIn K C = true) (poC : PySem.W.plainOver K C = true) (saC : PySem.W.findIn K (.ref C) "__setattr__" = some (some (.builtin "object.__setattr__"))) (mkC : PySem.W.makesIn K C = true) (kC : PySem.W.keepIn K (.ref C) = true)
    (nC1 : PySem.W.findIn K (.ref C) "room" = some none) (nC2 : PySem.W.findIn K (.ref C) "cells" = some none) (nC3 : PySem.W.findIn K (.ref C) "ends" = some none) (nC4 : PySem.W.findIn K (.ref C) "first" = some none) (nC5 : PySem.W.findIn K (.ref C) "far" = some none)
    {P : Addr} (aP : PySem.W.nsIn K mainGlobals "BadPush" = some (some (.ref P))) (xP : PySem.W.excIn K P [.type "ValueError", .type "Exception", .type "BaseException", .type "object"] "ValueError.__new__" = true) (kP : PySem.W.keepIn K (.ref P) = true)
    (bP : PySem.W.subIn K (.ref P) (.type "BaseException") = some true) (tP : PySem.W.typeIn K (.ref P) = some (.type "type")) (iP : PySem.W.isClsIn K P = true) (sP : PySem.W.subIn K (.ref P) (.ref P) = some true)
    {dS : Addr} {esS : Array DictEntry} {nS : Nat} (gS : PySem.W.nsIn K mainGlobals "STEPS" = some (some (.ref dS))) (lS : K.lookup dS = some ⟨.type "dict", none, .dict esS nS, #[]⟩) (yS : PySem.W.KeysLit w.params esS.toList) (wS : (dS == sysModules) = false)
    (mS : ∃ (t1 t2 t3 t4 : Tok), esS.toList.map (·.key) = [.str "e" t1, .str "n" t2, .str "s" t3, .str "w" t4]) (xS : PySem.W.nsIn K dS "x" = some none) (ES : PySem.W.nsIn K dS "E" = some none)
    {dK : Addr} {esK : Array DictEntry} {nK : Nat} (gK : PySem.W.nsIn K mainGlobals "BACK" = some (some (.ref dK))) (lK : K.lookup dK = some ⟨.type "dict", none, .dict esK nK, #[]⟩) (yK : PySem.W.KeysLit w.params esK.toList) (wK : (dK == sysModules) = false)
    (mK : ∃ (t1 t2 t3 t4 : Tok), esK.toList.map (·.key) = [.str "e" t1, .str "n" t2, .str "s" t3, .str "w" t4]) (xK : PySem.W.nsIn K dK "x" = some none) (EK : PySem.W.nsIn K dK "E" = some none)
    {qe : Addr} {re ue : Tok} {ve : Nat} {oe : Option Addr} {ze : Array (Option Value)} (Se : PySem.W.nsIn K dS "e" = some (some (.ref qe))) (Te : K.lookup qe = some ⟨.type "tuple", oe, .seq #[.int 0 re, .int 1 ue] ve, ze⟩)
    {qn : Addr} {rn un : Tok} {vn : Nat} {on : Option Addr} {zn : Array (Option Value)} (Sn : PySem.W.nsIn K dS "n" = some (some (.ref qn))) (Tn : K.lookup qn = some ⟨.type "tuple", on, .seq #[.int (-1) rn, .int 0 un] vn, zn⟩)
    {qs : Addr} {rs us : Tok} {vs : Nat} {os : Option Addr} {zs : Array (Option Value)} (Ss : PySem.W.nsIn K dS "s" = some (some (.ref qs))) (Ts : K.lookup qs = some ⟨.type "tuple", os, .seq #[.int 1 rs, .int 0 us] vs, zs⟩)
    {qw : Addr} {rw uw : Tok} {vw : Nat} {ow : Option Addr} {zw : Array (Option Value)} (Sw : PySem.W.nsIn K dS "w" = some (some (.ref qw))) (Tw : K.lookup qw = some ⟨.type "tuple", ow, .seq #[.int 0 rw, .int (-1) uw] vw, zw⟩)
    {pe : Tok} (Be : PySem.W.nsIn K dK "e" = some (some (.str "w" pe)))
    {pn : Tok} (Bn : PySem.W.nsIn K dK "n" = some (some (.str "s" pn)))
    {ps : Tok} (Bs : PySem.W.nsIn K dK "s" = some (some (.str "n" ps)))
    {pw : Tok} (Bw : PySem.W.nsIn K dK "w" = some (some (.str "e" pw)))
    {tS tF tC : Tok} (gs : PySem.W.nsIn K mainGlobals "SIGNS" = some (some (.str "#-ocCmM" tS))) (gf : PySem.W.nsIn K mainGlobals "MOST_FLOOR" = some (some (.int 16 tF))) (gc : PySem.W.nsIn K mainGlobals "MOST_CRATES" = some (some (.int 4 tC)))
    (z_len : PySem.W.nsIn K mainGlobals "len" = some none)
    (z_isinstance : PySem.W.nsIn K mainGlobals "isinstance" = some none)
    (z_all : PySem.W.nsIn K mainGlobals "all" = some none)
    (z_tuple : PySem.W.nsIn K mainGlobals "tuple" = some none)
    (z_list : PySem.W.nsIn K mainGlobals "list" = some none)
    (z_str : PySem.W.nsIn K mainGlobals "str" = some none)
    (z_int : PySem.W.nsIn K mainGlobals "int" = some none)
    (z_bool : PySem.W.nsIn K mainGlobals "bool" = some none)
    (z_range : PySem.W.nsIn K mainGlobals "range" = some none)
    (z_sorted : PySem.W.nsIn K mainGlobals "sorted" = some none)
    (z_min : PySem.W.nsIn K mainGlobals "min" = some none)
    : Facts K w mg where
  d_has_rows := ⟨f0, _, fun_mk (st := sHasRows) l0 c0 k0, PySem.W.mg_of X G a0, (fun_mk (st := sHasRows) l0 c0 k0).binds fun _ _ _ _ _ _ us hl => match us, hl with | [_], _ => rfl⟩
  d_has_walls := ⟨f1, _, fun_mk (st := sHasWalls) l1 c1 k1, PySem.W.mg_of X G a1, (fun_mk (st := sHasWalls) l1 c1 k1).binds fun _ _ _ _ _ _ us hl => match us, hl with | [_], _ => rfl⟩
  d_cells_with := ⟨f2, _, fun_mk (st := sCellsWith) l2 c2 k2, PySem.W.mg_of X G a2, (fun_mk (st := sCellsWith) l2 c2 k2).binds fun _ _ _ _ _ _ us hl => match us, hl with | [_, _], _ => rfl⟩
  d_wrong_word := ⟨f3, _, fun_mk (st := sWrongWord) l3 c3 k3, PySem.W.mg_of X G a3, (fun_mk (st := sWrongWord) l3 c3 k3).binds fun _ _ _ _ _ _ us hl => match us, hl with | [_], _ => rfl⟩
  d_need_room := ⟨f4, _, fun_mk (st := sNeedRoom) l4 c4 k4, PySem.W.mg_of X G a4, (fun_mk (st := sNeedRoom) l4 c4 k4).binds fun _ _ _ _ _ _ us hl => match us, hl with | [_], _ => rfl⟩
  d_floor_of := ⟨f5, _, fun_mk (st := sFloorOf) l5 c5 k5, PySem.W.mg_of X G a5, (fun_mk (st := sFloorOf) l5 c5 k5).binds fun _ _ _ _ _ _ us hl => match us, hl with | [_], _ => rfl⟩
  d_goals_of := ⟨f6, _, fun_mk (st := sGoalsOf) l6 c6 k6, PySem.W.mg_of X G a6, (fun_mk (st := sGoalsOf) l6 c6 k6).binds fun _ _ _ _ _ _ us hl => match us, hl with | [_], _ => rfl⟩
  d_start_of := ⟨f7, _, fun_mk (st := sStartOf) l7 c7 k7, PySem.W.mg_of X G a7, (fun_mk (st := sStartOf) l7 c7 k7).binds fun _ _ _ _ _ _ us hl => match us, hl with | [_], _ => rfl⟩
  d_is_cell := ⟨f8, _, fun_mk (st := sIsCell) l8 c8 k8, PySem.W.mg_of X G a8, (fun_mk (st := sIsCell) l8 c8 k8).binds fun _ _ _ _ _ _ us hl => match us, hl with | [_, _], _ => rfl⟩
  d_are_cells := ⟨f9, _, fun_mk (st := sAreCells) l9 c9 k9, PySem.W.mg_of X G a9, (fun_mk (st := sAreCells) l9 c9 k9).binds fun _ _ _ _ _ _ us hl => match us, hl with | [_, _], _ => rfl⟩
  d_is_standing_of := ⟨f10, _, fun_mk (st := sIsStandingOf) l10 c10 k10, PySem.W.mg_of X G a10, (fun_mk (st := sIsStandingOf) l10 c10 k10).binds fun _ _ _ _ _ _ us hl => match us, hl with | [_, _], _ => rfl⟩
  d_need_standing := ⟨f11, _, fun_mk (st := sNeedStanding) l11 c11 k11, PySem.W.mg_of X G a11, (fun_mk (st := sNeedStanding) l11 c11 k11).binds fun _ _ _ _ _ _ us hl => match us, hl with | [_, _], _ => rfl⟩
  d_walked_from := ⟨f12, _, fun_mk (st := sWalkedFrom) l12 c12 k12, PySem.W.mg_of X G a12, (fun_mk (st := sWalkedFrom) l12 c12 k12).binds fun _ _ _ _ _ _ us hl => match us, hl with | [_, _], _ => rfl⟩
  d_reach_of := ⟨f13, _, fun_mk (st := sReachOf) l13 c13 k13, PySem.W.mg_of X G a13, (fun_mk (st := sReachOf) l13 c13 k13).binds fun _ _ _ _ _ _ us hl => match us, hl with | [_, _], _ => rfl⟩
  d_plain_of := ⟨f14, _, fun_mk (st := sPlainOf) l14 c14 k14, PySem.W.mg_of X G a14, (fun_mk (st := sPlainOf) l14 c14 k14).binds fun _ _ _ _ _ _ us hl => match us, hl with | [_, _], _ => rfl⟩
  d_pushes_at := ⟨f15, _, fun_mk (st := sPushesAt) l15 c15 k15, PySem.W.mg_of X G a15, (fun_mk (st := sPushesAt) l15 c15 k15).binds fun _ _ _ _ _ _ us hl => match us, hl with | [_, _], _ => rfl⟩
  d_pulls_at := ⟨f16, _, fun_mk (st := sPullsAt) l16 c16 k16, PySem.W.mg_of X G a16, (fun_mk (st := sPullsAt) l16 c16 k16).binds fun _ _ _ _ _ _ us hl => match us, hl with | [_, _], _ => rfl⟩
  d_moved := ⟨f17, _, fun_mk (st := sMoved) l17 c17 k17, PySem.W.mg_of X G a17, (fun_mk (st := sMoved) l17 c17 k17).binds fun _ _ _ _ _ _ us hl => match us, hl with | [_, _, _], _ => rfl⟩
  d_push_of := ⟨f18, _, fun_mk (st := sPushOf) l18 c18 k18, PySem.W.mg_of X G a18, (fun_mk (st := sPushOf) l18 c18 k18).binds fun _ _ _ _ _ _ us hl => match us, hl with | [_, _, _], _ => rfl⟩
  d_pull_of := ⟨f19, _, fun_mk (st := sPullOf) l19 c19 k19, PySem.W.mg_of X G a19, (fun_mk (st := sPullOf) l19 c19 k19).binds fun _ _ _ _ _ _ us hl => match us, hl with | [_, _, _], _ => rfl⟩
  d_is_move := ⟨f20, _, fun_mk (st := sIsMove) l20 c20 k20, PySem.W.mg_of X G a20, (fun_mk (st := sIsMove) l20 c20 k20).binds fun _ _ _ _ _ _ us hl => match us, hl with | [_], _ => rfl⟩
  d_pushes := ⟨f21, _, fun_mk (st := sPushes) l21 c21 k21, PySem.W.mg_of X G a21, (fun_mk (st := sPushes) l21 c21 k21).binds fun _ _ _ _ _ _ us hl => match us, hl with | [_, _], _ => rfl⟩
  d_pushed := ⟨f22, _, fun_mk (st := sPushed) l22 c22 k22, PySem.W.mg_of X G a22, (fun_mk (st := sPushed) l22 c22 k22).binds fun _ _ _ _ _ _ us hl => match us, hl with | [_, _, _], _ => rfl⟩
  d_pulls := ⟨f23, _, fun_mk (st := sPulls) l23 c23 k23, PySem.W.mg_of X G a23, (fun_mk (st := sPulls) l23 c23 k23).binds fun _ _ _ _ _ _ us hl => match us, hl with | [_, _], _ => rfl⟩
  d_pulled := ⟨f24, _, fun_mk (st := sPulled) l24 c24 k24, PySem.W.mg_of X G a24, (fun_mk (st := sPulled) l24 c24 k24).binds fun _ _ _ _ _ _ us hl => match us, hl with | [_, _, _], _ => rfl⟩
  d_law_taken := ⟨f25, _, fun_mk (st := sLawTaken) l25 c25 k25, PySem.W.mg_of X G a25, (fun_mk (st := sLawTaken) l25 c25 k25).binds fun _ _ _ _ _ _ us hl => match us, hl with | [_, _], _ => rfl⟩
  d_law_pick := ⟨f26, _, fun_mk (st := sLawPick) l26 c26 k26, PySem.W.mg_of X G a26, (fun_mk (st := sLawPick) l26 c26 k26).binds fun _ _ _ _ _ _ us hl => match us, hl with | [_, _], _ => rfl⟩
  d_law_alike := ⟨f27, _, fun_mk (st := sLawAlike) l27 c27 k27, PySem.W.mg_of X G a27, (fun_mk (st := sLawAlike) l27 c27 k27).binds fun _ _ _ _ _ _ us hl => match us, hl with | [_, _], _ => rfl⟩
  d_law_cells := ⟨f28, _, fun_mk (st := sLawCells) l28 c28 k28, PySem.W.mg_of X G a28, (fun_mk (st := sLawCells) l28 c28 k28).binds fun _ _ _ _ _ _ us hl => match us, hl with | [_, _], _ => rfl⟩
  d_law_shown := ⟨f29, _, fun_mk (st := sLawShown) l29 c29 k29, PySem.W.mg_of X G a29, (fun_mk (st := sLawShown) l29 c29 k29).binds fun _ _ _ _ _ _ us hl => match us, hl with | [_, _, _], _ => rfl⟩
  d_law_shape := ⟨f30, _, fun_mk (st := sLawShape) l30 c30 k30, PySem.W.mg_of X G a30, (fun_mk (st := sLawShape) l30 c30 k30).binds fun _ _ _ _ _ _ us hl => match us, hl with | [_, _], _ => rfl⟩
  d_law_some := ⟨f31, _, fun_mk (st := sLawSome) l31 c31 k31, PySem.W.mg_of X G a31, (fun_mk (st := sLawSome) l31 c31 k31).binds fun _ _ _ _ _ _ us hl => match us, hl with | [_, _, _], _ => rfl⟩
  d_law_room := ⟨f32, _, fun_mk (st := sLawRoom) l32 c32 k32, PySem.W.mg_of X G a32, (fun_mk (st := sLawRoom) l32 c32 k32).binds fun _ _ _ _ _ _ us hl => match us, hl with | [_, _, _], _ => rfl⟩
  d_law_ways := ⟨f33, _, fun_mk (st := sLawWays) l33 c33 k33, PySem.W.mg_of X G a33, (fun_mk (st := sLawWays) l33 c33 k33).binds fun _ _ _ _ _ _ us hl => match us, hl with | [], _ => rfl⟩
  d_law_reach := ⟨f34, _, fun_mk (st := sLawReach) l34 c34 k34, PySem.W.mg_of X G a34, (fun_mk (st := sLawReach) l34 c34 k34).binds fun _ _ _ _ _ _ us hl => match us, hl with | [_, _, _], _ => rfl⟩
  d_law_plain := ⟨f35, _, fun_mk (st := sLawPlain) l35 c35 k35, PySem.W.mg_of X G a35, (fun_mk (st := sLawPlain) l35 c35 k35).binds fun _ _ _ _ _ _ us hl => match us, hl with | [_, _, _], _ => rfl⟩
  d_law_pulls := ⟨f36, _, fun_mk (st := sLawPulls) l36 c36 k36, PySem.W.mg_of X G a36, (fun_mk (st := sLawPulls) l36 c36 k36).binds fun _ _ _ _ _ _ us hl => match us, hl with | [_, _, _], _ => rfl⟩
  d_law_pushes := ⟨f37, _, fun_mk (st := sLawPushes) l37 c37 k37, PySem.W.mg_of X G a37, (fun_mk (st := sLawPushes) l37 c37 k37).binds fun _ _ _ _ _ _ us hl => match us, hl with | [_, _, _], _ => rfl⟩
  d_law_of := ⟨f38, _, fun_mk (st := sLawOf) l38 c38 k38, PySem.W.mg_of X G a38, (fun_mk (st := sLawOf) l38 c38 k38).binds fun _ _ _ _ _ _ us hl => match us, hl with | [_], _ => rfl⟩
  d_law_pull_rows := ⟨f39, _, fun_mk (st := sLawPullRows) l39 c39 k39, PySem.W.mg_of X G a39, (fun_mk (st := sLawPullRows) l39 c39 k39).binds fun _ _ _ _ _ _ us hl => match us, hl with | [_, _, _], _ => rfl⟩
  d_law_refused := ⟨f40, _, fun_mk (st := sLawRefused) l40 c40 k40, PySem.W.mg_of X G a40, (fun_mk (st := sLawRefused) l40 c40 k40).binds fun _ _ _ _ _ _ us hl => match us, hl with | [_, _, _, _], _ => rfl⟩
  d_law := ⟨f41, _, fun_mk (st := sLaw) l41 c41 k41, PySem.W.mg_of X G a41, (fun_mk (st := sLaw) l41 c41 k41).binds fun _ _ _ _ _ _ us hl => match us, hl with | [_], _ => rfl⟩
  d_beside := by
    have hD : DflV K (.ref TB) [.int 1] := Or.inr ⟨by simp, TB, _, [Value.int 1 tB], nB, rfl, lT, rfl, Paired.cons ⟨tB, rfl⟩ Paired.nil⟩
    have hW : KwdV K kVB [] := Or.inl rfl
    exact ⟨fB, _, ⟨⟨_, _, _, _, _, _, _, _, _, _, rfl, lB, cB, hD, hW⟩, kB⟩, PySem.W.mg_of X G aB⟩
  ground := ⟨C, fI, fF, ⟨pgC, hdC, poC, saC⟩, PySem.W.mg_of X G aC, ⟨mkC, aI, iI, kC⟩, ⟨aF, iF, kF⟩, nC1, nC2, nC3, nC4, nC5,
    ⟨_, fun_mk (st := sInit) lI cI kI, (fun_mk (st := sInit) lI cI kI).binds fun _ _ _ _ _ _ us hl => match us, hl with | [_, _], _ => rfl⟩,
    ⟨_, fun_mk (st := sFree) lF cF kF, (fun_mk (st := sFree) lF cF kF).binds fun _ _ _ _ _ _ us hl => match us, hl with | [_, _], _ => rfl⟩⟩
  badPush := ⟨P, PySem.W.mg_of X G aP, xP, kP, bP, tP, exm_own bP iP tP sP⟩
  steps := ⟨dS, esS, nS, ⟨PySem.W.mg_of X G gS, ⟨lS, yS, wS⟩, mS, xS, ES⟩, ⟨_, Se, qe, _, _, _, _, rfl, Te, rfl, rfl⟩, ⟨_, Sn, qn, _, _, _, _, rfl, Tn, rfl, rfl⟩, ⟨_, Ss, qs, _, _, _, _, rfl, Ts, rfl, rfl⟩, ⟨_, Sw, qw, _, _, _, _, rfl, Tw, rfl, rfl⟩⟩
  back := ⟨dK, esK, nK, ⟨PySem.W.mg_of X G gK, ⟨lK, yK, wK⟩, mK, xK, EK⟩, ⟨_, Be⟩, ⟨_, Bn⟩, ⟨_, Bs⟩, ⟨_, Bw⟩⟩
  signs := ⟨_, PySem.W.mg_of X G gs⟩
  mostF := ⟨_, PySem.W.mg_of X G gf⟩
  mostC := ⟨_, PySem.W.mg_of X G gc⟩
  n_len := PySem.W.mg_none_of X G z_len
  n_isinstance := PySem.W.mg_none_of X G z_isinstance
  n_all := PySem.W.mg_none_of X G z_all
  n_tuple := PySem.W.mg_none_of X G z_tuple
  n_list := PySem.W.mg_none_of X G z_list
  n_str := PySem.W.mg_none_of X G z_str
  n_int := PySem.W.mg_none_of X G z_int
  n_bool := PySem.W.mg_none_of X G z_bool
  n_range := PySem.W.mg_none_of X G z_range
  n_sorted := PySem.W.mg_none_of X G z_sorted
  n_min := PySem.W.mg_none_of X G z_min
end CR
/-! Rules of our own: a written dict walked and sorted, a display with one tuple for its key, membership in a tuple of data, an error made without arguments, a call of what a name holds. -/
namespace CR
open PySem PySem.Spec PyProof.Rows L2

/-! ### a fixed row of values, walked -/
def ItF (xs : List V) : It := ⟨fun i _ => i < xs.length, fun i H x H' => H' = H ∧ xs[i]? = some x, fun i _ => xs.length ≤ i⟩
theorem walk_fix {xs : List V} : Walk (ItF xs) xs.length (fun _ => True) (YAt xs) := ⟨fun _ _ h _ => h, fun _ _ => Nat.le_refl _, fun _ _ _ _ _ _ y => y⟩
/-- the keys of a written dict, as values -/
def KeyRow (es : Array DictEntry) (ks : List Str) : Prop := ∀ (i : Nat), (es[i]? = none ∧ ks[i]? = none) ∨ ∃ en x t, es[i]? = some en ∧ ks[i]? = some x ∧ en.key = Value.str x t
theorem KeyRow.size {es : Array DictEntry} {ks : List Str} (h : KeyRow es ks) : es.size = ks.length := by
  have h1 := h es.size
  have h2 := h ks.length
  rcases h1 with ⟨_, b⟩ | ⟨en, x, t, a, _⟩
  · rcases h2 with ⟨c, _⟩ | ⟨en, x, t, _, d, _⟩
    · have e1 : ks.length ≤ es.size := List.getElem?_eq_none_iff.mp b
      have e2 : es.size ≤ ks.length := Array.getElem?_eq_none_iff.mp c
      omega
    · simp at d
  · simp at a
theorem keyRow4 {es : Array DictEntry} {a b c d : Str} {t1 t2 t3 t4 : Tok} (h : es.toList.map (·.key) = [.str a t1, .str b t2, .str c t3, .str d t4]) : KeyRow es [a, b, c, d] := by
  intro i
  obtain ⟨l⟩ := es
  have h : l.map (·.key) = [.str a t1, .str b t2, .str c t3, .str d t4] := h
  have h4 : l.length = 4 := by
    have z := congrArg List.length h
    rw [List.length_map] at z
    exact z
  match l, h4, h with
  | [e1, e2, e3, e4], _, h =>
    simp only [List.map_cons, List.map_nil, List.cons.injEq, and_true] at h
    obtain ⟨g1, g2, g3, g4⟩ := h
    match i with
    | 0 => exact .inr ⟨e1, a, t1, rfl, rfl, g1⟩
    | 1 => exact .inr ⟨e2, b, t2, rfl, rfl, g2⟩
    | 2 => exact .inr ⟨e3, c, t3, rfl, rfl, g3⟩
    | 3 => exact .inr ⟨e4, d, t4, rfl, rfl, g4⟩
    | n + 4 => exact .inl ⟨by simp, by simp⟩
section
variable {P : Program} {w : World} {K : PySem.W.Frag} {tg : Expr} {d : Addr} {es : Array DictEntry} {ep : Nat} {ks : List Str}
theorem turn_keysK (it : Addr) (D : KDict K w d es ep) (hk : KeyRow es ks) : Turn P w K tg (ItF (ks.map V.str)) [it] it (fun i h => h.IsKeyIter it d i es.size ep) := by
  have hsz := hk.size
  refine ⟨List.mem_singleton.mpr rfl, fun i h st b hb => ?_, fun i h h' st k => st.at fun oi e => k it (List.mem_singleton.mpr rfl) oi e, ?_, ?_, fun A i s Q E st h => wpAny_pyIter_keyiter st h⟩
  · rw [List.mem_singleton.mp hb]
    obtain ⟨oi, e, c, dd⟩ := st
    exact ⟨oi, e, fun v z => by rw [dd] at z; cases z⟩
  · intro X hP hw hK hc i pins s σ H E I hf st hg
    subst hP hw hK
    obtain ⟨f0, f1, _, f3, f4, f5⟩ := hf it (List.mem_singleton.mpr rfl)
    have hi : i < es.size := by
      have q : i < (ks.map V.str).length := hg
      rw [List.length_map] at q
      omega
    rcases hk i with ⟨z, _⟩ | ⟨en, x, t, e1, e2, e3⟩
    · have : es.size ≤ i := Array.getElem?_eq_none_iff.mp z
      omega
    refine next_key_item st (I.kIn _ _ D.at_) rfl rfl e1 fun h' st' sb => ?_
    have J : Inv X pins σ H { s with heap := h' } := I.turned (t' := s.toks) (fun b ob hb e => (sb.2 b hb).trans e) f0 f1 f3 f4 f5
    obtain ⟨oi, e, c, dd⟩ := id st'
    refine ⟨en.key, rfl, go_of (s := { s with heap := h' }) e c dd (by decide) ⟨.str x, H, J, ⟨t, e3⟩, ⟨rfl, ?_⟩, st', fun b hb => (hf b hb).1⟩⟩
    rw [List.getElem?_map, e2]
    rfl
  · intro X hP hw hK hc i pins s σ H E I hf st hg
    subst hP hw hK
    obtain ⟨f0, f1, _, f3, f4, f5⟩ := hf it (List.mem_singleton.mpr rfl)
    have hi : es.size ≤ i := by
      have q : (ks.map V.str).length ≤ i := hg
      rw [List.length_map] at q
      omega
    exact next_key_end (I.ok.hd hc) st (I.kIn _ _ D.at_) rfl rfl hi fun h' eb => ⟨rfl, I.turned (t' := s.toks) (fun b ob hb e => eb b ob hb e) f0 f1 f3 f4 f5⟩
end
section
variable {X : Cx} {σ : L2.St} {H : Hp} {tg e : Expr} {d : Addr} {es : Array DictEntry} {ep : Nat} {ks : List Str}
theorem pi_keysK {te : TE} (D : KDict X.K X.w d es ep) (hk : KeyRow es ks) (he : PE X e te) : PI X tg e (fun σ H R => te σ H fun x H1 => x = .ref d ∧ R (ItF (ks.map V.str)) H1) := by
  refine ⟨fun pins s σ H R I h => ?_⟩
  refine thn (he.run pins s σ H _ I h) fun u s1 ⟨x, H1, I1, rx, ex, q⟩ => ?_
  subst ex
  cases (show u = Value.ref d from rx)
  have hod := I1.kIn _ _ D.at_
  exact iter_keys D.low hod ⟨rfl, rfl, rfl⟩ rfl (pi_one (tk := s1.toks) I1 _ (turn_keysK _ D hk) ⟨_, Heap.get?_push_size _ rfl, rfl, rfl⟩ q)
theorem iK {R : It → Hp → Prop} (D : KDict X.K X.w d es ep) (hk : KeyRow es ks) (h : wE X e σ H fun x H1 => x = .ref d ∧ R (ItF (ks.map V.str)) H1) : wI X tg e σ H R := oI (pi_keysK D hk pE) h
/-- sorted of a written dict with fewer than 64 texts for keys -/
theorem cr_sortedK (hcalm : X.calm = true) (D : KDict X.K X.w d es ep) (hk : KeyRow es ks) (h64 : ks.length < 64) : CallR X (.builtin "sorted") (fun xs H Q => xs = [.ref d] ∧
    ∀ ys p, ys.Perm ks → sortedS ys = true → H p = none → Q (.ref p) (upd H p (.lst (ys.map V.str)))) := by
  intro pins s σ H xs us Q I r q
  obtain ⟨ex, q⟩ := q
  subst ex
  obtain ⟨u, eu, rx⟩ := vals1 r
  subst eu
  cases rx
  have hl : es.size = ks.length := hk.size
  have h16 : es.size ≤ sizeLine := by rw [hl, sizeLine_eq]; omega
  refine Calls.call_function_entry PyProof.Rows.kind_sorted PyProof.Rows.plain_sorted PyProof.Rows.entry_sorted (PyProof.Rows.args_sorted1 _) ?_
  unfold Builtin.«sorted»
  refine wpAny_bind (m := checkCount "sorted" 1 1 _) (wpAny_pure ?_)
  refine wpAny_bind (PySem.W.kdu_collect (A := X.A.in1) (kdl_raw (o := ⟨.type "dict", none, .dict es ep, #[]⟩) D.low ⟨rfl, rfl, rfl⟩ rfl) (I.ok.hd hcalm) (I.kIn _ _ D.at_) h16 fun h' tk acc hkp hacc => ?_)
  have hal : acc.toList.length = ks.length := by rw [Array.length_toList, hacc.1, hl]
  have hS : StrsAre acc.toList ks := strs_at hal fun j v e => by
    obtain ⟨en, e1, e2⟩ := hacc.2 j v (by rw [← Array.getElem?_toList]; exact e)
    rcases hk j with ⟨z, _⟩ | ⟨en', x, t, g1, g2, g3⟩
    · rw [z] at e1
      cases e1
    · rw [g1] at e1
      cases e1
      exact ⟨x, t, g2, e2.trans g3⟩
  have I1 : Inv X pins σ H { s with heap := h', toks := tk } := I.kept hkp
  refine wpAny_bind (wpAny_newList ?_ (by rw [hal, sizeLine_eq]; omega))
  have hoL : (h'.push (seqObj "list" acc.toList.toArray 0)).get? h'.objs.size = some (seqObj "list" acc.toList.toArray 0) := Heap.get?_push_size _ rfl
  show wpAny _ _ _ _ _ { s with heap := h'.push (seqObj "list" acc.toList.toArray 0), toks := tk }
  refine wpAny_bind (wpAny_holding (wpAny_call_entry PyProof.Rows.slot_list_sort ⟨_, hoL, rfl⟩ PyProof.Rows.entry_list_sort
    (list_sort_treeK strKind_oneLt (s := { s with heap := h'.push (seqObj "list" acc.toList.toArray 0), toks := tk }) hoL hS.keysOf (fun v₁ v₂ rest e => keyKind_strs (by rw [← e]; exact hS)) (by rw [hal]; exact h64) fun st' hp hs => ⟨_, rfl, ?_⟩)
    (PyProof.Rows.args_list_sort _)))
  obtain ⟨ys, g1, g2, g3⟩ := sorted_out_str hS hp hs
  obtain ⟨e', he'⟩ := PyProof.Rows.sortedHeap_at (vs := acc.toList) (out := (arrOf st').map (·.2)) hoL
  have hlen : (ys.map V.str).length ≤ sizeLine := by
    rw [List.length_map, g2.length_eq]
    exact Nat.le_trans (Nat.le_of_lt h64) (by decide)
  refine wpAny_pure ⟨_, rfl, .ref h'.objs.size, upd H h'.objs.size (.lst (ys.map V.str)), I1.laid (t' := tk) (fun b u e => ?_) (Nat.le_refl _)
    (show ObjOk X.prog X.w _ _ _ (.lst (ys.map V.str)) from ⟨hlen, ((arrOf st').map (·.2)).toList, e', vals_of_strs g1, by rw [Array.toArray_toList]; exact he'⟩), rfl, q ys _ g2 g3 (I1.hok.fresh (Nat.le_refl _))⟩
  have hb : b < h'.objs.size := Heap.lt_size e
  rw [PyProof.Rows.sortedHeap_old (Nat.ne_of_lt hb) (by rw [size_push']; exact Nat.lt_succ_of_lt hb)]
  exact Heap.get?_push_of_some _ e
end
/-! ### {cell: e} -/
section
variable {X : Cx} {a b : Expr} {pos : Pos}
theorem tPairs1 {tk tv : TE} {σ : L2.St} {H : Hp} {p : Addr} {Q : VK} (h : tk σ H fun x H1 => tv σ H1 fun y H2 => H2 p = some (.dT []) ∧ ∃ (q : Addr) (k : List Key), x = .ref q ∧ H2 q = some (.tup (k.map kV)) ∧ Q (.ref p) (upd H2 p (.dT [(k, y)]))) (mk : ∀ (Q1 Q2 : VK) (H : Hp), (∀ v H, Q1 v H → Q2 v H) → tk σ H Q1 → tk σ H Q2) (mv : ∀ (Q1 Q2 : VK) (H : Hp), (∀ v H, Q1 v H → Q2 v H) → tv σ H Q1 → tv σ H Q2) :
    tPairs [(tk, tv)] σ H (fun ps H2 => ∃ x y, ps = [(x, y)] ∧ H2 p = some (.dT []) ∧ ∃ (q : Addr) (k : List Key), x = .ref q ∧ H2 q = some (.tup (k.map kV)) ∧ Q (.ref p) (upd H2 p (.dT [(k, y)]))) :=
  mk _ _ _ (fun x H1 h1 => mv _ _ _ (fun y H2 h2 => ⟨x, y, rfl, h2⟩) h1) h
def tDisp1 (tk tv : TE) : TE := fun σ H Q => ∀ p, H p = none → tk σ (upd H p (.dT [])) fun x H1 => tv σ H1 fun y H2 => H2 p = some (.dT []) ∧ ∃ (q : Addr) (k : List Key), x = .ref q ∧ H2 q = some (.tup (k.map kV)) ∧ Q (.ref p) (upd H2 p (.dT [(k, y)]))
theorem pe_disp1 (hu : X.A.units + 1 < cLine) : PE X (.Dict [some a] [b] pos) (tDisp1 (wE X a) (wE X b)) := by
  refine ⟨fun pins s σ H Q I q => ?_⟩
  have hn := I.hok.fresh (Nat.le_refl s.heap.objs.size)
  have I1 := I.laid (a := s.heap.objs.size) (o := .dT []) (h' := s.heap.push { cls := .type "dict", data := .dict #[] }) (t' := s.toks) (fun _ _ q => Heap.get?_push_of_some _ q) (Nat.le_refl _) (dt_empty s.heap I.big)
  have hp : PPs X pos [some a] [b] [(wE X a, wE X b)] := pps_cons pE pE pps_nil
  rw [arm_eval_Dict, zip_pairTrees [some a] [b] X.env pos rfl rfl, dictDisplay_pairs (pairTrees [some a] [b] X.env pos) (fun z => nomatch z) (by show 1 < 17; decide)]
  refine wpAny_bind (wpAny_standAt (wpAny_bind (wpAny_subDictH (knd := tupleKind (mixKind X.prog X.w)) (Q := fun d s' => wpAny (model X.prog X.w) X.A (pure (Value.ref d)) (EP X pins σ Q) X.xe s') (by show X.A.units < cLine; omega) (by show 1 ≤ 15; decide)
    (thn (hp.run pins _ σ _ (fun ps H2 => ∃ x y, ps = [(x, y)] ∧ H2 s.heap.objs.size = some (.dT []) ∧ ∃ (q : Addr) (k : List Key), x = .ref q ∧ H2 q = some (.tup (k.map kV)) ∧ Q (.ref s.heap.objs.size) (upd H2 s.heap.objs.size (.dT [(k, y)]))) I1 (tPairs1 (q _ hn) (fun _ _ _ k h => wE_mono h k) (fun _ _ _ k h => wE_mono h k))) fun ws s2 ⟨ps, H2, I2, rel, x, y, ep, e, qa, k, ex, hk, q2⟩ => ?_))))
  subst ep ex
  cases rel with
  | @cons p1 p2 l1 l2 h t =>
  cases t
  obtain ⟨u, v⟩ := p2
  obtain ⟨r1, r2⟩ := h
  cases (show u = Value.ref qa from r1)
  obtain ⟨z, lo, xs, kt, dd⟩ := dt_of I2.hok e
  cases kt
  refine ⟨[(k, qa, v)], ⟨rfl, rfl, key_of I2.hok hk, True.intro⟩, dd, fun h' tk' dd' hs => wpAny_pure ⟨.ref s.heap.objs.size, upd H2 s.heap.objs.size (.dT [(k, y)]), ?_, rfl, q2⟩⟩
  have dd2 : h'.DictOfH (tupleKind (mixKind X.prog X.w)) s.heap.objs.size [(k, qa, v)] := dd'
  obtain ⟨o, es, ep, ho, hc, hd, he, his, hnd⟩ := dd2
  refine d_write (t' := tk') I2 (by rw [e]; exact True.intro) hs ⟨o, ho⟩ ?_
  have nq : qa ≠ s.heap.objs.size := ne_of hk e (by intro z; cases z)
  exact ⟨by show 1 ≤ sizeLine; decide, lo, [(k, qa, v)], .cons ⟨rfl, by rw [upd_ne nq]; exact hk, r2⟩ .nil, o, es, ep, ho, hc, hd, he, hnd⟩
theorem wDisp1 {σ : L2.St} {H : Hp} {Q : VK} (hu : X.A.units + 1 < cLine) (h : ∀ p, H p = none → wE X a σ (upd H p (.dT [])) fun x H1 => wE X b σ H1 fun y H2 => H2 p = some (.dT []) ∧ ∃ (q : Addr) (k : List Key), x = .ref q ∧ H2 q = some (.tup (k.map kV)) ∧ Q (.ref p) (upd H2 p (.dT [(k, y)]))) :
    wE X (.Dict [some a] [b] pos) σ H Q := oE (pe_disp1 hu) h
end
/-! ### an own error made without arguments -/
section
variable {X : Cx} {C : Addr} {bmB : List Value} {B newId initId : String}
theorem pmk_own0 {x : Str} {p pos : Pos} (F : ExcBaseFacts B newId initId bmB) (q : PySem.W.excIn X.K C bmB newId = true) (gC : X.mg x = some (.ref C)) (kC : PySem.W.keepIn X.K (.ref C) = true) (r : Raises X (.ref C)) (hg : Gl X x)
    (hdb : (x == ("__debug__" : Str)) = false := by decide) : PMk X (.Call (.Name x p) [] [] pos) (fun _ H Q => Q (.ref C) none H) := by
  intro pins s σ H Q I h
  refine wpAny_Call_Name_kw (ld_glob I hg gC (PySem.W.callWith_K0 I.kIn kC ?_) hdb)
  show wpAny _ _ (call (.ref C) []) _ _ _
  obtain ⟨hp, g, dr, tk, os⟩ := s
  obtain ⟨bm, N, nm, qn, bs, hdct, sn, sub, ab, col, dd, k0, k1, k2, k3, k5, mN, hC, hN, hni, T⟩ := exc_obj I.kIn q
  exact wpAny_call_exc_subT F T hC hN hni (fun h' e hm => mk_of I hm r h (I.hok.gone hm.new)) (Nat.zero_le _)
theorem sRaise0 {x : Str} {p pos pos2 : Pos} {W : WX} {D : Ends} {σ : L2.St} {H : Hp} (hc : X.calm = true) (tk : Takes X W) (F : ExcBaseFacts B newId initId bmB) (q : PySem.W.excIn X.K C bmB newId = true) (gC : X.mg x = some (.ref C)) (kC : PySem.W.keepIn X.K (.ref C) = true) (r : Raises X (.ref C))
    (h : W (.ref C) none σ H) (hg : Gl X x := by rfl) (hdb : (x == ("__debug__" : Str)) = false := by decide) : wS X (.Raise (some (.Call (.Name x p) [] [] pos)) none pos2) D σ H :=
  oS (ps_raise hc tk (pmk_own0 F q gC kC r hg hdb)) h
end
end CR
/-! Data that never changes (ints, texts, tuples of them), what is read of it, and tests over it. -/
namespace CR
open PySem PySem.Spec PyProof.Rows L2

/-! ### heaps that keep their tuples -/
def TS (H H' : Hp) : Prop := ∀ (a : Addr) (xs : List V), H a = some (.tup xs) → H' a = some (.tup xs)
theorem TS.refl (H : Hp) : TS H H := fun _ _ h => h
theorem TS.trans {H H1 H2 : Hp} (a : TS H H1) (b : TS H1 H2) : TS H H2 := fun x xs h => b x xs (a x xs h)
theorem TS.of {H H' : Hp} (s : Same H H') : TS H H' := fun a xs h => s a _ h
theorem TS.put {H : Hp} {p : Addr} {o o' : HO} (h : H p = some o) (n : ∀ xs, o ≠ .tup xs) : TS H (upd H p o') := fun a xs e => by
  rw [upd_ne (ne_of e h fun z => n xs z.symm)]
  exact e
theorem TS.lst {H : Hp} {p : Addr} {xs : List V} {o' : HO} (h : H p = some (.lst xs)) : TS H (upd H p o') := .put h fun _ z => nomatch z
theorem Same.new {H : Hp} {p : Addr} {o : HO} (h : H p = none) : Same H (upd H p o) := fun b x e => by
  rw [upd_ne (ne_of_none e h)]
  exact e
theorem TS.new {H : Hp} {p : Addr} {o : HO} (h : H p = none) : TS H (upd H p o) := .of (Same.new h)
/-- what H0 does not know may change -/
theorem Same.mut {H0 H : Hp} {p : Addr} {o : HO} (s : Same H0 H) (h : H0 p = none) : Same H0 (upd H p o) := fun b x e => by
  rw [upd_ne (ne_of_none e h)]
  exact s b x e
theorem Same.tup {K : PySem.W.Frag} {H H' : Hp} {a : Addr} {xs : List V} (e : Same H H') (h : SqT K H a xs) : SqT K H' a xs := by
  rcases h with (h | ⟨o, h⟩) | h
  · exact .inl (.inl (e _ _ h))
  · exact .inl (.inr ⟨o, e _ _ h⟩)
  · exact .inr h
theorem sqT {K : PySem.W.Frag} {H : Hp} {a : Addr} {xs : List V} (h : H a = some (.tup xs)) : SqT K H a xs := .inl (.inl h)
theorem sqL {K : PySem.W.Frag} {H : Hp} {a : Addr} {xs : List V} (h : H a = some (.lst xs)) : SqL K H a xs := .inl (.inl h)
theorem sz {n : Nat} (h : n ≤ 100000) : n ≤ sizeLine := Nat.le_trans h (by decide)
theorem szl {n : Nat} (h : n < 100000) : n < sizeLine := Nat.lt_of_lt_of_le h (by decide)

/-! ### paired rows -/
theorem Paired.len {α β : Type} {F : α → β → Prop} {l : List α} {m : List β} (h : Paired F l m) : l.length = m.length := Paired.length h
theorem paired_get {α β : Type} {F : α → β → Prop} : ∀ {l : List α} {m : List β} {i : Nat} {x : α}, Paired F l m → l[i]? = some x → ∃ y, m[i]? = some y ∧ F x y
  | _, _, _, _, .nil, h => by simp at h
  | _, _, 0, x, .cons a _, h => by
    have e := Option.some.inj h
    subst e
    exact ⟨_, rfl, a⟩
  | _, _, i + 1, x, .cons _ t, h => by
    obtain ⟨y, e, f⟩ := paired_get (i := i) (x := x) t (by simpa using h)
    exact ⟨y, by simpa using e, f⟩
theorem paired_get' {α β : Type} {F : α → β → Prop} : ∀ {l : List α} {m : List β} {i : Nat} {y : β}, Paired F l m → m[i]? = some y → ∃ x, l[i]? = some x ∧ F x y
  | _, _, _, _, .nil, h => by simp at h
  | _, _, 0, x, .cons a _, h => by
    have e := Option.some.inj h
    subst e
    exact ⟨_, rfl, a⟩
  | _, _, i + 1, x, .cons _ t, h => by
    obtain ⟨y, e, f⟩ := paired_get' (i := i) (y := x) t (by simpa using h)
    exact ⟨y, by simpa using e, f⟩
theorem paired_mono {α β : Type} {F G : α → β → Prop} : ∀ {l : List α} {m : List β}, Paired F l m → (∀ x y, F x y → G x y) → Paired G l m
  | _, _, .nil, _ => .nil
  | _, _, .cons a t, k => .cons (k _ _ a) (paired_mono t k)
theorem paired_append {α β : Type} {F : α → β → Prop} : ∀ {l l' : List α} {m m' : List β}, Paired F l m → Paired F l' m' → Paired F (l ++ l') (m ++ m')
  | _, _, _, _, .nil, h => h
  | _, _, _, _, .cons a t, h => .cons a (paired_append t h)
theorem paired_snoc {α β : Type} {F : α → β → Prop} {l : List α} {m : List β} {x : α} {y : β} (h : Paired F l m) (a : F x y) : Paired F (l ++ [x]) (m ++ [y]) := paired_append h (.cons a .nil)
theorem paired_map {α β γ : Type} {F : α → γ → Prop} {f : β → γ} : ∀ {l : List α} {m : List β}, Paired F l (m.map f) ↔ Paired (fun x y => F x (f y)) l m
  | [], [] => ⟨fun _ => .nil, fun _ => .nil⟩
  | [], _ :: _ => ⟨fun h => (by cases h), fun h => (by cases h)⟩
  | _ :: _, [] => ⟨fun h => (by cases h), fun h => (by cases h)⟩
  | x :: l, y :: m => ⟨fun h => by cases h with | cons a t => exact .cons a (paired_map.mp t), fun h => by cases h with | cons a t => exact .cons a (paired_map.mpr t)⟩
theorem paired_take {α β : Type} {F : α → β → Prop} : ∀ {l : List α} {m : List β} (n : Nat), Paired F l m → Paired F (l.take n) (m.take n)
  | _, _, 0, _ => .nil
  | _, _, _ + 1, .nil => .nil
  | _, _, n + 1, .cons a t => .cons a (paired_take n t)
theorem paired_eraseIdx {α β : Type} {F : α → β → Prop} : ∀ {l : List α} {m : List β} (n : Nat), Paired F l m → Paired F (l.eraseIdx n) (m.eraseIdx n)
  | _, _, _, .nil => .nil
  | _, _, 0, .cons a t => t
  | _, _, n + 1, .cons a t => .cons a (paired_eraseIdx n t)
theorem paired_dropLast {α β : Type} {F : α → β → Prop} : ∀ {l : List α} {m : List β}, Paired F l m → Paired F l.dropLast m.dropLast
  | _, _, .nil => .nil
  | _, _, .cons _ .nil => .nil
  | _, _, .cons a (.cons b t) => .cons a (paired_dropLast (.cons b t))

/-! ### data that never changes -/
inductive Im (H : Hp) : V → PyData → Prop
  | non : Im H .non .none
  | bl (b : Bool) : Im H (.bl b) (.bool b)
  | int (i : Int) : Im H (.int i) (.int i)
  | str (x : Str) : Im H (.str x) (.str x)
  | tup {a : Addr} {vs : List V} {ds : List PyData} (h : H a = some (.tup vs)) (hs : Paired (Im H) vs ds) : Im H (.ref a) (.tuple ds)
mutual
theorem Im.ts {H H' : Hp} (t : TS H H') : ∀ (d : PyData) (v : V), Im H v d → Im H' v d
  | .none, _, .non => .non
  | .bool b, _, .bl _ => .bl b
  | .int i, _, .int _ => .int i
  | .str x, _, .str _ => .str x
  | .tuple ds, _, .tup h hs => .tup (t _ _ h) (imAll_ts t ds _ hs)
  | .list _, _, h => nomatch h
  | .dict _, _, h => nomatch h
theorem imAll_ts {H H' : Hp} (t : TS H H') : ∀ (ds : List PyData) (vs : List V), Paired (Im H) vs ds → Paired (Im H') vs ds
  | [], _, .nil => .nil
  | d :: ds, _, .cons a b => .cons (Im.ts t d _ a) (imAll_ts t ds _ b)
end
theorem Im.mono {H H' : Hp} {v : V} {d : PyData} (t : TS H H') (h : Im H v d) : Im H' v d := h.ts t d v
abbrev ImL (H : Hp) (vs : List V) (ds : List PyData) : Prop := Paired (Im H) vs ds
theorem ImL.mono {H H' : Hp} {vs : List V} {ds : List PyData} (t : TS H H') (h : ImL H vs ds) : ImL H' vs ds := imAll_ts t ds vs h
mutual
theorem Im.dp {K : PySem.W.Frag} {H : Hp} : ∀ (d : PyData) (v : V), Im H v d → Dp K H v d
  | .none, _, .non => .non
  | .bool b, _, .bl _ => .bl b
  | .int i, _, .int _ => .int i
  | .str x, _, .str _ => .str x
  | .tuple ds, _, .tup h hs => .tup (sqT h) (imAll_dp ds _ hs)
  | .list _, _, h => nomatch h
  | .dict _, _, h => nomatch h
theorem imAll_dp {K : PySem.W.Frag} {H : Hp} : ∀ (ds : List PyData) (vs : List V), Paired (Im H) vs ds → DpAll K H vs ds
  | [], _, .nil => .nil
  | d :: ds, _, .cons a b => .cons (Im.dp d _ a) (imAll_dp ds _ b)
end
theorem im_tup {H : Hp} {v : V} {ds : List PyData} (h : Im H v (.tuple ds)) : ∃ a vs, v = .ref a ∧ H a = some (.tup vs) ∧ ImL H vs ds := by
  cases h with
  | tup h hs => exact ⟨_, _, rfl, h, hs⟩
theorem im_int {H : Hp} {v : V} {i : Int} (h : Im H v (.int i)) : v = .int i := by cases h; rfl
theorem im_str {H : Hp} {v : V} {i : Str} (h : Im H v (.str i)) : v = .str i := by cases h; rfl

/-! ### cells, letters, pushes, standings -/
abbrev Cell := Int × Int
inductive Dir | e | n | s | w deriving DecidableEq
def Dir.str : Dir → Str
  | .e => "e" | .n => "n" | .s => "s" | .w => "w"
def Dir.dr : Dir → Int
  | .e => 0 | .n => -1 | .s => 1 | .w => 0
def Dir.dc : Dir → Int
  | .e => 1 | .n => 0 | .s => 0 | .w => -1
def Dir.back : Dir → Dir
  | .e => .w | .n => .s | .s => .n | .w => .e
def dirs : List Dir := [.e, .n, .s, .w]
def go (c : Cell) (d : Dir) (m : Int) : Cell := (c.1 + m * d.dr, c.2 + m * d.dc)
abbrev Push := Cell × Dir
abbrev Stand := List Cell × Cell
def cD (c : Cell) : PyData := .tuple [.int c.1, .int c.2]
def csD (cs : List Cell) : PyData := .tuple (cs.map cD)
def pD (p : Push) : PyData := .tuple [cD p.1, .str p.2.str]
def psD (ps : List Push) : PyData := .tuple (ps.map pD)
def stD (s : Stand) : PyData := .tuple [csD s.1, cD s.2]
def rwD (rows : List Str) : PyData := .tuple (rows.map .str)

theorem im_cell {H : Hp} {v : V} {c : Cell} : Im H v (cD c) ↔ ∃ t, v = .ref t ∧ H t = some (.tup [.int c.1, .int c.2]) := by
  constructor
  · intro h
    obtain ⟨a, vs, rfl, h1, h2⟩ := im_tup h
    cases h2 with
    | cons a1 t =>
      cases t with
      | cons a2 t =>
        cases t
        rw [im_int a1, im_int a2] at h1
        exact ⟨a, rfl, h1⟩
  · rintro ⟨t, rfl, h⟩
    exact .tup h (.cons (.int _) (.cons (.int _) .nil))
theorem im_cell_mk {H : Hp} {t : Addr} {a b : Int} (h : H t = some (.tup [.int a, .int b])) : Im H (.ref t) (cD (a, b)) := im_cell.mpr ⟨t, rfl, h⟩
theorem im_push {H : Hp} {v : V} {p : Push} : Im H v (pD p) ↔ ∃ t x, v = .ref t ∧ H t = some (.tup [x, .str p.2.str]) ∧ Im H x (cD p.1) := by
  constructor
  · intro h
    obtain ⟨a, vs, rfl, h1, h2⟩ := im_tup h
    cases h2 with
    | cons a1 t =>
      cases t with
      | cons a2 t =>
        cases t
        rw [im_str a2] at h1
        exact ⟨a, _, rfl, h1, a1⟩
  · rintro ⟨t, x, rfl, h, hx⟩
    exact .tup h (.cons hx (.cons (.str _) .nil))
theorem im_cells {H : Hp} {v : V} {cs : List Cell} : Im H v (csD cs) ↔ ∃ t vs, v = .ref t ∧ H t = some (.tup vs) ∧ ImL H vs (cs.map cD) := by
  constructor
  · exact im_tup
  · rintro ⟨t, vs, rfl, h, hs⟩
    exact .tup h hs
theorem im_stand {H : Hp} {v : V} {s : Stand} : Im H v (stD s) ↔ ∃ t x y, v = .ref t ∧ H t = some (.tup [x, y]) ∧ Im H x (csD s.1) ∧ Im H y (cD s.2) := by
  constructor
  · intro h
    obtain ⟨a, vs, rfl, h1, h2⟩ := im_tup h
    cases h2 with
    | cons a1 t =>
      cases t with
      | cons a2 t =>
        cases t
        exact ⟨a, _, _, rfl, h1, a1, a2⟩
  · rintro ⟨t, x, y, rfl, h, hx, hy⟩
    exact .tup h (.cons hx (.cons hy .nil))
theorem iml_strs {H : Hp} {vs : List V} : ∀ {rows : List Str}, ImL H vs (rows.map .str) ↔ vs = rows.map .str := by
  intro rows
  induction rows generalizing vs with
  | nil => exact ⟨fun h => by cases h; rfl, fun h => by subst h; exact .nil⟩
  | cons r rows ih =>
    constructor
    · intro h
      cases h with
      | cons a t =>
        rw [im_str a, ih.mp t]
        rfl
    · rintro rfl
      exact .cons (.str _) (ih.mpr rfl)
theorem im_rows {H : Hp} {v : V} {rows : List Str} : Im H v (rwD rows) ↔ ∃ t, v = .ref t ∧ H t = some (.tup (rows.map .str)) := by
  constructor
  · intro h
    obtain ⟨a, vs, rfl, h1, h2⟩ := im_tup h
    rw [iml_strs.mp h2] at h1
    exact ⟨a, rfl, h1⟩
  · rintro ⟨t, rfl, h⟩
    exact .tup h (iml_strs.mpr rfl)

/-! ### encodings that == tells apart -/
structure Enc {α : Type} [DecidableEq α] (enc : α → PyData) : Prop where
  eq : ∀ a b, PyData.eqv (enc a) (enc b) = decide (a = b)
  lay : ∀ a, (enc a).canLay0 = true
  dep : ∀ a, (enc a).depth ≤ 60
theorem enc_cell : Enc cD := by
  refine ⟨fun a b => ?_, fun a => ?_, fun a => ?_⟩
  · obtain ⟨a1, a2⟩ := a
    obtain ⟨b1, b2⟩ := b
    simp only [cD, PyData.eqv, PyData.eqvAll, Bool.and_true]
    rw [Bool.eq_iff_iff]
    simp
  · simp [cD, PyData.canLay0, PyData.canLayAll0]
  · simp [cD, PyData.depth, PyData.depthAll]
theorem dir_str_inj {a b : Dir} : (a.str == b.str) = decide (a = b) := by cases a <;> cases b <;> decide +kernel
theorem dir_ok (a : Dir) : PyData.canLay0 (.str a.str) = true := by cases a <;> decide +kernel
theorem enc_push : Enc pD := by
  refine ⟨fun a b => ?_, fun a => ?_, fun a => ?_⟩
  · obtain ⟨a1, a2⟩ := a
    obtain ⟨b1, b2⟩ := b
    have e := enc_cell.eq a1 b1
    simp only [pD, PyData.eqv, PyData.eqvAll, Bool.and_true]
    rw [e, dir_str_inj, Bool.eq_iff_iff]
    simp
  · have h := enc_cell.lay a.1
    have h2 := dir_ok a.2
    simp [pD, PyData.canLay0, PyData.canLayAll0] at h2 ⊢
    exact ⟨h, h2⟩
  · simp [pD, cD, PyData.depth, PyData.depthAll]
section
variable {α : Type} [DecidableEq α] {enc : α → PyData}
theorem Enc.shaped (E : Enc enc) (a : α) : SeqAt.shaped (enc a) = true := by
  have h := E.dep a
  show ((enc a).canLay0 && decide ((enc a).depth ≤ 64)) = true
  rw [E.lay a, decide_eq_true (show (enc a).depth ≤ 64 by omega)]
  rfl
theorem Enc.layAll (E : Enc enc) : ∀ l : List α, PyData.canLayAll0 (l.map enc) = true
  | [] => by simp [PyData.canLayAll0]
  | a :: l => by simp [PyData.canLayAll0, E.lay a, E.layAll l]
theorem Enc.depAll (E : Enc enc) : ∀ l : List α, PyData.depthAll (l.map enc) ≤ 60
  | [] => by simp [PyData.depthAll]
  | a :: l => by
    have h1 := E.dep a
    have h2 := E.depAll l
    simp only [List.map_cons, PyData.depthAll]
    omega
theorem Enc.shapedL (E : Enc enc) (l : List α) : SeqAt.shaped (.list (l.map enc)) = true := by
  have h := E.depAll l
  show (PyData.canLay0 (.list (l.map enc)) && decide (PyData.depth (.list (l.map enc)) ≤ 64)) = true
  rw [Bool.and_eq_true]
  refine ⟨?_, decide_eq_true ?_⟩
  · simp only [PyData.canLay0]
    exact E.layAll l
  · simp only [PyData.depth]
    omega
theorem Enc.shapedT (E : Enc enc) (l : List α) : SeqAt.shaped (.tuple (l.map enc)) = true := by
  have h := E.depAll l
  show (PyData.canLay0 (.tuple (l.map enc)) && decide (PyData.depth (.tuple (l.map enc)) ≤ 64)) = true
  rw [Bool.and_eq_true]
  refine ⟨?_, decide_eq_true ?_⟩
  · simp only [PyData.canLay0]
    exact E.layAll l
  · simp only [PyData.depth]
    omega
theorem Enc.any (E : Enc enc) (a : α) : ∀ l : List α, ((l.map enc).any fun z => PyData.eqv z (enc a)) = decide (a ∈ l)
  | [] => by simp
  | b :: l => by
    rw [List.map_cons, List.any_cons, E.any a l, E.eq b a, Bool.eq_iff_iff]
    simp only [Bool.or_eq_true, decide_eq_true_eq, List.mem_cons]
    exact ⟨fun h => h.imp Eq.symm id, fun h => h.imp Eq.symm id⟩
/-- x in a list or tuple of such data -/
def rInE (K : PySem.W.Frag) (enc : α → PyData) (neg : Bool) : R2 := fun x y H Q => ∃ (c : α) (cs : List α) (l : Addr) (vs : List V), y = .ref l ∧ (SqL K H l vs ∨ SqT K H l vs) ∧ Im H x (enc c) ∧ ImL H vs (cs.map enc) ∧
  Q (.bl (if neg = true then !decide (c ∈ cs) else decide (c ∈ cs))) H
variable {X : Cx}
theorem op_inE (E : Enc enc) (hu : X.A.units + 65 < cLine) : OpR X (compareOp .In) (rInE X.K enc false) := by
  intro pins s σ H x y v u Q I rx ry h
  obtain ⟨c, cs, l, vs, rfl, hq, hx, hs, q⟩ := h
  obtain ⟨as, r1⟩ := Dp.reads I _ x v (Im.dp _ _ hx) rx
  rcases hq with hq | hq
  · obtain ⟨bs, r2⟩ := Dp.reads I (.list (cs.map enc)) (.ref l) u (.lst hq (imAll_dp _ _ hs)) ry
    exact SeqAt.in_list_reads r2 r1 (E.layAll cs) (E.lay c) (room_in_shaped (E.shaped c) hu) ⟨.bl _, H, I, by rw [E.any]; rfl, q⟩
  · obtain ⟨bs, r2⟩ := Dp.reads I (.tuple (cs.map enc)) (.ref l) u (.tup hq (imAll_dp _ _ hs)) ry
    exact SeqAt.in_tuple_reads r2 r1 (E.layAll cs) (E.lay c) (room_in_shaped (E.shaped c) hu) ⟨.bl _, H, I, by rw [E.any]; rfl, q⟩
theorem op_notInE (E : Enc enc) (hu : X.A.units + 65 < cLine) : OpR X (compareOp .NotIn) (rInE X.K enc true) := by
  intro pins s σ H x y v u Q I rx ry h
  obtain ⟨c, cs, l, vs, rfl, hq, hx, hs, q⟩ := h
  obtain ⟨as, r1⟩ := Dp.reads I _ x v (Im.dp _ _ hx) rx
  rcases hq with hq | hq
  · obtain ⟨bs, r2⟩ := Dp.reads I (.list (cs.map enc)) (.ref l) u (.lst hq (imAll_dp _ _ hs)) ry
    exact SeqAt.notIn_list_reads r2 r1 (E.layAll cs) (E.lay c) (room_in_shaped (E.shaped c) hu) ⟨.bl _, H, I, by rw [E.any]; rfl, q⟩
  · obtain ⟨bs, r2⟩ := Dp.reads I (.tuple (cs.map enc)) (.ref l) u (.tup hq (imAll_dp _ _ hs)) ry
    exact SeqAt.notIn_tuple_reads r2 r1 (E.layAll cs) (E.lay c) (room_in_shaped (E.shaped c) hu) ⟨.bl _, H, I, by rw [E.any]; rfl, q⟩
/-- two such data alike or not -/
theorem op_eqE (E : Enc enc) (hu : X.A.units + 64 < cLine) : OpR X (compareOp .Eq) (fun x y H Q => ∃ c c' : α, Im H x (enc c) ∧ Im H y (enc c') ∧ Q (.bl (decide (c = c'))) H) := by
  intro pins s σ H x y v u Q I rx ry h
  obtain ⟨c, c', h1, h2, q⟩ := h
  exact op_eqD hu pins s σ H x y v u Q I rx ry ⟨_, _, Im.dp _ _ h1, Im.dp _ _ h2, E.shaped c, E.shaped c', by rw [E.eq]; exact q⟩
end
/-- a list of data against a list without items -/
theorem op_neNil {X : Cx} (hu : X.A.units + 64 < cLine) : OpR X (compareOp .NotEq) (fun x y H Q => ∃ ds, Dp X.K H x (.list ds) ∧ Dp X.K H y (.list []) ∧ SeqAt.shaped (.list ds) = true ∧ Q (.bl (!ds.isEmpty)) H) := by
  intro pins s σ H x y v u Q I rx ry h
  obtain ⟨ds, h1, h2, h3, q⟩ := h
  refine op_neD hu pins s σ H x y v u Q I rx ry ⟨_, _, h1, h2, h3, by decide +kernel, ?_⟩
  have e : PyData.eqv (.list ds) (.list []) = ds.isEmpty := by
    cases ds <;> simp [PyData.eqv, PyData.eqvAll]
  rw [e]
  exact q
theorem op_eqNil {X : Cx} (hu : X.A.units + 64 < cLine) : OpR X (compareOp .Eq) (fun x y H Q => ∃ ds, Dp X.K H x (.list ds) ∧ Dp X.K H y (.list []) ∧ SeqAt.shaped (.list ds) = true ∧ Q (.bl ds.isEmpty) H) := by
  intro pins s σ H x y v u Q I rx ry h
  obtain ⟨ds, h1, h2, h3, q⟩ := h
  refine op_eqD hu pins s σ H x y v u Q I rx ry ⟨_, _, h1, h2, h3, by decide +kernel, ?_⟩
  have e : PyData.eqv (.list ds) (.list []) = ds.isEmpty := by
    cases ds <;> simp [PyData.eqv, PyData.eqvAll]
  rw [e]
  exact q
end CR
/-! Expressions that leave all that was tracked as it was: their value, their truth; comprehensions over them; calls by name. -/
namespace CR
open PySem PySem.Spec PyProof.Rows L2

def VP (X : Cx) (e : Expr) (σ : L2.St) (H : Hp) (P : V → Hp → Prop) : Prop := ∀ Q : VK, (∀ v H', Same H H' → P v H' → Q v H') → wE X e σ H Q
def TV (X : Cx) (c : Expr) (σ : L2.St) (H : Hp) (b : Bool) : Prop := ∀ Q : Bool → Hp → Prop, (∀ H', Same H H' → Q b H') → wT X c σ H Q
section
variable {X : Cx} {σ : L2.St} {H : Hp} {a b c e : Expr} {pos : Pos} {D : Ends} {k k1 k2 : Bool}
theorem VP.run {P : V → Hp → Prop} {Q : VK} (h : VP X e σ H P) (k : ∀ v H', Same H H' → P v H' → Q v H') : wE X e σ H Q := h Q k
theorem TV.run {K2 : Bool → Hp → Prop} (h : TV X c σ H k) (q : ∀ H', Same H H' → K2 k H') : wT X c σ H K2 := h K2 q
theorem TV.to (h : TV X c σ H k1) (e : k1 = k2) : TV X c σ H k2 := e ▸ h
theorem tvAnd (h1 : TV X a σ H k1) (h2 : k1 = true → ∀ H', Same H H' → TV X b σ H' k2) : TV X (.BoolOp .And [a, b] pos) σ H (k1 && k2) := fun Q q => tAnd2 (h1 _ fun H1 s1 => by
  cases k1 with
  | true => exact iteT (h2 rfl H1 s1 Q fun H2 s2 => q H2 (s1.trans s2))
  | false => exact iteF (q H1 s1))
theorem tvAnd3 {k3 : Bool} (h1 : TV X a σ H k1) (h2 : k1 = true → ∀ H', Same H H' → TV X b σ H' k2) (h3 : k1 = true → k2 = true → ∀ H', Same H H' → TV X c σ H' k3) : TV X (.BoolOp .And [a, b, c] pos) σ H (k1 && (k2 && k3)) := fun Q q => tAnd3 (h1 _ fun H1 s1 => by
  cases k1 with
  | true =>
    refine iteT (h2 rfl H1 s1 _ fun H2 s2 => ?_)
    cases k2 with
    | true => exact iteT (h3 rfl rfl H2 (s1.trans s2) Q fun H3 s3 => q H3 ((s1.trans s2).trans s3))
    | false => exact iteF (q H2 (s1.trans s2))
  | false => exact iteF (q H1 s1))
theorem tvOr (h1 : TV X a σ H k1) (h2 : k1 = false → ∀ H', Same H H' → TV X b σ H' k2) : TV X (.BoolOp .Or [a, b] pos) σ H (k1 || k2) := fun Q q => tOr2 (h1 _ fun H1 s1 => by
  cases k1 with
  | true => exact iteT (q H1 s1)
  | false => exact iteF (h2 rfl H1 s1 Q fun H2 s2 => q H2 (s1.trans s2)))
theorem tvOr3 {k3 : Bool} (h1 : TV X a σ H k1) (h2 : k1 = false → ∀ H', Same H H' → TV X b σ H' k2) (h3 : k1 = false → k2 = false → ∀ H', Same H H' → TV X c σ H' k3) : TV X (.BoolOp .Or [a, b, c] pos) σ H (k1 || (k2 || k3)) := fun Q q => tOr3 (h1 _ fun H1 s1 => by
  cases k1 with
  | true => exact iteT (q H1 s1)
  | false =>
    refine iteF (h2 rfl H1 s1 _ fun H2 s2 => ?_)
    cases k2 with
    | true => exact iteT (q H2 (s1.trans s2))
    | false => exact iteF (h3 rfl rfl H2 (s1.trans s2) Q fun H3 s3 => q H3 ((s1.trans s2).trans s3)))
theorem tvNot (h : TV X a σ H k) : TV X (.UnaryOp .Not a pos) σ H (!k) := fun Q q => tNotT (h _ fun H1 s1 => q H1 s1)
/-- a value's own truth -/
theorem tvVal (h : VP X e σ H fun v _ => v = .bl k) (he : ∀ whole, isTrue e X.env whole = (do let v ← whole; standAt e.pos; holding [v] (truthy v)) := by intro _; rfl) : TV X e σ H k := fun Q q => tVal (h _ fun v H' s e => ⟨k, e, q H' s⟩) he
theorem sIfT {A B : List Stmt} (h : TV X c σ H k) (h1 : k = true → ∀ H1, Same H H1 → wSs X A D σ H1) (h2 : k = false → ∀ H1, Same H H1 → wSs X B D σ H1) : wS X (.If c A B pos) D σ H := sIf (h _ fun H1 s1 => by
  cases k with
  | true => exact iteT (h1 rfl H1 s1)
  | false => exact iteF (h2 rfl H1 s1))
theorem vpVar (i : Nat) {x : Str} {v : V} {P : V → Hp → Prop} (hs : σ[i]? = some (some v)) (h : P v H) (hN : X.N[i]? = some x := by rfl) (hv : Vis X.env.scope x := by first | exact Or.inl rfl | exact Or.inr (Or.inl rfl) | exact Or.inr (Or.inr rfl))
    (hd : (x == ("__debug__" : Str)) = false := by decide) (hcd : (x == ("__classdict__" : Str)) = false := by decide) : VP X (.Name x pos) σ H P := fun Q q => wVar i hs (q v H (Same.refl H) h) hN hv hd hcd
theorem VP.mono {P P' : V → Hp → Prop} (h : VP X e σ H P) (k : ∀ v H', Same H H' → P v H' → P' v H') : VP X e σ H P' := fun Q q => h Q fun v H' s p => q v H' s (k v H' s p)
end

/-! ### calls by name -/
/-- the name x holds a def that keeps the promise sp; dvs: the defaults that fill up -/
structure Fn (P : Program) (w : World) (K : PySem.W.Frag) (mg : Str → Option Value) (base : Heap) (CX : CXT) (x : Str) (k : Nat) (dvs : List V) (sp : Sp) : Prop where
  ex : ∃ (f : Addr) (fd : FuncData) (ps : List Str) (ds : List Value), FnOk P w K mg base CX k f fd ps sp ∧ mg x = some (.ref f) ∧ PySem.W.keepIn K (.ref f) = true ∧ Binds K fd ps ds ∧ Vals dvs ds
section
variable {X : Cx} {σ : L2.St} {H : Hp} {Q : VK} {e : Expr} {es : List Expr} {p pos : Pos} {x : Str} {k j : Nat} {dvs : List V} {sp : Sp}
theorem wCall (F : Fn X.prog X.w X.K X.mg X.base CX0 x k dvs sp) (hr : Room j X.A) (h : wA X (e :: es) σ H fun vs H1 => sp (vs ++ dvs) H1 Q E0) (hj : k ≤ j := by decide) (hg : Gl X x := by rfl) (hdb : (x == ("__debug__" : Str)) = false := by decide)
    (he : starEach (e :: es) X.env = (false, eval e X.env) :: starEach es X.env := by rfl) (hpl : (backTo pos (starEach es X.env)).any (·.1) = false := by rfl) : wE X (.Call (.Name x p) (e :: es) [] pos) σ H Q := by
  obtain ⟨f, fd, ps, ds, h1, h2, h3, h4, h5⟩ := F.ex
  exact oE (pe_call h1 (hr.mono hj) hg h2 h3 h4 h5 pass0 pA hdb he hpl) h
theorem wCall0 (F : Fn X.prog X.w X.K X.mg X.base CX0 x k dvs sp) (hr : Room j X.A) (h : sp dvs H Q E0) (hj : k ≤ j := by decide) (hg : Gl X x := by rfl) (hdb : (x == ("__debug__" : Str)) = false := by decide) : wE X (.Call (.Name x p) [] [] pos) σ H Q := by
  obtain ⟨f, fd, ps, ds, h1, h2, h3, h4, h5⟩ := F.ex
  exact oE (pe_call0 h1 (hr.mono hj) hg h2 h3 h4 h5 pass0 hdb) h
end

/-! ### comprehensions that make a list of data -/
/-- what is walked: the values xs, while all that was tracked stands -/
def SrcV (J : It) (H1 : Hp) (xs : List V) : Prop := ∃ G : Hp → Prop, Walk J xs.length G (YAt xs) ∧ ∀ H', Same H1 H' → G H'
theorem srcL {K : PySem.W.Frag} {H : Hp} {l : Addr} {xs : List V} (h : SqL K H l xs) : SrcV (Itl K l) H xs := ⟨_, walk_list, fun _ s => s.seq h⟩
theorem srcT {K : PySem.W.Frag} {H : Hp} {l : Addr} {xs : List V} (h : SqT K H l xs) : SrcV (Itt K l) H xs := ⟨_, walk_tup, fun _ s => Same.tup s h⟩
theorem srcF {H : Hp} {xs : List V} : SrcV (ItF xs) H xs := ⟨_, walk_fix, fun _ _ => True.intro⟩
theorem srcR {H : Hp} {n : Nat} : SrcV (Itr 0 n) H ((List.range n).map fun i => V.int (i : Nat)) := by
  refine ⟨fun _ => True, ?_, fun _ _ => True.intro⟩
  rw [List.length_map, List.length_range]
  refine (walk_range (lo := 0) (n := n)).mono (fun _ h => h) fun i H x H' hi _ y => ⟨y.1, ?_⟩
  rw [List.getElem?_map, List.getElem?_range hi, y.2]
  show some (V.int (i : Nat)) = some (V.int (0 + (i : Nat)))
  rw [Int.zero_add]
theorem srcS {H : Hp} {z : Str} : SrcV (Its z) H (z.cps.toList.map fun c => V.str ⟨#[c]⟩) := by
  refine ⟨fun _ => True, ?_, fun _ _ => True.intro⟩
  rw [List.length_map, Array.length_toList]
  refine (walk_str (z := z)).mono (fun _ h => h) fun i H x H' hi _ y => ⟨y.1, ?_⟩
  obtain ⟨c, e1, e2⟩ := y.2
  rw [List.getElem?_map, Array.getElem?_toList, e1, e2]
  rfl
section
variable {X : Cx} {σ : L2.St} {H : Hp} {Q : VK} {it elt c tg : Expr} {pos : Pos} {own : List (Str × Nat)} {scope : Scope} {α β : Type}
theorem take_snoc {l : List α} {i : Nat} {d : α} (h : l[i]? = some d) : l.take (i + 1) = l.take i ++ [d] := by
  rw [List.take_add_one, h]
  rfl
/-- [elt for tg in it if c]: T what the slots are behind the target's store -/
theorem lcG1 (R : Hp → V → α → Prop) (S : Hp → V → β → Prop) (T : Hp → V → α → L2.St → Prop) (p : α → Bool) (f : α → β) (ds : List α)
    (mR : ∀ H H' v d, Same H H' → R H v d → R H' v d) (mS : ∀ H H' v d, TS H H' → S H v d → S H' v d) (h : wI X tg it σ H fun J H1 => Same H H1 ∧ ∃ xs, SrcV J H1 xs ∧ Paired (R H1) xs ds) (hz : ds.length ≤ 100000)
    (hg : ∀ v d H', Same H H' → R H' v d → d ∈ ds → bG X scope tg v (wipe σ (own.map (·.2))) H' fun σ2 H2 => H2 = H' ∧ wipe σ2 (own.map (·.2)) = wipe σ (own.map (·.2)) ∧ T H' v d σ2)
    (ht : ∀ v d H' σ2, Same H H' → R H' v d → d ∈ ds → T H' v d σ2 → ∀ K2 : Bool → Hp → Prop, (∀ H'', Same H' H'' → K2 (p d) H'') → bT X scope c σ2 H' K2)
    (he : ∀ v d H' H'' σ2, Same H H' → R H' v d → d ∈ ds → p d = true → T H' v d σ2 → Same H' H'' → ∀ K2 : VK, (∀ z H3, Same H'' H3 → S H3 z (f d) → K2 z H3) → bE X scope elt σ2 H'' K2)
    (k : ∀ Dl acc H', Same H H' → H Dl = none → H' Dl = some (.lst acc) → Paired (S H') acc ((ds.filter p).map f) → Q (.ref Dl) H') : LC1 X scope own elt tg it c σ H Q := by
  refine lc1 (wI_mono h fun J H1 ⟨s1, xs, ⟨G, w, hG⟩, hp⟩ => ⟨xs.length, G, YAt xs, w, fun Dl hD => ?_⟩)
  have hl : xs.length = ds.length := Paired.length hp
  refine ⟨fun i H' => Same H1 H' ∧ ∃ acc, H' Dl = some (.lst acc) ∧ Paired (S H') acc (((ds.take i).filter p).map f) ∧ acc.length ≤ i, ⟨Same.new hD, [], upd_same, .nil, Nat.le_refl _⟩, fun i H' _ q => hG H' q.1, ?_, ?_⟩
  · intro i x H' H'' hi q y
    obtain ⟨e1, e2⟩ := y
    subst e1
    obtain ⟨sq, acc, hacc, pac, lac⟩ := q
    obtain ⟨d, hd, rd⟩ := paired_get hp e2
    have rd' := mR _ _ _ _ sq rd
    have md : d ∈ ds := List.mem_of_getElem? hd
    have sH := s1.trans sq
    intro s0 H0 C cl fp
    have z := hg x d H'' sH rd' md s0 H0 C cl fp
    unfold wG at z ⊢
    refine fun pins s u I r => thn (z pins s u I r) fun _ s' hh => ?_
    obtain ⟨σ2, H2, I2, eH, ew, hT⟩ := hh
    subst eH
    refine ⟨σ2, _, I2, ew, ht x d _ σ2 sH rd' md hT _ fun H3 s3 => ?_⟩
    cases hp : p d with
    | true =>
      refine iteT (he x d _ H3 σ2 sH rd' md hp hT s3 _ fun z H4 s4 hz4 => ⟨acc, s4 _ _ (s3 _ _ hacc), szl (by omega), Same.mut (sq.trans (s3.trans s4)) hD, acc ++ [z], upd_same, ?_, by rw [List.length_append]; simp; omega⟩)
      have t4 : TS H4 (upd H4 Dl (.lst (acc ++ [z]))) := TS.lst (s4 _ _ (s3 _ _ hacc))
      rw [take_snoc hd, List.filter_append, List.map_append]
      have e3 : List.map f (List.filter p [d]) = [f d] := by simp [hp]
      rw [e3]
      exact paired_snoc (paired_mono pac fun a b g => mS _ _ _ _ ((TS.of (s3.trans s4)).trans t4) g) (mS _ _ _ _ t4 hz4)
    | false =>
      refine iteF ⟨sq.trans s3, acc, s3 _ _ hacc, ?_, by omega⟩
      rw [take_snoc hd, List.filter_append, List.map_append]
      have e3 : List.map f (List.filter p [d]) = [] := by simp [hp]
      rw [e3, List.append_nil]
      exact paired_mono pac fun a b g => mS _ _ _ _ (TS.of s3) g
  · intro H' q
    obtain ⟨sq, acc, hacc, pac, _⟩ := q
    rw [hl, List.take_length] at pac
    refine k Dl acc H' (s1.trans sq) ?_ hacc pac
    exact Same.free s1 hD
theorem lcG0 (R : Hp → V → α → Prop) (S : Hp → V → β → Prop) (T : Hp → V → α → L2.St → Prop) (f : α → β) (ds : List α)
    (mR : ∀ H H' v d, Same H H' → R H v d → R H' v d) (mS : ∀ H H' v d, TS H H' → S H v d → S H' v d) (h : wI X tg it σ H fun J H1 => Same H H1 ∧ ∃ xs, SrcV J H1 xs ∧ Paired (R H1) xs ds) (hz : ds.length ≤ 100000)
    (hg : ∀ v d H', Same H H' → R H' v d → d ∈ ds → bG X scope tg v (wipe σ (own.map (·.2))) H' fun σ2 H2 => H2 = H' ∧ wipe σ2 (own.map (·.2)) = wipe σ (own.map (·.2)) ∧ T H' v d σ2)
    (he : ∀ v d H' σ2, Same H H' → R H' v d → d ∈ ds → T H' v d σ2 → ∀ K2 : VK, (∀ z H3, Same H' H3 → S H3 z (f d) → K2 z H3) → bE X scope elt σ2 H' K2)
    (k : ∀ Dl acc H', Same H H' → H Dl = none → H' Dl = some (.lst acc) → Paired (S H') acc (ds.map f) → Q (.ref Dl) H') : LC0 X scope own elt tg it σ H Q := by
  refine lc0 (wI_mono h fun J H1 ⟨s1, xs, ⟨G, w, hG⟩, hp⟩ => ⟨xs.length, G, YAt xs, w, fun Dl hD => ?_⟩)
  have hl : xs.length = ds.length := Paired.length hp
  refine ⟨fun i H' => Same H1 H' ∧ ∃ acc, H' Dl = some (.lst acc) ∧ Paired (S H') acc ((ds.take i).map f) ∧ acc.length ≤ i, ⟨Same.new hD, [], upd_same, .nil, Nat.le_refl _⟩, fun i H' _ q => hG H' q.1, ?_, ?_⟩
  · intro i x H' H'' hi q y
    obtain ⟨e1, e2⟩ := y
    subst e1
    obtain ⟨sq, acc, hacc, pac, lac⟩ := q
    obtain ⟨d, hd, rd⟩ := paired_get hp e2
    have rd' := mR _ _ _ _ sq rd
    have md : d ∈ ds := List.mem_of_getElem? hd
    have sH := s1.trans sq
    intro s0 H0 C cl fp
    have z := hg x d H'' sH rd' md s0 H0 C cl fp
    unfold wG at z ⊢
    refine fun pins s u I r => thn (z pins s u I r) fun _ s' hh => ?_
    obtain ⟨σ2, H2, I2, eH, ew, hT⟩ := hh
    subst eH
    refine ⟨σ2, _, I2, ew, he x d _ σ2 sH rd' md hT _ fun z H4 s4 hz4 => ⟨acc, s4 _ _ hacc, szl (by omega), Same.mut (sq.trans s4) hD, acc ++ [z], upd_same, ?_, by rw [List.length_append]; simp; omega⟩⟩
    have t4 : TS H4 (upd H4 Dl (.lst (acc ++ [z]))) := TS.lst (s4 _ _ hacc)
    rw [take_snoc hd, List.map_append]
    exact paired_snoc (paired_mono pac fun a b g => mS _ _ _ _ ((TS.of s4).trans t4) g) (mS _ _ _ _ t4 hz4)
  · intro H' q
    obtain ⟨sq, acc, hacc, pac, _⟩ := q
    rw [hl, List.take_length] at pac
    exact k Dl acc H' (s1.trans sq) (Same.free s1 hD) hacc pac
/-- the target one name, in slot j -/
def NmAt (X : Cx) (scope : Scope) (tg : Expr) (j : Nat) : Prop := ∀ (s : Shared) (H : Hp) (C : Addr) (cl : List (Str × Addr)) (fp : List Addr), PG (X.blk s H scope (compEnvC scope cl C X.env) fp) tg (gName j)
theorem NmAt.at {j : Nat} (h : NmAt X scope tg j) {v : V} {R : L2.St → Hp → Prop} (q : R (σ.set j (some v)) H) : bG X scope tg v σ H R := fun s0 H0 C cl fp => oG (h s0 H0 C cl fp) q
theorem lcM1 (j : Nat) (R : Hp → V → α → Prop) (S : Hp → V → β → Prop) (p : α → Bool) (f : α → β) (ds : List α) (nm : NmAt X scope tg j)
    (hw : ∀ x, wipe ((wipe σ (own.map (·.2))).set j (some x)) (own.map (·.2)) = wipe σ (own.map (·.2)))
    (mR : ∀ H H' v d, Same H H' → R H v d → R H' v d) (mS : ∀ H H' v d, TS H H' → S H v d → S H' v d) (h : wI X tg it σ H fun J H1 => Same H H1 ∧ ∃ xs, SrcV J H1 xs ∧ Paired (R H1) xs ds) (hz : ds.length ≤ 100000)
    (ht : ∀ v d H', Same H H' → R H' v d → d ∈ ds → ∀ K2 : Bool → Hp → Prop, (∀ H'', Same H' H'' → K2 (p d) H'') → bT X scope c ((wipe σ (own.map (·.2))).set j (some v)) H' K2)
    (he : ∀ v d H', Same H H' → R H' v d → d ∈ ds → p d = true → ∀ K2 : VK, (∀ z H3, Same H' H3 → S H3 z (f d) → K2 z H3) → bE X scope elt ((wipe σ (own.map (·.2))).set j (some v)) H' K2)
    (k : ∀ Dl acc H', Same H H' → H Dl = none → H' Dl = some (.lst acc) → Paired (S H') acc ((ds.filter p).map f) → Q (.ref Dl) H') : LC1 X scope own elt tg it c σ H Q :=
  lcG1 R S (fun _ v _ σ2 => σ2 = (wipe σ (own.map (·.2))).set j (some v)) p f ds mR mS h hz (fun v d H' _ _ _ => nm.at ⟨rfl, hw v, rfl⟩)
    (fun v d H' σ2 s r m e => by subst e; exact ht v d H' s r m) (fun v d H' H'' σ2 s r m hp e s2 => by subst e; exact he v d H'' (s.trans s2) (mR _ _ _ _ s2 r) m hp) k
theorem lcM0 (j : Nat) (R : Hp → V → α → Prop) (S : Hp → V → β → Prop) (f : α → β) (ds : List α) (nm : NmAt X scope tg j)
    (hw : ∀ x, wipe ((wipe σ (own.map (·.2))).set j (some x)) (own.map (·.2)) = wipe σ (own.map (·.2)))
    (mR : ∀ H H' v d, Same H H' → R H v d → R H' v d) (mS : ∀ H H' v d, TS H H' → S H v d → S H' v d) (h : wI X tg it σ H fun J H1 => Same H H1 ∧ ∃ xs, SrcV J H1 xs ∧ Paired (R H1) xs ds) (hz : ds.length ≤ 100000)
    (he : ∀ v d H', Same H H' → R H' v d → d ∈ ds → ∀ K2 : VK, (∀ z H3, Same H' H3 → S H3 z (f d) → K2 z H3) → bE X scope elt ((wipe σ (own.map (·.2))).set j (some v)) H' K2)
    (k : ∀ Dl acc H', Same H H' → H Dl = none → H' Dl = some (.lst acc) → Paired (S H') acc (ds.map f) → Q (.ref Dl) H') : LC0 X scope own elt tg it σ H Q :=
  lcG0 R S (fun _ v _ σ2 => σ2 = (wipe σ (own.map (·.2))).set j (some v)) f ds mR mS h hz (fun v d H' _ _ _ => nm.at ⟨rfl, hw v, rfl⟩)
    (fun v d H' σ2 s r m e => by subst e; exact he v d H' s r m) k
end
end CR
/-! Values and truths of common expressions. -/
namespace CR
open PySem PySem.Spec PyProof.Rows L2
section
variable {X : Cx} {σ : L2.St} {H : Hp} {a b c e : Expr} {es : List Expr} {pos p p2 : Pos} {D : Ends}
/-- what is a list or tuple of n items -/
def SqN (K : PySem.W.Frag) (H : Hp) (v : V) (n : Nat) : Prop := ∃ l ys, v = .ref l ∧ (SqL K H l ys ∨ SqT K H l ys) ∧ ys.length = n
theorem vpInt {i : Int} {j : Nat} : VP X (.Constant (.int i) j pos) σ H (fun v _ => v = .int i) := fun Q q => wInt (q _ H (Same.refl H) rfl)
theorem vpStr {x : Str} {j : Nat} : VP X (.Constant (.str x) j pos) σ H (fun v _ => v = .str x) := fun Q q => wStr (q _ H (Same.refl H) rfl)
theorem vpBl {x : Bool} {j : Nat} : VP X (.Constant (.bool x) j pos) σ H (fun v _ => v = .bl x) := fun Q q => wBl (q _ H (Same.refl H) rfl)
theorem vpGlob {x : Str} {v : V} {u : Value} (hm : X.mg x = some u) (r : RelV v u) (hg : Gl X x := by rfl) (hd : (x == ("__debug__" : Str)) = false := by decide) : VP X (.Name x pos) σ H (fun v' _ => v' = v) := fun Q q => wGlob hm r (q _ H (Same.refl H) rfl) hg hd
theorem vpNeg {i : Int} {j : Nat} : VP X (.UnaryOp .USub (.Constant (.int i) j p) pos) σ H (fun v _ => v = .int (-i)) := fun Q q => wUn un_neg (wInt ⟨i, rfl, q _ H (Same.refl H) rfl⟩)
theorem vpAdd {i j : Int} (ha : VP X a σ H fun v _ => v = .int i) (hb : ∀ H', Same H H' → VP X b σ H' fun v _ => v = .int j) : VP X (.BinOp a .Add b pos) σ H (fun v _ => v = .int (i + j)) := fun Q q => wBin op_add (ha _ fun v H1 s1 e1 => hb H1 s1 _ fun u H2 s2 e2 => by
  subst e1 e2
  exact ⟨i, j, rfl, rfl, q _ H2 (s1.trans s2) rfl⟩)
theorem vpSub {i j : Int} (ha : VP X a σ H fun v _ => v = .int i) (hb : ∀ H', Same H H' → VP X b σ H' fun v _ => v = .int j) : VP X (.BinOp a .Sub b pos) σ H (fun v _ => v = .int (i - j)) := fun Q q => wBin op_sub (ha _ fun v H1 s1 e1 => hb H1 s1 _ fun u H2 s2 e2 => by
  subst e1 e2
  exact ⟨i, j, rfl, rfl, q _ H2 (s1.trans s2) rfl⟩)
theorem vpMul {i j : Int} (hc : CMul i j) (ha : VP X a σ H fun v _ => v = .int i) (hb : ∀ H', Same H H' → VP X b σ H' fun v _ => v = .int j) : VP X (.BinOp a .Mult b pos) σ H (fun v _ => v = .int (i * j)) := fun Q q => wBin op_mul (ha _ fun v H1 s1 e1 => hb H1 s1 _ fun u H2 s2 e2 => by
  subst e1 e2
  exact ⟨i, j, rfl, rfl, hc, q _ H2 (s1.trans s2) rfl⟩)
theorem vpLen {n : Nat} (hm : X.mg "len" = none) (he : VP X e σ H fun v H' => SqN X.K H' v n) (hg : Gl X "len" := by rfl) (hst : starEach (e :: []) X.env = (false, eval e X.env) :: starEach [] X.env := by rfl) (hpl : (backTo pos (starEach [] X.env)).any (·.1) = false := by rfl) :
    VP X (.Call (.Name "len" p) [e] [] pos) σ H (fun v _ => v = .int n) := fun Q q => wCallB call_len_seq hm PySem.boot_len (wACons (he _ fun v H1 s1 h1 => by
  obtain ⟨l, ys, e1, h2, e3⟩ := h1
  exact wANil ⟨l, ys, by rw [e1], h2, q _ H1 s1 (by rw [e3])⟩) hst) hg (he := hst) (hpl := hpl)
theorem vpLenS {z : Str} (hm : X.mg "len" = none) (hz : z.length ≤ 100000) (he : VP X e σ H fun v _ => v = .str z) (hg : Gl X "len" := by rfl) (hst : starEach (e :: []) X.env = (false, eval e X.env) :: starEach [] X.env := by rfl) (hpl : (backTo pos (starEach [] X.env)).any (·.1) = false := by rfl) :
    VP X (.Call (.Name "len" p) [e] [] pos) σ H (fun v _ => v = .int z.length) := fun Q q => wCallB call_len_str hm PySem.boot_len (wACons (he _ fun v H1 s1 e1 => by
  subst e1
  exact wANil ⟨z, rfl, sz hz, q _ H1 s1 rfl⟩) hst) hg (he := hst) (hpl := hpl)
/-- an item of a tuple, of a list; a sign of a text -/
theorem vpIxT {P : V → Hp → Prop} {i : Nat} (he : VP X e σ H fun v H' => ∃ l ys y, v = .ref l ∧ SqT X.K H' l ys ∧ ys[i]? = some y ∧ P y H') (hb : ∀ H', Same H H' → VP X b σ H' fun v _ => v = .int (i : Nat)) (mP : ∀ v H H', Same H H' → P v H → P v H') (hs : PlainIx b := by exact fun _ _ => rfl) :
    VP X (.Subscript e b pos) σ H P := fun Q q => wIx ix_tup (he _ fun v H1 s1 h1 => hb H1 s1 _ fun u H2 s2 e2 => by
  obtain ⟨l, ys, y, e1, h2, h3, h4⟩ := h1
  subst e1 e2
  exact ⟨l, ys, i, y, rfl, rfl, Same.tup s2 h2, atI_nat h3, q _ H2 (s1.trans s2) (mP _ _ _ s2 h4)⟩) hs
theorem vpIxL {P : V → Hp → Prop} {i : Nat} (he : VP X e σ H fun v H' => ∃ l ys y, v = .ref l ∧ SqL X.K H' l ys ∧ ys[i]? = some y ∧ P y H') (hb : ∀ H', Same H H' → VP X b σ H' fun v _ => v = .int (i : Nat)) (mP : ∀ v H H', Same H H' → P v H → P v H') (hs : PlainIx b := by exact fun _ _ => rfl) :
    VP X (.Subscript e b pos) σ H P := fun Q q => wIx ix_list (he _ fun v H1 s1 h1 => hb H1 s1 _ fun u H2 s2 e2 => by
  obtain ⟨l, ys, y, e1, h2, h3, h4⟩ := h1
  subst e1 e2
  exact ⟨l, ys, i, y, rfl, rfl, s2.seq h2, atI_nat h3, q _ H2 (s1.trans s2) (mP _ _ _ s2 h4)⟩) hs
theorem vpIxS {z : Str} {i x : Nat} (hz : z.length ≤ 100000) (hx : z.cps.toList[i]? = some x) (he : VP X e σ H fun v _ => v = .str z) (hb : ∀ H', Same H H' → VP X b σ H' fun v _ => v = .int (i : Nat)) (hs : PlainIx b := by exact fun _ _ => rfl) :
    VP X (.Subscript e b pos) σ H (fun v _ => v = .str ⟨#[x]⟩) := fun Q q => wIx ix_str (he _ fun v H1 s1 e1 => hb H1 s1 _ fun u H2 s2 e2 => by
  subst e1 e2
  exact ⟨z, i, x, rfl, rfl, sz hz, atI_nat hx, q _ H2 (s1.trans s2) rfl⟩) hs
/-- comparisons of ints -/
theorem tvI {op : CmpOp} {g : Int → Int → Bool} {i j : Int} (ho : OpR X (compareOp op) (rI0 fun i j => .bl (g i j))) (ha : VP X a σ H fun v _ => v = .int i) (hb : ∀ H', Same H H' → VP X b σ H' fun v _ => v = .int j) (hm : behindInMarks op b = false := by first | exact nomark _ | rfl) :
    TV X (.Compare a [op] [b] pos) σ H (g i j) := fun Q q => tCmp ho (ha _ fun v H1 s1 e1 => hb H1 s1 _ fun u H2 s2 e2 => by
  subst e1 e2
  exact ⟨i, j, rfl, rfl, _, rfl, q H2 (s1.trans s2)⟩) hm
theorem tvEqF {x y : V} (hs : scal x y = true) (ha : VP X a σ H fun v _ => v = x) (hb : ∀ H', Same H H' → VP X b σ H' fun v _ => v = y) : TV X (.Compare a [.Eq] [b] pos) σ H (decide (x = y)) := fun Q q => tCmp op_eq (ha _ fun v H1 s1 e1 => hb H1 s1 _ fun u H2 s2 e2 => by
  subst e1 e2
  exact ⟨hs, _, rfl, q H2 (s1.trans s2)⟩)
theorem tvNeF {x y : V} (hs : scal x y = true) (ha : VP X a σ H fun v _ => v = x) (hb : ∀ H', Same H H' → VP X b σ H' fun v _ => v = y) : TV X (.Compare a [.NotEq] [b] pos) σ H (!decide (x = y)) := fun Q q => tCmp op_ne (ha _ fun v H1 s1 e1 => hb H1 s1 _ fun u H2 s2 e2 => by
  subst e1 e2
  exact ⟨hs, _, rfl, q H2 (s1.trans s2)⟩)
theorem vpEqF {x y : V} (hs : scal x y = true) (ha : VP X a σ H fun v _ => v = x) (hb : ∀ H', Same H H' → VP X b σ H' fun v _ => v = y) : VP X (.Compare a [.Eq] [b] pos) σ H (fun v _ => v = .bl (decide (x = y))) := fun Q q => wCmp op_eq (ha _ fun v H1 s1 e1 => hb H1 s1 _ fun u H2 s2 e2 => by
  subst e1 e2
  exact ⟨hs, q _ H2 (s1.trans s2) rfl⟩)
theorem vpNeF {x y : V} (hs : scal x y = true) (ha : VP X a σ H fun v _ => v = x) (hb : ∀ H', Same H H' → VP X b σ H' fun v _ => v = y) : VP X (.Compare a [.NotEq] [b] pos) σ H (fun v _ => v = .bl (!decide (x = y))) := fun Q q => wCmp op_ne (ha _ fun v H1 s1 e1 => hb H1 s1 _ fun u H2 s2 e2 => by
  subst e1 e2
  exact ⟨hs, q _ H2 (s1.trans s2) rfl⟩)
/-- lo <= n <= hi -/
theorem tvLeLe {i n j : Int} (ha : VP X a σ H fun v _ => v = .int i) (hb : ∀ H', Same H H' → VP X b σ H' fun v _ => v = .int n) (hc : ∀ H', Same H H' → VP X c σ H' fun v _ => v = .int j) (hm : lastMarks [.LtE, .LtE] [b, c] = false := by with_unfolding_all rfl) :
    TV X (.Compare a [.LtE, .LtE] [b, c] pos) σ H (decide (i ≤ n) && decide (n ≤ j)) := fun Q q => tChain op_le op_le (ha _ fun v H1 s1 e1 => hb H1 s1 _ fun u H2 s2 e2 => by
  subst e1 e2
  refine ⟨i, n, rfl, rfl, _, rfl, ?_⟩
  revert q
  generalize decide (i ≤ n) = k1
  intro q
  cases k1 with
  | true => exact iteT (hc H2 (s1.trans s2) _ fun w H3 s3 e3 => by
      subst e3
      exact ⟨n, j, rfl, rfl, _, rfl, q H3 ((s1.trans s2).trans s3)⟩)
  | false => exact iteF ⟨_, rfl, q H2 (s1.trans s2)⟩) hm
theorem vpLeLe {i n j : Int} (ha : VP X a σ H fun v _ => v = .int i) (hb : ∀ H', Same H H' → VP X b σ H' fun v _ => v = .int n) (hc : ∀ H', Same H H' → VP X c σ H' fun v _ => v = .int j) (hm : lastMarks [.LtE, .LtE] [b, c] = false := by with_unfolding_all rfl) :
    VP X (.Compare a [.LtE, .LtE] [b, c] pos) σ H (fun v _ => v = .bl (decide (i ≤ n) && decide (n ≤ j))) := fun Q q => wChain op_le op_le (ha _ fun v H1 s1 e1 => hb H1 s1 _ fun u H2 s2 e2 => by
  subst e1 e2
  refine ⟨i, n, rfl, rfl, _, rfl, ?_⟩
  revert q
  generalize decide (i ≤ n) = k1
  intro q
  cases k1 with
  | true => exact iteT (hc H2 (s1.trans s2) _ fun w H3 s3 e3 => by
      subst e3
      exact ⟨n, j, rfl, rfl, q _ H3 ((s1.trans s2).trans s3) rfl⟩)
  | false => exact iteF (q _ H2 (s1.trans s2) rfl)) hm
/-- isinstance(e, T) -/
theorem vpIsi {T' : Str} {t T : String} {k : Bool} (hm : X.mg "isinstance" = none) (hT : X.mg T' = none) (hv : bootBuiltins T' = some (.type T)) (he : VP X e σ H fun v H' => TyX X.K H' v (.type t)) (hb : kitB t T = some k) (hg : Gl X "isinstance" := by rfl) (hg2 : Gl X T' := by rfl)
    (hn : T' ≠ "__name__" := by decide) (hd : (T' == ("__debug__" : Str)) = false := by decide)
    (hst : starEach (e :: [.Name T' p2]) X.env = (false, eval e X.env) :: starEach [.Name T' p2] X.env := by rfl) (hst2 : starEach [.Name T' p2] X.env = (false, eval (.Name T' p2) X.env) :: starEach [] X.env := by rfl) (hpl : (backTo pos (starEach [.Name T' p2] X.env)).any (·.1) = false := by rfl) :
    VP X (.Call (.Name "isinstance" p) [e, .Name T' p2] [] pos) σ H (fun v _ => v = .bl k) := fun Q q => wCallB call_isi hm (by decide +kernel) (wACons (he _ fun v H1 s1 h1 => wACons (wBltn (v := .ty T) hT hv rfl (wANil ⟨v, .ty T, .type t, .type T, k, rfl, .ty T, h1, kit_ty hb, q _ H1 s1 rfl⟩) hg2 hn hd) hst2) hst) hg (he := hst) (hpl := hpl)
/-- all(a list of truths) -/
theorem vpAll {bs : List Bool} (hc : X.calm = true) (hm : X.mg "all" = none) (he : VP X e σ H fun v H' => ∃ l, v = .ref l ∧ SqL X.K H' l (bs.map V.bl)) (hg : Gl X "all" := by rfl) (hst : starEach (e :: []) X.env = (false, eval e X.env) :: starEach [] X.env := by rfl) (hpl : (backTo pos (starEach [] X.env)).any (·.1) = false := by rfl) :
    VP X (.Call (.Name "all" p) [e] [] pos) σ H (fun v _ => v = .bl (bs.all id)) := fun Q q => wCallB (cr_all hc) hm (by decide +kernel) (wACons (he _ fun v H1 s1 h1 => by
  obtain ⟨l, e1, h2⟩ := h1
  subst e1
  exact wANil ⟨l, bs, rfl, h2, q _ H1 s1 rfl⟩) hst) hg (he := hst) (hpl := hpl)
theorem bls_of {acc : List V} {bs : List Bool} (h : Paired (fun v b => v = V.bl b) acc bs) : acc = bs.map V.bl := by
  induction h with
  | nil => rfl
  | cons a t ih => rw [a, ih]; rfl
theorem strs_of {acc : List V} {bs : List Str} (h : Paired (fun v b => v = V.str b) acc bs) : acc = bs.map V.str := by
  induction h with
  | nil => rfl
  | cons a t ih => rw [a, ih]; rfl
theorem ints_of {acc : List V} {bs : List Int} (h : Paired (fun v b => v = V.int b) acc bs) : acc = bs.map V.int := by
  induction h with
  | nil => rfl
  | cons a t ih => rw [a, ih]; rfl
theorem paired_self {α : Type} {g : α → V} : ∀ {l : List α}, Paired (fun v b => v = g b) (l.map g) l
  | [] => .nil
  | _ :: _ => .cons rfl paired_self
/-- a and b, as values -/
theorem vpAnd {k1 k2 : Bool} (h1 : VP X a σ H fun v _ => v = .bl k1) (h2 : k1 = true → ∀ H', Same H H' → VP X b σ H' fun v _ => v = .bl k2) : VP X (.BoolOp .And [a, b] pos) σ H (fun v _ => v = .bl (k1 && k2)) := fun Q q => wAndE (h1 _ fun v H1 s1 e1 => ⟨k1, e1, by
  cases k1 with
  | true => exact iteT (h2 rfl H1 s1 Q fun u H2 s2 e2 => q u H2 (s1.trans s2) e2)
  | false => exact iteF (q _ H1 s1 rfl)⟩)
theorem vpAnd3 {k1 k2 k3 : Bool} (h1 : VP X a σ H fun v _ => v = .bl k1) (h2 : k1 = true → ∀ H', Same H H' → VP X b σ H' fun v _ => v = .bl k2) (h3 : k1 = true → k2 = true → ∀ H', Same H H' → VP X c σ H' fun v _ => v = .bl k3) :
    VP X (.BoolOp .And [a, b, c] pos) σ H (fun v _ => v = .bl (k1 && (k2 && k3))) := fun Q q => wAndE3 (h1 _ fun v H1 s1 e1 => ⟨k1, e1, by
  cases k1 with
  | true =>
    refine iteT (h2 rfl H1 s1 _ fun u H2 s2 e2 => ⟨k2, e2, ?_⟩)
    cases k2 with
    | true => exact iteT (h3 rfl rfl H2 (s1.trans s2) Q fun w H3 s3 e3 => q w H3 ((s1.trans s2).trans s3) e3)
    | false => exact iteF (q _ H2 (s1.trans s2) rfl)
  | false => exact iteF (q _ H1 s1 rfl)⟩)
theorem vpNot {k : Bool} (h : VP X a σ H fun v _ => v = .bl k) : VP X (.UnaryOp .Not a pos) σ H (fun v _ => v = .bl (!k)) := fun Q q => wNotE (h _ fun v H1 s1 e1 => ⟨k, e1, q _ H1 s1 rfl⟩)
/-- one sign of a text within another -/
theorem tvInS {x : Nat} {z : Str} (ha : VP X a σ H fun v _ => v = .str ⟨#[x]⟩) (hb : ∀ H', Same H H' → VP X b σ H' fun v _ => v = .str z) (hm : behindInMarks .In b = false := by rfl) : TV X (.Compare a [.In] [b] pos) σ H (decide (x ∈ z.cps.toList)) := fun Q q => tCmp op_in_sign (ha _ fun v H1 s1 e1 => hb H1 s1 _ fun u H2 s2 e2 => by
  subst e1 e2
  exact ⟨x, z, rfl, rfl, _, rfl, q H2 (s1.trans s2)⟩) hm
theorem tvNotInS {x : Nat} {z : Str} (ha : VP X a σ H fun v _ => v = .str ⟨#[x]⟩) (hb : ∀ H', Same H H' → VP X b σ H' fun v _ => v = .str z) (hm : behindInMarks .NotIn b = false := by rfl) : TV X (.Compare a [.NotIn] [b] pos) σ H (!decide (x ∈ z.cps.toList)) := fun Q q => tCmp op_notIn_sign (ha _ fun v H1 s1 e1 => hb H1 s1 _ fun u H2 s2 e2 => by
  subst e1 e2
  exact ⟨x, z, rfl, rfl, _, rfl, q H2 (s1.trans s2)⟩) hm
/-- x is one of l -/
def isIn {α : Type} [DecidableEq α] (x : α) (l : List α) : Bool := decide (x ∈ l)
theorem isIn_iff {α : Type} [DecidableEq α] {x : α} {l : List α} : isIn x l = true ↔ x ∈ l := by
  unfold isIn
  exact decide_eq_true_iff
theorem isIn_yes {α : Type} [DecidableEq α] {x : α} {l : List α} (h : x ∈ l) : isIn x l = true := isIn_iff.mpr h
theorem isIn_no {α : Type} [DecidableEq α] {x : α} {l : List α} (h : x ∉ l) : isIn x l = false := by
  cases e : isIn x l with
  | true => exact absurd (isIn_iff.mp e) h
  | false => rfl
/-- a row of such data, a list or a tuple -/
def RowE {α : Type} (K : PySem.W.Frag) (H : Hp) (enc : α → PyData) (v : V) (cs : List α) : Prop := ∃ l vs, v = .ref l ∧ (SqL K H l vs ∨ SqT K H l vs) ∧ ImL H vs (cs.map enc)
theorem RowE.mono {α : Type} {K : PySem.W.Frag} {H H' : Hp} {enc : α → PyData} {v : V} {cs : List α} (s : Same H H') (h : RowE K H enc v cs) : RowE K H' enc v cs := by
  obtain ⟨l, vs, e, h1, h2⟩ := h
  exact ⟨l, vs, e, h1.imp s.seq (Same.tup s), h2.mono (TS.of s)⟩
theorem tvInE {α : Type} [DecidableEq α] {enc : α → PyData} (E : Enc enc) (hu : X.A.units + 65 < cLine) {x : α} {cs : List α} (ha : VP X a σ H fun v H' => Im H' v (enc x)) (hb : ∀ H', Same H H' → VP X b σ H' fun v H'' => RowE X.K H'' enc v cs) (hm : behindInMarks .In b = false := by rfl) :
    TV X (.Compare a [.In] [b] pos) σ H (isIn x cs) := fun Q q => tCmp (op_inE E hu) (ha _ fun v H1 s1 h1 => hb H1 s1 _ fun u H2 s2 h2 => by
  obtain ⟨l, vs, e2, h3, h4⟩ := h2
  exact ⟨x, cs, l, vs, e2, h3, h1.mono (TS.of s2), h4, _, rfl, q H2 (s1.trans s2)⟩) hm
theorem tvNotInE {α : Type} [DecidableEq α] {enc : α → PyData} (E : Enc enc) (hu : X.A.units + 65 < cLine) {x : α} {cs : List α} (ha : VP X a σ H fun v H' => Im H' v (enc x)) (hb : ∀ H', Same H H' → VP X b σ H' fun v H'' => RowE X.K H'' enc v cs) (hm : behindInMarks .NotIn b = false := by rfl) :
    TV X (.Compare a [.NotIn] [b] pos) σ H (!isIn x cs) := fun Q q => tCmp (op_notInE E hu) (ha _ fun v H1 s1 h1 => hb H1 s1 _ fun u H2 s2 h2 => by
  obtain ⟨l, vs, e2, h3, h4⟩ := h2
  exact ⟨x, cs, l, vs, e2, h3, h1.mono (TS.of s2), h4, _, rfl, q H2 (s1.trans s2)⟩) hm
theorem vpInE {α : Type} [DecidableEq α] {enc : α → PyData} (E : Enc enc) (hu : X.A.units + 65 < cLine) {x : α} {cs : List α} (ha : VP X a σ H fun v H' => Im H' v (enc x)) (hb : ∀ H', Same H H' → VP X b σ H' fun v H'' => RowE X.K H'' enc v cs) (hm : behindInMarks .In b = false := by rfl) :
    VP X (.Compare a [.In] [b] pos) σ H (fun v _ => v = .bl (isIn x cs)) := fun Q q => wCmp (op_inE E hu) (ha _ fun v H1 s1 h1 => hb H1 s1 _ fun u H2 s2 h2 => by
  obtain ⟨l, vs, e2, h3, h4⟩ := h2
  exact ⟨x, cs, l, vs, e2, h3, h1.mono (TS.of s2), h4, q _ H2 (s1.trans s2) rfl⟩) hm
theorem vpNotInE {α : Type} [DecidableEq α] {enc : α → PyData} (E : Enc enc) (hu : X.A.units + 65 < cLine) {x : α} {cs : List α} (ha : VP X a σ H fun v H' => Im H' v (enc x)) (hb : ∀ H', Same H H' → VP X b σ H' fun v H'' => RowE X.K H'' enc v cs) (hm : behindInMarks .NotIn b = false := by rfl) :
    VP X (.Compare a [.NotIn] [b] pos) σ H (fun v _ => v = .bl (!isIn x cs)) := fun Q q => wCmp (op_notInE E hu) (ha _ fun v H1 s1 h1 => hb H1 s1 _ fun u H2 s2 h2 => by
  obtain ⟨l, vs, e2, h3, h4⟩ := h2
  exact ⟨x, cs, l, vs, e2, h3, h1.mono (TS.of s2), h4, q _ H2 (s1.trans s2) rfl⟩) hm
theorem tvEqE {α : Type} [DecidableEq α] {enc : α → PyData} (E : Enc enc) (hu : X.A.units + 65 < cLine) {x y : α} (ha : VP X a σ H fun v H' => Im H' v (enc x)) (hb : ∀ H', Same H H' → VP X b σ H' fun v H'' => Im H'' v (enc y)) :
    TV X (.Compare a [.Eq] [b] pos) σ H (decide (x = y)) := fun Q q => tCmp (op_eqE E (by omega)) (ha _ fun v H1 s1 h1 => hb H1 s1 _ fun u H2 s2 h2 => ⟨x, y, h1.mono (TS.of s2), h2, _, rfl, q H2 (s1.trans s2)⟩)
end
section
variable {X : Cx} {σ : L2.St} {H : Hp} {a b c : Expr} {pos p : Pos} {x : Str} {k j : Nat} {dvs : List V} {sp : Sp} {P Pa Pb Pc : V → Hp → Prop}
/-- f(a), f(a, b), f(a, b, c) of a def that leaves what was tracked -/
theorem vpCall1 (F : Fn X.prog X.w X.K X.mg X.base CX0 x k dvs sp) (hr : Room j X.A) (ha : VP X a σ H Pa) (h : ∀ v H', Same H H' → Pa v H' → ∀ Q : VK, (∀ r H'', Same H' H'' → P r H'' → Q r H'') → sp ([v] ++ dvs) H' Q E0) (hj : k ≤ j := by decide) (hg : Gl X x := by rfl)
    (hdb : (x == ("__debug__" : Str)) = false := by decide) (he : starEach (a :: []) X.env = (false, eval a X.env) :: starEach [] X.env := by rfl) (hpl : (backTo pos (starEach [] X.env)).any (·.1) = false := by rfl) : VP X (.Call (.Name x p) [a] [] pos) σ H P := fun Q q =>
  wCall F hr (wACons (ha _ fun v H1 s1 h1 => wANil (h v H1 s1 h1 Q fun r H2 s2 h2 => q r H2 (s1.trans s2) h2)) he) hj hg hdb he hpl
theorem vpCall2 (F : Fn X.prog X.w X.K X.mg X.base CX0 x k dvs sp) (hr : Room j X.A) (ha : VP X a σ H Pa) (hb : ∀ H', Same H H' → VP X b σ H' Pb) (mA : ∀ v H' H'', Same H' H'' → Pa v H' → Pa v H'')
    (h : ∀ v u H', Same H H' → Pa v H' → Pb u H' → ∀ Q : VK, (∀ r H'', Same H' H'' → P r H'' → Q r H'') → sp ([v, u] ++ dvs) H' Q E0) (hj : k ≤ j := by decide) (hg : Gl X x := by rfl) (hdb : (x == ("__debug__" : Str)) = false := by decide)
    (he : starEach (a :: [b]) X.env = (false, eval a X.env) :: starEach [b] X.env := by rfl) (he2 : starEach (b :: []) X.env = (false, eval b X.env) :: starEach [] X.env := by rfl) (hpl : (backTo pos (starEach [b] X.env)).any (·.1) = false := by rfl) : VP X (.Call (.Name x p) [a, b] [] pos) σ H P := fun Q q =>
  wCall F hr (wACons (ha _ fun v H1 s1 h1 => wACons (hb H1 s1 _ fun u H2 s2 h2 => wANil (h v u H2 (s1.trans s2) (mA _ _ _ s2 h1) h2 Q fun r H3 s3 h3 => q r H3 ((s1.trans s2).trans s3) h3)) he2) he) hj hg hdb he hpl
theorem vpCall3 (F : Fn X.prog X.w X.K X.mg X.base CX0 x k dvs sp) (hr : Room j X.A) (ha : VP X a σ H Pa) (hb : ∀ H', Same H H' → VP X b σ H' Pb) (hc : ∀ H', Same H H' → VP X c σ H' Pc) (mA : ∀ v H' H'', Same H' H'' → Pa v H' → Pa v H'') (mB : ∀ v H' H'', Same H' H'' → Pb v H' → Pb v H'')
    (h : ∀ v u y H', Same H H' → Pa v H' → Pb u H' → Pc y H' → ∀ Q : VK, (∀ r H'', Same H' H'' → P r H'' → Q r H'') → sp ([v, u, y] ++ dvs) H' Q E0) (hj : k ≤ j := by decide) (hg : Gl X x := by rfl) (hdb : (x == ("__debug__" : Str)) = false := by decide)
    (he : starEach (a :: [b, c]) X.env = (false, eval a X.env) :: starEach [b, c] X.env := by rfl) (he2 : starEach (b :: [c]) X.env = (false, eval b X.env) :: starEach [c] X.env := by rfl) (he3 : starEach (c :: []) X.env = (false, eval c X.env) :: starEach [] X.env := by rfl) (hpl : (backTo pos (starEach [b, c] X.env)).any (·.1) = false := by rfl) :
    VP X (.Call (.Name x p) [a, b, c] [] pos) σ H P := fun Q q =>
  wCall F hr (wACons (ha _ fun v H1 s1 h1 => wACons (hb H1 s1 _ fun u H2 s2 h2 => wACons (hc H2 (s1.trans s2) _ fun y H3 s3 h3 => wANil (h v u y H3 ((s1.trans s2).trans s3) (mA _ _ _ (s2.trans s3) h1) (mB _ _ _ s3 h2) h3 Q fun r H4 s4 h4 => q r H4 (((s1.trans s2).trans s3).trans s4) h4)) he3) he2) he) hj hg hdb he hpl
end
mutual
theorem Dp.same {K : PySem.W.Frag} {H H' : Hp} (s : Same H H') : ∀ (d : PyData) (v : V), Dp K H v d → Dp K H' v d
  | .none, _, .non => .non
  | .bool b, _, .bl _ => .bl b
  | .int i, _, .int _ => .int i
  | .str x, _, .str _ => .str x
  | .tuple ds, _, .tup h hs => .tup (Same.tup s h) (dpAll_same s ds _ hs)
  | .list ds, _, .lst h hs => .lst (s.seq h) (dpAll_same s ds _ hs)
  | .dict _, _, h => nomatch h
theorem dpAll_same {K : PySem.W.Frag} {H H' : Hp} (s : Same H H') : ∀ (ds : List PyData) (vs : List V), DpAll K H vs ds → DpAll K H' vs ds
  | [], _, .nil => .nil
  | d :: ds, _, .cons a b => .cons (Dp.same s d _ a) (dpAll_same s ds _ b)
end
section
variable {X : Cx} {σ : L2.St} {H : Hp} {a b e o : Expr} {pos p apos : Pos} {D : Ends} {k : Bool}
/-- against a list without items -/
def NilK (K : PySem.W.Frag) (H : Hp) (v : V) (k : Bool) : Prop := ∃ l vs ds, v = .ref l ∧ SqL K H l vs ∧ DpAll K H vs ds ∧ SeqAt.shaped (.list ds) = true ∧ ds.isEmpty = k
theorem vpEqNil (hu : X.A.units + 65 < cLine) (he : VP X e σ H fun v H' => NilK X.K H' v k) : VP X (.Compare e [.Eq] [.List [] p] pos) σ H (fun v _ => v = .bl k) := fun Q q => wCmp (op_eqNil (by omega)) (he _ fun v H1 s1 h1 => by
  obtain ⟨l, vs, ds, e1, h2, h3, h4, h5⟩ := h1
  subst e1
  exact wLst (wANil ⟨Nat.zero_le _, fun q1 hq => ⟨ds, Dp.same (Same.new hq) _ _ (.lst h2 h3), .lst (sqL upd_same) .nil, h4, q _ _ (s1.trans (Same.new hq)) (by rw [h5])⟩⟩))
theorem tvEqNil (hu : X.A.units + 65 < cLine) (he : VP X e σ H fun v H' => NilK X.K H' v k) : TV X (.Compare e [.Eq] [.List [] p] pos) σ H k := fun Q q => tCmp (op_eqNil (by omega)) (he _ fun v H1 s1 h1 => by
  obtain ⟨l, vs, ds, e1, h2, h3, h4, h5⟩ := h1
  subst e1
  exact wLst (wANil ⟨Nat.zero_le _, fun q1 hq => ⟨ds, Dp.same (Same.new hq) _ _ (.lst h2 h3), .lst (sqL upd_same) .nil, h4, _, rfl, by rw [h5]; exact q _ (s1.trans (Same.new hq))⟩⟩))
theorem tvNeNil (hu : X.A.units + 65 < cLine) (he : VP X e σ H fun v H' => NilK X.K H' v k) : TV X (.Compare e [.NotEq] [.List [] p] pos) σ H (!k) := fun Q q => tCmp (op_neNil (by omega)) (he _ fun v H1 s1 h1 => by
  obtain ⟨l, vs, ds, e1, h2, h3, h4, h5⟩ := h1
  subst e1
  exact wLst (wANil ⟨Nat.zero_le _, fun q1 hq => ⟨ds, Dp.same (Same.new hq) _ _ (.lst h2 h3), .lst (sqL upd_same) .nil, h4, _, rfl, by rw [h5]; exact q _ (s1.trans (Same.new hq))⟩⟩))
theorem nil_E {α : Type} [DecidableEq α] {enc : α → PyData} {K : PySem.W.Frag} (E : Enc enc) {l : Addr} {vs : List V} {cs : List α} (h : SqL K H l vs) (hs : ImL H vs (cs.map enc)) : NilK K H (.ref l) cs.isEmpty :=
  ⟨l, vs, cs.map enc, rfl, h, imAll_dp _ _ hs, E.shapedL cs, by cases cs <;> rfl⟩
theorem nil_0 {K : PySem.W.Frag} {l : Addr} (h : SqL K H l []) : NilK K H (.ref l) true := ⟨l, [], [], rfl, h, .nil, by decide +kernel, rfl⟩
/-- texts -/
theorem vpAddS {x y : Str} (hz : x.length + y.length ≤ 100000) (ha : VP X a σ H fun v _ => v = .str x) (hb : ∀ H', Same H H' → VP X b σ H' fun v _ => v = .str y) : VP X (.BinOp a .Add b pos) σ H (fun v _ => v = .str (x ++ y)) := fun Q q => wBin op_add_str (ha _ fun v H1 s1 e1 => hb H1 s1 _ fun u H2 s2 e2 => by
  subst e1 e2
  exact ⟨x, y, rfl, rfl, sz hz, q _ H2 (s1.trans s2) rfl⟩)
theorem vpJoin {z : Str} {ys : List Str} (hz : (ys.map (·.length)).sum + ys.length * z.length ≤ 16777216) (ho : VP X o σ H fun v _ => v = .str z) (he : ∀ H', Same H H' → VP X e σ H' fun v H'' => ∃ l, v = .ref l ∧ (SqL X.K H'' l (ys.map V.str) ∨ SqT X.K H'' l (ys.map V.str)))
    (hs : starEach [e] X.env = [(false, eval e X.env)] := by rfl) (hbase : attributeBase o "join" X.env (eval o X.env) = eval o X.env := by rfl) (hline : (apos.endLine == pos.line) = true := by rfl) : VP X (.Call (.Attribute o "join" apos) [e] [] pos) σ H (fun v _ => v = .str (Txt.join z ys)) := fun Q q =>
  oE (pe_join pE pE hs hbase hline) (ho _ fun v H1 s1 e1 => by
    subst e1
    refine ⟨⟨z, rfl⟩, he H1 s1 _ fun u H2 s2 h2 => ?_⟩
    obtain ⟨l, e2, h3⟩ := h2
    subst e2
    exact ⟨z, l, ys, rfl, rfl, h3, hz, q _ H2 (s1.trans s2) rfl⟩)
theorem tvNotN {v0 : V} (he : VP X e σ H fun v _ => v = v0) {j : Nat} {p' : Pos} : TV X (.Compare e [.IsNot] [.Constant .none j p'] pos) σ H (!decide (v0 = .non)) := fun Q q => tCmp op_notN (he _ fun v H1 s1 e1 => by
  subst e1
  exact wNon ⟨rfl, _, rfl, q H1 s1⟩)
end
theorem imS {d : PyData} (v : V) (H H' : Hp) (s : Same H H') (h : Im H v d) : Im H' v d := h.mono (TS.of s)
theorem eqS {y : V} (v : V) (H H' : Hp) (_ : Same H H') (h : v = y) : v = y := h
theorem hu65 {k : Nat} {A : Around} (r : Room k A) : A.units + 65 < cLine := by
  have h := r.un
  omega
end CR
/-! Rooms as rows of signs, their cells. -/
namespace CR
open PySem
def sgn (rows : List Str) (r c : Nat) : Nat := ((rows[r]?.getD default).cps[c]?).getD 0
def wid (rows : List Str) : Nat := (rows[0]?.getD default).length
def inS (sg : Str) (x : Nat) : Bool := decide (x ∈ sg.cps.toList)
def cellRow (rows : List Str) (sg : Str) (r : Nat) : List Cell := ((List.range (wid rows)).filter fun c => inS sg (sgn rows r c)).map fun (c : Nat) => ((r : Int), (c : Int))
def cellsTo (rows : List Str) (sg : Str) (n : Nat) : List Cell := (List.range n).flatMap (cellRow rows sg)
def cellsOf (rows : List Str) (sg : Str) : List Cell := cellsTo rows sg rows.length
/-- all rows of one length -/
structure Rect (rows : List Str) : Prop where
  pos : 0 < rows.length
  few : rows.length ≤ 100
  wide : wid rows ≤ 100
  all : ∀ row ∈ rows, row.length = wid rows
def rowTo (rows : List Str) (sg : Str) (r n : Nat) : List Cell := ((List.range n).filter fun c => inS sg (sgn rows r c)).map fun (c : Nat) => ((r : Int), (c : Int))
theorem rowTo_yes {rows : List Str} {sg : Str} {r n : Nat} (h : decide (sgn rows r n ∈ sg.cps.toList) = true) : rowTo rows sg r (n + 1) = rowTo rows sg r n ++ [((r : Int), (n : Int))] := by
  unfold rowTo
  rw [List.range_succ, List.filter_append, List.map_append]
  have e : List.filter (fun c => inS sg (sgn rows r c)) [n] = [n] := by
    rw [List.filter_cons, if_pos (show inS sg (sgn rows r n) = true from h)]
    rfl
  rw [e]
  rfl
theorem rowTo_no {rows : List Str} {sg : Str} {r n : Nat} (h : ¬ decide (sgn rows r n ∈ sg.cps.toList) = true) : rowTo rows sg r (n + 1) = rowTo rows sg r n := by
  unfold rowTo
  rw [List.range_succ, List.filter_append, List.map_append]
  have e : List.filter (fun c => inS sg (sgn rows r c)) [n] = [] := by
    rw [List.filter_cons, if_neg (show ¬ inS sg (sgn rows r n) = true from h)]
    rfl
  rw [e]
  simp
theorem cellsTo_succ (rows : List Str) (sg : Str) (n : Nat) : cellsTo rows sg (n + 1) = cellsTo rows sg n ++ cellRow rows sg n := by
  unfold cellsTo
  rw [List.range_succ, List.flatMap_append]
  simp
theorem cellRow_len (rows : List Str) (sg : Str) (r : Nat) : (cellRow rows sg r).length ≤ wid rows := by
  unfold cellRow
  rw [List.length_map]
  have h := List.length_filter_le (fun c => inS sg (sgn rows r c)) (List.range (wid rows))
  rw [List.length_range] at h
  exact h
theorem cellsTo_len (rows : List Str) (sg : Str) : ∀ n : Nat, (cellsTo rows sg n).length ≤ n * wid rows
  | 0 => by simp [cellsTo]
  | n + 1 => by
    have h1 := cellsTo_len rows sg n
    have h2 := cellRow_len rows sg n
    rw [cellsTo_succ, List.length_append, Nat.succ_mul]
    omega
theorem Rect.row {rows : List Str} (R : Rect rows) {r : Nat} (h : r < rows.length) : ∃ row, rows[r]? = some row ∧ row.length = wid rows := ⟨rows[r], by simp [h], R.all _ (List.getElem_mem h)⟩
theorem Rect.sgnAt {rows : List Str} (R : Rect rows) {r c : Nat} (h : r < rows.length) (hc : c < wid rows) : ∃ row, rows[r]? = some row ∧ row.length = wid rows ∧ row.cps.toList[c]? = some (sgn rows r c) := by
  obtain ⟨row, e, l⟩ := R.row h
  have hc' : c < row.cps.size := by
    have z : row.cps.size = row.length := rfl
    omega
  refine ⟨row, e, l, ?_⟩
  unfold sgn
  rw [e]
  simp [hc']
/-- a room, with what is asked of it -/
structure RoomOk (rows : List Str) : Prop where
  rect : Rect rows
  h3 : 3 ≤ rows.length
  h8 : rows.length ≤ 8
  w3 : 3 ≤ wid rows
  w8 : wid rows ≤ 8
  sig : ∀ r c, r < rows.length → c < wid rows → sgn rows r c ∈ ("#-ocCmM" : Str).cps.toList
  edge : ∀ r c, r < rows.length → c < wid rows → (r = 0 ∨ r + 1 = rows.length ∨ c = 0 ∨ c + 1 = wid rows) → sgn rows r c = 35
  mover : (cellsOf rows "mM").length = 1
  c1 : 1 ≤ (cellsOf rows "cC").length
  c4 : (cellsOf rows "cC").length ≤ 4
  ends : (cellsOf rows "oCM").length = (cellsOf rows "cC").length
  floor : (cellsOf rows "-ocCmM").length ≤ 16
theorem tl_app (x y : Str) : (x ++ y).cps.toList = x.cps.toList ++ y.cps.toList := by
  show (x.cps ++ y.cps).toList = _
  rw [Array.toList_append]
theorem len_app (x y : Str) : (x ++ y).length = x.length + y.length := by
  show (x.cps ++ y.cps).size = _
  rw [Array.size_append]
  rfl
theorem joinL_nil : ∀ ps : List (List Nat), TL.joinL [] ps = ps.flatten
  | [] => rfl
  | [p] => by simp [TL.joinL]
  | p :: q :: r => by
    have h := joinL_nil (q :: r)
    show p ++ ([] ++ TL.joinL [] (q :: r)) = _
    rw [h]
    rfl
theorem tl_join0 (ys : List Str) : (Txt.join "" ys).cps.toList = (ys.map fun y => y.cps.toList).flatten := by
  rw [TL.join_eq]
  have h := TL.tl_join "" ys
  have e : TL.tl ("" : Str) = [] := by decide +kernel
  rw [e, joinL_nil] at h
  exact h
theorem Rect.sgnOf {rows : List Str} (R : Rect rows) {row : Str} (hr : row ∈ rows) {x : Nat} (hx : x ∈ row.cps.toList) : ∃ r c, r < rows.length ∧ c < wid rows ∧ sgn rows r c = x := by
  obtain ⟨r, h1, e1⟩ := List.mem_iff_getElem.mp hr
  obtain ⟨c, h2, e2⟩ := List.mem_iff_getElem.mp hx
  have hl := R.all row hr
  have hc : c < wid rows := by
    rw [← hl]
    rw [Array.length_toList] at h2
    exact h2
  refine ⟨r, c, h1, hc, ?_⟩
  obtain ⟨row', e3, _, e4⟩ := R.sgnAt h1 hc
  have e5 : rows[r]? = some row := by rw [List.getElem?_eq_getElem h1, e1]
  rw [e5] at e3
  cases e3
  rw [List.getElem?_eq_getElem h2, e2] at e4
  exact (Option.some.inj e4).symm
/-! ### order of cells -/
def ltC (a b : Cell) : Prop := a.1 < b.1 ∨ (a.1 = b.1 ∧ a.2 < b.2)
theorem ltC_irr {a : Cell} : ¬ ltC a a := fun h => by
  rcases h with h | h <;> omega
theorem ltC_trans {a b c : Cell} (h1 : ltC a b) (h2 : ltC b c) : ltC a c := by
  unfold ltC at *
  omega
theorem ltC_lex {a b : Cell} (h : ltC a b) : HT.lexLt [a.1, a.2] [b.1, b.2] = true := by
  rw [HT.lexLt_cons]
  by_cases e : a.1 = b.1
  · rw [if_pos e, HT.lexLt_cons]
    have h2 : a.2 < b.2 := by
      unfold ltC at h
      omega
    rw [if_neg (by omega)]
    exact decide_eq_true h2
  · rw [if_neg e]
    refine decide_eq_true ?_
    unfold ltC at h
    omega
abbrev Asc (cs : List Cell) : Prop := cs.Pairwise ltC
theorem Asc.nodup {cs : List Cell} (h : Asc cs) : cs.Nodup := h.imp fun {a b} h e => by
  subst e
  exact ltC_irr h
abbrev floorC (rows : List Str) : List Cell := cellsOf rows "-ocCmM"
abbrev goalsC (rows : List Str) : List Cell := cellsOf rows "oCM"
/-- a standing of a room -/
structure StandOk (rows : List Str) (s : Stand) : Prop where
  asc : Asc s.1
  ne : s.1 ≠ []
  few : s.1.length ≤ 16
  inF : ∀ c ∈ s.1, c ∈ floorC rows
  many : s.1.length = (goalsC rows).length
  mF : s.2 ∈ floorC rows
  mN : s.2 ∉ s.1
theorem Rect.wid_pos {rows : List Str} (R : RoomOk rows) : 0 < wid rows := by
  have := R.w3
  omega
end CR
namespace CR
open PySem PySem.Spec PyProof.Rows L2
section
variable {X : Cx} {σ : L2.St} {H : Hp} {Q : VK} {it it1 elt c tg tg1 : Expr} {pos : Pos} {own : List (Str × Nat)} {vs1 : List Nat} {scope : Scope}
theorem wG_mono {v : V} {R R' : L2.St → Hp → Prop} (h : wG X tg v σ H R) (k : ∀ σ' H', R σ' H' → R' σ' H') : wG X tg v σ H R' := by
  unfold wG at h ⊢
  exact fun pins s u I r => thn (h pins s u I r) fun _ s' ⟨σ', H', I', q⟩ => ⟨σ', H', I', k σ' H' q⟩
theorem bG_mono {v : V} {R R' : L2.St → Hp → Prop} (h : bG X scope tg v σ H R) (k : ∀ σ' H', R σ' H' → R' σ' H') : bG X scope tg v σ H R' := fun s0 H0 C cl fp => wG_mono (h s0 H0 C cl fp) k
theorem bI_mono {R R' : It → Hp → Prop} (h : bI X scope tg it σ H R) (k : ∀ J H', R J H' → R' J H') : bI X scope tg it σ H R' := fun s0 H0 C cl fp => wI_mono (h s0 H0 C cl fp) k
/-- [elt for tg in it for tg1 in it1 if c] -/
theorem wLc2 (hc : X.calm = true) (hN : X.N.Nodup) (ok : BlkOk X.N X.env.scope scope own) (hv : ∀ i ∈ vs1, i ∈ own.map (·.2))
    (h : wI X tg it σ H fun J H1 => ∃ (n : Nat) (G : Hp → Prop) (Y : Nat → Hp → V → Hp → Prop), Walk J n G Y ∧ ∀ Dl, H1 Dl = none → ∃ Pv : Nat → Hp → Prop, Pv 0 (upd H1 Dl (.lst [])) ∧ (∀ i H, i ≤ n → Pv i H → G H) ∧
      (∀ i x H H', i < n → Pv i H → Y i H x H' → bG X scope tg x (wipe σ (own.map (·.2))) H' fun σ2 H2 => wipe σ2 (own.map (·.2)) = wipe σ (own.map (·.2)) ∧
        bI X scope tg1 it1 σ2 H2 fun J1 H3 => ∃ (n1 : Nat) (G1 : Hp → Prop) (Y1 : Nat → Hp → V → Hp → Prop), Walk J1 n1 G1 Y1 ∧ ∃ Pw : Nat → Hp → Prop, Pw 0 H3 ∧ (∀ j H, j ≤ n1 → Pw j H → G1 H) ∧
          (∀ j y H H', j < n1 → Pw j H → Y1 j H y H' → bG X scope tg1 y (wipe σ2 vs1) H' fun σ3 H5 => wipe σ3 vs1 = wipe σ2 vs1 ∧ bT X scope c σ3 H5 fun k H6 =>
            if k = true then bE X scope elt σ3 H6 fun z H7 => ∃ acc, H7 Dl = some (.lst acc) ∧ acc.length < sizeLine ∧ Pw (j + 1) (upd H7 Dl (.lst (acc ++ [z]))) else Pw (j + 1) H6) ∧ ∀ H, Pw n1 H → Pv (i + 1) H) ∧ ∀ H, Pv n H → Q (.ref Dl) H)
    (hs : ∀ x, foldedSetIterable it X.env x = pure x := by intro _; rfl) (hs1 : ∀ (env : Env) x, foldedSetIterable it1 env x = pure x := by intro _ _; rfl) : wE X (.ListComp elt [⟨tg, it, [], 0⟩, ⟨tg1, it1, [c], 0⟩] scope pos) σ H Q := by
  refine oE (pe_lc2 (vs1 := vs1) hc hN pI ok hv pbG (fun _ _ _ _ _ => pts_nil) pbI pbG (fun s H C cl fp => pts_one (pbT s H C cl fp)) pbE hs hs1) (wI_mono h fun J H1 ⟨n, G, Y, w, k⟩ => fun Dl hD => ?_)
  obtain ⟨Pv, h0, hG, ht, hd⟩ := k Dl hD
  refine ⟨fun i m H => m = n - i ∧ i ≤ n ∧ Pv i H, ⟨n, rfl, Nat.zero_le _, h0⟩, ?_⟩
  intro i m H hw
  obtain ⟨em, hi, p⟩ := hw
  subst em
  have q := hG i H hi p
  by_cases hlt : i < n
  · refine .inr ⟨w.goes i H hlt q, Pv (i + 1), fun H' p' => ⟨n - (i + 1), by omega, rfl, hlt, p'⟩, fun x H' y => ?_⟩
    refine bG_mono (ht i x H H' hlt p (w.yields i H x H' hlt q y)) fun σ2 H2 hr => ⟨hr.1, ?_⟩
    refine iteT (B := Pv (i + 1) H2) (bI_mono hr.2 fun J1 H3 h1 => ?_)
    obtain ⟨n1, G1, Y1, w1, Pw, p0, pG, pt, pd⟩ := h1
    refine ⟨fun j m H => m = n1 - j ∧ j ≤ n1 ∧ Pw j H, ⟨n1, rfl, Nat.zero_le _, p0⟩, ?_⟩
    intro j m H hw
    obtain ⟨em, hj, pj⟩ := hw
    subst em
    have qj := pG j H hj pj
    by_cases hlj : j < n1
    · exact .inr ⟨w1.goes j H hlj qj, Pw (j + 1), fun H' p' => ⟨n1 - (j + 1), by omega, rfl, hlj, p'⟩, fun y H' yy => pt j y H H' hlj pj (w1.yields j H y H' hlj qj yy)⟩
    · have e : j = n1 := by omega
      subst e
      exact .inl ⟨w1.stops H qj, pd H pj⟩
  · have e : i = n := by omega
    subst e
    exact .inl ⟨w.stops H q, hd H p⟩
theorem iRn {R : It → Hp → Prop} {p : Pos} (h : wA X [c] σ H fun vs H1 => ∃ n : Nat, vs = [.int n] ∧ n < 1000000 ∧ R (Itr 0 n) H1) (hm : X.mg "range" = none) (hg : Gl X "range" := by rfl) (hs : starEach [c] X.env = [(false, eval c X.env)] := by rfl) :
    wI X tg (.Call (.Name "range" p) [c] [] pos) σ H R := iR (wA_mono h fun vs H1 ⟨n, e, hn, r⟩ => ⟨(n : Int), e, by omega, by omega, r⟩) hm hg hs
theorem walk_rg (n : Nat) : Walk (Itr 0 n) n (fun _ => True) (fun i H x H' => H' = H ∧ x = .int (i : Nat)) :=
  (walk_range (lo := 0) (n := n)).mono (fun _ h => h) fun i H x H' _ _ y => ⟨y.1, by rw [y.2]; show V.int (0 + (i : Nat)) = _; rw [Int.zero_add]⟩
end
/-! ### cells_with -/
def spCellsWith : Sp := fun vs H Q _ => ∃ (v : V) (rows : List Str) (sg : Str), vs = [v, .str sg] ∧ Im H v (rwD rows) ∧ Rect rows ∧ ∀ r H', Same H H' → Im H' r (csD (cellsOf rows sg)) → Q r H'
theorem scCellsWith : FnScope ["room", "signs", "r", "c"] ["room", "signs"] (defScope sCellsWith) := ⟨rfl, rfl, rfl, by decide +kernel, rfl, by decide +kernel, by decide +kernel⟩
section
variable {P : Program} {w : World} {K : PySem.W.Frag} {mg : Str → Option Value} {base : Heap}
theorem fn_mk {x : Str} {st : Stmt} {ps : List Str} {k : Nat} {sp : Sp} {CX : CXT} (D : DefAt K mg x st ps) (h : ∀ f fd, Fun K x x st f fd → FnOk P w K mg base CX k f fd ps sp) : Fn P w K mg base CX x k [] sp := by
  obtain ⟨f, fd, F, g, b⟩ := D
  exact ⟨f, fd, ps, [], h f fd F, g, F.kp, b, .nil⟩
theorem ok_cells_with (T : Facts K w mg) : Fn P w K mg base CX0 "cells_with" 1 [] spCellsWith := by
  refine fn_mk T.d_cells_with fun f fd F => F.ok scCellsWith (fun vs H Q E h => ?_) (fun cdv A outer s H vs Q E hr h => ⟨_, pSs, ?_⟩)
  · obtain ⟨v, rows, sg, rfl, _⟩ := h
    rfl
  · obtain ⟨v, rows, sg, rfl, hv, R, q⟩ := h
    obtain ⟨t, rfl, ht⟩ := im_rows.mp hv
    refine sOne (sRet ?_)
    refine wCallTy call_tuple_of T.n_tuple (by decide +kernel) (wACons ?_)
    refine wLc2 (own := [("r", 2), ("c", 3)]) (vs1 := [3]) rfl scCellsWith.nd (blkOk_by (own := [("r", 2), ("c", 3)]) (N := ["room", "signs", "r", "c"]) (sc := defScope sCellsWith) (by decide +kernel)) (by decide) ?_
    refine iRn (wACons (wCallB call_len_seq T.n_len PySem.boot_len (wACons (wVar 0 rfl (wANil ⟨t, _, rfl, .inr (sqT ht), wANil ⟨rows.length, by rw [List.length_map], by have := R.few; omega, ?_⟩⟩))))) T.n_range
    refine ⟨rows.length, _, _, walk_rg rows.length, fun Dl hD => ⟨fun i H' => Same H H' ∧ ∃ acc, H' Dl = some (.lst acc) ∧ ImL H' acc ((cellsTo rows sg i).map cD), ⟨Same.new hD, [], upd_same, .nil⟩, fun _ _ _ _ => True.intro, ?_, ?_⟩⟩
    · intro r x H1 H2 hr1 hP hY
      obtain ⟨e1, e2⟩ := hY
      subst e1 e2
      obtain ⟨s1, acc, ha, hi⟩ := hP
      intro s0 H0 C cl fp
      refine gNm 2 ⟨rfl, ?_⟩ scCellsWith.nd
      intro s0 H0 C cl fp
      obtain ⟨row0, e0, l0⟩ := R.row R.pos
      refine iRn (wACons (wCallB call_len_str T.n_len PySem.boot_len (wACons (wIx ix_tup (wVar 0 rfl (wInt ⟨t, _, 0, .str row0, rfl, rfl, sqT (s1 _ _ ht), atI_nat (j := 0) (by rw [List.getElem?_map, e0]; rfl), wANil ⟨row0, rfl, sz (by have := R.wide; omega), wANil ⟨wid rows, by rw [l0], by have := R.wide; omega, ?_⟩⟩⟩)))))) T.n_range
      refine ⟨wid rows, _, _, walk_rg (wid rows), fun j H' => Same H H' ∧ ∃ acc, H' Dl = some (.lst acc) ∧ ImL H' acc ((cellsTo rows sg r ++ rowTo rows sg r j).map cD) ∧ acc.length ≤ r * wid rows + j, ⟨s1, acc, ha, by simpa [rowTo] using hi, ?_⟩, fun _ _ _ _ => True.intro, ?_, ?_⟩
      · have h1 := Paired.length hi
        have h2 := cellsTo_len rows sg r
        rw [List.length_map] at h1
        omega
      · intro c y H3 H4 hc1 hP hY
        obtain ⟨e1, e2⟩ := hY
        subst e1 e2
        obtain ⟨s2, acc, ha, hi, hl⟩ := hP
        intro s0 H0 C cl fp
        refine gNm 3 ⟨rfl, ?_⟩ scCellsWith.nd
        intro s0 H0 C cl fp
        obtain ⟨row, e0, l0, hs⟩ := R.sgnAt hr1 hc1
        refine tCmp op_in_sign (wIx ix_str (wIx ix_tup (wVar 0 rfl (wVar 2 rfl ⟨t, _, (r : Int), .str row, rfl, rfl, sqT (s2 _ _ ht), atI_nat (by rw [List.getElem?_map, e0]; rfl), ?_⟩))))
        refine wVar 3 rfl ⟨row, c, sgn rows r c, rfl, rfl, sz (by have := R.wide; omega), atI_nat hs, wVar 1 rfl ⟨_, sg, rfl, rfl, _, rfl, ?_⟩⟩
        have few : acc.length < 100000 := by
          have h1 := R.few
          have h2 := R.wide
          have h3 : r * wid rows ≤ 100 * 100 := Nat.mul_le_mul (by omega) h2
          omega
        refine ite2 (fun hk => ?_) (fun hk => ?_)
        · intro s0 H0 C cl fp
          refine wTup (wACons (wVar 2 rfl (wACons (wVar 3 rfl (wANil ⟨by show 2 ≤ sizeLine; decide, fun p hp => ⟨acc, by rw [upd_ne (ne_of_none ha hp)]; exact ha, szl few, Same.mut (s2.trans (Same.new hp)) hD, _, upd_same, ?_, by rw [List.length_append]; simp; omega⟩⟩)))))
          have t1 : TS H4 (upd H4 p (.tup [.int r, .int c])) := TS.new hp
          have t2 : TS (upd H4 p (.tup [.int r, .int c])) (upd (upd H4 p (.tup [.int r, .int c])) Dl (.lst (acc ++ [.ref p]))) := TS.lst (by rw [upd_ne (ne_of_none ha hp)]; exact ha)
          rw [rowTo_yes hk, ← List.append_assoc, List.map_append]
          exact paired_snoc (hi.mono (t1.trans t2)) ((im_cell_mk upd_same).mono t2)
        · refine ⟨s2, acc, ha, ?_, by omega⟩
          rw [rowTo_no hk]
          exact hi
      · intro H' hP
        obtain ⟨s2, acc, ha, hi, hl⟩ := hP
        refine ⟨s2, acc, ha, ?_⟩
        rw [cellsTo_succ]
        exact hi
    · intro H' hP
      obtain ⟨s1, acc, ha, hi⟩ := hP
      exact wANil ⟨Dl, acc, rfl, .inl ⟨sqL ha, fun l hl => q _ _ (s1.trans (Same.new hl)) (im_cells.mpr ⟨l, acc, rfl, upd_same, hi.mono (TS.new hl)⟩)⟩⟩
end
end CR
namespace CR
open PySem PySem.Spec PyProof.Rows L2
variable {P : Program} {w : World} {K : PySem.W.Frag} {mg : Str → Option Value} {base : Heap}
theorem sameU {H H' : Hp} {p : Addr} {o : HO} (s : Same H H') (h : H' p = none) : Same H (upd H' p o) := s.trans (Same.new h)
/-! ### floor_of, goals_of, start_of -/
def spCells (sg : Str) : Sp := fun vs H Q _ => ∃ (v : V) (rows : List Str), vs = [v] ∧ Im H v (rwD rows) ∧ Rect rows ∧ ∀ r H', Same H H' → Im H' r (csD (cellsOf rows sg)) → Q r H'
theorem scFloorOf : FnScope ["room"] ["room"] (defScope sFloorOf) := ⟨rfl, rfl, rfl, by decide +kernel, rfl, by decide +kernel, by decide +kernel⟩
theorem ok_floor_of (T : Facts K w mg) : Fn P w K mg base CX0 "floor_of" 2 [] (spCells "-ocCmM") := by
  have F1 : Fn P w K mg base CX0 "cells_with" 1 [] spCellsWith := ok_cells_with T
  refine fn_mk T.d_floor_of fun f fd F => F.ok scFloorOf (fun vs H Q E h => ?_) (fun cdv A outer s H vs Q E hr h => ⟨_, pSs, ?_⟩)
  · obtain ⟨v, rows, rfl, _⟩ := h
    rfl
  · obtain ⟨v, rows, rfl, hv, R, q⟩ := h
    exact sOne (sRet (VP.run (vpCall2 F1 hr (vpVar 0 rfl hv) (fun _ _ => vpStr) imS fun v u H' s h1 h2 Q q => ⟨v, rows, "-ocCmM", by rw [h2]; rfl, h1, R, q⟩) q))
theorem scGoalsOf : FnScope ["room"] ["room"] (defScope sGoalsOf) := ⟨rfl, rfl, rfl, by decide +kernel, rfl, by decide +kernel, by decide +kernel⟩
theorem ok_goals_of (T : Facts K w mg) : Fn P w K mg base CX0 "goals_of" 2 [] (spCells "oCM") := by
  have F1 : Fn P w K mg base CX0 "cells_with" 1 [] spCellsWith := ok_cells_with T
  refine fn_mk T.d_goals_of fun f fd F => F.ok scGoalsOf (fun vs H Q E h => ?_) (fun cdv A outer s H vs Q E hr h => ⟨_, pSs, ?_⟩)
  · obtain ⟨v, rows, rfl, _⟩ := h
    rfl
  · obtain ⟨v, rows, rfl, hv, R, q⟩ := h
    exact sOne (sRet (VP.run (vpCall2 F1 hr (vpVar 0 rfl hv) (fun _ _ => vpStr) imS fun v u H' s h1 h2 Q q => ⟨v, rows, "oCM", by rw [h2]; rfl, h1, R, q⟩) q))
def spStart : Sp := fun vs H Q _ => ∃ (v : V) (rows : List Str) (m : Cell), vs = [v] ∧ Im H v (rwD rows) ∧ Rect rows ∧ (cellsOf rows "mM")[0]? = some m ∧ ∀ r H', Same H H' → Im H' r (stD (cellsOf rows "cC", m)) → Q r H'
theorem scStartOf : FnScope ["room"] ["room"] (defScope sStartOf) := ⟨rfl, rfl, rfl, by decide +kernel, rfl, by decide +kernel, by decide +kernel⟩
theorem ok_start_of (T : Facts K w mg) : Fn P w K mg base CX0 "start_of" 2 [] spStart := by
  have F1 : Fn P w K mg base CX0 "cells_with" 1 [] spCellsWith := ok_cells_with T
  refine fn_mk T.d_start_of fun f fd F => F.ok scStartOf (fun vs H Q E h => ?_) (fun cdv A outer s H vs Q E hr h => ⟨_, pSs, ?_⟩)
  · obtain ⟨v, rows, m, rfl, _⟩ := h
    rfl
  · obtain ⟨v, rows, m, rfl, hv, R, hm, q⟩ := h
    refine sOne (sRet (wTup (wACons ?_)))
    refine VP.run (P := fun v H' => Im H' v (csD (cellsOf rows "cC"))) (vpCall2 F1 hr (vpVar 0 rfl hv) (fun _ _ => vpStr) imS fun v u H' s h1 h2 Q q => ⟨v, rows, "cC", by rw [h2]; rfl, h1, R, q⟩) fun x H1 s1 h1 => ?_
    refine wACons ?_
    refine VP.run (P := fun v H' => Im H' v (cD m)) (vpIxT (i := 0) ?_ (fun _ _ => vpInt) imS) fun y H2 s2 h2 => ?_
    · refine VP.mono (vpCall2 (P := fun v H' => Im H' v (csD (cellsOf rows "mM"))) F1 hr (vpVar 0 rfl (hv.mono (TS.of s1))) (fun _ _ => vpStr) imS (fun v u H' s h1 h2 Q q => ⟨v, rows, "mM", by rw [h2]; rfl, h1, R, q⟩)) fun v H2 s2 h2 => ?_
      obtain ⟨t, ys, e, ht, hs⟩ := im_cells.mp h2
      obtain ⟨y, hy, im⟩ := paired_get' hs (show ((cellsOf rows "mM").map cD)[0]? = some (cD m) by rw [List.getElem?_map, hm]; rfl)
      exact ⟨t, ys, y, e, sqT ht, hy, im⟩
    · refine wANil ⟨by show 2 ≤ sizeLine; decide, fun p hp => q _ _ (sameU (s1.trans s2) hp) ?_⟩
      exact im_stand.mpr ⟨p, x, y, rfl, upd_same, h1.mono ((TS.of s2).trans (TS.new hp)), h2.mono (TS.new hp)⟩
/-! ### has_rows -/
def spRoomB : Sp := fun vs H Q _ => ∃ (v : V) (rows : List Str), vs = [v] ∧ Im H v (rwD rows) ∧ RoomOk rows ∧ ∀ H', Same H H' → Q (.bl true) H'
theorem scHasRows : FnScope ["value", "row"] ["value"] (defScope sHasRows) := ⟨rfl, rfl, rfl, by decide +kernel, rfl, by decide +kernel, by decide +kernel⟩
theorem ok_has_rows (T : Facts K w mg) : Fn P w K mg base CX0 "has_rows" 1 [] spRoomB := by
  refine fn_mk T.d_has_rows fun f fd F => F.ok scHasRows (fun vs H Q E h => ?_) (fun cdv A outer s H vs Q E hr h => ⟨_, pSs, ?_⟩)
  · obtain ⟨v, rows, rfl, _⟩ := h
    rfl
  · obtain ⟨v, rows, rfl, hv, R, q⟩ := h
    obtain ⟨t, rfl, ht⟩ := im_rows.mp hv
    have hl : (rows.map V.str).length = rows.length := List.length_map ..
    have sqn : ∀ H', Same H H' → SqN K H' (.ref t) rows.length := fun H' s => ⟨t, _, rfl, .inr (sqT (s _ _ ht)), hl⟩
    have h3 := R.h3
    have h8 := R.h8
    have w3 := R.w3
    have w8 := R.w8
    refine sCons (sIfT (k := false) (TV.to (tvOr (tvNot (tvVal (vpIsi (k := true) (T := "tuple") T.n_isinstance T.n_tuple (by decide +kernel) (vpVar 0 rfl (.base (.tup ht))) (by decide +kernel)))) fun _ H1 s1 => tvNot (tvLeLe vpInt (fun H2 s2 => vpLen T.n_len (vpVar 0 rfl (sqn H2 (s1.trans s2)))) (fun _ _ => vpInt)))
      (by rw [decide_eq_true (show (3 : Int) ≤ (rows.length : Nat) by omega), decide_eq_true (show ((rows.length : Nat) : Int) ≤ 8 by omega)]; rfl)) (fun e => nomatch e) fun _ H1 s1 => sNil ?_)
    refine sCons (sIfT (k := false) (TV.to (tvNot (tvVal (vpAll (bs := rows.map fun _ => true) rfl T.n_all ?_))) (by simp)) (fun e => nomatch e) fun _ H2 s2 => sNil ?_)
    · refine fun Q' q' => oLc0 rfl scHasRows.nd (blkOk_by (own := [("row", 1)]) (N := ["value", "row"]) (sc := defScope sHasRows) (by decide +kernel)) (lcM0 1 (fun _ v (d : Str) => v = .str d) (fun _ v (b : Bool) => v = .bl b) (fun _ => true) rows (fun _ _ _ _ _ => pg_name (i := 1) scHasRows.nd rfl (Or.inl rfl)) (fun _ => rfl) (fun _ _ _ _ _ h => h) (fun _ _ _ _ _ h => h) ?_ (by omega) ?_ ?_)
      · exact iT (wVar 0 rfl ⟨t, rfl, ⟨_, sqT (s1 _ _ ht)⟩, Same.refl _, _, srcT (sqT (s1 _ _ ht)), paired_self⟩)
      · intro v d H' s e m K2 k s0 H0 C cl fp
        subst e
        exact VP.run (vpIsi (k := true) (t := "str") (T := "str") T.n_isinstance T.n_str (by decide +kernel) (vpVar 1 rfl (.base (.str d))) (by decide +kernel)) k
      · intro Dl acc H' s n ha hp
        exact q' _ _ s ⟨Dl, rfl, sqL (by rw [ha, bls_of hp])⟩
    · obtain ⟨row0, e0, l0⟩ := R.rect.row R.rect.pos
      have row0At : ∀ H', Same H H' → ∃ l ys y, V.ref t = .ref l ∧ SqT K H' l ys ∧ ys[0]? = some y ∧ y = .str row0 := fun H' s => ⟨t, _, _, rfl, sqT (s _ _ ht), by rw [List.getElem?_map, e0]; rfl, rfl⟩
      have sH := s1.trans s2
      refine sOne (sRet (VP.run (vpAnd (k1 := true) (k2 := true) ?_ ?_) fun v H' s e => by subst e; exact q H' (sH.trans s)))
      · refine VP.mono (vpLeLe vpInt (fun H3 s3 => vpLenS T.n_len (z := row0) (by omega) (vpIxT (i := 0) (P := fun v _ => v = .str row0) (vpVar 0 rfl (row0At H3 (sH.trans s3))) (fun _ _ => vpInt) eqS)) (fun _ _ => vpInt)) fun v H' s e => ?_
        rw [e, l0, decide_eq_true (show (3 : Int) ≤ (wid rows : Nat) by omega), decide_eq_true (show ((wid rows : Nat) : Int) ≤ 8 by omega)]
        rfl
      · intro _ H3 s3
        refine VP.mono (vpAll (bs := rows.map fun _ => true) rfl T.n_all ?_) fun v H' s e => by rw [e]; simp
        refine fun Q' q' => oLc0 rfl scHasRows.nd (blkOk_by (own := [("row", 1)]) (N := ["value", "row"]) (sc := defScope sHasRows) (by decide +kernel)) (lcM0 1 (fun _ v (d : Str) => v = .str d) (fun _ v (b : Bool) => v = .bl b) (fun _ => true) rows (fun _ _ _ _ _ => pg_name (i := 1) scHasRows.nd rfl (Or.inl rfl)) (fun _ => rfl) (fun _ _ _ _ _ h => h) (fun _ _ _ _ _ h => h) ?_ (by omega) ?_ ?_)
        · exact iT (wVar 0 rfl ⟨t, rfl, ⟨_, sqT ((sH.trans s3) _ _ ht)⟩, Same.refl _, _, srcT (sqT ((sH.trans s3) _ _ ht)), paired_self⟩)
        · intro v d H' s e m K2 k s0 H0 C cl fp
          subst e
          have ld := R.rect.all d m
          refine VP.run (vpEqF (x := .int d.length) (y := .int row0.length) rfl (vpLenS T.n_len (by omega) (vpVar 1 rfl rfl)) (fun H4 s4 => vpLenS T.n_len (z := row0) (by omega) (vpIxT (i := 0) (P := fun v _ => v = .str row0) (vpVar 0 rfl (row0At H4 (sH.trans (s3.trans (s.trans s4))))) (fun _ _ => vpInt) eqS))) fun z H5 s5 e5 => k z H5 s5 ?_
          rw [e5, ld, l0, decide_eq_true rfl]
        · intro Dl acc H' s n ha hp
          exact q' _ _ s ⟨Dl, rfl, sqL (by rw [ha, bls_of hp])⟩
end CR
namespace CR
open PySem PySem.Spec PyProof.Rows L2
variable {P : Program} {w : World} {K : PySem.W.Frag} {mg : Str → Option Value} {base : Heap}
/-! ### has_walls -/
theorem sum_two {α : Type} : ∀ l : List α, (l.map fun _ => 2).sum = l.length * 2
  | [] => rfl
  | _ :: l => by
    rw [List.map_cons, List.sum_cons, sum_two l, List.length_cons]
    omega
def hh : Str := (⟨#[35]⟩ : Str) ++ (⟨#[35]⟩ : Str)
theorem hh_all {x : Nat} (h : x ∈ hh.cps.toList) : x = 35 := by
  have e : hh.cps.toList = [35, 35] := by decide +kernel
  rw [e] at h
  simpa using h
theorem hash_is : ("#" : Str) = ⟨#[35]⟩ := by decide +kernel
theorem RoomOk.rowEdge {rows : List Str} (R : RoomOk rows) {r : Nat} (hr : r < rows.length) (he : r = 0 ∨ r + 1 = rows.length) : ∃ row, rows[r]? = some row ∧ row.length = wid rows ∧ ∀ x ∈ row.cps.toList, x = 35 := by
  obtain ⟨row, e, l⟩ := R.rect.row hr
  refine ⟨row, e, l, fun x hx => ?_⟩
  obtain ⟨c, h2, e2⟩ := List.mem_iff_getElem.mp hx
  have hc : c < wid rows := by
    rw [← l]
    rw [Array.length_toList] at h2
    exact h2
  obtain ⟨row', e3, _, e4⟩ := R.rect.sgnAt hr hc
  rw [e] at e3
  cases e3
  rw [List.getElem?_eq_getElem h2, e2] at e4
  rw [Option.some.inj e4]
  exact R.edge r c hr hc (by omega)
theorem RoomOk.rowSides {rows : List Str} (R : RoomOk rows) {row : Str} (hm : row ∈ rows) : row.cps.toList[0]? = some 35 ∧ row.cps.toList[wid rows - 1]? = some 35 := by
  obtain ⟨r, h1, e1⟩ := List.mem_iff_getElem.mp hm
  have w3 := R.w3
  have z : ∀ c, c < wid rows → (c = 0 ∨ c + 1 = wid rows) → row.cps.toList[c]? = some 35 := fun c hc he => by
    obtain ⟨row', e3, _, e4⟩ := R.rect.sgnAt h1 hc
    rw [List.getElem?_eq_getElem h1, e1] at e3
    cases e3
    rw [e4, R.edge r c h1 hc (by omega)]
  exact ⟨z 0 (by omega) (.inl rfl), z (wid rows - 1) (by omega) (.inr (by omega))⟩
theorem scHasWalls : FnScope ["room", "sides", "row", "sign"] ["room"] (defScope sHasWalls) := ⟨rfl, rfl, rfl, by decide +kernel, rfl, by decide +kernel, by decide +kernel⟩
theorem ok_has_walls (T : Facts K w mg) : Fn P w K mg base CX0 "has_walls" 1 [] spRoomB := by
  refine fn_mk T.d_has_walls fun f fd F => F.ok scHasWalls (fun vs H Q E h => ?_) (fun cdv A outer s H vs Q E hr h => ⟨_, pSs, ?_⟩)
  · obtain ⟨v, rows, rfl, _⟩ := h
    rfl
  · obtain ⟨v, rows, rfl, hv, R, q⟩ := h
    obtain ⟨t, rfl, ht⟩ := im_rows.mp hv
    have h3 := R.h3
    have h8 := R.h8
    have w3 := R.w3
    have w8 := R.w8
    refine sCons (sLc0 1 rfl scHasWalls.nd (blkOk_by (own := [("row", 2)]) (N := ["room", "sides", "row", "sign"]) (sc := defScope sHasWalls) (by decide +kernel)) (lcM0 2 (fun _ v (d : Str) => v = .str d) (fun _ v (b : Str) => v = .str b) (fun _ => hh) rows (fun _ _ _ _ _ => pg_name (i := 2) scHasWalls.nd rfl (Or.inl rfl)) (fun _ => rfl) (fun _ _ _ _ _ h => h) (fun _ _ _ _ _ h => h) ?_ (by omega) ?_ ?_))
    · exact iT (wVar 0 rfl ⟨t, rfl, ⟨_, sqT ht⟩, Same.refl _, _, srcT (sqT ht), paired_self⟩)
    · intro v d H' s e m K2 k s0 H0 C cl fp
      subst e
      have ld := R.rect.all d m
      obtain ⟨c0, c1⟩ := R.rowSides m
      refine VP.run (vpAddS (x := ⟨#[35]⟩) (y := ⟨#[35]⟩) (by decide) (vpIxS (z := d) (i := 0) (x := 35) (by omega) c0 (vpVar 2 rfl rfl) fun _ _ => vpInt) fun H1 s1 => vpIxS (z := d) (i := wid rows - 1) (x := 35) (by omega) c1 (vpVar 2 rfl rfl) fun H2 s2 => VP.mono (vpSub (vpLenS T.n_len (by omega) (vpVar 2 rfl rfl)) fun _ _ => vpInt) fun v H3 s3 e => ?_) k
      rw [e, ld]
      congr 1
      omega
    · intro Dl acc H1 s1 hn ha hp
      have ea : acc = (rows.map fun _ => hh).map V.str := strs_of hp
      obtain ⟨row0, e0, l0, a0⟩ := R.rowEdge (r := 0) (by omega) (.inl rfl)
      obtain ⟨rowL, eL, lL, aL⟩ := R.rowEdge (r := rows.length - 1) (by omega) (.inr (by omega))
      have hl : (rows.map V.str).length = rows.length := List.length_map ..
      have rowAt : ∀ (i : Nat) (row : Str), rows[i]? = some row → ∀ H', Same H1 H' → ∃ l ys y, V.ref t = .ref l ∧ SqT K H' l ys ∧ ys[i]? = some y ∧ y = .str row := fun i row e H' s => ⟨t, _, _, rfl, sqT (s _ _ (s1 _ _ ht)), by rw [List.getElem?_map, e]; rfl, rfl⟩
      have lj : (rows.map fun _ => hh).length = rows.length := List.length_map ..
      have ls : ((rows.map fun _ => hh).map (·.length)).sum = rows.length * 2 := by
        rw [List.map_map]
        have : ((fun x : Str => x.length) ∘ fun _ : Str => hh) = fun _ => 2 := by
          funext z
          show hh.length = 2
          decide +kernel
        rw [this, sum_two]
      have le : ("" : Str).length = 0 := by decide +kernel
      have lJ : (Txt.join "" (rows.map fun _ => hh)).length = rows.length * 2 := by
        have z : (Txt.join "" (rows.map fun _ => hh)).cps.toList.length = rows.length * 2 := by
          rw [tl_join0, List.length_flatten, List.map_map, List.map_map]
          have e : ((List.length ∘ fun y : Str => y.cps.toList) ∘ fun _ : Str => hh) = fun _ => 2 := by
            funext z
            show hh.cps.toList.length = 2
            decide +kernel
          rw [e, sum_two]
        rw [Array.length_toList] at z
        exact z
      refine sOne (sRet (VP.run (vpEqNil (k := true) (hu65 hr) ?_) fun v H2 s2 e => by subst e; exact q H2 (s1.trans s2)))
      refine fun Q' q' => oLc1 rfl scHasWalls.nd (blkOk_by (own := [("sign", 3)]) (N := ["room", "sides", "row", "sign"]) (sc := defScope sHasWalls) (by decide +kernel)) (lcM1 3 (fun _ v (d : Nat) => v = .str ⟨#[d]⟩) (fun _ v (b : Nat) => v = .str ⟨#[b]⟩) (fun d => !decide (V.str ⟨#[d]⟩ = .str "#")) id ((row0 ++ rowL) ++ Txt.join "" (rows.map fun _ => hh)).cps.toList (fun _ _ _ _ _ => pg_name (i := 3) scHasWalls.nd rfl (Or.inl rfl)) (fun _ => rfl) (fun _ _ _ _ _ h => h) (fun _ _ _ _ _ h => h) ?_ ?_ ?_ ?_ ?_)
      · refine iS (VP.run (vpAddS (by rw [len_app, lJ]; omega) (vpAddS (by omega) (vpIxT (i := 0) (P := fun v _ => v = .str row0) (vpVar 0 rfl (rowAt 0 row0 e0 H1 (Same.refl _))) (fun _ _ => vpInt) eqS) fun H2 s2 => vpIxT (i := rows.length - 1) (P := fun v _ => v = .str rowL) (vpVar 0 rfl (rowAt _ rowL eL H2 s2)) (fun H3 s3 => VP.mono (vpSub (vpLen T.n_len (vpVar 0 rfl ⟨t, _, rfl, .inr (sqT (s3 _ _ (s2 _ _ (s1 _ _ ht)))), hl⟩)) fun _ _ => vpInt) fun v H4 s4 e => ?_) eqS) fun H2 s2 => vpJoin (ys := rows.map fun _ => hh) (by rw [ls, lj, le]; omega) vpStr fun H3 s3 => vpVar 1 rfl ⟨Dl, rfl, .inl (sqL (by rw [← ea]; exact s3 _ _ (s2 _ _ ha)))⟩) fun v H2 s2 e => ⟨_, e, s2, _, srcS, paired_self⟩)
        rw [e]
        congr 1
        omega
      · rw [Array.length_toList]
        show ((row0 ++ rowL) ++ Txt.join "" (rows.map fun _ => hh)).length ≤ 100000
        rw [len_app, len_app, lJ]
        omega
      · intro v d H' s e m K2 k s0 H0 C cl fp
        subst e
        exact TV.run (tvNeF (x := .str ⟨#[d]⟩) (y := .str "#") rfl (vpVar 3 rfl rfl) fun _ _ => vpStr) k
      · intro v d H' s e m _ K2 k s0 H0 C cl fp
        subst e
        exact wVar 3 rfl (k _ _ (Same.refl _) rfl)
      · intro Dl2 acc2 H2 s2 hn2 ha2 hp2
        have e2 : List.filter (fun d => !decide (V.str ⟨#[d]⟩ = .str "#")) ((row0 ++ rowL) ++ Txt.join "" (rows.map fun _ => hh)).cps.toList = [] := by
          rw [List.filter_eq_nil_iff]
          intro d hd
          have e35 : d = 35 := by
            rw [tl_app, tl_app, tl_join0, List.mem_append, List.mem_append] at hd
            rcases hd with (hd | hd) | hd
            · exact a0 d hd
            · exact aL d hd
            · obtain ⟨l, hl, hd⟩ := List.mem_flatten.mp hd
              obtain ⟨y, hy, rfl⟩ := List.mem_map.mp hl
              obtain ⟨z, _, rfl⟩ := List.mem_map.mp hy
              exact hh_all hd
          rw [e35, hash_is]
          simp
        rw [e2] at hp2
        cases hp2
        exact q' _ _ s2 (nil_0 (sqL ha2))
end CR
namespace CR
open PySem PySem.Spec PyProof.Rows L2
variable {P : Program} {w : World} {K : PySem.W.Frag} {mg : Str → Option Value} {base : Heap}
/-! ### wrong_word, need_room -/
def spRoomN : Sp := fun vs H Q _ => ∃ (v : V) (rows : List Str), vs = [v] ∧ Im H v (rwD rows) ∧ RoomOk rows ∧ ∀ H', Same H H' → Q .non H'
theorem sum_wid : ∀ {rows : List Str} {n : Nat}, (∀ row ∈ rows, row.length = n) → (rows.map (·.length)).sum = rows.length * n
  | [], _, _ => by simp
  | r :: rows, n, h => by
    have h1 := h r (List.mem_cons_self ..)
    have h2 := sum_wid (rows := rows) (n := n) fun row m => h row (List.mem_cons_of_mem _ m)
    rw [List.map_cons, List.sum_cons, h2, h1, List.length_cons, Nat.succ_mul]
    omega
theorem scWrongWord : FnScope ["value", "many", "sign"] ["value"] (defScope sWrongWord) := ⟨rfl, rfl, rfl, by decide +kernel, rfl, by decide +kernel, by decide +kernel⟩
theorem ok_wrong_word (T : Facts K w mg) : Fn P w K mg base CX0 "wrong_word" 2 [] spRoomN := by
  have F1 : Fn P w K mg base CX0 "cells_with" 1 [] spCellsWith := ok_cells_with T
  have F2 : Fn P w K mg base CX0 "has_rows" 1 [] spRoomB := ok_has_rows T
  have F3 : Fn P w K mg base CX0 "has_walls" 1 [] spRoomB := ok_has_walls T
  obtain ⟨tS, gS⟩ := T.signs
  obtain ⟨tF, gF⟩ := T.mostF
  obtain ⟨tC, gC⟩ := T.mostC
  refine fn_mk T.d_wrong_word fun f fd F => F.ok scWrongWord (fun vs H Q E h => ?_) (fun cdv A outer s H vs Q E hr h => ⟨_, pSs, ?_⟩)
  · obtain ⟨v, rows, rfl, _⟩ := h
    rfl
  · obtain ⟨v, rows, rfl, hv, R, q⟩ := h
    obtain ⟨t, rfl, ht⟩ := im_rows.mp hv
    have h3 := R.h3
    have h8 := R.h8
    have w3 := R.w3
    have w8 := R.w8
    have imAt : ∀ {H'}, Same H H' → Im H' (.ref t) (rwD rows) := fun s => hv.mono (TS.of s)
    have cw : ∀ (sg : Str) {X : Cx}, True := fun _ _ => trivial
    -- not has_rows
    refine sCons (sIfT (k := false) (tvNot (k := true) (tvVal (vpCall1 F2 hr (vpVar 0 rfl hv) fun v H' s h Q q => ⟨v, rows, rfl, h, R, fun H'' s' => q _ H'' s' rfl⟩))) (fun e => nomatch e) fun _ H1 s1 => sNil ?_)
    -- the signs
    have lJ : (Txt.join "" rows).length = rows.length * wid rows := by
      have z : (Txt.join "" rows).cps.toList.length = rows.length * wid rows := by
        rw [tl_join0, List.length_flatten, List.map_map]
        have e : (List.length ∘ fun y : Str => y.cps.toList) = fun y : Str => y.length := by
          funext y
          exact Array.length_toList
        rw [e]
        exact sum_wid R.rect.all
      rw [Array.length_toList] at z
      exact z
    have hm : rows.length * wid rows ≤ 8 * 8 := Nat.mul_le_mul h8 w8
    refine sCons (sIfT (k := false) (TV.to (tvNeNil (k := true) (hu65 hr) ?_) rfl) (fun e => nomatch e) fun _ H2 s2 => sNil ?_)
    · refine fun Q' q' => oLc1 rfl scWrongWord.nd (blkOk_by (own := [("sign", 2)]) (N := ["value", "many", "sign"]) (sc := defScope sWrongWord) (by decide +kernel)) (lcM1 2 (fun _ v (d : Nat) => v = .str ⟨#[d]⟩) (fun _ v (b : Nat) => v = .str ⟨#[b]⟩) (fun d => !decide (d ∈ ("#-ocCmM" : Str).cps.toList)) id (Txt.join "" rows).cps.toList (fun _ _ _ _ _ => pg_name (i := 2) scWrongWord.nd rfl (Or.inl rfl)) (fun _ => rfl) (fun _ _ _ _ _ h => h) (fun _ _ _ _ _ h => h) ?_ ?_ ?_ ?_ ?_)
      · have le : ("" : Str).length = 0 := by decide +kernel
        exact iS (VP.run (vpJoin (ys := rows) (by rw [sum_wid R.rect.all, le]; omega) vpStr fun H3 s3 => vpVar 0 rfl ⟨t, rfl, .inr (sqT (s3 _ _ (s1 _ _ ht)))⟩) fun v H3 s3 e => ⟨_, e, s3, _, srcS, paired_self⟩)
      · rw [Array.length_toList]
        show (Txt.join "" rows).length ≤ 100000
        omega
      · intro v d H' s e m K2 k s0 H0 C cl fp
        subst e
        exact TV.run (tvNotInS (z := "#-ocCmM") (vpVar 2 rfl rfl) fun _ _ => vpGlob gS ⟨_, rfl⟩) k
      · intro v d H' s e m _ K2 k s0 H0 C cl fp
        subst e
        exact wVar 2 rfl (k _ _ (Same.refl _) rfl)
      · intro Dl acc H3 s3 hn ha hp
        have e2 : List.filter (fun d => !decide (d ∈ ("#-ocCmM" : Str).cps.toList)) (Txt.join "" rows).cps.toList = [] := by
          rw [List.filter_eq_nil_iff]
          intro d hd
          rw [tl_join0] at hd
          obtain ⟨l, hl, hd⟩ := List.mem_flatten.mp hd
          obtain ⟨y, hy, rfl⟩ := List.mem_map.mp hl
          obtain ⟨r, c, hr1, hc1, e⟩ := R.rect.sgnOf hy hd
          have z := R.sig r c hr1 hc1
          rw [e] at z
          rw [decide_eq_true z]
          simp
        rw [e2] at hp
        cases hp
        exact q' _ _ s3 (nil_0 (sqL ha))
    -- not has_walls
    have sA := s1.trans s2
    refine sCons (sIfT (k := false) (tvNot (k := true) (tvVal (vpCall1 F3 hr (vpVar 0 rfl (imAt sA)) fun v H' s h Q q => ⟨v, rows, rfl, h, R, fun H'' s' => q _ H'' s' rfl⟩))) (fun e => nomatch e) fun _ H3 s3 => sNil ?_)
    have sB := sA.trans s3
    have sqc : ∀ {H' : Hp} {v : V} {cs : List Cell}, Im H' v (csD cs) → SqN K H' v cs.length := fun {H' v cs} h => by
      obtain ⟨l, ys, e, hl, hs⟩ := im_cells.mp h
      exact ⟨l, ys, e, .inr (sqT hl), by rw [Paired.length hs, List.length_map]⟩
    -- the mover
    refine sCons (sIfT (k := false) (TV.to (tvNeF (x := .int (cellsOf rows "mM").length) (y := .int 1) rfl (vpLen T.n_len (VP.mono (vpCall2 (P := fun v H' => Im H' v (csD (cellsOf rows "mM"))) F1 hr (vpVar 0 rfl (imAt sB)) (fun _ _ => vpStr) imS fun v u H' s h1 h2 Q q => ⟨v, rows, "mM", by rw [h2]; rfl, h1, R.rect, q⟩) fun v H' s h => sqc h)) fun _ _ => vpInt)
      (by rw [R.mover]; rfl)) (fun e => nomatch e) fun _ H4 s4 => sNil ?_)
    have sC := sB.trans s4
    -- many
    refine sCons (sSet 1 (VP.run (vpLen T.n_len (VP.mono (vpCall2 (P := fun v H' => Im H' v (csD (cellsOf rows "cC"))) F1 hr (vpVar 0 rfl (imAt sC)) (fun _ _ => vpStr) imS fun v u H' s h1 h2 Q q => ⟨v, rows, "cC", by rw [h2]; rfl, h1, R.rect, q⟩) fun v H' s h => sqc h)) fun v H5 s5 e => ?_) scWrongWord.nd)
    subst e
    have sD := sC.trans s5
    have c1 := R.c1
    have c4 := R.c4
    refine sCons (sIfT (k := false) (TV.to (tvNot (tvLeLe vpInt (fun _ _ => vpVar 1 rfl rfl) (fun _ _ => vpGlob gC ⟨_, rfl⟩))) (by rw [decide_eq_true (show (1 : Int) ≤ ((cellsOf rows "cC").length : Nat) by omega), decide_eq_true (show (((cellsOf rows "cC").length : Nat) : Int) ≤ 4 by omega)]; rfl)) (fun e => nomatch e) fun _ H6 s6 => sNil ?_)
    have sE := sD.trans s6
    refine sCons (sIfT (k := false) (TV.to (tvNeF (x := .int (cellsOf rows "oCM").length) (y := .int (cellsOf rows "cC").length) rfl (vpLen T.n_len (VP.mono (vpCall2 (P := fun v H' => Im H' v (csD (cellsOf rows "oCM"))) F1 hr (vpVar 0 rfl (imAt sE)) (fun _ _ => vpStr) imS fun v u H' s h1 h2 Q q => ⟨v, rows, "oCM", by rw [h2]; rfl, h1, R.rect, q⟩) fun v H' s h => sqc h)) fun _ _ => vpVar 1 rfl rfl)
      (by rw [R.ends, decide_eq_true rfl]; rfl)) (fun e => nomatch e) fun _ H7 s7 => sNil ?_)
    have sF := sE.trans s7
    have fl := R.floor
    refine sOne (sRet (wIfE (TV.run (tvI (j := 16) op_gt (vpLen T.n_len (VP.mono (vpCall2 (P := fun v H' => Im H' v (csD (cellsOf rows "-ocCmM"))) F1 hr (vpVar 0 rfl (imAt sF)) (fun _ _ => vpStr) imS fun v u H' s h1 h2 Q q => ⟨v, rows, "-ocCmM", by rw [h2]; rfl, h1, R.rect, q⟩) fun v H' s h => sqc h)) fun _ _ => vpGlob gF ⟨_, rfl⟩) fun H8 s8 => ?_)))
    rw [decide_eq_false (show ¬ (16 : Int) < ((cellsOf rows "-ocCmM").length : Nat) by omega)]
    exact iteF (wNon (q H8 (sF.trans s8)))
theorem scNeedRoom : FnScope ["value", "word"] ["value"] (defScope sNeedRoom) := ⟨rfl, rfl, rfl, by decide +kernel, rfl, by decide +kernel, by decide +kernel⟩
theorem ok_need_room (T : Facts K w mg) : Fn P w K mg base CX0 "need_room" 3 [] spRoomN := by
  have F1 : Fn P w K mg base CX0 "wrong_word" 2 [] spRoomN := ok_wrong_word T
  refine fn_mk T.d_need_room fun f fd F => F.ok scNeedRoom (fun vs H Q E h => ?_) (fun cdv A outer s H vs Q E hr h => ⟨_, pSs, ?_⟩)
  · obtain ⟨v, rows, rfl, _⟩ := h
    rfl
  · obtain ⟨v, rows, rfl, hv, R, q⟩ := h
    refine sCons (sSet 1 (VP.run (P := fun v _ => v = .non) (vpCall1 F1 hr (vpVar 0 rfl hv) fun v H' s h Q q => ⟨v, rows, rfl, h, R, fun H'' s' => q _ H'' s' rfl⟩) fun v H1 s1 e => ?_) scNeedRoom.nd)
    subst e
    exact sOne (sIfT (k := false) (TV.to (tvNotN (vpVar 1 rfl rfl)) rfl) (fun e => nomatch e) fun _ H2 s2 => sNil (q H2 (s1.trans s2)))
end CR
namespace CR
open PySem PySem.Spec PyProof.Rows L2
section
variable {X : Cx} {σ : L2.St} {H : Hp} {a b : Expr} {pos : Pos}
theorem row_of {K : PySem.W.Frag} {H : Hp} {v : V} {cs : List Cell} (h : Im H v (csD cs)) : RowE K H cD v cs := by
  obtain ⟨l, ys, e, hl, hs⟩ := im_cells.mp h
  exact ⟨l, ys, e, .inr (sqT hl), hs⟩
theorem sqn_of {K : PySem.W.Frag} {H : Hp} {v : V} {cs : List Cell} (h : Im H v (csD cs)) : SqN K H v cs.length := by
  obtain ⟨l, ys, e, hl, hs⟩ := im_cells.mp h
  exact ⟨l, ys, e, .inr (sqT hl), by rw [Paired.length hs, List.length_map]⟩
/-- the parts of a standing -/
theorem stand0 {K : PySem.W.Frag} {H : Hp} {v : V} {s : Stand} (h : Im H v (stD s)) : ∃ l ys y, v = .ref l ∧ SqT K H l ys ∧ ys[0]? = some y ∧ Im H y (csD s.1) := by
  obtain ⟨t, x, y, e, ht, hx, hy⟩ := im_stand.mp h
  exact ⟨t, _, x, e, sqT ht, rfl, hx⟩
theorem stand1 {K : PySem.W.Frag} {H : Hp} {v : V} {s : Stand} (h : Im H v (stD s)) : ∃ l ys y, v = .ref l ∧ SqT K H l ys ∧ ys[1]? = some y ∧ Im H y (cD s.2) := by
  obtain ⟨t, x, y, e, ht, hx, hy⟩ := im_stand.mp h
  exact ⟨t, _, y, e, sqT ht, rfl, hy⟩
/-- a < b of cells -/
theorem vpLtC {x y : Cell} (hu : X.A.units + 65 < cLine) (hl : ltC x y) (ha : VP X a σ H fun v H' => Im H' v (cD x)) (hb : ∀ H', Same H H' → VP X b σ H' fun v H'' => Im H'' v (cD y)) : VP X (.Compare a [.Lt] [b] pos) σ H (fun v _ => v = .bl true) := fun Q q =>
  wCmp (op_ltT (by omega)) (ha _ fun v H1 s1 h1 => hb H1 s1 _ fun u H2 s2 h2 => by
    obtain ⟨t1, e1, g1⟩ := im_cell.mp (h1.mono (TS.of s2))
    obtain ⟨t2, e2, g2⟩ := im_cell.mp h2
    subst e1 e2
    exact ⟨t1, t2, [x.1, x.2], [y.1, y.2], rfl, rfl, sqT g1, sqT g2, by rw [ltC_lex hl]; exact q _ H2 (s1.trans s2) rfl⟩)
end
variable {P : Program} {w : World} {K : PySem.W.Frag} {mg : Str → Option Value} {base : Heap}
/-! ### is_cell -/
def spIsCell : Sp := fun vs H Q _ => ∃ (v u : V) (rows : List Str) (c : Cell), vs = [v, u] ∧ Im H v (rwD rows) ∧ Rect rows ∧ Im H u (cD c) ∧ c ∈ floorC rows ∧ ∀ H', Same H H' → Q (.bl true) H'
theorem scIsCell : FnScope ["room", "value", "one"] ["room", "value"] (defScope sIsCell) := ⟨rfl, rfl, rfl, by decide +kernel, rfl, by decide +kernel, by decide +kernel⟩
theorem ok_is_cell (T : Facts K w mg) : Fn P w K mg base CX0 "is_cell" 3 [] spIsCell := by
  have F1 : Fn P w K mg base CX0 "floor_of" 2 [] (spCells "-ocCmM") := ok_floor_of T
  refine fn_mk T.d_is_cell fun f fd F => F.ok scIsCell (fun vs H Q E h => ?_) (fun cdv A outer s H vs Q E hr h => ⟨_, pSs, ?_⟩)
  · obtain ⟨v, u, rows, c, rfl, _⟩ := h
    rfl
  · obtain ⟨v, u, rows, c, rfl, hv, R, hu, hc, q⟩ := h
    obtain ⟨t, rfl, ht⟩ := im_cell.mp hu
    refine sCons (sIfT (k := false) (TV.to (tvOr (k2 := false) (tvNot (tvVal (vpIsi (k := true) (T := "tuple") T.n_isinstance T.n_tuple (by decide +kernel) (vpVar 1 rfl (.base (.tup ht))) (by decide +kernel)))) fun _ H1 s1 => TV.to (tvNeF (x := .int (2 : Nat)) (y := .int 2) rfl (vpLen T.n_len (vpVar 1 rfl ⟨t, _, rfl, .inr (sqT (s1 _ _ ht)), rfl⟩)) fun _ _ => vpInt) rfl) rfl) (fun e => nomatch e) fun _ H1 s1 => sNil ?_)
    refine sCons (sIfT (k := false) (TV.to (tvNot (tvVal (vpAll (bs := [c.1, c.2].map fun _ => true) rfl T.n_all ?_))) rfl) (fun e => nomatch e) fun _ H2 s2 => sNil ?_)
    · refine fun Q' q' => oLc0 rfl scIsCell.nd (blkOk_by (own := [("one", 2)]) (N := ["room", "value", "one"]) (sc := defScope sIsCell) (by decide +kernel)) (lcM0 2 (fun _ v (d : Int) => v = .int d) (fun _ v (b : Bool) => v = .bl b) (fun _ => true) [c.1, c.2] (fun _ _ _ _ _ => pg_name (i := 2) scIsCell.nd rfl (Or.inl rfl)) (fun _ => rfl) (fun _ _ _ _ _ h => h) (fun _ _ _ _ _ h => h) ?_ (by simp) ?_ ?_)
      · exact iT (wVar 1 rfl ⟨t, rfl, ⟨_, sqT (s1 _ _ ht)⟩, Same.refl _, _, srcT (sqT (s1 _ _ ht)), .cons rfl (.cons rfl .nil)⟩)
      · intro v d H' s e m K2 k s0 H0 C cl fp
        subst e
        refine VP.run (vpAnd (k1 := true) (k2 := true) (vpIsi (t := "int") (T := "int") T.n_isinstance T.n_int (by decide +kernel) (vpVar 2 rfl (.base (.int d))) (by decide +kernel)) fun _ H3 s3 => VP.mono (vpNot (k := false) (vpIsi (t := "int") (T := "bool") T.n_isinstance T.n_bool (by decide +kernel) (vpVar 2 rfl (.base (.int d))) (by decide +kernel))) fun v H' s e => e) k
      · intro Dl acc H' s n ha hp
        exact q' _ _ s ⟨Dl, rfl, sqL (by rw [ha, bls_of hp])⟩
    · have sA := s1.trans s2
      refine sOne (sRet (VP.run (vpInE enc_cell (hu65 hr) (x := c) (cs := floorC rows) (vpVar 1 rfl (hu.mono (TS.of sA))) fun H3 s3 => VP.mono (vpCall1 (P := fun v H' => Im H' v (csD (floorC rows))) F1 hr (vpVar 0 rfl (hv.mono (TS.of (sA.trans s3)))) fun v H' s h Q q => ⟨v, rows, rfl, h, R, q⟩) fun v H' s h => row_of h) fun v H3 s3 e => ?_))
      rw [e, isIn_yes hc]
      exact q H3 (sA.trans s3)
/-! ### are_cells -/
def spAreCells : Sp := fun vs H Q _ => ∃ (v u : V) (rows : List Str) (cs : List Cell), vs = [v, u] ∧ Im H v (rwD rows) ∧ Rect rows ∧ Im H u (csD cs) ∧ (∀ c ∈ cs, c ∈ floorC rows) ∧ Asc cs ∧ cs ≠ [] ∧ cs.length ≤ 16 ∧ ∀ H', Same H H' → Q (.bl true) H'
theorem scAreCells : FnScope ["room", "value", "one", "k"] ["room", "value"] (defScope sAreCells) := ⟨rfl, rfl, rfl, by decide +kernel, rfl, by decide +kernel, by decide +kernel⟩
theorem ok_are_cells (T : Facts K w mg) : Fn P w K mg base CX0 "are_cells" 4 [] spAreCells := by
  have F1 : Fn P w K mg base CX0 "is_cell" 3 [] spIsCell := ok_is_cell T
  refine fn_mk T.d_are_cells fun f fd F => F.ok scAreCells (fun vs H Q E h => ?_) (fun cdv A outer s H vs Q E hr h => ⟨_, pSs, ?_⟩)
  · obtain ⟨v, u, rows, c, rfl, _⟩ := h
    rfl
  · obtain ⟨v, u, rows, cs, rfl, hv, R, hu, hc, asc, hne, few, q⟩ := h
    obtain ⟨t, ys, rfl, ht, hs⟩ := im_cells.mp hu
    have pos : 0 < cs.length := List.length_pos_iff.mpr hne
    refine sCons (sIfT (k := false) (TV.to (tvOr (k2 := false) (tvNot (tvVal (vpIsi (k := true) (T := "tuple") T.n_isinstance T.n_tuple (by decide +kernel) (vpVar 1 rfl (.base (.tup ht))) (by decide +kernel)))) fun _ H1 s1 => TV.to (tvNot (tvVal (vpAll (bs := cs.map fun _ => true) rfl T.n_all ?_))) (by simp)) rfl) (fun e => nomatch e) fun _ H1 s1 => sNil ?_)
    · refine fun Q' q' => oLc0 rfl scAreCells.nd (blkOk_by (own := [("one", 2)]) (N := ["room", "value", "one", "k"]) (sc := defScope sAreCells) (by decide +kernel)) (lcM0 2 (fun H v (d : Cell) => Im H v (cD d)) (fun _ v (b : Bool) => v = .bl b) (fun _ => true) cs (fun _ _ _ _ _ => pg_name (i := 2) scAreCells.nd rfl (Or.inl rfl)) (fun _ => rfl) (fun H H' v d s h => h.mono (TS.of s)) (fun _ _ _ _ _ h => h) ?_ (by omega) ?_ ?_)
      · exact iT (wVar 1 rfl ⟨t, rfl, ⟨_, sqT (s1 _ _ ht)⟩, Same.refl _, _, srcT (sqT (s1 _ _ ht)), paired_map.mp (hs.mono (TS.of s1))⟩)
      · intro v2 d H' s e m K2 k s0 H0 C cl fp
        exact VP.run (vpCall2 F1 hr (vpVar 0 rfl (hv.mono (TS.of (s1.trans s)))) (fun H3 s3 => vpVar 2 rfl (e.mono (TS.of s3))) imS fun v u H' s h1 h2 Q q => ⟨v, u, rows, d, rfl, h1, R, h2, hc d m, fun H'' s' => q _ H'' s' rfl⟩) k
      · intro Dl acc H' s n ha hp
        exact q' _ _ s ⟨Dl, rfl, sqL (by rw [ha, bls_of hp])⟩
    · refine sOne (sRet (VP.run (vpAll (bs := (List.range (cs.length - 1)).map fun _ => true) rfl T.n_all ?_) fun v H2 s2 e => ?_))
      · refine fun Q' q' => oLc0 rfl scAreCells.nd (blkOk_by (own := [("k", 3)]) (N := ["room", "value", "one", "k"]) (sc := defScope sAreCells) (by decide +kernel)) (lcM0 3 (fun _ v (d : Nat) => v = .int (d : Nat)) (fun _ v (b : Bool) => v = .bl b) (fun _ => true) (List.range (cs.length - 1)) (fun _ _ _ _ _ => pg_name (i := 3) scAreCells.nd rfl (Or.inl rfl)) (fun _ => rfl) (fun _ _ _ _ _ h => h) (fun _ _ _ _ _ h => h) ?_ (by rw [List.length_range]; omega) ?_ ?_)
        · refine iRn (wACons (VP.run (vpSub (vpLen T.n_len (vpVar 1 rfl (sqn_of (hu.mono (TS.of s1))))) fun _ _ => vpInt) fun v H2 s2 e => wANil ⟨cs.length - 1, by rw [e]; congr 2; omega, by omega, s2, _, srcR, paired_self⟩)) T.n_range
        · intro v d H' s e m K2 k s0 H0 C cl fp
          subst e
          have hd : d < cs.length - 1 := List.mem_range.mp m
          have h1 : d < cs.length := by omega
          have h2 : d + 1 < cs.length := by omega
          have at_ : ∀ (i : Nat) (hi : i < cs.length) (H2 : Hp), Same H1 H2 → ∃ l zs y, V.ref t = .ref l ∧ SqT K H2 l zs ∧ zs[i]? = some y ∧ Im H2 y (cD cs[i]) := fun i hi H2 s2 => by
            obtain ⟨y, hy, im⟩ := paired_get' (hs.mono (TS.of (s1.trans s2))) (show (cs.map cD)[i]? = some (cD cs[i]) by rw [List.getElem?_map, List.getElem?_eq_getElem hi]; rfl)
            exact ⟨t, ys, y, rfl, sqT ((s1.trans s2) _ _ ht), hy, im⟩
          have lt : ltC cs[d] cs[d + 1] := List.pairwise_iff_getElem.mp asc d (d + 1) h1 h2 (by omega)
          refine VP.run (vpLtC (hu65 hr) lt (vpIxT (i := d) (P := fun v H' => Im H' v (cD cs[d])) (vpVar 1 rfl (at_ d h1 H' s)) (fun _ _ => vpVar 3 rfl rfl) imS) fun H3 s3 => vpIxT (i := d + 1) (P := fun v H' => Im H' v (cD cs[d + 1])) (vpVar 1 rfl (at_ (d + 1) h2 H3 (s.trans s3))) (fun _ _ => VP.mono (vpAdd (vpVar 3 rfl rfl) fun _ _ => vpInt) fun v H s e => by rw [e]; rfl) imS) k
        · intro Dl acc H' s n ha hp
          exact q' _ _ s ⟨Dl, rfl, sqL (by rw [ha, bls_of hp])⟩
      · rw [e]
        have e1 : List.all ((List.range (cs.length - 1)).map fun _ => true) id = true := by simp
        rw [e1]
        exact q H2 (s1.trans s2)
/-! ### is_standing_of, need_standing -/
def spStandB : Sp := fun vs H Q _ => ∃ (v u : V) (rows : List Str) (s : Stand), vs = [v, u] ∧ Im H v (rwD rows) ∧ RoomOk rows ∧ Im H u (stD s) ∧ StandOk rows s ∧ ∀ H', Same H H' → Q (.bl true) H'
def spStandN : Sp := fun vs H Q _ => ∃ (v u : V) (rows : List Str) (s : Stand), vs = [v, u] ∧ Im H v (rwD rows) ∧ RoomOk rows ∧ Im H u (stD s) ∧ StandOk rows s ∧ ∀ H', Same H H' → Q .non H'
theorem scIsStandingOf : FnScope ["room", "value"] ["room", "value"] (defScope sIsStandingOf) := ⟨rfl, rfl, rfl, by decide +kernel, rfl, by decide +kernel, by decide +kernel⟩
theorem ok_is_standing_of (T : Facts K w mg) : Fn P w K mg base CX0 "is_standing_of" 5 [] spStandB := by
  have F1 : Fn P w K mg base CX0 "is_cell" 3 [] spIsCell := ok_is_cell T
  have F2 : Fn P w K mg base CX0 "are_cells" 4 [] spAreCells := ok_are_cells T
  have F3 : Fn P w K mg base CX0 "goals_of" 2 [] (spCells "oCM") := ok_goals_of T
  refine fn_mk T.d_is_standing_of fun f fd F => F.ok scIsStandingOf (fun vs H Q E h => ?_) (fun cdv A outer s H vs Q E hr h => ⟨_, pSs, ?_⟩)
  · obtain ⟨v, u, rows, c, rfl, _⟩ := h
    rfl
  · obtain ⟨v, u, rows, st, rfl, hv, R, hu, S, q⟩ := h
    obtain ⟨t, x, y, rfl, ht, hx, hy⟩ := im_stand.mp hu
    refine sCons (sIfT (k := false) (TV.to (tvOr3 (k2 := false) (k3 := false) (tvNot (tvVal (vpIsi (k := true) (T := "tuple") T.n_isinstance T.n_tuple (by decide +kernel) (vpVar 1 rfl (.base (.tup ht))) (by decide +kernel)))) (fun _ H1 s1 => TV.to (tvNeF (x := .int (2 : Nat)) (y := .int 2) rfl (vpLen T.n_len (vpVar 1 rfl ⟨t, _, rfl, .inr (sqT (s1 _ _ ht)), rfl⟩)) fun _ _ => vpInt) rfl)
      fun _ _ H2 s2 => tvNot (k := true) (tvVal (vpCall2 F2 hr (vpVar 0 rfl (hv.mono (TS.of s2))) (fun H3 s3 => vpIxT (i := 0) (P := fun v H' => Im H' v (csD st.1)) (vpVar 1 rfl (stand0 (hu.mono (TS.of (s2.trans s3))))) (fun _ _ => vpInt) imS) imS fun v u H' s h1 h2 Q q => ⟨v, u, rows, st.1, rfl, h1, R.rect, h2, S.inF, S.asc, S.ne, S.few, fun H'' s' => q _ H'' s' rfl⟩))) rfl) (fun e => nomatch e) fun _ H1 s1 => sNil ?_)
    refine sOne (sRet (VP.run (vpAnd3 (k1 := true) (k2 := true) (k3 := true) ?_ ?_ ?_) fun v H2 s2 e => by subst e; exact q H2 (s1.trans s2)))
    · refine VP.mono (vpEqF (x := .int st.1.length) (y := .int (goalsC rows).length) rfl (vpLen T.n_len (VP.mono (vpIxT (i := 0) (P := fun v H' => Im H' v (csD st.1)) (vpVar 1 rfl (stand0 (hu.mono (TS.of s1)))) (fun _ _ => vpInt) imS) fun v H' s h => sqn_of h)) fun H2 s2 => vpLen T.n_len (VP.mono (vpCall1 (P := fun v H' => Im H' v (csD (goalsC rows))) F3 hr (vpVar 0 rfl (hv.mono (TS.of (s1.trans s2)))) fun v H' s h Q q => ⟨v, rows, rfl, h, R.rect, q⟩) fun v H' s h => sqn_of h)) fun v H' s e => ?_
      rw [e, S.many, decide_eq_true rfl]
    · intro _ H2 s2
      exact vpCall2 F1 hr (vpVar 0 rfl (hv.mono (TS.of (s1.trans s2)))) (fun H3 s3 => vpIxT (i := 1) (P := fun v H' => Im H' v (cD st.2)) (vpVar 1 rfl (stand1 (hu.mono (TS.of ((s1.trans s2).trans s3))))) (fun _ _ => vpInt) imS) imS fun v u H' s h1 h2 Q q => ⟨v, u, rows, st.2, rfl, h1, R.rect, h2, S.mF, fun H'' s' => q _ H'' s' rfl⟩
    · intro _ _ H2 s2
      refine VP.mono (vpNotInE enc_cell (hu65 hr) (x := st.2) (cs := st.1) (vpIxT (i := 1) (P := fun v H' => Im H' v (cD st.2)) (vpVar 1 rfl (stand1 (hu.mono (TS.of (s1.trans s2))))) (fun _ _ => vpInt) imS) fun H3 s3 => VP.mono (vpIxT (i := 0) (P := fun v H' => Im H' v (csD st.1)) (vpVar 1 rfl (stand0 (hu.mono (TS.of ((s1.trans s2).trans s3))))) (fun _ _ => vpInt) imS) fun v H' s h => row_of h) fun v H' s e => ?_
      rw [e, isIn_no S.mN]
      rfl
theorem scNeedStanding : FnScope ["room", "value"] ["room", "value"] (defScope sNeedStanding) := ⟨rfl, rfl, rfl, by decide +kernel, rfl, by decide +kernel, by decide +kernel⟩
theorem ok_need_standing (T : Facts K w mg) : Fn P w K mg base CX0 "need_standing" 6 [] spStandN := by
  have F1 : Fn P w K mg base CX0 "need_room" 3 [] spRoomN := ok_need_room T
  have F2 : Fn P w K mg base CX0 "is_standing_of" 5 [] spStandB := ok_is_standing_of T
  refine fn_mk T.d_need_standing fun f fd F => F.ok scNeedStanding (fun vs H Q E h => ?_) (fun cdv A outer s H vs Q E hr h => ⟨_, pSs, ?_⟩)
  · obtain ⟨v, u, rows, c, rfl, _⟩ := h
    rfl
  · obtain ⟨v, u, rows, st, rfl, hv, R, hu, S, q⟩ := h
    refine sCons (sExpr (VP.run (P := fun _ _ => True) (vpCall1 F1 hr (vpVar 0 rfl hv) fun v H' s h Q q => ⟨v, rows, rfl, h, R, fun H'' s' => q _ H'' s' trivial⟩) fun _ H1 s1 _ => ?_))
    exact sOne (sIfT (k := false) (tvNot (k := true) (tvVal (vpCall2 F2 hr (vpVar 0 rfl (hv.mono (TS.of s1))) (fun H3 s3 => vpVar 1 rfl (hu.mono (TS.of (s1.trans s3)))) imS fun v u H' s h1 h2 Q q => ⟨v, u, rows, st, rfl, h1, R, h2, S, fun H'' s' => q _ H'' s' rfl⟩))) (fun e => nomatch e) fun _ H2 s2 => sNil (q H2 (s1.trans s2)))
end CR
/-! The mathematics of walking and of order. -/
namespace CR
open PySem
/-! ### ascending rows -/
theorem asc_ext : ∀ {a b : List Cell}, Asc a → Asc b → (∀ x, x ∈ a ↔ x ∈ b) → a = b
  | [], [], _, _, _ => rfl
  | [], y :: b, _, _, h => absurd ((h y).mpr (List.mem_cons_self ..)) (by simp)
  | x :: a, [], _, _, h => absurd ((h x).mp (List.mem_cons_self ..)) (by simp)
  | x :: a, y :: b, ha, hb, h => by
    obtain ⟨ha1, ha2⟩ := List.pairwise_cons.mp ha
    obtain ⟨hb1, hb2⟩ := List.pairwise_cons.mp hb
    have e : x = y := by
      rcases List.mem_cons.mp ((h x).mp (List.mem_cons_self ..)) with e | hx
      · exact e
      · rcases List.mem_cons.mp ((h y).mpr (List.mem_cons_self ..)) with e | hy
        · exact e.symm
        · exact absurd (ltC_trans (ha1 y hy) (hb1 x hx)) ltC_irr
    subst e
    have h2 : ∀ z, z ∈ a ↔ z ∈ b := fun z => by
      constructor
      · intro hz
        rcases List.mem_cons.mp ((h z).mp (List.mem_cons_of_mem _ hz)) with e | hz'
        · subst e
          exact absurd (ha1 z hz) ltC_irr
        · exact hz'
      · intro hz
        rcases List.mem_cons.mp ((h z).mpr (List.mem_cons_of_mem _ hz)) with e | hz'
        · subst e
          exact absurd (hb1 z hz) ltC_irr
        · exact hz'
    rw [asc_ext ha2 hb2 h2]
instance (a b : Cell) : Decidable (ltC a b) := by
  unfold ltC
  exact inferInstance
theorem ltC_tot {a b : Cell} (h : ¬ ltC a b) (n : a ≠ b) : ltC b a := by
  have : a.1 ≠ b.1 ∨ a.2 ≠ b.2 := by
    by_cases e : a.1 = b.1
    · right
      intro e2
      exact n (Prod.ext e e2)
    · exact .inl e
  unfold ltC at *
  omega
def insC (x : Cell) : List Cell → List Cell
  | [] => [x]
  | y :: r => if ltC x y then x :: y :: r else y :: insC x r
def sortC (cs : List Cell) : List Cell := cs.foldr insC []
theorem insC_mem {x z : Cell} : ∀ {l : List Cell}, z ∈ insC x l ↔ z = x ∨ z ∈ l
  | [] => by simp [insC]
  | y :: r => by
    unfold insC
    by_cases h : ltC x y
    · rw [if_pos h]
      simp
    · rw [if_neg h, List.mem_cons, insC_mem (l := r), List.mem_cons]
      constructor
      · rintro (h | h | h)
        · exact .inr (.inl h)
        · exact .inl h
        · exact .inr (.inr h)
      · rintro (h | h | h)
        · exact .inr (.inl h)
        · exact .inl h
        · exact .inr (.inr h)
theorem insC_len {x : Cell} : ∀ {l : List Cell}, (insC x l).length = l.length + 1
  | [] => rfl
  | y :: r => by
    unfold insC
    by_cases h : ltC x y
    · rw [if_pos h]
      rfl
    · rw [if_neg h, List.length_cons, insC_len, List.length_cons]
theorem insC_asc {x : Cell} : ∀ {l : List Cell}, Asc l → x ∉ l → Asc (insC x l)
  | [], _, _ => List.pairwise_singleton ..
  | y :: r, ha, hn => by
    obtain ⟨h1, h2⟩ := List.pairwise_cons.mp ha
    unfold insC
    by_cases h : ltC x y
    · rw [if_pos h]
      refine List.pairwise_cons.mpr ⟨fun z hz => ?_, ha⟩
      rcases List.mem_cons.mp hz with e | hz
      · subst e
        exact h
      · exact ltC_trans h (h1 z hz)
    · rw [if_neg h]
      have hxy : x ≠ y := fun e => hn (e ▸ List.mem_cons_self ..)
      refine List.pairwise_cons.mpr ⟨fun z hz => ?_, insC_asc h2 fun m => hn (List.mem_cons_of_mem _ m)⟩
      rcases insC_mem.mp hz with e | hz
      · subst e
        exact ltC_tot h hxy
      · exact h1 z hz
theorem sortC_mem {z : Cell} : ∀ {l : List Cell}, z ∈ sortC l ↔ z ∈ l
  | [] => by simp [sortC]
  | x :: r => by
    show z ∈ insC x (sortC r) ↔ z ∈ x :: r
    rw [insC_mem, sortC_mem, List.mem_cons]
theorem sortC_len : ∀ {l : List Cell}, (sortC l).length = l.length
  | [] => rfl
  | x :: r => by
    show (insC x (sortC r)).length = _
    rw [insC_len, sortC_len, List.length_cons]
theorem sortC_asc : ∀ {l : List Cell}, l.Nodup → Asc (sortC l)
  | [], _ => List.Pairwise.nil
  | x :: r, h => by
    obtain ⟨h1, h2⟩ := List.nodup_cons.mp h
    exact insC_asc (sortC_asc h2) fun m => h1 (sortC_mem.mp m)
theorem sortC_of {l m : List Cell} (hl : l.Nodup) (hm : Asc m) (h : ∀ x, x ∈ m ↔ x ∈ l) : m = sortC l := asc_ext hm (sortC_asc hl) fun x => (h x).trans sortC_mem.symm
theorem sortC_asc_id {l : List Cell} (h : Asc l) : sortC l = l := (sortC_of h.nodup h fun _ => Iff.rfl).symm

/-! ### walking -/
def nbrs (c : Cell) : List Cell := dirs.map fun d => go c d 1
inductive Rc (free : List Cell) (m : Cell) : Cell → Prop
  | start : Rc free m m
  | step {x y : Cell} (h : Rc free m x) (n : y ∈ nbrs x) (f : y ∈ free) : Rc free m y
theorem Rc.free {free : List Cell} {m x : Cell} (hm : m ∈ free) (h : Rc free m x) : x ∈ free := by
  cases h with
  | start => exact hm
  | step _ _ f => exact f
noncomputable def reachL (free : List Cell) (m : Cell) : List Cell := free.filter fun x => @decide (Rc free m x) (Classical.propDecidable _)
theorem reachL_mem {free : List Cell} {m x : Cell} (hm : m ∈ free) : x ∈ reachL free m ↔ Rc free m x := by
  unfold reachL
  rw [List.mem_filter]
  constructor
  · rintro ⟨_, h⟩
    exact @of_decide_eq_true _ (Classical.propDecidable _) h
  · intro h
    exact ⟨h.free hm, @decide_eq_true _ (Classical.propDecidable _) h⟩
theorem reachL_asc {free : List Cell} {m : Cell} (h : Asc free) : Asc (reachL free m) := h.filter _
theorem reachL_sub {free : List Cell} {m x : Cell} (h : x ∈ reachL free m) : x ∈ free := (List.mem_filter.mp h).1
/-- new cells among ys, each once -/
def stp (free L : List Cell) (Ms : List Cell) (y : Cell) : List Cell := if y ∈ free ∧ y ∉ L ++ Ms then Ms ++ [y] else Ms
def newC (free L ys : List Cell) : List Cell := ys.foldl (stp free L) []
theorem newC_snoc (free L ys : List Cell) (y : Cell) : newC free L (ys ++ [y]) = stp free L (newC free L ys) y := by
  unfold newC
  rw [List.foldl_append]
  rfl
theorem stp_yes {free L Ms : List Cell} {y : Cell} (h1 : y ∈ free) (h2 : y ∉ L ++ Ms) : stp free L Ms y = Ms ++ [y] := if_pos ⟨h1, h2⟩
theorem stp_no {free L Ms : List Cell} {y : Cell} (h : ¬ (y ∈ free ∧ y ∉ L ++ Ms)) : stp free L Ms y = Ms := if_neg h
theorem newC_facts (free L : List Cell) (hL : L.Nodup) : ∀ (n : Nat) (ys : List Cell), ys.length = n → (L ++ newC free L ys).Nodup ∧ (∀ y ∈ newC free L ys, y ∈ ys ∧ y ∈ free) ∧ ∀ y ∈ ys, y ∈ free → y ∈ L ++ newC free L ys
  | 0, ys, h => by
    have e : ys = [] := List.length_eq_zero_iff.mp h
    subst e
    exact ⟨by simpa [newC] using hL, by simp [newC], by simp⟩
  | n + 1, ys, h => by
    have hne : ys ≠ [] := fun z => by
      subst z
      simp at h
    obtain ⟨y, hy⟩ : ∃ y, ys = ys.dropLast ++ [y] := ⟨ys.getLast hne, (List.dropLast_concat_getLast hne).symm⟩
    have hl : ys.dropLast.length = n := by
      rw [List.length_dropLast]
      omega
    generalize ys.dropLast = zs at hy hl
    subst hy
    obtain ⟨h1, h2, h3⟩ := newC_facts free L hL n zs hl
    rw [newC_snoc]
    by_cases c : y ∈ free ∧ y ∉ L ++ newC free L zs
    · rw [stp_yes c.1 c.2, ← List.append_assoc]
      refine ⟨List.nodup_append.mpr ⟨h1, by simp, fun a ha b hb e => ?_⟩, fun z hz => ?_, fun z hz hf => ?_⟩
      · rw [List.mem_singleton] at hb
        subst hb e
        exact c.2 ha
      · rcases List.mem_append.mp hz with hz | hz
        · exact ⟨List.mem_append_left _ (h2 z hz).1, (h2 z hz).2⟩
        · rw [List.mem_singleton] at hz
          subst hz
          exact ⟨by simp, c.1⟩
      · rcases List.mem_append.mp hz with hz | hz
        · exact List.mem_append_left _ (h3 z hz hf)
        · exact List.mem_append_right _ hz
    · rw [stp_no c]
      refine ⟨h1, fun z hz => ⟨List.mem_append_left _ (h2 z hz).1, (h2 z hz).2⟩, fun z hz hf => ?_⟩
      rcases List.mem_append.mp hz with hz | hz
      · exact h3 z hz hf
      · rw [List.mem_singleton] at hz
        subst hz
        exact Classical.byContradiction fun q => c ⟨hf, q⟩
/-- a walk half done: L is met, what of L is not in Ls is done -/
structure Half (free : List Cell) (m : Cell) (L Ls : List Cell) : Prop where
  nd : L.Nodup
  st : m ∈ L
  rc : ∀ x ∈ L, Rc free m x
  sub : ∀ x ∈ Ls, x ∈ L
  done : ∀ x ∈ L, x ∉ Ls → ∀ y ∈ nbrs x, y ∈ free → y ∈ L
theorem half_start {free : List Cell} {m : Cell} : Half free m [m] [m] :=
  ⟨by simp, by simp, fun x h => by rw [List.mem_singleton.mp h]; exact .start, fun _ h => h, fun x h n => absurd h n⟩
theorem Half.end {free L : List Cell} {m : Cell} (h : Half free m L []) (x : Cell) : x ∈ L ↔ Rc free m x := by
  refine ⟨h.rc x, fun r => ?_⟩
  induction r with
  | start => exact h.st
  | step r n f ih => exact h.done _ ih (by simp) _ n f
theorem len_sub : ∀ {L M : List Cell}, L.Nodup → (∀ x ∈ L, x ∈ M) → L.length ≤ M.length
  | [], _, _, _ => Nat.zero_le _
  | x :: L, M, h, s => by
    obtain ⟨h1, h2⟩ := List.nodup_cons.mp h
    have m := s x (List.mem_cons_self ..)
    have e := List.length_erase_of_mem m
    have p := List.length_pos_of_mem m
    have := len_sub (L := L) (M := M.erase x) h2 fun z hz => (List.mem_erase_of_ne fun q => h1 (by rw [← q]; exact hz)).mpr (s z (List.mem_cons_of_mem _ hz))
    rw [List.length_cons]
    omega
theorem Half.few {free L Ls : List Cell} {m : Cell} (h : Half free m L Ls) : L.length ≤ free.length + 1 := by
  have s : ∀ x ∈ L, x ∈ m :: free := fun x hx => by
    have r := h.rc x hx
    cases r with
    | start => exact List.mem_cons_self ..
    | step _ _ f => exact List.mem_cons_of_mem _ f
  have := len_sub h.nd s
  rw [List.length_cons] at this
  exact this
/-- a whole round -/
theorem Half.round {free L Ls : List Cell} {m : Cell} (h : Half free m L Ls) : Half free m (L ++ newC free L (Ls.flatMap nbrs)) (newC free L (Ls.flatMap nbrs)) := by
  obtain ⟨h1, h2, h3⟩ := newC_facts free L h.nd _ (Ls.flatMap nbrs) rfl
  refine ⟨h1, List.mem_append_left _ h.st, fun x hx => ?_, fun x hx => List.mem_append_right _ hx, fun x hx hn y hy hf => ?_⟩
  · rcases List.mem_append.mp hx with hx | hx
    · exact h.rc x hx
    · obtain ⟨a, b⟩ := h2 x hx
      obtain ⟨z, hz, hx2⟩ := List.mem_flatMap.mp a
      exact .step (h.rc z (h.sub z hz)) hx2 b
  · rcases List.mem_append.mp hx with hx | hx
    · by_cases c : x ∈ Ls
      · exact h3 y (List.mem_flatMap.mpr ⟨x, c, hy⟩) hf
      · exact List.mem_append_left _ (h.done x hx c y hy hf)
    · exact absurd hx hn
/-- one cell -/
theorem Half.one {free L Ls : List Cell} {m x0 : Cell} (h : Half free m L (Ls ++ [x0])) : Half free m (L ++ newC free L (nbrs x0)) (Ls ++ newC free L (nbrs x0)) := by
  obtain ⟨h1, h2, h3⟩ := newC_facts free L h.nd _ (nbrs x0) rfl
  refine ⟨h1, List.mem_append_left _ h.st, fun x hx => ?_, fun x hx => ?_, fun x hx hn y hy hf => ?_⟩
  · rcases List.mem_append.mp hx with hx | hx
    · exact h.rc x hx
    · obtain ⟨a, b⟩ := h2 x hx
      exact .step (h.rc x0 (h.sub x0 (by simp))) a b
  · rcases List.mem_append.mp hx with hx | hx
    · exact List.mem_append_left _ (h.sub x (List.mem_append_left _ hx))
    · exact List.mem_append_right _ hx
  · rcases List.mem_append.mp hx with hx | hx
    · by_cases c : x = x0
      · subst c
        exact h3 y hy hf
      · refine List.mem_append_left _ (h.done x hx (fun q => ?_) y hy hf)
        rcases List.mem_append.mp q with q | q
        · exact hn (List.mem_append_left _ q)
        · exact c (List.mem_singleton.mp q)
    · exact absurd (List.mem_append_right _ hx) hn
end CR
/-! More rules: rows of data, sorting of cells, tuple targets, list methods. -/
namespace CR
open PySem PySem.Spec PyProof.Rows L2
/-! ### sorting -/
theorem im_cell_inj {H : Hp} {v : V} {c c' : Cell} (h : Im H v (cD c)) (h' : Im H v (cD c')) : c = c' := by
  obtain ⟨t, e, g⟩ := im_cell.mp h
  obtain ⟨t', e', g'⟩ := im_cell.mp h'
  subst e
  cases e'
  rw [g] at g'
  have z := Option.some.inj g'
  injection z with z
  injection z with z1 z2
  injection z2 with z2 z3
  injection z1 with z1
  injection z2 with z2
  exact Prod.ext z1 z2
open Classical in
noncomputable def kOf (H : Hp) (v : V) : Cell := if h : ∃ c : Cell, Im H v (cD c) then h.choose else (0, 0)
theorem kOf_im {H : Hp} {v : V} {c : Cell} (h : Im H v (cD c)) : kOf H v = c := by
  have e : ∃ c : Cell, Im H v (cD c) := ⟨c, h⟩
  unfold kOf
  rw [dif_pos e]
  exact im_cell_inj e.choose_spec h
theorem map_kOf {H : Hp} : ∀ {vs : List V} {cs : List Cell}, ImL H vs (cs.map cD) → vs.map (kOf H) = cs
  | [], [], _ => rfl
  | [], _ :: _, h => by cases h
  | _ :: _, [], h => by cases h
  | v :: vs, c :: cs, h => by
    cases h with
    | cons a t => rw [List.map_cons, kOf_im a, map_kOf t]
theorem iml_all {H : Hp} : ∀ {vs : List V}, (∀ v ∈ vs, ∃ c : Cell, Im H v (cD c)) → ImL H vs ((vs.map (kOf H)).map cD)
  | [], _ => .nil
  | v :: vs, h => by
    obtain ⟨c, hc⟩ := h v (List.mem_cons_self ..)
    refine .cons ?_ (iml_all fun x hx => h x (List.mem_cons_of_mem _ hx))
    rw [kOf_im hc]
    exact hc
theorem iml_mem {H : Hp} {vs : List V} {cs : List Cell} (h : ImL H vs (cs.map cD)) {v : V} (hv : v ∈ vs) : ∃ c : Cell, Im H v (cD c) := by
  obtain ⟨i, hi, e⟩ := List.mem_iff_getElem.mp hv
  obtain ⟨d, h1, h2⟩ := paired_get h (show vs[i]? = some v by rw [List.getElem?_eq_getElem hi, e])
  rw [List.getElem?_map] at h1
  obtain ⟨c, _, e2⟩ := Option.map_eq_some_iff.mp h1
  exact ⟨c, by rw [e2]; exact h2⟩
theorem srt_asc {H : Hp} : ∀ {ys : List V}, SrtO.Srtd (ltP (kOf H)) ys → (ys.map (kOf H)).Nodup → Asc (ys.map (kOf H))
  | [], _, _ => .nil
  | y :: ys, h, n => by
    obtain ⟨h1, h2⟩ := List.pairwise_cons.mp h
    rw [List.map_cons] at n ⊢
    obtain ⟨n1, n2⟩ := List.nodup_cons.mp n
    refine List.pairwise_cons.mpr ⟨fun z hz => ?_, srt_asc h2 n2⟩
    obtain ⟨v, hv, e⟩ := List.mem_map.mp hz
    have g := SrtO.lexB_no.mp (h1 v hv)
    refine ltC_tot (fun q => g ?_) (fun q => n1 ?_)
    · rw [← e] at q
      exact q
    · rw [← q]
      exact hz
/-- sorted of a list of unlike cells -/
theorem cr_sortedC {X : Cx} : CallR X (.builtin "sorted") (fun xs H Q => ∃ (l : Addr) (vs : List V) (cs : List Cell), xs = [.ref l] ∧ SqL X.K H l vs ∧ ImL H vs (cs.map cD) ∧ cs.Nodup ∧
    ∀ p ys, H p = none → ImL H ys ((sortC cs).map cD) → Q (.ref p) (upd H p (.lst ys))) := by
  intro pins s σ H xs us Q I r h
  obtain ⟨l, vs, cs, e, hl, hs, nd, q⟩ := h
  refine cr_sortedPO pins s σ H xs us Q I r ⟨l, vs, kOf H, e, hl, fun x hx => ?_, fun ys p h1 h2 hp => q p ys hp ?_⟩
  · obtain ⟨c, hc⟩ := iml_mem hs hx
    rw [kOf_im hc]
    exact im_cell.mp hc
  · have pm : (ys.map (kOf H)).Perm cs := by
      have := h2.perm.map (kOf H)
      rw [map_kOf hs] at this
      exact this
    have asc := srt_asc h1 (pm.nodup_iff.mpr nd)
    rw [← sortC_of nd asc fun x => pm.mem_iff]
    exact iml_all fun v hv => iml_mem hs (h2.perm.mem_iff.mp hv)
/-! ### rows of data that are lists -/
def LsE {α : Type} (K : PySem.W.Frag) (H : Hp) (enc : α → PyData) (v : V) (cs : List α) : Prop := ∃ l vs, v = .ref l ∧ SqL K H l vs ∧ ImL H vs (cs.map enc)
theorem LsE.mono {α : Type} {K : PySem.W.Frag} {H H' : Hp} {enc : α → PyData} {v : V} {cs : List α} (s : Same H H') (h : LsE K H enc v cs) : LsE K H' enc v cs := by
  obtain ⟨l, vs, e, h1, h2⟩ := h
  exact ⟨l, vs, e, s.seq h1, h2.mono (TS.of s)⟩
theorem LsE.row {α : Type} {K : PySem.W.Frag} {H : Hp} {enc : α → PyData} {v : V} {cs : List α} (h : LsE K H enc v cs) : RowE K H enc v cs := by
  obtain ⟨l, vs, e, h1, h2⟩ := h
  exact ⟨l, vs, e, .inl h1, h2⟩
theorem LsE.sqn {α : Type} {K : PySem.W.Frag} {H : Hp} {enc : α → PyData} {v : V} {cs : List α} (h : LsE K H enc v cs) : SqN K H v cs.length := by
  obtain ⟨l, vs, e, h1, h2⟩ := h
  exact ⟨l, vs, e, .inl h1, by rw [Paired.length h2, List.length_map]⟩
theorem LsE.get {α : Type} {K : PySem.W.Frag} {H : Hp} {enc : α → PyData} {v : V} {cs : List α} {i : Nat} {c : α} (h : LsE K H enc v cs) (hc : cs[i]? = some c) : ∃ l ys y, v = .ref l ∧ SqL K H l ys ∧ ys[i]? = some y ∧ Im H y (enc c) := by
  obtain ⟨l, vs, e, h1, h2⟩ := h
  obtain ⟨y, hy, im⟩ := paired_get' h2 (show (cs.map enc)[i]? = some (enc c) by rw [List.getElem?_map, hc]; rfl)
  exact ⟨l, vs, y, e, h1, hy, im⟩
theorem lsS {α : Type} {K : PySem.W.Frag} {enc : α → PyData} {cs : List α} (v : V) (H H' : Hp) (s : Same H H') (h : LsE K H enc v cs) : LsE K H' enc v cs := h.mono s
section
variable {X : Cx} {σ : L2.St} {H : Hp} {a b c e o : Expr} {es : List Expr} {pos p p2 apos : Pos} {D : Ends} {α : Type} {enc : α → PyData}
theorem vpSorted {cs : List Cell} (hm : X.mg "sorted" = none) (nd : cs.Nodup) (he : VP X e σ H fun v H' => LsE X.K H' cD v cs) (hg : Gl X "sorted" := by rfl) (hst : starEach (e :: []) X.env = (false, eval e X.env) :: starEach [] X.env := by rfl) (hpl : (backTo pos (starEach [] X.env)).any (·.1) = false := by rfl) :
    VP X (.Call (.Name "sorted" p) [e] [] pos) σ H (fun v H' => LsE X.K H' cD v (sortC cs)) := fun Q q => wCallB cr_sortedC hm (by decide +kernel) (wACons (he _ fun v H1 s1 h1 => by
  obtain ⟨l, vs, e1, h2, h3⟩ := h1
  subst e1
  exact wANil ⟨l, vs, cs, rfl, h2, h3, nd, fun p ys hp hy => q _ _ (s1.trans (Same.new hp)) ⟨p, ys, rfl, sqL upd_same, hy.mono (TS.new hp)⟩⟩) hst) hg (he := hst) (hpl := hpl)
theorem vpTupOf {cs : List α} (hm : X.mg "tuple" = none) (he : VP X e σ H fun v H' => LsE X.K H' enc v cs) (hg : Gl X "tuple" := by rfl) (hst : starEach (e :: []) X.env = (false, eval e X.env) :: starEach [] X.env := by rfl) (hpl : (backTo pos (starEach [] X.env)).any (·.1) = false := by rfl) :
    VP X (.Call (.Name "tuple" p) [e] [] pos) σ H (fun v H' => Im H' v (.tuple (cs.map enc))) := fun Q q => wCallTy call_tuple_of hm (by decide +kernel) (wACons (he _ fun v H1 s1 h1 => by
  obtain ⟨l, vs, e1, h2, h3⟩ := h1
  subst e1
  exact wANil ⟨l, vs, rfl, .inl ⟨h2, fun p hp => q _ _ (s1.trans (Same.new hp)) (.tup upd_same (h3.mono (TS.new hp)))⟩⟩) hst) hg (he := hst) (hpl := hpl)
/-- list(row), the list new -/
theorem wListOf {cs : List α} {Q : VK} (hm : X.mg "list" = none) (he : VP X e σ H fun v H' => RowE X.K H' enc v cs) (q : ∀ p ys H', Same H H' → H' p = none → ImL H' ys (cs.map enc) → Q (.ref p) (upd H' p (.lst ys))) (hg : Gl X "list" := by rfl) (hst : starEach (e :: []) X.env = (false, eval e X.env) :: starEach [] X.env := by rfl) (hpl : (backTo pos (starEach [] X.env)).any (·.1) = false := by rfl) :
    wE X (.Call (.Name "list" p) [e] [] pos) σ H Q := wCallTy call_list_of hm (by decide +kernel) (wACons (he _ fun v H1 s1 h1 => by
  obtain ⟨l, vs, e1, h2, h3⟩ := h1
  subst e1
  exact wANil ⟨l, vs, rfl, h2, fun p hp => q p vs H1 s1 hp h3⟩) hst) hg (he := hst) (hpl := hpl)
theorem vpPair {d1 d2 : PyData} {x1 : Nat} (ha : VP X a σ H fun v H' => Im H' v d1) (hb : ∀ H', Same H H' → VP X b σ H' fun v H'' => Im H'' v d2) (hs : starEach [a, b] X.env = (false, eval a X.env) :: starEach [b] X.env := by rfl) (hs2 : starEach [b] X.env = (false, eval b X.env) :: starEach [] X.env := by rfl) :
    VP X (.Tuple [a, b] x1 pos) σ H (fun v H' => Im H' v (.tuple [d1, d2])) := fun Q q => wTup (wACons (ha _ fun v H1 s1 h1 => wACons (hb H1 s1 _ fun u H2 s2 h2 => wANil ⟨by show 2 ≤ sizeLine; decide, fun p hp => q _ _ ((s1.trans s2).trans (Same.new hp)) (.tup upd_same (.cons (h1.mono ((TS.of s2).trans (TS.new hp))) (.cons (h2.mono (TS.new hp)) .nil)))⟩) hs2) hs)
/-- (int, int) -/
theorem vpCell {i j : Int} {x1 : Nat} (ha : VP X a σ H fun v _ => v = .int i) (hb : ∀ H', Same H H' → VP X b σ H' fun v _ => v = .int j) (hs : starEach [a, b] X.env = (false, eval a X.env) :: starEach [b] X.env := by rfl) (hs2 : starEach [b] X.env = (false, eval b X.env) :: starEach [] X.env := by rfl) :
    VP X (.Tuple [a, b] x1 pos) σ H (fun v H' => Im H' v (cD (i, j))) := vpPair (VP.mono ha fun v H' _ e => by rw [e]; exact .int i) (fun H1 s1 => VP.mono (hb H1 s1) fun v H' _ e => by rw [e]; exact .int j) hs hs2
/-- the parts of a cell -/
theorem cell_at0 {K : PySem.W.Frag} {H : Hp} {v : V} {c : Cell} (h : Im H v (cD c)) : ∃ l ys y, v = .ref l ∧ SqT K H l ys ∧ ys[0]? = some y ∧ y = .int c.1 := by
  obtain ⟨t, e, g⟩ := im_cell.mp h
  exact ⟨t, _, _, e, sqT g, rfl, rfl⟩
theorem cell_at1 {K : PySem.W.Frag} {H : Hp} {v : V} {c : Cell} (h : Im H v (cD c)) : ∃ l ys y, v = .ref l ∧ SqT K H l ys ∧ ys[1]? = some y ∧ y = .int c.2 := by
  obtain ⟨t, e, g⟩ := im_cell.mp h
  exact ⟨t, _, _, e, sqT g, rfl, rfl⟩
theorem vpC0 {c : Cell} {j : Nat} (he : VP X e σ H fun v H' => Im H' v (cD c)) : VP X (.Subscript e (.Constant (.int 0) j p) pos) σ H (fun v _ => v = .int c.1) := vpIxT (i := 0) (VP.mono he fun _ _ _ h => cell_at0 h) (fun _ _ => vpInt) fun _ _ _ _ h => h
theorem vpC1 {c : Cell} {j : Nat} (he : VP X e σ H fun v H' => Im H' v (cD c)) : VP X (.Subscript e (.Constant (.int 1) j p) pos) σ H (fun v _ => v = .int c.2) := vpIxT (i := 1) (VP.mono he fun _ _ _ h => cell_at1 h) (fun _ _ => vpInt) fun _ _ _ _ h => h
/-- the two parts of a pair of data -/
theorem pair0 {K : PySem.W.Frag} {H : Hp} {v : V} {d1 d2 : PyData} (h : Im H v (.tuple [d1, d2])) : ∃ l ys y, v = .ref l ∧ SqT K H l ys ∧ ys[0]? = some y ∧ Im H y d1 := by
  obtain ⟨t, vs, e, g, hs⟩ := im_tup h
  cases hs with
  | cons a t => exact ⟨_, _, _, e, sqT g, rfl, a⟩
theorem pair1 {K : PySem.W.Frag} {H : Hp} {v : V} {d1 d2 : PyData} (h : Im H v (.tuple [d1, d2])) : ∃ l ys y, v = .ref l ∧ SqT K H l ys ∧ ys[1]? = some y ∧ Im H y d2 := by
  obtain ⟨t, vs, e, g, hs⟩ := im_tup h
  cases hs with
  | cons a t =>
    cases t with
    | cons b t => exact ⟨_, _, _, e, sqT g, rfl, b⟩
theorem vpP0 {d1 d2 : PyData} {j : Nat} (he : VP X e σ H fun v H' => Im H' v (.tuple [d1, d2])) : VP X (.Subscript e (.Constant (.int 0) j p) pos) σ H (fun v H' => Im H' v d1) := vpIxT (i := 0) (VP.mono he fun _ _ _ h => pair0 h) (fun _ _ => vpInt) imS
theorem vpP1 {d1 d2 : PyData} {j : Nat} (he : VP X e σ H fun v H' => Im H' v (.tuple [d1, d2])) : VP X (.Subscript e (.Constant (.int 1) j p) pos) σ H (fun v H' => Im H' v d2) := vpIxT (i := 1) (VP.mono he fun _ _ _ h => pair1 h) (fun _ _ => vpInt) imS
theorem pair_tup {H : Hp} {v : V} {d1 d2 : PyData} (h : Im H v (.tuple [d1, d2])) : ∃ l x y, v = .ref l ∧ H l = some (.tup [x, y]) ∧ Im H x d1 ∧ Im H y d2 := by
  obtain ⟨t, vs, e, g, hs⟩ := im_tup h
  cases hs with
  | cons a t =>
    cases t with
    | cons b t =>
      cases t
      exact ⟨_, _, _, e, g, a, b⟩
/-! ### targets of several names -/
theorem gT2 {x1 : Nat} {v : V} {R : L2.St → Hp → Prop} (hc : X.calm = true) (h : ∃ l x y, v = .ref l ∧ SqT X.K H l [x, y] ∧ wG X a x σ H fun σ1 H1 => wG X b y σ1 H1 R)
    (hs1 : (assignEach [a, b] X.env).map (·.2) = assign a X.env :: (assignEach [b] X.env).map (·.2) := by rfl) (hs2 : (assignEach [b] X.env).map (·.2) = assign b X.env :: (assignEach [] X.env).map (·.2) := by rfl)
    (hn : (assignEach [a, b] X.env).length = 2 := by rfl) (hst : (assignEach [a, b] X.env).findIdx? (·.1) = none := by rfl) : wG X (.Tuple [a, b] x1 pos) v σ H R := by
  obtain ⟨l, x, y, e, hl, q⟩ := h
  exact oG (pg_tup hc (pgs_cons pG (pgs_cons pG pgs_nil hs2) hs1) hn hst) ⟨l, [x, y], e, hl, rfl, x, [y], rfl, wG_mono q fun σ1 H1 q1 => ⟨y, [], rfl, wG_mono q1 fun σ2 H2 q2 => ⟨rfl, q2⟩⟩⟩
theorem gT3 {x1 : Nat} {v : V} {R : L2.St → Hp → Prop} (hc : X.calm = true) (h : ∃ l x y z, v = .ref l ∧ SqT X.K H l [x, y, z] ∧ wG X a x σ H fun σ1 H1 => wG X b y σ1 H1 fun σ2 H2 => wG X c z σ2 H2 R)
    (hs1 : (assignEach [a, b, c] X.env).map (·.2) = assign a X.env :: (assignEach [b, c] X.env).map (·.2) := by rfl) (hs2 : (assignEach [b, c] X.env).map (·.2) = assign b X.env :: (assignEach [c] X.env).map (·.2) := by rfl) (hs3 : (assignEach [c] X.env).map (·.2) = assign c X.env :: (assignEach [] X.env).map (·.2) := by rfl)
    (hn : (assignEach [a, b, c] X.env).length = 3 := by rfl) (hst : (assignEach [a, b, c] X.env).findIdx? (·.1) = none := by rfl) : wG X (.Tuple [a, b, c] x1 pos) v σ H R := by
  obtain ⟨l, x, y, z, e, hl, q⟩ := h
  exact oG (pg_tup hc (pgs_cons pG (pgs_cons pG (pgs_cons pG pgs_nil hs3) hs2) hs1) hn hst) ⟨l, [x, y, z], e, hl, rfl, x, [y, z], rfl, wG_mono q fun σ1 H1 q1 => ⟨y, [z], rfl, wG_mono q1 fun σ2 H2 q2 => ⟨z, [], rfl, wG_mono q2 fun σ3 H3 q3 => ⟨rfl, q3⟩⟩⟩⟩
/-- a, b = x, y: two locals; a, b, c = .. -/
theorem sPar (i j : Nat) {x y : Str} {px py pt : Pos} {kt k2 : Nat} {pt2 : Pos} (hc : X.calm = true) (hN : X.N.Nodup) (h : wA X [a, b] σ H fun vs H1 => ∃ v w, vs = [v, w] ∧ D.nx ((σ.set i (some v)).set j (some w)) H1) (hi : X.N[i]? = some x := by rfl) (hj : X.N[j]? = some y := by rfl) (hij : i ≠ j := by decide)
    (hx : X.env.scope.names.lookup x = some .local := by rfl) (hy : X.env.scope.names.lookup y = some .local := by rfl)
    (hw : swappedStores [.Tuple [.Name x px, .Name y py] kt pt] (.Tuple [a, b] k2 pt2) X.env = pure (some [x, y]) := by rfl) (hs : swapsWithSole [.Tuple [.Name x px, .Name y py] kt pt] (.Tuple [a, b] k2 pt2) pos.line X.env = pure false := by rfl) :
    wS X (.Assign [.Tuple [.Name x px, .Name y py] kt pt] (.Tuple [a, b] k2 pt2) pos) D σ H := oS (ps_par hc hN hi hj hij hx hy pA hw hs) h
theorem sPar3 (i j l : Nat) {x y z : Str} {px py pz pt : Pos} {kt k2 : Nat} {pt2 : Pos} (hc : X.calm = true) (hN : X.N.Nodup) (h : wA X [a, b, c] σ H fun vs H1 => ∃ u v w, vs = [u, v, w] ∧ D.nx (((σ.set i (some u)).set j (some v)).set l (some w)) H1) (hi : X.N[i]? = some x := by rfl) (hj : X.N[j]? = some y := by rfl) (hl : X.N[l]? = some z := by rfl) (hij : i ≠ j := by decide) (hil : i ≠ l := by decide) (hjl : j ≠ l := by decide)
    (hx : X.env.scope.names.lookup x = some .local := by rfl) (hy : X.env.scope.names.lookup y = some .local := by rfl) (hz : X.env.scope.names.lookup z = some .local := by rfl)
    (hw : swappedStores [.Tuple [.Name x px, .Name y py, .Name z pz] kt pt] (.Tuple [a, b, c] k2 pt2) X.env = pure (some [x, y, z]) := by rfl) (hs : swapsWithSole [.Tuple [.Name x px, .Name y py, .Name z pz] kt pt] (.Tuple [a, b, c] k2 pt2) pos.line X.env = pure false := by rfl) :
    wS X (.Assign [.Tuple [.Name x px, .Name y py, .Name z pz] kt pt] (.Tuple [a, b, c] k2 pt2) pos) D σ H := oS (ps_par3 hc hN hi hj hl hij hil hjl hx hy hz pA hw hs) h
/-! ### methods of lists -/
/-- xs.append(e), xs in slot i -/
theorem sApp (i : Nat) {x : Str} {l : Addr} {xp : Pos} (hs : σ[i]? = some (some (.ref l))) (hl : ∃ xs, H l = some (.lst xs)) (h : wE X e σ H fun v H1 => ∃ acc, H1 l = some (.lst acc) ∧ acc.length < sizeLine ∧ D.nx σ (upd H1 l (.lst (acc ++ [v])))) (hN : X.N[i]? = some x := by rfl) (hv : Vis X.env.scope x := by first | exact Or.inl rfl | exact Or.inr (Or.inl rfl) | exact Or.inr (Or.inr rfl))
    (hd : (x == ("__debug__" : Str)) = false := by decide) (hcd : (x == ("__classdict__" : Str)) = false := by decide)
    (hbase : attributeBase (.Name x xp) "append" X.env (eval (.Name x xp) X.env) = eval (.Name x xp) X.env := by rfl)
    (hfew : ((backTo p (starEach (e :: []) X.env)).all (fun x => !x.1) && (backToKw p (keywordEach [] X.env)).all (fun x => x.1.isSome) && decide ((e :: []).length + ([] : List Keyword).length + (if ([] : List Keyword).isEmpty then 0 else 1) < 30)) = true := by rfl)
    (hline : (apos.endLine == p.line) = true := by rfl) (hst : starEach (e :: []) X.env = (false, eval e X.env) :: starEach [] X.env := by rfl) (hplain : (backTo p (starEach [] X.env)).any (·.1) = false := by rfl)
    (hsw : swapsWith (.Call (.Attribute (.Name x xp) "append" apos) [e] [] p) none pos.line X.env = pure false := by rfl) :
    wS X (.Expr (.Call (.Attribute (.Name x xp) "append" apos) [e] [] p) pos) D σ H :=
  sExpr (oE (pe_bm PySem.F.plainAttrs_list PySem.F.slot_list_append PySem.F.type_list_append mt_append pE pA hbase hfew hline hst hplain)
    (wVar i hs (by
      obtain ⟨xs, hl⟩ := hl
      exact ⟨.inl ⟨rfl, xs, sqL hl⟩, wACons (wE_mono h fun v H1 ⟨acc, h1, h2, q⟩ => wANil ⟨l, acc, v, rfl, rfl, h1, h2, q⟩) hst⟩) hN hv hd hcd)) hsw
/-- xs.pop(), xs.pop(i), xs in slot i -/
theorem wPop (i : Nat) {x : Str} {l : Addr} {xp : Pos} {Q : VK} {xs : List V} {y : V} (hs : σ[i]? = some (some (.ref l))) (hl : H l = some (.lst (xs ++ [y]))) (h : Q y (upd H l (.lst xs))) (hN : X.N[i]? = some x := by rfl) (hv : Vis X.env.scope x := by first | exact Or.inl rfl | exact Or.inr (Or.inl rfl) | exact Or.inr (Or.inr rfl))
    (hd : (x == ("__debug__" : Str)) = false := by decide) (hcd : (x == ("__classdict__" : Str)) = false := by decide)
    (hbase : attributeBase (.Name x xp) "pop" X.env (eval (.Name x xp) X.env) = eval (.Name x xp) X.env := by rfl) (hline : (apos.endLine == p.line) = true := by rfl) :
    wE X (.Call (.Attribute (.Name x xp) "pop" apos) [] [] p) σ H Q :=
  oE (pe_bm0 PySem.F.plainAttrs_list PySem.F.slot_list_pop PySem.F.type_list_pop mt_pop pE hbase hline)
    (wVar i hs ⟨.inl ⟨rfl, _, sqL hl⟩, l, _, y, rfl, rfl, hl, by simp, by rw [List.dropLast_concat]; exact h⟩ hN hv hd hcd)
theorem seqIx {k n : Nat} (hk : k < n) : seqIndex? (k : Int) n = some k := by
  unfold seqIndex?
  have e0 : ¬ ((k : Int) < 0) := by omega
  simp [e0, hk]
theorem wPopAt (i : Nat) {x : Str} {l : Addr} {xp : Pos} {Q : VK} (hs : σ[i]? = some (some (.ref l))) (hl : ∃ xs, H l = some (.lst xs)) (h : wE X e σ H fun v H1 => ∃ (xs : List V) (k : Nat) (y : V), v = .int k ∧ H1 l = some (.lst xs) ∧ xs[k]? = some y ∧ xs.length < 1000000 ∧ Q y (upd H1 l (.lst (xs.eraseIdx k)))) (hN : X.N[i]? = some x := by rfl) (hv : Vis X.env.scope x := by first | exact Or.inl rfl | exact Or.inr (Or.inl rfl) | exact Or.inr (Or.inr rfl))
    (hd : (x == ("__debug__" : Str)) = false := by decide) (hcd : (x == ("__classdict__" : Str)) = false := by decide)
    (hbase : attributeBase (.Name x xp) "pop" X.env (eval (.Name x xp) X.env) = eval (.Name x xp) X.env := by rfl)
    (hfew : ((backTo p (starEach (e :: []) X.env)).all (fun x => !x.1) && (backToKw p (keywordEach [] X.env)).all (fun x => x.1.isSome) && decide ((e :: []).length + ([] : List Keyword).length + (if ([] : List Keyword).isEmpty then 0 else 1) < 30)) = true := by rfl)
    (hline : (apos.endLine == p.line) = true := by rfl) (hst : starEach (e :: []) X.env = (false, eval e X.env) :: starEach [] X.env := by rfl) (hplain : (backTo p (starEach [] X.env)).any (·.1) = false := by rfl) :
    wE X (.Call (.Attribute (.Name x xp) "pop" apos) [e] [] p) σ H Q :=
  oE (pe_bm PySem.F.plainAttrs_list PySem.F.slot_list_pop PySem.F.type_list_pop mt_popAt pE pA hbase hfew hline hst hplain)
    (wVar i hs (by
      obtain ⟨xs, hl⟩ := hl
      exact ⟨.inl ⟨rfl, xs, sqL hl⟩, wACons (wE_mono h fun v H1 ⟨xs, k, y, ev, h1, h2, h3, q⟩ => wANil (X := X) (by
        have hk : k < xs.length := by
          rcases Nat.lt_or_ge k xs.length with z | z
          · exact z
          · rw [List.getElem?_eq_none z] at h2
            cases h2
        exact ⟨l, xs, k, k, y, rfl, by rw [ev], h1, by omega, by omega, seqIx hk, h2, q⟩)) hst⟩) hN hv hd hcd)
end
end CR
namespace CR
open PySem PySem.Spec PyProof.Rows L2
/-- the step of a letter -/
theorem steps_at {K : PySem.W.Frag} {w : World} {mg : Str → Option Value} (T : Facts K w mg) : ∃ (dct : Addr), mg "STEPS" = some (.ref dct) ∧ (∀ d : Dir, ∃ a : Addr, KDct K w dct d.str (.ref a) ∧ ∀ H : Hp, SqT K H a [.int d.dr, .int d.dc]) ∧
    ∃ (es : Array DictEntry) (n : Nat), KDict K w dct es n ∧ KeyRow es (dirs.map Dir.str) ∧ PySem.W.nsIn K dct "x" = some none ∧ PySem.W.nsIn K dct "E" = some none ∧ ∀ d : Dir, ∃ u, PySem.W.nsIn K dct d.str = some (some u) := by
  obtain ⟨dct, es, n, D, he, hn, hs, hw⟩ := T.steps
  have go1 : ∀ (x : Str) (u : Value) (i j : Int), PySem.W.nsIn K dct x = some (some u) → KPair K u i j → ∃ a : Addr, KDct K w dct x (.ref a) ∧ ∀ H : Hp, SqT K H a [.int i, .int j] := by
    intro x u i j h1 h2
    obtain ⟨a, o, t1, t2, m, e, hl, hc, hd⟩ := h2
    subst e
    refine ⟨a, ⟨es, n, _, D.kd.at_, D.kd.lit, h1, rfl⟩, fun H => .inr ⟨o, _, m, hl, hc, hd, by show 2 ≤ sizeLine; decide, .cons ⟨_, rfl⟩ (.cons ⟨_, rfl⟩ .nil)⟩⟩
  obtain ⟨u1, a1, b1⟩ := he
  obtain ⟨u2, a2, b2⟩ := hn
  obtain ⟨u3, a3, b3⟩ := hs
  obtain ⟨u4, a4, b4⟩ := hw
  obtain ⟨t1, t2, t3, t4, hk⟩ := D.keys
  refine ⟨dct, D.g, fun d => ?_, es, n, D.kd, keyRow4 hk, D.nx, D.nE, fun d => ?_⟩
  · cases d
    · exact go1 _ _ _ _ a1 b1
    · exact go1 _ _ _ _ a2 b2
    · exact go1 _ _ _ _ a3 b3
    · exact go1 _ _ _ _ a4 b4
  · cases d
    · exact ⟨_, a1⟩
    · exact ⟨_, a2⟩
    · exact ⟨_, a3⟩
    · exact ⟨_, a4⟩
variable {P : Program} {w : World} {K : PySem.W.Frag} {mg : Str → Option Value} {base : Heap}
def spBeside : Sp := fun vs H Q _ => ∃ (v : V) (c : Cell) (d : Dir) (m : Int), vs = [v, .str d.str, .int m] ∧ Im H v (cD c) ∧ (-100 ≤ m ∧ m ≤ 100) ∧ ∀ r H', Same H H' → Im H' r (cD (go c d m)) → Q r H'
theorem scBeside : FnScope ["cell", "letter", "many", "step"] ["cell", "letter", "many"] (defScope sBeside) := ⟨rfl, rfl, rfl, by decide +kernel, rfl, by decide +kernel, by decide +kernel⟩
theorem ok_beside_0 (T : Facts K w mg) : ∃ (f : Addr) (fd : FuncData), FunD K "beside" "beside" (defArgs sBeside) (defBody sBeside) (defScope sBeside) [.int 1] [] f fd ∧ mg "beside" = some (.ref f) ∧ FnOk P w K mg base CX0 1 f fd ["cell", "letter", "many"] spBeside := by
  obtain ⟨f, fd, F, g⟩ := T.d_beside
  refine ⟨f, fd, F, g, F.ok scBeside (fun vs H Q E h => ?_) (fun cdv A outer s H vs Q E hr h => ⟨_, pSs, ?_⟩)⟩
  · obtain ⟨v, c, d, m, rfl, _⟩ := h
    rfl
  · obtain ⟨v, c, d, m, rfl, hv, hm, q⟩ := h
    obtain ⟨dct, gS, hS, _⟩ := steps_at T
    obtain ⟨a, kd, ha⟩ := hS d
    refine sCons (sSet 3 ?_ scBeside.nd)
    refine wIx ix_kdict (wGlob (v := .ref dct) gS rfl (wVar 1 rfl ⟨dct, _, _, rfl, rfl, kd, ?_⟩))
    refine sOne (sRet (VP.run (vpCell (i := c.1 + m * d.dr) (j := c.2 + m * d.dc) ?_ ?_) fun v H' s h => q v H' s h))
    · exact vpAdd (vpC0 (vpVar 0 rfl hv)) fun H1 s1 => vpMul (.inl (by omega)) (vpVar 2 rfl rfl) fun H2 s2 => vpIxT (i := 0) (P := fun v _ => v = .int d.dr) (vpVar 3 rfl ⟨a, _, _, rfl, ha _, rfl, rfl⟩) (fun _ _ => vpInt) eqS
    · exact fun H1 s1 => vpAdd (vpC1 (vpVar 0 rfl (hv.mono (TS.of s1)))) fun H2 s2 => vpMul (.inl (by omega)) (vpVar 2 rfl rfl) fun H3 s3 => vpIxT (i := 1) (P := fun v _ => v = .int d.dc) (vpVar 3 rfl ⟨a, _, _, rfl, ha _, rfl, rfl⟩) (fun _ _ => vpInt) eqS
theorem ok_beside1 (T : Facts K w mg) : Fn P w K mg base CX0 "beside" 1 [.int 1] spBeside := by
  obtain ⟨f, fd, F, g, ok⟩ := ok_beside_0 (P := P) (base := base) T
  obtain ⟨ds, h1, h2⟩ := F.binds1 (ps := ["cell", "letter", "many"]) 2 0 (by simp) rfl (fun Tt kV doc pm an cdv ct us its h1 h2 => by
    match us, its, h1, h2 with
    | [u1, u2], [i1], _, _ => exact ⟨_, rfl, rfl⟩)
  exact ⟨f, fd, _, ds, ok, g, F.kp, h2, h1⟩
theorem ok_beside0 (T : Facts K w mg) : Fn P w K mg base CX0 "beside" 1 [] spBeside := by
  obtain ⟨f, fd, F, g, ok⟩ := ok_beside_0 (P := P) (base := base) T
  obtain ⟨ds, h1, h2⟩ := F.binds1 (ps := ["cell", "letter", "many"]) 3 1 (by simp) rfl (fun Tt kV doc pm an cdv ct us its h1 h2 => by
    match us, its, h1, h2 with
    | [u1, u2, u3], [i1], _, _ => exact ⟨_, rfl, rfl⟩)
  exact ⟨f, fd, _, ds, ok, g, F.kp, h2, h1⟩
/-! ### Ground -/
theorem sFld' {X : Cx} {σ : L2.St} {H : Hp} {D : Ends} {o value : Expr} {f : Str} {pos pos' : Pos} (h : wE X value σ H fun y H1 => wE X o σ H1 fun x H2 => ∃ a C dx fs, x = .ref a ∧ H2 a = some (.ins C dx fs) ∧ Cls X.K C ∧ NoAttr X.K C f ∧ fs.length < 1000 ∧ D.nx σ (upd H2 a (.ins C dx (putF f y fs))))
    (hs : swapsWith value (some (.Attribute o f pos')) pos.line X.env = pure false := by rfl) : wS X (.Assign [.Attribute o f pos'] value pos) D σ H := oS (ps_fld pE pE hs) h
/-- an instance, with what its cells are -/
def spInit (C : Addr) : Sp := fun vs H Q _ => ∃ (x dx : Addr) (v : V) (rows : List Str) (m : Cell) (H0 : Hp), vs = [.ref x, v] ∧ H0 x = none ∧ Same H0 H ∧ H x = some (.ins C dx []) ∧ Im H0 v (rwD rows) ∧ Rect rows ∧ (cellsOf rows "mM")[0]? = some m ∧
  ∀ H' fs u, Same H0 H' → H' x = some (.ins C dx fs) → fs.lookup ("free" : Str) = none → fs.lookup ("cells" : Str) = some u → Im H' u (csD (floorC rows)) → Q .non H'
theorem scInit : FnScope ["self", "room"] ["self", "room"] (defScope sInit) := ⟨rfl, rfl, rfl, by decide +kernel, rfl, by decide +kernel, by decide +kernel⟩
theorem ok_init (T : Facts K w mg) {C fI fF : Addr} (G : ClsG K mg C fI fF) {fd : FuncData} (F : Fun K "__init__" "Ground.__init__" sInit fI fd) : FnOk P w K mg base CX0 3 fI fd ["self", "room"] (spInit C) := by
  have F1 : Fn P w K mg base CX0 "cells_with" 1 [] spCellsWith := ok_cells_with T
  have F2 : Fn P w K mg base CX0 "goals_of" 2 [] (spCells "oCM") := ok_goals_of T
  have F3 : Fn P w K mg base CX0 "start_of" 2 [] spStart := ok_start_of T
  refine F.ok scInit (fun vs H Q E h => ?_) (fun cdv A outer s H vs Q E hr h => ⟨_, pSs, ?_⟩)
  · obtain ⟨x, dx, v, rows, m, H0, rfl, _⟩ := h
    rfl
  · obtain ⟨x, dx, v, rows, m, H0, rfl, hx, s0, ho, hv, R, hm, q⟩ := h
    have tsx : ∀ (H' : Hp) (fs fs' : List (Str × V)), H' x = some (.ins C dx fs) → TS H' (upd H' x (.ins C dx fs')) := fun H' fs fs' e => TS.put e fun _ z => nomatch z
    refine sCons (sFld' (VP.run (vpVar (P := fun v' _ => v' = v) 1 rfl rfl) fun v1 H1 s1 e1 => wVar 0 rfl ⟨x, C, dx, [], rfl, s1 _ _ ho, G.cl, G.n1, by decide, ?_⟩))
    have a1 := Same.mut (o := .ins C dx (putF "room" v1 [])) (s0.trans s1) hx
    have o1 : upd H1 x (HO.ins C dx (putF "room" v1 [])) x = some (.ins C dx (putF "room" v1 [])) := upd_same
    generalize upd H1 x (HO.ins C dx (putF "room" v1 [])) = H2 at a1 o1 ⊢
    refine sCons (sFld' (VP.run (vpCall2 (P := fun v' H' => Im H' v' (csD (floorC rows))) F1 hr (vpVar 1 rfl (hv.mono (TS.of a1))) (fun _ _ => vpStr) imS fun v u H' s h1 h2 Q q => ⟨v, rows, "-ocCmM", by rw [h2]; rfl, h1, R, q⟩) fun v2 H3 s2 e2 => wVar 0 rfl ⟨x, C, dx, _, rfl, s2 _ _ o1, G.cl, G.n2, Nat.lt_of_le_of_lt (length_putF _ _ _) (by show 1 < 1000; decide), ?_⟩))
    have e2 := e2.mono (tsx H3 _ (putF "cells" v2 (putF "room" v1 [])) (s2 _ _ o1))
    have a2 := Same.mut (o := .ins C dx (putF "cells" v2 (putF "room" v1 []))) (a1.trans s2) hx
    have o2 : upd H3 x (HO.ins C dx (putF "cells" v2 (putF "room" v1 []))) x = some (.ins C dx (putF "cells" v2 (putF "room" v1 []))) := upd_same
    have l2 : (putF "cells" v2 (putF "room" v1 [])).length ≤ 2 := Nat.le_trans (length_putF _ _ _) (Nat.succ_le_succ (length_putF _ _ _))
    have c2 : (putF "cells" v2 (putF "room" v1 [])).lookup ("cells" : Str) = some v2 := by rw [lookup_putF, if_pos rfl]
    have f2 : (putF "cells" v2 (putF "room" v1 [])).lookup ("free" : Str) = none := by
      rw [lookup_putF, if_neg (by decide +kernel), lookup_putF, if_neg (by decide +kernel)]
      rfl
    generalize putF "cells" v2 (putF "room" v1 []) = fs2 at *
    generalize upd H3 x (HO.ins C dx fs2) = H4 at *
    refine sCons (sFld' (VP.run (vpCall1 (P := fun _ _ => True) F2 hr (vpVar 1 rfl (hv.mono (TS.of a2))) fun v H' s h Q q => ⟨v, rows, rfl, h, R, fun r H'' s' _ => q r H'' s' trivial⟩) fun v3 H5 s3 _ => wVar 0 rfl ⟨x, C, dx, _, rfl, s3 _ _ o2, G.cl, G.n3, by omega, ?_⟩))
    have e3 := (e2.mono (TS.of s3)).mono (tsx H5 _ (putF "ends" v3 fs2) (s3 _ _ o2))
    have a3 := Same.mut (o := .ins C dx (putF "ends" v3 fs2)) (a2.trans s3) hx
    have o3 : upd H5 x (HO.ins C dx (putF "ends" v3 fs2)) x = some (.ins C dx (putF "ends" v3 fs2)) := upd_same
    have l3 : (putF "ends" v3 fs2).length ≤ 3 := Nat.le_trans (length_putF _ _ _) (by omega)
    have c3 : (putF "ends" v3 fs2).lookup ("cells" : Str) = some v2 := by rw [lookup_putF, if_neg (by decide +kernel), c2]
    have f3 : (putF "ends" v3 fs2).lookup ("free" : Str) = none := by rw [lookup_putF, if_neg (by decide +kernel), f2]
    generalize putF "ends" v3 fs2 = fs3 at *
    generalize upd H5 x (HO.ins C dx fs3) = H6 at *
    refine sCons (sFld' (VP.run (vpCall1 (P := fun _ _ => True) F3 hr (vpVar 1 rfl (hv.mono (TS.of a3))) fun v H' s h Q q => ⟨v, rows, m, rfl, h, R, hm, fun r H'' s' _ => q r H'' s' trivial⟩) fun v4 H7 s4 _ => wVar 0 rfl ⟨x, C, dx, _, rfl, s4 _ _ o3, G.cl, G.n4, by omega, ?_⟩))
    have e4 := (e3.mono (TS.of s4)).mono (tsx H7 _ (putF "first" v4 fs3) (s4 _ _ o3))
    have a4 := Same.mut (o := .ins C dx (putF "first" v4 fs3)) (a3.trans s4) hx
    have o4 : upd H7 x (HO.ins C dx (putF "first" v4 fs3)) x = some (.ins C dx (putF "first" v4 fs3)) := upd_same
    have l4 : (putF "first" v4 fs3).length ≤ 4 := Nat.le_trans (length_putF _ _ _) (by omega)
    have c4 : (putF "first" v4 fs3).lookup ("cells" : Str) = some v2 := by rw [lookup_putF, if_neg (by decide +kernel), c3]
    have f4 : (putF "first" v4 fs3).lookup ("free" : Str) = none := by rw [lookup_putF, if_neg (by decide +kernel), f3]
    generalize putF "first" v4 fs3 = fs4 at *
    generalize upd H7 x (HO.ins C dx fs4) = H8 at *
    refine sOne (sFld' (oE pe_dnewK fun p hp => wVar 0 rfl ⟨x, C, dx, _, rfl, Same.new hp _ _ o4, G.cl, G.n5, by omega, ?_⟩))
    have e5 := (e4.mono (TS.new hp (o := .dK []))).mono (tsx _ _ (putF "far" (.ref p) fs4) (Same.new hp _ _ o4))
    refine q _ (putF "far" (.ref p) fs4) v2 (Same.mut (a4.trans (Same.new hp)) hx) upd_same ?_ ?_ e5
    · rw [lookup_putF, if_neg (by decide +kernel), f4]
    · rw [lookup_putF, if_neg (by decide +kernel), c4]
def Grd (C : Addr) (H : Hp) (v : V) (rows : List Str) : Prop := ∃ x dx fs u, v = .ref x ∧ H x = some (.ins C dx fs) ∧ fs.lookup ("free" : Str) = none ∧ fs.lookup ("cells" : Str) = some u ∧ Im H u (csD (floorC rows))
theorem Grd.mono {C : Addr} {H H' : Hp} {v : V} {rows : List Str} (s : Same H H') (h : Grd C H v rows) : Grd C H' v rows := by
  obtain ⟨x, dx, fs, u, e, h1, h2, h3, h4⟩ := h
  exact ⟨x, dx, fs, u, e, s _ _ h1, h2, h3, h4.mono (TS.of s)⟩
theorem grdS {C : Addr} {rows : List Str} (v : V) (H H' : Hp) (s : Same H H') (h : Grd C H v rows) : Grd C H' v rows := h.mono s
/-- Ground(room) -/
theorem vpGround {X : Cx} {σ : L2.St} {H : Hp} {e : Expr} {p pos : Pos} {j : Nat} {C fI fF : Addr} {rows : List Str} {m : Cell} (T : Facts X.K X.w X.mg) (G : ClsG X.K X.mg C fI fF) (hr : Room j X.A) (R : Rect rows) (hm : (cellsOf rows "mM")[0]? = some m) (he : VP X e σ H fun v H' => Im H' v (rwD rows)) (hj : 4 ≤ j := by decide) (hg : Gl X "Ground" := by rfl)
    (hst : starEach (e :: []) X.env = (false, eval e X.env) :: starEach [] X.env := by rfl) (hpl : (backTo pos (starEach [] X.env)).any (·.1) = false := by rfl) : VP X (.Call (.Name "Ground" p) [e] [] pos) σ H (fun v H' => Grd C H' v rows) := by
  intro Q q
  obtain ⟨fd, FI, bI⟩ := G.FI
  refine oE (pe_make (dvs := []) (ds := []) (E := E0) G.mkg (ok_init T G FI) (hr.mono hj) hg G.mgC bI .nil pass0 pA (by decide) hst hpl) ?_
  refine wACons (he _ fun v H1 s1 h1 => wANil fun x dx hx hdx ne => ?_) hst
  have n1 : upd H1 dx (.own x) x = none := by rw [upd_ne (fun z => ne z.symm)]; exact hx
  refine ⟨x, dx, v, rows, m, upd H1 dx (.own x), rfl, n1, Same.new n1, upd_same, h1.mono (TS.new hdx), R, hm, fun H' fs u s' h2 h3 h4 h5 => ⟨rfl, q _ H' ((s1.trans (Same.new hdx)).trans s') ⟨x, dx, fs, u, rfl, h2, h3, h4, h5⟩⟩⟩
/-- the floor without crates -/
def freeC (rows : List Str) (cs : List Cell) : List Cell := (floorC rows).filter fun c => !isIn c cs
def spFree (C : Addr) (K : PySem.W.Frag) : Sp := fun vs H Q _ => ∃ (g v : V) (rows : List Str) (cs : List Cell), vs = [g, v] ∧ Grd C H g rows ∧ (floorC rows).length ≤ 100000 ∧ RowE K H cD v cs ∧ ∀ r H', Same H H' → LsE K H' cD r (freeC rows cs) → Q r H'
theorem scFree : FnScope ["self", "crates", "cell"] ["self", "crates"] (defScope sFree) := ⟨rfl, rfl, rfl, by decide +kernel, rfl, by decide +kernel, by decide +kernel⟩
theorem ok_free (T : Facts K w mg) {C fI fF : Addr} (G : ClsG K mg C fI fF) {fd : FuncData} (F : Fun K "free" "Ground.free" sFree fF fd) : FnOk P w K mg base CX0 1 fF fd ["self", "crates"] (spFree C K) := by
  refine F.ok scFree (fun vs H Q E h => ?_) (fun cdv A outer s H vs Q E hr h => ⟨_, pSs, ?_⟩)
  · obtain ⟨x, v, rows, cs, rfl, _⟩ := h
    rfl
  · obtain ⟨g, v, rows, cs, rfl, hg, hz, hv, q⟩ := h
    obtain ⟨x, dx, fs, u, rfl, h1, h2, h3, h4⟩ := hg
    obtain ⟨t, ys, rfl, ht, hs⟩ := im_cells.mp h4
    refine sOne (sRet (oLc1 rfl scFree.nd (blkOk_by (own := [("cell", 2)]) (N := ["self", "crates", "cell"]) (sc := defScope sFree) (by decide +kernel)) (lcM1 2 (fun H v (d : Cell) => Im H v (cD d)) (fun H v (d : Cell) => Im H v (cD d)) (fun c => !isIn c cs) (fun c => c) (floorC rows) (fun _ _ _ _ _ => pg_name (i := 2) scFree.nd rfl (Or.inl rfl)) (fun _ => rfl) (fun _ _ _ _ s h => h.mono (TS.of s)) (fun _ _ _ _ s h => h.mono s) ?_ hz ?_ ?_ ?_)))
    · exact iT (oE (pe_fld pE rfl) (wVar 0 rfl ⟨x, C, dx, fs, _, rfl, h1, G.cl, G.n2, h3, t, rfl, ⟨_, sqT ht⟩, Same.refl _, _, srcT (sqT ht), paired_map.mp hs⟩))
    · intro v2 d H' s e m K2 k s0 H0 C cl fp
      exact TV.run (tvNotInE enc_cell (hu65 hr) (x := d) (cs := cs) (vpVar 2 rfl e) fun H2 s2 => vpVar 1 rfl (hv.mono (s.trans s2))) k
    · intro v2 d H' s e m _ K2 k s0 H0 C cl fp
      exact VP.run (vpVar 2 rfl e) fun z H3 s3 h => k z H3 s3 h
    · intro Dl acc H' s n ha hp
      refine q _ _ s ⟨Dl, acc, rfl, sqL ha, ?_⟩
      rw [List.map_id'] at hp
      exact paired_map.mpr hp
/-- ground.free(e) -/
theorem vpFree {X : Cx} {σ : L2.St} {H : Hp} {e o : Expr} {apos pos : Pos} {j : Nat} {C fI fF : Addr} {rows : List Str} {cs : List Cell} (T : Facts X.K X.w X.mg) (G : ClsG X.K X.mg C fI fF) (hr : Room j X.A) (hz : (floorC rows).length ≤ 100000) (ho : VP X o σ H fun v H' => Grd C H' v rows) (he : ∀ H', Same H H' → VP X e σ H' fun v H'' => RowE X.K H'' cD v cs) (hj : 1 ≤ j := by decide)
    (hst : starEach (e :: []) X.env = (false, eval e X.env) :: starEach [] X.env := by rfl) (hpl : (backTo pos (starEach [] X.env)).any (·.1) = false := by rfl)
    (ht : ∃ pl : Sem Bool, eval (.Call (.Attribute o "free" apos) (e :: []) [] pos) X.env = (do
      let ov ← eval o X.env
      standAt apos.atName
      let (f, first) ← holding [ov] (getMethod ov "free" pl)
      callWith pos f first (backTo pos (starEach (e :: []) X.env)) (backToKw pos (keywordEach [] X.env))) := by exact ⟨_, rfl⟩) : VP X (.Call (.Attribute o "free" apos) [e] [] pos) σ H (fun v H' => LsE X.K H' cD v (freeC rows cs)) := by
  intro Q q
  obtain ⟨fd, FF, bF⟩ := G.FF
  obtain ⟨pl, ht⟩ := ht
  refine oE (pe_meth (dvs := []) (ds := []) (E := E0) pE G.cl G.mt (ok_free T G FF) (hr.mono hj) bF .nil pass0 pA hst hpl ht) ?_
  refine ho _ fun v H1 s1 h1 => ?_
  obtain ⟨x, dx, fs, u, e1, g1, g2, g3, g4⟩ := id h1
  refine ⟨x, dx, fs, e1, g1, g2, wACons (he H1 s1 _ fun u' H2 s2 h2 => wANil ⟨v, u', rows, cs, rfl, h1.mono s2, hz, h2, fun r H3 s3 h3 => q r H3 ((s1.trans s2).trans s3) h3⟩) hst⟩
end CR
namespace CR
open PySem PySem.Spec PyProof.Rows L2
/-! ### a dict whose keys are cells, its values ints -/
abbrev kC (c : Cell) : List Key := [Sum.inl c.1, Sum.inl c.2]
theorem kC_inj {a b : Cell} (h : kC a = kC b) : a = b := by
  injection h with h1 h2
  injection h2 with h2 h3
  injection h1 with h1
  injection h2 with h2
  exact Prod.ext h1 h2
structure Dmap (kvs : List (List Key × V)) (L : List Cell) : Prop where
  keys : kvs.map (·.1) = L.map kC
  num : ∀ p ∈ kvs, ∃ i : Int, p.2 = .int i
theorem valV_some : ∀ {kvs : List (List Key × V)} {k : List Key} {v : V}, valV kvs k = some v → ∃ p ∈ kvs, p.1 = k ∧ p.2 = v
  | [], _, _, h => by simp [valV] at h
  | p :: r, k, v, h => by
    by_cases e : p.1 = k
    · rw [valV_pos e] at h
      exact ⟨p, List.mem_cons_self .., e, Option.some.inj h⟩
    · rw [valV_neg e] at h
      obtain ⟨q, hq, z⟩ := valV_some h
      exact ⟨q, List.mem_cons_of_mem _ hq, z⟩
theorem valV_none : ∀ {kvs : List (List Key × V)} {k : List Key}, k ∉ kvs.map (·.1) → valV kvs k = none
  | [], _, _ => rfl
  | p :: r, k, h => by
    rw [List.map_cons, List.mem_cons] at h
    rw [valV_neg fun e => h (.inl e.symm)]
    exact valV_none fun m => h (.inr m)
theorem valV_yes : ∀ {kvs : List (List Key × V)} {k : List Key}, k ∈ kvs.map (·.1) → ∃ v, valV kvs k = some v
  | [], _, h => by cases h
  | p :: r, k, h => by
    by_cases e : p.1 = k
    · exact ⟨_, valV_pos e⟩
    · rw [valV_neg e]
      rw [List.map_cons, List.mem_cons] at h
      exact valV_yes (h.resolve_left fun z => e z.symm)
theorem Dmap.mem {kvs : List (List Key × V)} {L : List Cell} (D : Dmap kvs L) {c : Cell} : kC c ∈ kvs.map (·.1) ↔ c ∈ L := by
  rw [D.keys, List.mem_map]
  exact ⟨fun ⟨d, hd, e⟩ => (kC_inj e) ▸ hd, fun h => ⟨c, h, rfl⟩⟩
theorem Dmap.get {kvs : List (List Key × V)} {L : List Cell} (D : Dmap kvs L) {c : Cell} (h : c ∈ L) : ∃ i : Int, valV kvs (kC c) = some (.int i) := by
  obtain ⟨v, e⟩ := valV_yes (D.mem.mpr h)
  obtain ⟨p, hp, _, e2⟩ := valV_some e
  obtain ⟨i, hi⟩ := D.num p hp
  exact ⟨i, by rw [e, ← e2, hi]⟩
theorem Dmap.isSome {kvs : List (List Key × V)} {L : List Cell} (D : Dmap kvs L) (c : Cell) : (valV kvs (kC c)).isSome = isIn c L := by
  by_cases h : c ∈ L
  · obtain ⟨i, e⟩ := D.get h
    rw [e, isIn_yes h]
    rfl
  · rw [valV_none fun m => h (D.mem.mp m), isIn_no h]
    rfl
theorem Dmap.put {kvs : List (List Key × V)} {L : List Cell} (D : Dmap kvs L) {c : Cell} (h : c ∉ L) (i : Int) : Dmap (putK kvs (kC c) (.int i)) (L ++ [c]) := by
  rw [putK_new _ (valV_none fun m => h (D.mem.mp m))]
  refine ⟨by rw [List.map_append, List.map_append, D.keys]; rfl, fun p hp => ?_⟩
  rcases List.mem_append.mp hp with hp | hp
  · exact D.num p hp
  · rw [List.mem_singleton.mp hp]
    exact ⟨i, rfl⟩
theorem Dmap.len {kvs : List (List Key × V)} {L : List Cell} (D : Dmap kvs L) : kvs.length = L.length := by
  have := congrArg List.length D.keys
  rwa [List.length_map, List.length_map] at this
section
variable {X : Cx} {σ : L2.St} {H : Hp} {a b e o i : Expr} {pos p apos : Pos} {D : Ends} {Q : VK}
theorem tNotInD {K2 : Bool → Hp → Prop} (hu : X.A.units + 65 < cLine) (h : wE X a σ H fun y H1 => wE X b σ H1 fun x H2 => ∃ d r, x = .ref d ∧ DGet H2 d y r ∧ K2 (!r.isSome) H2) (hm : behindInMarks .NotIn b = false := by rfl) : wT X (.Compare a [.NotIn] [b] pos) σ H K2 :=
  oT (pt_cmp (pc_dnotin (by omega) pE pE) hm) (wE_mono h fun y H1 h1 => wE_mono h1 fun x H2 ⟨d, r, e, g, q⟩ => ⟨d, r, e, g, _, rfl, q⟩)
theorem wDGet (hu : X.A.units + 65 < cLine) (h : wE X o σ H fun x H1 => wE X i σ H1 fun y H2 => ∃ d v, x = .ref d ∧ DGet H2 d y (some v) ∧ Q v H2) (hs : NoSl i := by exact fun _ _ => rfl) : wE X (.Subscript o i pos) σ H Q := oE (pe_dget (by omega) pE pE hs) h
theorem sDPut' {pos' : Pos} (hu : X.A.units + 65 < cLine) (h : wE X e σ H fun v H1 => wE X o σ H1 fun x H2 => wE X i σ H2 fun y H3 => ∃ d H4, x = .ref d ∧ DPut H3 d y v H4 ∧ D.nx σ H4) (hs : swapsWith e (some (.Subscript o i pos')) pos.line X.env = pure false := by rfl) : wS X (.Assign [.Subscript o i pos'] e pos) D σ H :=
  oS (ps_dput (by omega) pE pE pE hs) h
/-- beside(cell, letter), beside(cell, letter, many) -/
theorem vpBeside {c : Cell} {d : Dir} {j : Nat} (T : Facts X.K X.w X.mg) (hr : Room j X.A) (ha : VP X a σ H fun v H' => Im H' v (cD c)) (hb : ∀ H', Same H H' → VP X b σ H' fun v _ => v = .str d.str) (hj : 1 ≤ j := by decide) (hg : Gl X "beside" := by rfl)
    (he : starEach (a :: [b]) X.env = (false, eval a X.env) :: starEach [b] X.env := by rfl) (he2 : starEach (b :: []) X.env = (false, eval b X.env) :: starEach [] X.env := by rfl) (hpl : (backTo pos (starEach [b] X.env)).any (·.1) = false := by rfl) : VP X (.Call (.Name "beside" p) [a, b] [] pos) σ H (fun v H' => Im H' v (cD (go c d 1))) :=
  vpCall2 (ok_beside1 T) hr ha hb imS (fun v u H' s h1 h2 Q q => ⟨v, c, d, 1, by rw [h2]; rfl, h1, by omega, q⟩) hj hg (he := he) (he2 := he2) (hpl := hpl)
theorem vpBeside2 {c : Cell} {d : Dir} {j k : Nat} (T : Facts X.K X.w X.mg) (hr : Room j X.A) (ha : VP X a σ H fun v H' => Im H' v (cD c)) (hb : ∀ H', Same H H' → VP X b σ H' fun v _ => v = .str d.str) (hj : 1 ≤ j := by decide) (hg : Gl X "beside" := by rfl)
    (he : starEach (a :: [b, .Constant (.int 2) k apos]) X.env = (false, eval a X.env) :: starEach [b, .Constant (.int 2) k apos] X.env := by rfl) (he2 : starEach (b :: [.Constant (.int 2) k apos]) X.env = (false, eval b X.env) :: starEach [.Constant (.int 2) k apos] X.env := by rfl) (he3 : starEach ((.Constant (.int 2) k apos) :: []) X.env = (false, eval (.Constant (.int 2) k apos) X.env) :: starEach [] X.env := by rfl) (hpl : (backTo pos (starEach [b, .Constant (.int 2) k apos] X.env)).any (·.1) = false := by rfl) : VP X (.Call (.Name "beside" p) [a, b, .Constant (.int 2) k apos] [] pos) σ H (fun v H' => Im H' v (cD (go c d 2))) :=
  vpCall3 (Pc := fun v _ => v = .int 2) (ok_beside0 T) hr ha hb (fun _ _ => vpInt) imS (fun _ _ _ _ h => h) (fun v u y H' s h1 h2 h3 Q q => ⟨v, c, d, 2, by rw [h2, h3]; rfl, h1, by omega, q⟩) hj hg (he := he) (he2 := he2) (he3 := he3) (hpl := hpl)
end
variable {P : Program} {w : World} {K : PySem.W.Frag} {mg : Str → Option Value} {base : Heap}
theorem half_bound {free L Ls ys : List Cell} {m : Cell} (h : Half free m L Ls) : (L ++ newC free L ys).Nodup ∧ (L ++ newC free L ys).length ≤ free.length + 1 := by
  obtain ⟨h1, h2, _⟩ := newC_facts free L h.nd _ ys rfl
  refine ⟨h1, ?_⟩
  have := len_sub h1 (M := m :: free) fun x hx => by
    rcases List.mem_append.mp hx with hx | hx
    · have r := h.rc x hx
      cases r with
      | start => exact List.mem_cons_self ..
      | step _ _ f => exact List.mem_cons_of_mem _ f
    · exact List.mem_cons_of_mem _ (h2 x hx).2
  rw [List.length_cons] at this
  exact this
def spWalk (K : PySem.W.Frag) : Sp := fun vs H Q _ => ∃ (fv cv : V) (free : List Cell) (m : Cell), vs = [fv, cv] ∧ LsE K H cD fv free ∧ Im H cv (cD m) ∧ free.length ≤ 1000 ∧
  ∀ p H' kvs L, Same H H' → H' p = some (.dT kvs) → Dmap kvs L → Half free m L [] → Q (.ref p) H'
theorem nbrs_len (c : Cell) : (nbrs c).length = 4 := rfl
theorem nbrs_at {c : Cell} {d : Dir} {i : Nat} (h : dirs[i]? = some d) : (nbrs c)[i]? = some (go c d 1) := by
  unfold nbrs
  rw [List.getElem?_map, h]
  rfl
theorem scWalkedFrom : FnScope ["free", "cell", "found", "last", "more", "here", "letter", "there"] ["free", "cell"] (defScope sWalkedFrom) := ⟨rfl, rfl, rfl, by decide +kernel, rfl, by decide +kernel, by decide +kernel⟩
theorem ok_walked_from (T : Facts K w mg) : Fn P w K mg base CX0 "walked_from" 2 [] (spWalk K) := by
  refine fn_mk T.d_walked_from fun f fd F => F.ok scWalkedFrom (fun vs H Q E h => ?_) (fun cdv A outer s H vs Q E hr h => ⟨_, pSs, ?_⟩)
  · obtain ⟨fv, cv, free, m, rfl, _⟩ := h
    rfl
  · obtain ⟨fv, cv, free, m, rfl, hf, hm, hz, q⟩ := h
    obtain ⟨dct, gS, _, es, n, kd, hk, _⟩ := steps_at T
    obtain ⟨fl, fvs, rfl, hfl, hfs⟩ := hf
    obtain ⟨mt, rfl, hmt⟩ := im_cell.mp hm
    refine sCons (sPar 2 3 rfl scWalkedFrom.nd (wACons ?_))
    refine wDisp1 (Nat.lt_of_le_of_lt (Nat.add_le_add_left (by decide) _) (hu65 hr)) fun D hD => wVar 1 rfl (wInt ⟨upd_same, mt, kC m, rfl, by rw [upd_ne (ne_of_none hmt hD)]; exact hmt, ?_⟩)
    have uu : upd (upd H D (.dT [])) D (.dT [(kC m, .int 0)]) = upd H D (.dT [(kC m, .int 0)]) := by
      funext x
      by_cases e : x = D
      · subst e
        rw [upd_same, upd_same]
      · rw [upd_ne e, upd_ne e, upd_ne e]
    rw [uu]
    refine wACons (wLst (wACons (wVar 1 rfl (wANil ⟨by show 1 ≤ sizeLine; decide, fun lp hlp => wANil ⟨_, _, rfl, ?_⟩⟩))))
    have sA : Same H (upd (upd H D (.dT [(kC m, .int 0)])) lp (.lst [.ref mt])) := (Same.new hD).trans (Same.new hlp)
    have nDl : D ≠ lp := fun z => by
      subst z
      rw [upd_same] at hlp
      cases hlp
    have hlp0 : H lp = none := by
      rw [upd_ne (Ne.symm nDl)] at hlp
      exact hlp
    refine sCons (sWhile PassesOwn.never ⟨fun n σ H' => ∃ (kvs : List (List Key × V)) (L Ls : List Cell) (lp : Addr) (lvs : List V) (x4 x5 x6 x7 : Option V), n = 2 * (free.length + 1 - L.length) + (if Ls = [] then 0 else 1) ∧
      σ = [some (.ref fl), some (.ref mt), some (.ref D), some (.ref lp), x4, x5, x6, x7] ∧ Same H H' ∧ H' D = some (.dT kvs) ∧ Dmap kvs L ∧ Half free m L Ls ∧ H' lp = some (.lst lvs) ∧ ImL H' lvs (Ls.map cD), ?_, ?_⟩)
    · refine ⟨_, [(kC m, .int 0)], [m], [m], lp, [.ref mt], none, none, none, none, rfl, rfl, sA, ?_, ⟨rfl, fun p hp => ?_⟩, half_start, upd_same, .cons (hm.mono (TS.of sA)) .nil⟩
      · rw [upd_ne nDl, upd_same]
      · rw [List.mem_singleton.mp hp]
        exact ⟨0, rfl⟩
    · clear uu sA nDl hlp0
      intro n σ H1 hW
      obtain ⟨kvs, L, Ls, lp, lvs, x4, x5, x6, x7, en, eσ, s1, d1, dm, hh, l1, hl⟩ := hW
      subst eσ
      refine TV.run (tvNeNil (hu65 hr) (vpVar 3 rfl (nil_E enc_cell (sqL l1) hl))) fun H2 s2 => ?_
      refine ite2 (fun hne => ?_) (fun he => ?_)
      · have hLs : Ls ≠ [] := by
          intro z
          subst z
          cases hne
        refine ⟨fun σ' H' => ∃ (kvs : List (List Key × V)) (lp : Addr) (lvs : List V) (x4 x5 x6 x7 : Option V), σ' = [some (.ref fl), some (.ref mt), some (.ref D), some (.ref lp), x4, x5, x6, x7] ∧ Same H H' ∧ H' D = some (.dT kvs) ∧ Dmap kvs (L ++ newC free L (Ls.flatMap nbrs)) ∧ H' lp = some (.lst lvs) ∧ ImL H' lvs ((newC free L (Ls.flatMap nbrs)).map cD), fun σ' H' hN => ?_, ?_⟩
        · obtain ⟨kvs', lp', lvs', y4, y5, y6, y7, e1, e2, e3, e4, e5, e6⟩ := hN
          refine ⟨_, ?_, kvs', _, _, lp', lvs', y4, y5, y6, y7, rfl, e1, e2, e3, e4, hh.round, e5, e6⟩
          have b := half_bound hh (ys := Ls.flatMap nbrs)
          rw [en, if_neg hLs]
          by_cases e : newC free L (Ls.flatMap nbrs) = []
          · rw [e, if_pos rfl, List.append_nil]
            omega
          · rw [if_neg e]
            have z := List.length_pos_iff.mpr e
            rw [List.length_append] at b ⊢
            omega
        · have s02 := s1.trans s2
          have d2 := s2 _ _ d1
          have l2 := s2 _ _ l1
          have hl2 := hl.mono (TS.of s2)
          refine sCons (sSet 4 ?_ scWalkedFrom.nd)
          refine wLst (wANil ⟨Nat.zero_le _, fun mp hmp => ?_⟩)
          have nlm : lp ≠ mp := ne_of_none l2 hmp
          have nDm : D ≠ mp := ne_of_none d2 hmp
          have hmp0 : H mp = none := Same.free s02 hmp
          have nDl : D ≠ lp := ne_of d2 l2 (by intro z; cases z)
          -- what holds between
          have key : ∃ G : List Cell → L2.St → Hp → Prop, G = fun ys σ H' => ∃ (kvs : List (List Key × V)) (mvs : List V) (x5 x6 x7 : Option V), σ = [some (.ref fl), some (.ref mt), some (.ref D), some (.ref lp), some (.ref mp), x5, x6, x7] ∧ Same H H' ∧ H' lp = some (.lst lvs) ∧ ImL H' lvs (Ls.map cD) ∧ H' D = some (.dT kvs) ∧ Dmap kvs (L ++ newC free L ys) ∧
            H' mp = some (.lst mvs) ∧ ImL H' mvs ((newC free L ys).map cD) := ⟨_, rfl⟩
          obtain ⟨G, hG⟩ := key
          refine sCons (sForL PassesOwn.never rfl (wVar 3 rfl ⟨lp, lvs, rfl, sqL (by rw [upd_ne nlm]; exact l2), fun i σ H' => G ((Ls.take i).flatMap nbrs) σ H', ?_, ?_, ?_, ?_⟩))
          · rw [hG]
            exact ⟨kvs, [], x5, x6, x7, rfl, s02.trans (Same.new hmp), by rw [upd_ne nlm]; exact l2, hl2.mono (TS.new hmp), by rw [upd_ne nDm]; exact d2, by simpa [newC] using dm, upd_same, by simpa [newC] using Paired.nil⟩
          · intro i σ H' _ hP
            rw [hG] at hP
            obtain ⟨_, _, _, _, _, _, _, h3, _⟩ := hP
            exact sqL h3
          · intro i y σ H' hy hP
            rw [hG] at hP
            obtain ⟨kvs', mvs, y5, y6, y7, eσ, s3, l3, hl3, d3, dm3, m3, hm3⟩ := hP
            subst eσ
            obtain ⟨d0, hx, imx⟩ := paired_get (paired_map.mp hl3) hy
            have mx : d0 ∈ Ls := List.mem_of_getElem? hx
            refine gNm 5 ?_ scWalkedFrom.nd
            refine sOne (sForW PassesOwn.never rfl (iK kd hk (wGlob (v := .ref dct) gS rfl ⟨rfl, 4, _, _, walk_fix, fun j σ H' => G ((Ls.take i).flatMap nbrs ++ (nbrs d0).take j) σ H' ∧ σ[5]? = some (some y), ?_, fun _ _ _ _ _ => trivial, ?_, ?_⟩)))
            · rw [hG]
              exact ⟨⟨kvs', mvs, some y, y6, y7, rfl, s3, l3, hl3, d3, by rw [List.take_zero, List.append_nil]; exact dm3, m3, by rw [List.take_zero, List.append_nil]; exact hm3⟩, rfl⟩
            · intro j x σ H4 H5 hj hP hY
              obtain ⟨e1, e2⟩ := hY
              subst e1
              obtain ⟨hP, hy5⟩ := hP
              rw [hG] at hP
              obtain ⟨kvs4, mvs4, z5, z6, z7, eσ, s4, l4, hl4, d4, dm4, m4, hm4⟩ := hP
              subst eσ
              cases hy5
              have imx4 : Im H5 y (cD d0) := by
                obtain ⟨d0', hx', imx'⟩ := paired_get (paired_map.mp hl4) hy
                rw [hx] at hx'
                cases hx'
                exact imx'
              obtain ⟨dd, hdd, ex⟩ : ∃ dd : Dir, dirs[j]? = some dd ∧ x = .str dd.str := by
                rw [List.map_map, List.getElem?_map] at e2
                obtain ⟨dd, h1, h2⟩ := Option.map_eq_some_iff.mp e2
                exact ⟨dd, h1, h2.symm⟩
              subst ex
              have tk : (nbrs d0).take (j + 1) = (nbrs d0).take j ++ [go d0 dd 1] := take_snoc (nbrs_at hdd)
              generalize eys : (Ls.take i).flatMap nbrs ++ (nbrs d0).take j = ys at *
              have eys' : (Ls.take i).flatMap nbrs ++ (nbrs d0).take (j + 1) = ys ++ [go d0 dd 1] := by rw [tk, ← List.append_assoc, eys]
              refine gNm 6 ?_ scWalkedFrom.nd
              refine sCons (sSet 7 ?_ scWalkedFrom.nd)
              refine VP.run (vpBeside (c := d0) (d := dd) T hr (vpVar 5 rfl imx4) fun _ _ => vpVar 6 rfl rfl) fun tv H6 s6 h6 => ?_
              have d6 := s6 _ _ d4
              have m6 := s6 _ _ m4
              have l6 := s6 _ _ l4
              have sH6 := s4.trans s6
              have b := half_bound hh (ys := ys)
              obtain ⟨tt, rfl, htt⟩ := im_cell.mp h6
              -- what is behind the test
              refine sOne (sIf (tAnd2 (TV.run (tvInE enc_cell (hu65 hr) (x := go d0 dd 1) (cs := free) (vpVar 7 rfl h6) fun H7 s7 => vpVar 0 rfl (LsE.row ⟨fl, fvs, rfl, (sH6.trans s7).seq hfl, hfs.mono (TS.of (sH6.trans s7))⟩)) fun H7 s7 => ?_)))
              have sH7 := sH6.trans s7
              have d7 := s7 _ _ d6
              have m7 := s7 _ _ m6
              have l7 := s7 _ _ l6
              have htt7 := s7 _ _ htt
              have im7 : ImL H7 lvs (Ls.map cD) := hl4.mono (TS.of (s6.trans s7))
              have no : ¬ (go d0 dd 1 ∈ free ∧ go d0 dd 1 ∉ L ++ newC free L ys) → G ((Ls.take i).flatMap nbrs ++ (nbrs d0).take (j + 1)) [some (.ref fl), some (.ref mt), some (.ref D), some (.ref lp), some (.ref mp), some y, some (.str dd.str), some (.ref tt)] H7 ∧ some (some y) = some (some y) := fun no => by
                rw [eys', hG]
                exact ⟨⟨kvs4, mvs4, _, _, _, rfl, sH7, l7, im7, d7, by rw [newC_snoc, stp_no no]; exact dm4, m7, by rw [newC_snoc, stp_no no]; exact hm4.mono (TS.of (s6.trans s7))⟩, rfl⟩
              refine ite2 (fun hin => ?_) (fun hno => iteF (sNil (no fun z => by rw [isIn_yes z.1] at hno; exact hno rfl)))
              have hin := isIn_iff.mp hin
              refine tNotInD (hu65 hr) (wVar 7 rfl (wVar 2 rfl ⟨D, _, rfl, DGet.t (k := kC (go d0 dd 1)) d7 htt7, ?_⟩))
              rw [dm4.isSome]
              by_cases hc : go d0 dd 1 ∈ L ++ newC free L ys
              · rw [isIn_yes hc]
                exact iteF (sNil (no fun z => z.2 hc))
              · rw [isIn_no hc]
                refine iteT ?_
                have hxx := imx4.mono (TS.of (s6.trans s7))
                obtain ⟨yt, rfl, hyt⟩ := im_cell.mp hxx
                have inL : d0 ∈ L ++ newC free L ys := List.mem_append_left _ (hh.sub _ mx)
                obtain ⟨iv, hiv⟩ := dm4.get inL
                have lk : kvs4.length < sizeLine := by
                  rw [dm4.len]
                  exact szl (by omega)
                refine sCons (sDPut' (hu65 hr) (wBin op_add (wDGet (hu65 hr) (wVar 2 rfl (wVar 5 rfl ⟨D, .int iv, rfl, by rw [← hiv]; exact DGet.t (k := kC d0) d7 hyt, wInt ⟨iv, 1, rfl, rfl, wVar 2 rfl (wVar 7 rfl ⟨D, _, rfl, DPut.t (k := kC (go d0 dd 1)) d7 htt7 lk, ?_⟩)⟩⟩)))))
                have nDm' : mp ≠ D := Ne.symm nDm
                have ts8 : TS H7 (upd H7 D (.dT (putK kvs4 (kC (go d0 dd 1)) (.int (iv + 1))))) := TS.put d7 fun _ z => nomatch z
                have m8 : upd H7 D (.dT (putK kvs4 (kC (go d0 dd 1)) (.int (iv + 1)))) mp = some (.lst mvs4) := by rw [upd_ne nDm']; exact m7
                have hml : mvs4.length ≤ free.length + 1 := by
                  rw [Paired.length hm4, List.length_map]
                  have := b.2
                  rw [List.length_append] at this
                  omega
                refine sOne (sApp 4 rfl ⟨_, m8⟩ (wVar 7 rfl ⟨mvs4, m8, szl (by omega), ?_⟩))
                have ts9 : TS (upd H7 D (.dT (putK kvs4 (kC (go d0 dd 1)) (.int (iv + 1))))) (upd (upd H7 D (.dT (putK kvs4 (kC (go d0 dd 1)) (.int (iv + 1))))) mp (.lst (mvs4 ++ [.ref tt]))) := TS.lst m8
                have tsA := ts8.trans ts9
                refine And.intro (?_ : G ((Ls.take i).flatMap nbrs ++ (nbrs d0).take (j + 1)) _ _) rfl
                rw [eys', hG]
                refine ⟨_, _, _, _, _, rfl, Same.mut (Same.mut sH7 hD) hmp0, by rw [upd_ne nlm, upd_ne (Ne.symm nDl)]; exact l7, im7.mono tsA, by rw [upd_ne nDm, upd_same], ?_, upd_same, ?_⟩
                · rw [newC_snoc, stp_yes hin hc, ← List.append_assoc]
                  exact dm4.put hc _
                · rw [newC_snoc, stp_yes hin hc, List.map_append]
                  exact paired_snoc ((hm4.mono (TS.of (s6.trans s7))).mono tsA) ((im_cell.mpr ⟨tt, rfl, htt7⟩ : Im H7 (.ref tt) (cD (go d0 dd 1))).mono tsA)
            · intro σ H' hP
              have e : (Ls.take (i + 1)).flatMap nbrs = (Ls.take i).flatMap nbrs ++ (nbrs d0).take 4 := by
                rw [take_snoc hx, List.flatMap_append, List.take_of_length_le (l := nbrs d0) (by rw [nbrs_len]; omega)]
                simp
              show G ((Ls.take (i + 1)).flatMap nbrs) σ H'
              rw [e]
              exact hP.1
          · intro σ H' hP
            have ll : lvs.length = Ls.length := by rw [Paired.length hl, List.length_map]
            rw [ll, List.take_length, hG] at hP
            obtain ⟨kvs', mvs, y5, y6, y7, eσ, s3, l3, hl3, d3, dm3, m3, hm3⟩ := hP
            subst eσ
            exact sOne (sSet 3 (wVar 4 rfl ⟨kvs', mp, mvs, _, y5, y6, y7, rfl, s3, d3, dm3, m3, hm3⟩) scWalkedFrom.nd)
      · have hLs : Ls = [] := by
          cases Ls with
          | nil => rfl
          | cons a b => exact absurd rfl he
        subst hLs
        exact sOne (sRet (wVar 2 rfl (q D H2 kvs L (s1.trans s2) (s2 _ _ d1) dm hh)))
end CR
/-! Loops that fill one list; order of the cells of a room; letters sorted. -/
namespace CR
open PySem PySem.Spec PyProof.Rows L2
/-! ### all but one place stands -/
def SX (F : Addr) (H H' : Hp) : Prop := ∀ (b : Addr) (x : HO), b ≠ F → H b = some x → H' b = some x
theorem SX.refl (F : Addr) (H : Hp) : SX F H H := fun _ _ _ h => h
theorem SX.trans {F : Addr} {H H1 H2 : Hp} (a : SX F H H1) (b : SX F H1 H2) : SX F H H2 := fun x y n h => b x y n (a x y n h)
theorem SX.of {F : Addr} {H H' : Hp} (s : Same H H') : SX F H H' := fun a x _ h => s a x h
theorem SX.put {F : Addr} {H : Hp} {o : HO} : SX F H (upd H F o) := fun b x n h => by
  rw [upd_ne n]
  exact h
theorem SX.ts {F : Addr} {H H' : Hp} {xs : List V} (s : SX F H H') (h : H F = some (.lst xs)) : TS H H' := fun a ys e => s a _ (ne_of e h fun z => nomatch z) e
/-- what the others see -/
theorem SX.same {F : Addr} {H0 H H' : Hp} (s : SX F H H') (s0 : Same H0 H) (h : H0 F = none) : Same H0 H' := fun b x e => s b x (ne_of_none e h) (s0 b x e)
theorem SX.sql {K : PySem.W.Frag} {F l : Addr} {H H' : Hp} {xs : List V} (s : SX F H H') (n : l ≠ F) (h : SqL K H l xs) : SqL K H' l xs := by
  rcases h with (h | ⟨o, h⟩) | h
  · exact .inl (.inl (s _ _ n h))
  · exact .inl (.inr ⟨o, s _ _ n h⟩)
  · exact .inr h
theorem SX.sqt {K : PySem.W.Frag} {F l : Addr} {H H' : Hp} {xs : List V} (s : SX F H H') (n : l ≠ F) (h : SqT K H l xs) : SqT K H' l xs := by
  rcases h with (h | ⟨o, h⟩) | h
  · exact .inl (.inl (s _ _ n h))
  · exact .inl (.inr ⟨o, s _ _ n h⟩)
  · exact .inr h
def SrcX (F : Addr) (J : It) (H1 : Hp) (xs : List V) : Prop := ∃ G : Hp → Prop, Walk J xs.length G (YAt xs) ∧ ∀ H', SX F H1 H' → G H'
theorem srcXL {K : PySem.W.Frag} {F : Addr} {H : Hp} {l : Addr} {xs : List V} (n : l ≠ F) (h : SqL K H l xs) : SrcX F (Itl K l) H xs := ⟨_, walk_list, fun _ s => s.sql n h⟩
theorem srcXT {K : PySem.W.Frag} {F : Addr} {H : Hp} {l : Addr} {xs : List V} (n : l ≠ F) (h : SqT K H l xs) : SrcX F (Itt K l) H xs := ⟨_, walk_tup, fun _ s => s.sqt n h⟩
section
variable {X : Cx} {σ : L2.St} {H : Hp} {tg it : Expr} {pos : Pos} {D : Ends} {B : List Stmt} {α β : Type} {F : Addr}
/-- a loop that fills the list at F -/
theorem sColl (hp : PassesOwn (model X.prog X.w) X.A X.env X.xe) (hc : X.calm = true) (S : L2.St → Prop) (E : Hp → V → β → Prop) (R : Hp → V → α → Prop) (ds : List α) (out : α → List β) (bs0 : List β)
    (mE : ∀ H H' v b, TS H H' → SX F H H' → E H v b → E H' v b) (mR : ∀ H H' v b, TS H H' → R H v b → R H' v b) (hS : S σ) (hF : ∃ acc, H F = some (.lst acc) ∧ Paired (E H) acc bs0)
    (h : wI X tg it σ H fun J H1 => Same H H1 ∧ ∃ xs, SrcX F J H1 xs ∧ Paired (R H1) xs ds)
    (ht : ∀ v d bs acc σ1 H1, SX F H H1 → S σ1 → d ∈ ds → R H1 v d → H1 F = some (.lst acc) → Paired (E H1) acc bs → bs.length ≤ (bs0 ++ ds.flatMap out).length → ∀ N : L2.St → Hp → Prop, (∀ σ' H', S σ' → SX F H1 H' → (∃ acc', H' F = some (.lst acc') ∧ Paired (E H') acc' (bs ++ out d)) → N σ' H') →
      wG X tg v σ1 H1 fun σ2 H2 => wSs X B { D with nx := N, ct := N, bk := D.nx } σ2 H2)
    (k : ∀ σ' H', S σ' → SX F H H' → (∃ acc, H' F = some (.lst acc) ∧ Paired (E H') acc (bs0 ++ ds.flatMap out)) → D.nx σ' H')
    (hs : ∀ x, foldedSetIterable it X.env x = pure x := by intro _; rfl) : wS X (.For tg it B [] pos) D σ H := by
  obtain ⟨acc0, a0, p0⟩ := hF
  refine sForW hp hc (wI_mono h fun J H1 ⟨s1, xs, ⟨G, w, hG⟩, hx⟩ => ?_) hs
  have hl : xs.length = ds.length := Paired.length hx
  have f1 := s1 _ _ a0
  refine ⟨xs.length, G, YAt xs, w, fun i σ' H' => S σ' ∧ SX F H1 H' ∧ ∃ acc, H' F = some (.lst acc) ∧ Paired (E H') acc (bs0 ++ (ds.take i).flatMap out), ⟨hS, SX.refl _ _, acc0, f1, ?_⟩, fun i _ H' _ q => hG H' q.2.1, ?_, ?_⟩
  · have : bs0 ++ (ds.take 0).flatMap out = bs0 := by simp
    rw [this]
    exact paired_mono p0 fun x y e => mE _ _ _ _ (TS.of s1) (SX.of s1) e
  · intro i x σ1 H2 H3 hi q y
    obtain ⟨e1, e2⟩ := y
    subst e1
    obtain ⟨hS1, sx, acc, f2, p2⟩ := q
    obtain ⟨d, hd, rd⟩ := paired_get hx e2
    have md : d ∈ ds := List.mem_of_getElem? hd
    have eq : bs0 ++ (ds.take (i + 1)).flatMap out = (bs0 ++ (ds.take i).flatMap out) ++ out d := by
      rw [take_snoc hd, List.flatMap_append, ← List.append_assoc]
      simp
    have few : (bs0 ++ (ds.take i).flatMap out).length ≤ (bs0 ++ ds.flatMap out).length := by
      have e3 : ds.flatMap out = (ds.take i).flatMap out ++ (ds.drop i).flatMap out := by
        rw [← List.flatMap_append, List.take_append_drop]
      rw [e3]
      simp only [List.length_append]
      omega
    exact ht x d _ acc σ1 H3 ((SX.of s1).trans sx) hS1 md (mR _ _ _ _ (sx.ts f1) rd) f2 p2 few _ fun σ' H' h1 h2 h3 => ⟨h1, sx.trans h2, by rw [eq]; exact h3⟩
  · intro σ' H' q
    obtain ⟨hS1, sx, acc, f2, p2⟩ := q
    rw [hl, List.take_length] at p2
    exact k σ' H' hS1 ((SX.of s1).trans sx) ⟨acc, f2, p2⟩
end
/-! ### the cells of a room ascend -/
theorem cellRow_asc (rows : List Str) (sg : Str) (r : Nat) : Asc (cellRow rows sg r) := by
  unfold cellRow
  refine List.pairwise_map.mpr (List.Pairwise.filter _ ?_)
  exact List.pairwise_lt_range.imp fun h => .inr ⟨rfl, by show (_ : Int) < _; omega⟩
theorem cellRow_fst {rows : List Str} {sg : Str} {r : Nat} {c : Cell} (h : c ∈ cellRow rows sg r) : c.1 = (r : Int) := by
  unfold cellRow at h
  obtain ⟨x, _, e⟩ := List.mem_map.mp h
  rw [← e]
theorem cellsTo_lt {rows : List Str} {sg : Str} : ∀ {n : Nat} {c : Cell}, c ∈ cellsTo rows sg n → c.1 < (n : Int)
  | 0, c, h => by simp [cellsTo] at h
  | n + 1, c, h => by
    rw [cellsTo_succ] at h
    rcases List.mem_append.mp h with h | h
    · have := cellsTo_lt h
      omega
    · have := cellRow_fst h
      omega
theorem cellsTo_asc (rows : List Str) (sg : Str) : ∀ n : Nat, Asc (cellsTo rows sg n)
  | 0 => by simp [cellsTo]
  | n + 1 => by
    rw [cellsTo_succ]
    refine List.pairwise_append.mpr ⟨cellsTo_asc rows sg n, cellRow_asc rows sg n, fun a ha b hb => ?_⟩
    have h1 := cellsTo_lt ha
    have h2 := cellRow_fst hb
    exact .inl (by omega)
theorem cells_asc (rows : List Str) (sg : Str) : Asc (cellsOf rows sg) := cellsTo_asc rows sg _
/-! ### sorted(STEPS) -/
theorem ltrs_one {ys : List Str} (h : ys.Perm (dirs.map Dir.str)) (s : sortedS ys = true) : ys = dirs.map Dir.str := by
  have hl : ys.length = 4 := h.length_eq
  have nd : ys.Nodup := h.nodup_iff.mpr (by decide +kernel)
  have hm : ∀ x ∈ ys, x ∈ dirs.map Dir.str := fun x hx => h.mem_iff.mp hx
  match ys, hl with
  | [a, b, c, d], _ =>
    have key : ∀ a ∈ dirs.map Dir.str, ∀ b ∈ dirs.map Dir.str, ∀ c ∈ dirs.map Dir.str, ∀ d ∈ dirs.map Dir.str, sortedS [a, b, c, d] = true → [a, b, c, d].Nodup → [a, b, c, d] = dirs.map Dir.str := by decide +kernel
    exact key a (hm a (by simp)) b (hm b (by simp)) c (hm c (by simp)) d (hm d (by simp)) s nd
section
variable {X : Cx} {σ : L2.St} {H : Hp} {p p2 pos : Pos}
theorem vpLetters (T : Facts X.K X.w X.mg) (hc : X.calm = true) (hg : Gl X "sorted" := by rfl) (hg2 : Gl X "STEPS" := by rfl) (hst : starEach [.Name "STEPS" p2] X.env = (false, eval (.Name "STEPS" p2) X.env) :: starEach [] X.env := by rfl) (hpl : (backTo pos (starEach [] X.env)).any (·.1) = false := by rfl) :
    VP X (.Call (.Name "sorted" p) [.Name "STEPS" p2] [] pos) σ H (fun v H' => ∃ l, v = .ref l ∧ H l = none ∧ SqL X.K H' l (dirs.map fun d => .str d.str)) := fun Q q => by
  obtain ⟨dct, gS, _, es, n, kd, hk, _⟩ := steps_at T
  refine wCallB (cr_sortedK hc kd hk (by decide)) T.n_sorted (by decide +kernel) (wACons (wGlob (v := .ref dct) gS rfl (wANil ⟨rfl, fun ys l h1 h2 hl => ?_⟩) hg2) hst) hg (he := hst) (hpl := hpl)
  rw [ltrs_one h1 h2]
  exact q _ _ (Same.new hl) ⟨l, rfl, hl, sqL (by rw [upd_same, List.map_map]; rfl)⟩
/-- BACK[letter] -/
theorem vpBack {i : Expr} {d : Dir} (T : Facts X.K X.w X.mg) (hi : ∀ H', Same H H' → VP X i σ H' fun v _ => v = .str d.str) (hg : Gl X "BACK" := by rfl) (hs : PlainIx i := by exact fun _ _ => rfl) : VP X (.Subscript (.Name "BACK" p) i pos) σ H (fun v _ => v = .str d.back.str) := fun Q q => by
  obtain ⟨dct, es, n, D, ⟨t1, he⟩, ⟨t2, hn⟩, ⟨t3, hs3⟩, ⟨t4, hw⟩⟩ := T.back
  have kd : KDct X.K X.w dct d.str (.str d.back.str) := by
    cases d
    · exact ⟨es, n, _, D.kd.at_, D.kd.lit, he, ⟨t1, rfl⟩⟩
    · exact ⟨es, n, _, D.kd.at_, D.kd.lit, hn, ⟨t2, rfl⟩⟩
    · exact ⟨es, n, _, D.kd.at_, D.kd.lit, hs3, ⟨t3, rfl⟩⟩
    · exact ⟨es, n, _, D.kd.at_, D.kd.lit, hw, ⟨t4, rfl⟩⟩
  refine wIx ix_kdict (wGlob (v := .ref dct) D.g rfl (hi H (Same.refl H) _ fun v H1 s1 e1 => ?_) hg) hs
  subst e1
  exact ⟨dct, _, _, rfl, rfl, kd, q _ H1 s1 rfl⟩
end
end CR
namespace CR
open PySem PySem.Spec PyProof.Rows L2
/-! ### what the program computes, in plain words -/
def frL (area cs : List Cell) : List Cell := area.filter fun c => !isIn c cs
noncomputable def headL (area cs : List Cell) (m : Cell) : Cell := (reachL (frL area cs) m).headD (0, 0)
def mvL (cs : List Cell) (c t : Cell) : List Cell := cs.map fun o => if o = c then t else o
noncomputable def pushB (area cs : List Cell) (m c : Cell) (d : Dir) : Bool := isIn (go c d 1) (frL area cs) && isIn (go c d.back 1) (reachL (frL area cs) m)
noncomputable def pullB (area cs : List Cell) (m c : Cell) (d : Dir) : Bool := isIn (go c d 1) (reachL (frL area cs) m) && isIn (go c d 2) (frL area cs)
def pairsL (b : Cell → Dir → Bool) (cs : List Cell) : List Push := cs.flatMap fun c => dirs.flatMap fun d => if b c d = true then [(c, d)] else []
theorem frL_mem {area cs : List Cell} {c : Cell} : c ∈ frL area cs ↔ c ∈ area ∧ c ∉ cs := by
  unfold frL
  rw [List.mem_filter]
  constructor
  · rintro ⟨h1, h2⟩
    refine ⟨h1, fun m => ?_⟩
    rw [isIn_yes m] at h2
    cases h2
  · rintro ⟨h1, h2⟩
    exact ⟨h1, by rw [isIn_no h2]; rfl⟩
theorem frL_asc {area cs : List Cell} (h : Asc area) : Asc (frL area cs) := h.filter _
theorem frL_len {area cs : List Cell} : (frL area cs).length ≤ area.length := List.length_filter_le _ _
theorem headL_at {area cs : List Cell} {m : Cell} (h : m ∈ frL area cs) : (reachL (frL area cs) m)[0]? = some (headL area cs m) := by
  have e := (reachL_mem h).mpr (.start : Rc (frL area cs) m m)
  unfold headL
  cases hl : reachL (frL area cs) m with
  | nil => rw [hl] at e; cases e
  | cons a b => rfl
theorem pairsL_mem {b : Cell → Dir → Bool} {cs : List Cell} {p : Push} : p ∈ pairsL b cs ↔ p.1 ∈ cs ∧ b p.1 p.2 = true := by
  unfold pairsL
  rw [List.mem_flatMap]
  constructor
  · rintro ⟨c, hc, h⟩
    obtain ⟨d, hd, h2⟩ := List.mem_flatMap.mp h
    by_cases e : b c d = true
    · rw [if_pos e] at h2
      rw [List.mem_singleton.mp h2]
      exact ⟨hc, e⟩
    · rw [if_neg e] at h2
      cases h2
  · rintro ⟨h1, h2⟩
    refine ⟨p.1, h1, List.mem_flatMap.mpr ⟨p.2, ?_, ?_⟩⟩
    · cases p.2 <;> decide
    · rw [if_pos h2]
      exact List.mem_singleton.mpr rfl
theorem pairsL_len (b : Cell → Dir → Bool) : ∀ cs : List Cell, (pairsL b cs).length ≤ 4 * cs.length
  | [] => by simp [pairsL]
  | c :: cs => by
    have h := pairsL_len b cs
    have e : pairsL b (c :: cs) = (dirs.flatMap fun d => if b c d = true then [(c, d)] else []) ++ pairsL b cs := by
      unfold pairsL
      rw [List.flatMap_cons]
    have g : ∀ ds : List Dir, (ds.flatMap fun d => if b c d = true then [(c, d)] else []).length ≤ ds.length := by
      intro ds
      induction ds with
      | nil => simp
      | cons d ds ih =>
        rw [List.flatMap_cons, List.length_append, List.length_cons]
        by_cases e : b c d = true
        · rw [if_pos e]
          simp only [List.length_singleton]
          omega
        · rw [if_neg e]
          simp only [List.length_nil]
          omega
    have g4 := g dirs
    have d4 : dirs.length = 4 := rfl
    rw [e, List.length_append, List.length_cons]
    omega
theorem keys_im {H : Hp} : ∀ {kvs : List (List Key × V)} {L : List Cell} {bs : List Addr}, kvs.map (·.1) = L.map kC → IsKeys H kvs bs → ImL H (bs.map V.ref) (L.map cD)
  | [], [], _, _, .nil => .nil
  | [], _ :: _, _, e, _ => by simp at e
  | p :: kvs, [], _, e, _ => by simp at e
  | p :: kvs, c :: L, _, e, .cons a t => by
    rw [List.map_cons, List.map_cons] at e
    injection e with e1 e2
    refine .cons ?_ (keys_im e2 t)
    have a : H _ = some (.tup (p.1.map kV)) := a
    rw [e1] at a
    exact im_cell.mpr ⟨_, rfl, a⟩
variable {P : Program} {w : World} {K : PySem.W.Frag} {mg : Str → Option Value} {base : Heap}
/-! ### reach_of, plain_of -/
def spReach (C : Addr) (K : PySem.W.Frag) : Sp := fun vs H Q _ => ∃ (g sv : V) (rows : List Str) (st : Stand), vs = [g, sv] ∧ Grd C H g rows ∧ Im H sv (stD st) ∧ RoomOk rows ∧ st.2 ∈ floorC rows ∧ st.2 ∉ st.1 ∧
  ∀ r H', Same H H' → LsE K H' cD r (reachL (frL (floorC rows) st.1) st.2) → Q r H'
theorem scReachOf : FnScope ["ground", "standing"] ["ground", "standing"] (defScope sReachOf) := ⟨rfl, rfl, rfl, by decide +kernel, rfl, by decide +kernel, by decide +kernel⟩
theorem ok_reach_of (T : Facts K w mg) {C fI fF : Addr} (G : ClsG K mg C fI fF) : Fn P w K mg base CX0 "reach_of" 3 [] (spReach C K) := by
  have F1 : Fn P w K mg base CX0 "walked_from" 2 [] (spWalk K) := ok_walked_from T
  refine fn_mk T.d_reach_of fun f fd F => F.ok scReachOf (fun vs H Q E h => ?_) (fun cdv A outer s H vs Q E hr h => ⟨_, pSs, ?_⟩)
  · obtain ⟨g, sv, rows, st, rfl, _⟩ := h
    rfl
  · obtain ⟨g, sv, rows, st, rfl, hg, hs, R, m1, m2, q⟩ := h
    have hfl := R.floor
    have mf : st.2 ∈ frL (floorC rows) st.1 := frL_mem.mpr ⟨m1, m2⟩
    have lf := frL_len (area := floorC rows) (cs := st.1)
    have l16 : (floorC rows).length ≤ 16 := hfl
    refine sOne (sRet (wCallB cr_sortedC T.n_sorted (by decide +kernel) (wACons (wCallTy (call_list_dT rfl) T.n_list (by decide +kernel) (wACons (wCall F1 hr (wACons (VP.run (vpFree (rows := rows) (cs := st.1) T G hr (by omega) (vpVar 0 rfl hg) fun H1 s1 => VP.mono (vpP0 (vpVar 1 rfl (hs.mono (TS.of s1)))) fun v H' s h => row_of h) fun fv H1 s1 h1 => wACons (VP.run (vpP1 (vpVar 1 rfl (hs.mono (TS.of s1)))) fun mv H2 s2 h2 => wANil ?_)))))))))
    refine ⟨fv, mv, frL (floorC rows) st.1, st.2, rfl, h1.mono s2, h2, by omega, fun p H3 kvs L s3 hp dm hh => wANil ⟨p, kvs, rfl, .inl hp, fun lp bs hlp hk => wANil ⟨lp, bs.map V.ref, L, rfl, sqL upd_same, ?_, hh.nd, fun p2 ys hp2 hy => ?_⟩⟩⟩
    · exact (keys_im dm.keys hk).mono (TS.new hlp)
    · have e : sortC L = reachL (frL (floorC rows) st.1) st.2 := (sortC_of hh.nd (reachL_asc (frL_asc (cells_asc _ _))) fun x => by rw [reachL_mem mf, hh.end]).symm
      rw [e] at hy
      exact q _ _ ((s1.trans (s2.trans s3)).trans ((Same.new hlp).trans (Same.new hp2))) ⟨p2, ys, rfl, sqL upd_same, hy.mono (TS.new hp2)⟩
def spPlain (C : Addr) : Sp := fun vs H Q _ => ∃ (g sv : V) (rows : List Str) (st : Stand), vs = [g, sv] ∧ Grd C H g rows ∧ Im H sv (stD st) ∧ RoomOk rows ∧ st.2 ∈ floorC rows ∧ st.2 ∉ st.1 ∧
  ∀ r H', Same H H' → Im H' r (stD (st.1, headL (floorC rows) st.1 st.2)) → Q r H'
theorem scPlainOf : FnScope ["ground", "standing"] ["ground", "standing"] (defScope sPlainOf) := ⟨rfl, rfl, rfl, by decide +kernel, rfl, by decide +kernel, by decide +kernel⟩
theorem ok_plain_of (T : Facts K w mg) {C fI fF : Addr} (G : ClsG K mg C fI fF) : Fn P w K mg base CX0 "plain_of" 4 [] (spPlain C) := by
  have F1 : Fn P w K mg base CX0 "reach_of" 3 [] (spReach C K) := ok_reach_of T G
  refine fn_mk T.d_plain_of fun f fd F => F.ok scPlainOf (fun vs H Q E h => ?_) (fun cdv A outer s H vs Q E hr h => ⟨_, pSs, ?_⟩)
  · obtain ⟨g, sv, rows, st, rfl, _⟩ := h
    rfl
  · obtain ⟨g, sv, rows, st, rfl, hg, hs, R, m1, m2, q⟩ := h
    refine sOne (sRet (VP.run (vpPair (vpP0 (vpVar 1 rfl hs)) fun H1 s1 => vpIxL (i := 0) (P := fun v H' => Im H' v (cD (headL (floorC rows) st.1 st.2))) (VP.mono (vpCall2 (P := fun v H' => LsE K H' cD v (reachL (frL (floorC rows) st.1) st.2)) F1 hr (vpVar 0 rfl (hg.mono s1)) (fun H2 s2 => vpVar 1 rfl (hs.mono (TS.of (s1.trans s2)))) grdS fun v u H' s h1 h2 Q q => ⟨v, u, rows, st, rfl, h1, h2, R, m1, m2, q⟩) fun v H' s h => h.get (headL_at (frL_mem.mpr ⟨m1, m2⟩))) (fun _ _ => vpInt) imS) fun v H' s h => q v H' s h))
/-! ### moved -/
def spMoved : Sp := fun vs H Q _ => ∃ (v x y : V) (cs : List Cell) (c t : Cell), vs = [v, x, y] ∧ Im H v (csD cs) ∧ Im H x (cD c) ∧ Im H y (cD t) ∧ cs.length ≤ 1000 ∧ (mvL cs c t).Nodup ∧ ∀ r H', Same H H' → Im H' r (csD (sortC (mvL cs c t))) → Q r H'
theorem scMoved : FnScope ["crates", "cell", "there", "one"] ["crates", "cell", "there"] (defScope sMoved) := ⟨rfl, rfl, rfl, by decide +kernel, rfl, by decide +kernel, by decide +kernel⟩
theorem ok_moved (T : Facts K w mg) : Fn P w K mg base CX0 "moved" 1 [] spMoved := by
  refine fn_mk T.d_moved fun f fd F => F.ok scMoved (fun vs H Q E h => ?_) (fun cdv A outer s H vs Q E hr h => ⟨_, pSs, ?_⟩)
  · obtain ⟨v, x, y, cs, c, t, rfl, _⟩ := h
    rfl
  · obtain ⟨v, x, y, cs, c, t, rfl, hv, hx, hy, hz, nd, q⟩ := h
    obtain ⟨vt, ys, rfl, ht, hs⟩ := im_cells.mp hv
    refine sOne (sRet (VP.run (vpTupOf T.n_tuple (vpSorted (cs := mvL cs c t) T.n_sorted nd ?_)) fun v H' s h => q v H' s h))
    refine fun Q' q' => oLc0 rfl scMoved.nd (blkOk_by (own := [("one", 3)]) (N := ["crates", "cell", "there", "one"]) (sc := defScope sMoved) (by decide +kernel)) (lcM0 3 (fun H v (d : Cell) => Im H v (cD d)) (fun H v (d : Cell) => Im H v (cD d)) (fun o => if o = c then t else o) cs (fun _ _ _ _ _ => pg_name (i := 3) scMoved.nd rfl (Or.inl rfl)) (fun _ => rfl) (fun _ _ _ _ s h => h.mono (TS.of s)) (fun _ _ _ _ s h => h.mono s) ?_ (by omega) ?_ ?_)
    · exact iT (wVar 0 rfl ⟨vt, rfl, ⟨_, sqT ht⟩, Same.refl _, _, srcT (sqT ht), paired_map.mp hs⟩)
    · intro v2 d H' s e m K2 k s0 H0 C cl fp
      refine wIfE (TV.run (tvEqE enc_cell (hu65 hr) (x := d) (y := c) (vpVar 3 rfl e) fun H2 s2 => vpVar 1 rfl (hx.mono (TS.of (s.trans s2)))) fun H2 s2 => ?_)
      by_cases e2 : d = c
      · rw [decide_eq_true e2]
        exact iteT (wVar 2 rfl (k _ _ s2 (by rw [if_pos e2]; exact hy.mono (TS.of (s.trans s2)))))
      · rw [decide_eq_false e2]
        exact iteF (wVar 3 rfl (k _ _ s2 (by rw [if_neg e2]; exact e.mono (TS.of s2))))
    · intro Dl acc H' s n ha hp
      exact q' _ _ s ⟨Dl, acc, rfl, sqL ha, paired_map.mpr hp⟩
/-! ### push_of, pull_of -/
def spPushOf (C : Addr) : Sp := fun vs H Q _ => ∃ (g sv pv : V) (rows : List Str) (st : Stand) (p : Push), vs = [g, sv, pv] ∧ Grd C H g rows ∧ Im H sv (stD st) ∧ Im H pv (pD p) ∧ RoomOk rows ∧ st.1.length ≤ 1000 ∧ (mvL st.1 p.1 (go p.1 p.2 1)).Nodup ∧ p.1 ∈ floorC rows ∧ p.1 ∉ mvL st.1 p.1 (go p.1 p.2 1) ∧
  ∀ r H', Same H H' → Im H' r (stD (sortC (mvL st.1 p.1 (go p.1 p.2 1)), headL (floorC rows) (sortC (mvL st.1 p.1 (go p.1 p.2 1))) p.1)) → Q r H'
theorem scPushOf : FnScope ["ground", "standing", "push", "cell", "letter"] ["ground", "standing", "push"] (defScope sPushOf) := ⟨rfl, rfl, rfl, by decide +kernel, rfl, by decide +kernel, by decide +kernel⟩
theorem ok_push_of (T : Facts K w mg) {C fI fF : Addr} (G : ClsG K mg C fI fF) : Fn P w K mg base CX0 "push_of" 5 [] (spPushOf C) := by
  have F1 : Fn P w K mg base CX0 "plain_of" 4 [] (spPlain C) := ok_plain_of T G
  have F2 : Fn P w K mg base CX0 "moved" 1 [] spMoved := ok_moved T
  refine fn_mk T.d_push_of fun f fd F => F.ok scPushOf (fun vs H Q E h => ?_) (fun cdv A outer s H vs Q E hr h => ⟨_, pSs, ?_⟩)
  · obtain ⟨g, sv, pv, rows, st, p, rfl, _⟩ := h
    rfl
  · obtain ⟨g, sv, pv, rows, st, p, rfl, hg, hs, hp, R, hz, nd, m1, m2, q⟩ := h
    obtain ⟨pt, x, rfl, hpt, hx⟩ := im_push.mp hp
    refine sCons (sAsg (wVar 2 rfl (gT2 rfl ⟨pt, x, _, rfl, sqT hpt, gNm 3 (gNm 4 ?_ scPushOf.nd) scPushOf.nd⟩)))
    refine sOne (sRet (VP.run (vpCall2 (Pb := fun v H' => Im H' v (stD (sortC (mvL st.1 p.1 (go p.1 p.2 1)), p.1))) (P := fun v H' => Im H' v (stD (sortC (mvL st.1 p.1 (go p.1 p.2 1)), headL (floorC rows) (sortC (mvL st.1 p.1 (go p.1 p.2 1))) p.1))) F1 hr (vpVar 0 rfl hg) (fun H1 s1 => vpPair (d1 := csD _) (d2 := cD _) ?_ fun H2 s2 => vpVar 3 rfl (hx.mono (TS.of (s1.trans s2)))) grdS fun v u H' s h1 h2 Q q => ⟨v, u, rows, _, rfl, h1, h2, R, m1, fun z => m2 (sortC_mem.mp z), q⟩) fun v H' s h => q v H' s h))
    exact vpCall3 (P := fun v H' => Im H' v (csD (sortC (mvL st.1 p.1 (go p.1 p.2 1))))) F2 hr (vpP0 (vpVar 1 rfl (hs.mono (TS.of s1)))) (fun H2 s2 => vpVar 3 rfl (hx.mono (TS.of (s1.trans s2)))) (fun H2 s2 => vpBeside (d := p.2) T hr (vpVar 3 rfl (hx.mono (TS.of (s1.trans s2)))) fun _ _ => vpVar 4 rfl rfl) imS imS fun v u y H' s h1 h2 h3 Q q => ⟨v, u, y, st.1, p.1, go p.1 p.2 1, rfl, h1, h2, h3, hz, nd, q⟩
def spPullOf (C : Addr) : Sp := fun vs H Q _ => ∃ (g sv pv : V) (rows : List Str) (st : Stand) (p : Push), vs = [g, sv, pv] ∧ Grd C H g rows ∧ Im H sv (stD st) ∧ Im H pv (pD p) ∧ RoomOk rows ∧ st.1.length ≤ 1000 ∧ (mvL st.1 p.1 (go p.1 p.2 1)).Nodup ∧ go p.1 p.2 2 ∈ floorC rows ∧ go p.1 p.2 2 ∉ mvL st.1 p.1 (go p.1 p.2 1) ∧
  ∀ r H', Same H H' → Im H' r (stD (sortC (mvL st.1 p.1 (go p.1 p.2 1)), headL (floorC rows) (sortC (mvL st.1 p.1 (go p.1 p.2 1))) (go p.1 p.2 2))) → Q r H'
theorem scPullOf : FnScope ["ground", "standing", "pull", "cell", "letter"] ["ground", "standing", "pull"] (defScope sPullOf) := ⟨rfl, rfl, rfl, by decide +kernel, rfl, by decide +kernel, by decide +kernel⟩
theorem ok_pull_of (T : Facts K w mg) {C fI fF : Addr} (G : ClsG K mg C fI fF) : Fn P w K mg base CX0 "pull_of" 5 [] (spPullOf C) := by
  have F1 : Fn P w K mg base CX0 "plain_of" 4 [] (spPlain C) := ok_plain_of T G
  have F2 : Fn P w K mg base CX0 "moved" 1 [] spMoved := ok_moved T
  refine fn_mk T.d_pull_of fun f fd F => F.ok scPullOf (fun vs H Q E h => ?_) (fun cdv A outer s H vs Q E hr h => ⟨_, pSs, ?_⟩)
  · obtain ⟨g, sv, pv, rows, st, p, rfl, _⟩ := h
    rfl
  · obtain ⟨g, sv, pv, rows, st, p, rfl, hg, hs, hp, R, hz, nd, m1, m2, q⟩ := h
    obtain ⟨pt, x, rfl, hpt, hx⟩ := im_push.mp hp
    refine sCons (sAsg (wVar 2 rfl (gT2 rfl ⟨pt, x, _, rfl, sqT hpt, gNm 3 (gNm 4 ?_ scPullOf.nd) scPullOf.nd⟩)))
    refine sOne (sRet (VP.run (vpCall2 (Pb := fun v H' => Im H' v (stD (sortC (mvL st.1 p.1 (go p.1 p.2 1)), go p.1 p.2 2))) (P := fun v H' => Im H' v (stD (sortC (mvL st.1 p.1 (go p.1 p.2 1)), headL (floorC rows) (sortC (mvL st.1 p.1 (go p.1 p.2 1))) (go p.1 p.2 2)))) F1 hr (vpVar 0 rfl hg) (fun H1 s1 => vpPair (d1 := csD _) (d2 := cD _) ?_ fun H2 s2 => vpBeside2 (d := p.2) T hr (vpVar 3 rfl (hx.mono (TS.of (s1.trans s2)))) fun _ _ => vpVar 4 rfl rfl) grdS fun v u H' s h1 h2 Q q => ⟨v, u, rows, _, rfl, h1, h2, R, m1, fun z => m2 (sortC_mem.mp z), q⟩) fun v H' s h => q v H' s h))
    exact vpCall3 (P := fun v H' => Im H' v (csD (sortC (mvL st.1 p.1 (go p.1 p.2 1))))) F2 hr (vpP0 (vpVar 1 rfl (hs.mono (TS.of s1)))) (fun H2 s2 => vpVar 3 rfl (hx.mono (TS.of (s1.trans s2)))) (fun H2 s2 => vpBeside (d := p.2) T hr (vpVar 3 rfl (hx.mono (TS.of (s1.trans s2)))) fun _ _ => vpVar 4 rfl rfl) imS imS fun v u y H' s h1 h2 h3 Q q => ⟨v, u, y, st.1, p.1, go p.1 p.2 1, rfl, h1, h2, h3, hz, nd, q⟩
/-! ### pushes_at, pulls_at -/
def spPairs (C : Addr) (K : PySem.W.Frag) (B : List Cell → List Cell → Cell → Cell → Dir → Bool) : Sp := fun vs H Q _ => ∃ (g sv : V) (rows : List Str) (st : Stand), vs = [g, sv] ∧ Grd C H g rows ∧ Im H sv (stD st) ∧ RoomOk rows ∧ st.1.length ≤ 1000 ∧ st.2 ∈ floorC rows ∧ st.2 ∉ st.1 ∧
  ∀ r H', Same H H' → LsE K H' pD r (pairsL (B (floorC rows) st.1 st.2) st.1) → Q r H'
theorem scPushesAt : FnScope ["ground", "standing", "free", "near", "found", "cell", "letter"] ["ground", "standing"] (defScope sPushesAt) := ⟨rfl, rfl, rfl, by decide +kernel, rfl, by decide +kernel, by decide +kernel⟩
theorem ok_pushes_at (T : Facts K w mg) {C fI fF : Addr} (G : ClsG K mg C fI fF) : Fn P w K mg base CX0 "pushes_at" 4 [] (spPairs C K pushB) := by
  have F1 : Fn P w K mg base CX0 "reach_of" 3 [] (spReach C K) := ok_reach_of T G
  refine fn_mk T.d_pushes_at fun f fd F => F.ok scPushesAt (fun vs H Q E h => ?_) (fun cdv A outer s H vs Q E hr h => ⟨_, pSs, ?_⟩)
  · obtain ⟨g, sv, rows, st, rfl, _⟩ := h
    rfl
  · obtain ⟨g, sv, rows, st, rfl, hg, hs, R, hz, m1, m2, q⟩ := h
    have l16 : (floorC rows).length ≤ 16 := R.floor
    refine sCons (sPar3 2 3 4 rfl scPushesAt.nd (wACons (VP.run (vpFree (rows := rows) (cs := st.1) T G hr (by omega) (vpVar 0 rfl hg) fun H1 s1 => VP.mono (vpP0 (vpVar 1 rfl (hs.mono (TS.of s1)))) fun v H' s h => row_of h) fun fv H1 s1 hf =>
      wACons (VP.run (vpCall2 (P := fun v H' => LsE K H' cD v (reachL (frL (floorC rows) st.1) st.2)) F1 hr (vpVar 0 rfl (hg.mono s1)) (fun H2 s2 => vpVar 1 rfl (hs.mono (TS.of (s1.trans s2)))) grdS fun v u H' s h1 h2 Q q => ⟨v, u, rows, st, rfl, h1, h2, R, m1, m2, q⟩) fun nv H2 s2 hn =>
        wACons (wLst (wANil ⟨Nat.zero_le _, fun Fa hF => wANil ⟨fv, nv, .ref Fa, rfl, ?_⟩⟩))))))
    have sA := s1.trans s2
    have hf2 := hf.mono s2
    have hs2 := hs.mono (TS.of sA)
    have lp := pairsL_len (pushB (floorC rows) st.1 st.2) st.1
    refine sCons (sColl PassesOwn.never rfl (F := Fa) (fun σ => ∃ x5 x6, σ = [some g, some sv, some fv, some nv, some (.ref Fa), x5, x6]) (fun H v b => Im H v (pD b)) (fun H v c => Im H v (cD c)) st.1 (fun c => dirs.flatMap fun d => if pushB (floorC rows) st.1 st.2 c d = true then [(c, d)] else []) []
      (fun _ _ _ _ t _ h => h.mono t) (fun _ _ _ _ t h => h.mono t) ⟨none, none, rfl⟩ ⟨[], upd_same, .nil⟩ ?_ ?_ ?_)
    · refine iT (VP.run (vpP0 (vpVar 1 rfl (hs2.mono (TS.new hF)))) fun v H3 s3 h3 => ?_)
      obtain ⟨t, ys, e, ht, hy⟩ := im_cells.mp h3
      exact ⟨t, e, ⟨_, sqT ht⟩, s3, ys, srcXT (ne_of ht (s3 _ _ upd_same) fun z => nomatch z) (sqT ht), paired_map.mp hy⟩
    · intro v c bs acc σ1 H3 sx hS mc hv hF3 hp3 few N hN
      obtain ⟨x5, x6, rfl⟩ := hS
      have sm : Same H2 H3 := sx.same (Same.new hF) hF
      refine gNm 5 ?_ scPushesAt.nd
      refine sOne (sColl PassesOwn.never rfl (F := Fa) (fun σ => ∃ x6, σ = [some g, some sv, some fv, some nv, some (.ref Fa), some v, x6]) (fun H v b => Im H v (pD b)) (fun _ v (d : Dir) => v = .str d.str) dirs (fun d => if pushB (floorC rows) st.1 st.2 c d = true then [(c, d)] else []) bs
        (fun _ _ _ _ t _ h => h.mono t) (fun _ _ _ _ _ h => h) ⟨x6, rfl⟩ ⟨acc, hF3, hp3⟩ ?_ ?_ ?_)
      · refine iL (VP.run (vpLetters T rfl) fun v H4 s4 h4 => ?_)
        obtain ⟨l, e, hl, hq⟩ := h4
        exact ⟨l, e, ⟨_, hq⟩, s4, _, srcXL (fun z => by rw [z, hF3] at hl; cases hl) hq, paired_self⟩
      · intro v2 d bs2 acc2 σ2 H4 sx2 hS2 md e2 hF4 hp4 few2 N2 hN2
        obtain ⟨x6, rfl⟩ := hS2
        subst e2
        have sm4 : Same H2 H4 := (sx.trans sx2).same (Same.new hF) hF
        have hv4 := hv.mono (sx2.ts hF3)
        refine gNm 6 ?_ scPushesAt.nd
        refine sOne (sIfT (tvAnd (tvInE enc_cell (hu65 hr) (x := go c d 1) (cs := frL (floorC rows) st.1) (vpBeside (d := d) T hr (vpVar 5 rfl hv4) fun _ _ => vpVar 6 rfl rfl) fun H5 s5 => vpVar 2 rfl (hf2.mono (sm4.trans s5)).row) fun _ H5 s5 =>
          tvInE enc_cell (hu65 hr) (x := go c d.back 1) (cs := reachL (frL (floorC rows) st.1) st.2) (vpBeside (d := d.back) T hr (vpVar 5 rfl (hv4.mono (TS.of s5))) fun H6 s6 => vpBack T fun _ _ => vpVar 6 rfl rfl) fun H6 s6 => vpVar 3 rfl (hn.mono (sm4.trans (s5.trans s6))).row) (fun hk H5 s5 => ?_) (fun hk H5 s5 => ?_))
        · have hk : pushB (floorC rows) st.1 st.2 c d = true := hk
          rw [if_pos hk] at hN2
          have ll := Paired.length hp4
          refine sOne (sApp 4 rfl ⟨_, s5 _ _ hF4⟩ (VP.run (vpPair (d1 := cD c) (d2 := .str d.str) (vpVar 5 rfl (hv4.mono (TS.of s5))) fun H6 s6 => vpVar 6 rfl (.str _)) fun z H6 s6 hz6 => ⟨acc2, s6 _ _ (s5 _ _ hF4), szl ?_, ?_⟩))
          · have e1 : (bs ++ List.flatMap (fun d => if pushB (floorC rows) st.1 st.2 c d = true then [(c, d)] else []) dirs).length ≤ bs.length + 4 := by
              have := pairsL_len (pushB (floorC rows) st.1 st.2) [c]
              unfold pairsL at this
              rw [List.flatMap_cons, List.flatMap_nil, List.append_nil] at this
              rw [List.length_append]
              simp only [List.length_singleton] at this
              omega
            have e2 : bs.length ≤ 4 * st.1.length := Nat.le_trans few (by rw [List.nil_append]; exact lp)
            omega
          · have t6 : TS H6 (upd H6 Fa (.lst (acc2 ++ [z]))) := TS.lst (s6 _ _ (s5 _ _ hF4))
            refine hN2 _ _ ⟨_, rfl⟩ ((SX.of (s5.trans s6)).trans SX.put) ⟨_, upd_same, ?_⟩
            exact paired_snoc (paired_mono hp4 fun _ _ h => h.mono ((TS.of (s5.trans s6)).trans t6)) (hz6.mono t6)
        · have hk : pushB (floorC rows) st.1 st.2 c d = false := hk
          rw [if_neg (by rw [hk]; decide)] at hN2
          exact sNil (hN2 _ _ ⟨_, rfl⟩ (SX.of s5) ⟨acc2, s5 _ _ hF4, by rw [List.append_nil]; exact paired_mono hp4 fun _ _ h => h.mono (TS.of s5)⟩)
      · intro σ' H' hS' sx' ha'
        obtain ⟨x6, rfl⟩ := hS'
        exact hN _ _ ⟨_, _, rfl⟩ sx' ha'
    · intro σ' H' hS' sx' ha'
      obtain ⟨x5, x6, rfl⟩ := hS'
      obtain ⟨acc, h1, h2⟩ := ha'
      exact sOne (sRet (wVar 4 rfl (q _ _ (sx'.same (sA.trans (Same.new hF)) (Same.free sA hF)) ⟨Fa, acc, rfl, sqL h1, paired_map.mpr (by rw [List.nil_append] at h2; exact h2)⟩)))
end CR
namespace CR
open PySem PySem.Spec PyProof.Rows L2
theorem okC {P : Program} {w : World} {K : PySem.W.Frag} {mg : Str → Option Value} {base : Heap} {x qual : Str} {st : Stmt} {f : Addr} {fd : FuncData} {N ps : List Str} {k : Nat} {sp : Sp} (F : Fun K x qual st f fd) (S : FnScope N ps (defScope st)) (len : ∀ vs H Q E, sp vs H Q E → vs.length = ps.length)
    (hbody : ∀ (cdv : Value) (A : Around) (outer : List Env) (s : Shared) (H : Hp) (vs : List V) (Q : VK) (E : XK), Room k (A.deeper (envOfC qual (defScope st) s.heap.objs.size f cdv)) → sp vs H Q E →
      ∃ t, PSs (cxOf (L2.CX P w) P w K mg base N qual (defScope st) f cdv A outer s H E) (defBody st) t ∧ t { nx := fun _ H' => Q .non H', rt := Q } (start N vs) H) : FnOk P w K mg base (L2.CX P w) (k + 1) f fd ps sp := by
  obtain ⟨oc, od, kV, doc, pm, an, cdv, ct, osl, rfl, lk, hcd⟩ := F.ex
  exact fn_of lk hcd S len fun A outer s H vs Q E hr hsp => hbody cdv A outer s H vs Q E hr hsp
theorem passL {X : Cx} : Passes (L2.CX X.prog X.w) X E0 := fun _ _ _ _ _ _ _ h => by
  obtain ⟨_, _, _, _, _, _, _, _, _, _, _, _, z⟩ := h
  exact z.elim
theorem takes0 {X : Cx} : Takes X (fun _ _ _ _ => False) := fun _ _ x => by
  obtain ⟨_, _, _, _, _, _, _, _, _, _, _, _, _, _, _, _, z⟩ := x
  exact z.elim
theorem mvL_mem {cs : List Cell} {c t x : Cell} (h : x ∈ mvL cs c t) : x = t ∨ (x ∈ cs ∧ x ≠ c) := by
  unfold mvL at h
  obtain ⟨o, ho, e⟩ := List.mem_map.mp h
  by_cases q : o = c
  · rw [if_pos q] at e
    exact .inl e.symm
  · rw [if_neg q] at e
    rw [← e]
    exact .inr ⟨ho, q⟩
theorem mvL_len {cs : List Cell} {c t : Cell} : (mvL cs c t).length = cs.length := List.length_map ..
theorem mvL_nodup {c t : Cell} : ∀ {cs : List Cell}, cs.Nodup → t ∉ cs → (mvL cs c t).Nodup
  | [], _, _ => List.nodup_nil
  | o :: cs, h, n => by
    obtain ⟨h1, h2⟩ := List.nodup_cons.mp h
    have n2 : t ∉ cs := fun m => n (List.mem_cons_of_mem _ m)
    have e : mvL (o :: cs) c t = (if o = c then t else o) :: mvL cs c t := rfl
    rw [e]
    refine List.nodup_cons.mpr ⟨fun m => ?_, mvL_nodup h2 n2⟩
    by_cases q : o = c
    · rw [if_pos q] at m
      unfold mvL at m
      obtain ⟨z, hz, e2⟩ := List.mem_map.mp m
      by_cases q2 : z = c
      · rw [q2, ← q] at hz
        exact h1 hz
      · rw [if_neg q2] at e2
        exact n2 (e2 ▸ hz)
    · rw [if_neg q] at m
      rcases mvL_mem m with z | z
      · exact n (z ▸ List.mem_cons_self ..)
      · exact h1 z.1
theorem go_ne {c : Cell} {d : Dir} {i j : Int} (h : i ≠ j) : go c d i ≠ go c d j := by
  intro e
  have e1 : c.1 + i * d.dr = c.1 + j * d.dr := congrArg Prod.fst e
  have e2 : c.2 + i * d.dc = c.2 + j * d.dc := congrArg Prod.snd e
  cases d <;> simp only [Dir.dr, Dir.dc] at e1 e2 <;> omega
theorem go_ne0 {c : Cell} {d : Dir} {i : Int} (h : i ≠ 0) : go c d i ≠ c := by
  intro e
  have e1 : c.1 + i * d.dr = c.1 := congrArg Prod.fst e
  have e2 : c.2 + i * d.dc = c.2 := congrArg Prod.snd e
  cases d <;> simp only [Dir.dr, Dir.dc] at e1 e2 <;> omega
theorem push_pre {area cs : List Cell} {m : Cell} {p : Push} (h : p ∈ pairsL (pushB area cs m) cs) (nd : cs.Nodup) (inA : ∀ c ∈ cs, c ∈ area) : (mvL cs p.1 (go p.1 p.2 1)).Nodup ∧ p.1 ∈ area ∧ p.1 ∉ mvL cs p.1 (go p.1 p.2 1) := by
  obtain ⟨h1, h2⟩ := pairsL_mem.mp h
  unfold pushB at h2
  obtain ⟨h3, _⟩ := Bool.and_eq_true_iff.mp h2
  obtain ⟨h5, h6⟩ := frL_mem.mp (isIn_iff.mp h3)
  refine ⟨mvL_nodup nd h6, inA _ h1, fun z => ?_⟩
  rcases mvL_mem z with z | z
  · exact go_ne0 (by decide) z.symm
  · exact z.2 rfl
theorem pull_pre {area cs : List Cell} {m : Cell} {p : Push} (h : p ∈ pairsL (pullB area cs m) cs) (nd : cs.Nodup) : (mvL cs p.1 (go p.1 p.2 1)).Nodup ∧ go p.1 p.2 2 ∈ area ∧ go p.1 p.2 2 ∉ mvL cs p.1 (go p.1 p.2 1) := by
  obtain ⟨h1, h2⟩ := pairsL_mem.mp h
  unfold pullB at h2
  obtain ⟨h3, h4⟩ := Bool.and_eq_true_iff.mp h2
  obtain ⟨h5, h6⟩ := frL_mem.mp (reachL_sub (isIn_iff.mp h3))
  obtain ⟨h7, h8⟩ := frL_mem.mp (isIn_iff.mp h4)
  refine ⟨mvL_nodup nd h6, h7, fun z => ?_⟩
  rcases mvL_mem z with z | z
  · exact go_ne (by decide) z
  · exact h8 z.1
variable {P : Program} {w : World} {K : PySem.W.Frag} {mg : Str → Option Value} {base : Heap}
theorem scPullsAt : FnScope ["ground", "standing", "free", "near", "found", "cell", "letter"] ["ground", "standing"] (defScope sPullsAt) := ⟨rfl, rfl, rfl, by decide +kernel, rfl, by decide +kernel, by decide +kernel⟩
theorem ok_pulls_at (T : Facts K w mg) {C fI fF : Addr} (G : ClsG K mg C fI fF) : Fn P w K mg base CX0 "pulls_at" 4 [] (spPairs C K pullB) := by
  have F1 : Fn P w K mg base CX0 "reach_of" 3 [] (spReach C K) := ok_reach_of T G
  refine fn_mk T.d_pulls_at fun f fd F => F.ok scPullsAt (fun vs H Q E h => ?_) (fun cdv A outer s H vs Q E hr h => ⟨_, pSs, ?_⟩)
  · obtain ⟨g, sv, rows, st, rfl, _⟩ := h
    rfl
  · obtain ⟨g, sv, rows, st, rfl, hg, hs, R, hz, m1, m2, q⟩ := h
    have l16 : (floorC rows).length ≤ 16 := R.floor
    refine sCons (sPar3 2 3 4 rfl scPullsAt.nd (wACons (VP.run (vpFree (rows := rows) (cs := st.1) T G hr (by omega) (vpVar 0 rfl hg) fun H1 s1 => VP.mono (vpP0 (vpVar 1 rfl (hs.mono (TS.of s1)))) fun v H' s h => row_of h) fun fv H1 s1 hf =>
      wACons (VP.run (vpCall2 (P := fun v H' => LsE K H' cD v (reachL (frL (floorC rows) st.1) st.2)) F1 hr (vpVar 0 rfl (hg.mono s1)) (fun H2 s2 => vpVar 1 rfl (hs.mono (TS.of (s1.trans s2)))) grdS fun v u H' s h1 h2 Q q => ⟨v, u, rows, st, rfl, h1, h2, R, m1, m2, q⟩) fun nv H2 s2 hn =>
        wACons (wLst (wANil ⟨Nat.zero_le _, fun Fa hF => wANil ⟨fv, nv, .ref Fa, rfl, ?_⟩⟩))))))
    have sA := s1.trans s2
    have hf2 := hf.mono s2
    have hs2 := hs.mono (TS.of sA)
    have lp := pairsL_len (pullB (floorC rows) st.1 st.2) st.1
    refine sCons (sColl PassesOwn.never rfl (F := Fa) (fun σ => ∃ x5 x6, σ = [some g, some sv, some fv, some nv, some (.ref Fa), x5, x6]) (fun H v b => Im H v (pD b)) (fun H v c => Im H v (cD c)) st.1 (fun c => dirs.flatMap fun d => if pullB (floorC rows) st.1 st.2 c d = true then [(c, d)] else []) []
      (fun _ _ _ _ t _ h => h.mono t) (fun _ _ _ _ t h => h.mono t) ⟨none, none, rfl⟩ ⟨[], upd_same, .nil⟩ ?_ ?_ ?_)
    · refine iT (VP.run (vpP0 (vpVar 1 rfl (hs2.mono (TS.new hF)))) fun v H3 s3 h3 => ?_)
      obtain ⟨t, ys, e, ht, hy⟩ := im_cells.mp h3
      exact ⟨t, e, ⟨_, sqT ht⟩, s3, ys, srcXT (ne_of ht (s3 _ _ upd_same) fun z => nomatch z) (sqT ht), paired_map.mp hy⟩
    · intro v c bs acc σ1 H3 sx hS mc hv hF3 hp3 few N hN
      obtain ⟨x5, x6, rfl⟩ := hS
      have sm : Same H2 H3 := sx.same (Same.new hF) hF
      refine gNm 5 ?_ scPullsAt.nd
      refine sOne (sColl PassesOwn.never rfl (F := Fa) (fun σ => ∃ x6, σ = [some g, some sv, some fv, some nv, some (.ref Fa), some v, x6]) (fun H v b => Im H v (pD b)) (fun _ v (d : Dir) => v = .str d.str) dirs (fun d => if pullB (floorC rows) st.1 st.2 c d = true then [(c, d)] else []) bs
        (fun _ _ _ _ t _ h => h.mono t) (fun _ _ _ _ _ h => h) ⟨x6, rfl⟩ ⟨acc, hF3, hp3⟩ ?_ ?_ ?_)
      · refine iL (VP.run (vpLetters T rfl) fun v H4 s4 h4 => ?_)
        obtain ⟨l, e, hl, hq⟩ := h4
        exact ⟨l, e, ⟨_, hq⟩, s4, _, srcXL (fun z => by rw [z, hF3] at hl; cases hl) hq, paired_self⟩
      · intro v2 d bs2 acc2 σ2 H4 sx2 hS2 md e2 hF4 hp4 few2 N2 hN2
        obtain ⟨x6, rfl⟩ := hS2
        subst e2
        have sm4 : Same H2 H4 := (sx.trans sx2).same (Same.new hF) hF
        have hv4 := hv.mono (sx2.ts hF3)
        refine gNm 6 ?_ scPullsAt.nd
        refine sOne (sIfT (tvAnd (tvInE enc_cell (hu65 hr) (x := go c d 1) (cs := reachL (frL (floorC rows) st.1) st.2) (vpBeside (d := d) T hr (vpVar 5 rfl hv4) fun _ _ => vpVar 6 rfl rfl) fun H5 s5 => vpVar 3 rfl (hn.mono (sm4.trans s5)).row) fun _ H5 s5 =>
          tvInE enc_cell (hu65 hr) (x := go c d 2) (cs := frL (floorC rows) st.1) (vpBeside2 (d := d) T hr (vpVar 5 rfl (hv4.mono (TS.of s5))) fun H6 s6 => vpVar 6 rfl rfl) fun H6 s6 => vpVar 2 rfl (hf2.mono (sm4.trans (s5.trans s6))).row) (fun hk H5 s5 => ?_) (fun hk H5 s5 => ?_))
        · have hk : pullB (floorC rows) st.1 st.2 c d = true := hk
          rw [if_pos hk] at hN2
          have ll := Paired.length hp4
          refine sOne (sApp 4 rfl ⟨_, s5 _ _ hF4⟩ (VP.run (vpPair (d1 := cD c) (d2 := .str d.str) (vpVar 5 rfl (hv4.mono (TS.of s5))) fun H6 s6 => vpVar 6 rfl (.str _)) fun z H6 s6 hz6 => ⟨acc2, s6 _ _ (s5 _ _ hF4), szl ?_, ?_⟩))
          · have e1 : (bs ++ List.flatMap (fun d => if pullB (floorC rows) st.1 st.2 c d = true then [(c, d)] else []) dirs).length ≤ bs.length + 4 := by
              have := pairsL_len (pullB (floorC rows) st.1 st.2) [c]
              unfold pairsL at this
              rw [List.flatMap_cons, List.flatMap_nil, List.append_nil] at this
              rw [List.length_append]
              simp only [List.length_singleton] at this
              omega
            have e2 : bs.length ≤ 4 * st.1.length := Nat.le_trans few (by rw [List.nil_append]; exact lp)
            omega
          · have t6 : TS H6 (upd H6 Fa (.lst (acc2 ++ [z]))) := TS.lst (s6 _ _ (s5 _ _ hF4))
            refine hN2 _ _ ⟨_, rfl⟩ ((SX.of (s5.trans s6)).trans SX.put) ⟨_, upd_same, ?_⟩
            exact paired_snoc (paired_mono hp4 fun _ _ h => h.mono ((TS.of (s5.trans s6)).trans t6)) (hz6.mono t6)
        · have hk : pullB (floorC rows) st.1 st.2 c d = false := hk
          rw [if_neg (by rw [hk]; decide)] at hN2
          exact sNil (hN2 _ _ ⟨_, rfl⟩ (SX.of s5) ⟨acc2, s5 _ _ hF4, by rw [List.append_nil]; exact paired_mono hp4 fun _ _ h => h.mono (TS.of s5)⟩)
      · intro σ' H' hS' sx' ha'
        obtain ⟨x6, rfl⟩ := hS'
        exact hN _ _ ⟨_, _, rfl⟩ sx' ha'
    · intro σ' H' hS' sx' ha'
      obtain ⟨x5, x6, rfl⟩ := hS'
      obtain ⟨acc, h1, h2⟩ := ha'
      exact sOne (sRet (wVar 4 rfl (q _ _ (sx'.same (sA.trans (Same.new hF)) (Same.free sA hF)) ⟨Fa, acc, rfl, sqL h1, paired_map.mpr (by rw [List.nil_append] at h2; exact h2)⟩)))
/-! ### is_move -/
inductive Weird (H : Hp) (v : V) : Prop
  | non (e : v = .non)
  | tup {t : Addr} {xs : List V} (e : v = .ref t) (h : H t = some (.tup xs)) (n : xs.length ≠ 2)
  | ltr {t : Addr} {x : V} {z : Str} (e : v = .ref t) (h : H t = some (.tup [x, .str z])) (n : z = "x" ∨ z = "E")
  | lst {t l : Addr} {ys : List V} (e : v = .ref t) (h : H t = some (.tup [.ref l, .str "e"])) (h2 : H l = some (.lst ys))
  | num {t : Addr} {x : V} {i : Int} (e : v = .ref t) (h : H t = some (.tup [x, .int i]))
  | tru {t t2 : Addr} (e : v = .ref t) (h : H t = some (.tup [.ref t2, .str "e"])) (h2 : H t2 = some (.tup [.bl true, .int 1]))
theorem Weird.mono {H H' : Hp} {v : V} (s : Same H H') : Weird H v → Weird H' v
  | .non e => .non e
  | .tup e h n => .tup e (s _ _ h) n
  | .ltr e h n => .ltr e (s _ _ h) n
  | .lst e h h2 => .lst e (s _ _ h) (s _ _ h2)
  | .num e h => .num e (s _ _ h)
  | .tru e h h2 => .tru e (s _ _ h) (s _ _ h2)
def spIsMove : Sp := fun vs H Q _ => ∃ (v : V), vs = [v] ∧ (((∃ p : Push, Im H v (pD p)) ∧ ∀ H', Same H H' → Q (.bl true) H') ∨ (Weird H v ∧ ∀ H', Same H H' → Q (.bl false) H'))
section
variable {X : Cx} {σ : L2.St} {H : Hp} {a e : Expr} {pos p : Pos}
/-- a text in STEPS or not -/
theorem tvNotInSteps {z : Str} {k : Bool} (T : Facts X.K X.w X.mg) (hz : ∃ dct r, X.mg "STEPS" = some (.ref dct) ∧ PySem.W.nsIn X.K dct z = some r ∧ r.isSome = k) (ha : VP X a σ H fun v _ => v = .str z) (hg : Gl X "STEPS" := by rfl) : TV X (.Compare a [.NotIn] [.Name "STEPS" p] pos) σ H (!k) := fun Q q => by
  obtain ⟨dct, gS, _, es, n, kd, _⟩ := steps_at T
  obtain ⟨dct', r, g', h1, h2⟩ := hz
  rw [gS] at g'
  cases g'
  exact tCmp (op_notIn_kd kd) (ha _ fun v H1 s1 e1 => wGlob (v := .ref dct) gS rfl ⟨z, r, e1, rfl, h1, _, rfl, by rw [h2]; exact q H1 s1⟩ hg) rfl
theorem tup0 {K : PySem.W.Frag} {H : Hp} {t : Addr} {x : V} {xs : List V} (h : H t = some (.tup (x :: xs))) : ∃ l ys y, V.ref t = .ref l ∧ SqT K H l ys ∧ ys[0]? = some y ∧ y = x := ⟨t, _, x, rfl, sqT h, rfl, rfl⟩
theorem tup1 {K : PySem.W.Frag} {H : Hp} {t : Addr} {x y : V} {xs : List V} (h : H t = some (.tup (x :: y :: xs))) : ∃ l ys z, V.ref t = .ref l ∧ SqT K H l ys ∧ ys[1]? = some z ∧ z = y := ⟨t, _, y, rfl, sqT h, rfl, rfl⟩
end
theorem scIsMove : FnScope ["value", "one"] ["value"] (defScope sIsMove) := ⟨rfl, rfl, rfl, by decide +kernel, rfl, by decide +kernel, by decide +kernel⟩
theorem ok_is_move (T : Facts K w mg) : Fn P w K mg base CX0 "is_move" 1 [] spIsMove := by
  refine fn_mk T.d_is_move fun f fd F => F.ok scIsMove (fun vs H Q E h => ?_) (fun cdv A outer s H vs Q E hr h => ⟨_, pSs, ?_⟩)
  · obtain ⟨v, rfl, _⟩ := h
    rfl
  · obtain ⟨v, rfl, hv⟩ := h
    obtain ⟨dct, gS, _, es, n, kd, hk, nx, nE, hD⟩ := steps_at T
    have sz2 : ∀ {t : Addr} {xs : List V} {Ha H1 : Hp}, Ha t = some (.tup xs) → Same Ha H1 → SqN K H1 (.ref t) xs.length := fun ht s => ⟨_, _, rfl, .inr (sqT (s _ _ ht)), rfl⟩
    rcases hv with ⟨⟨p, hp⟩, q⟩ | ⟨hw, q⟩
    · obtain ⟨t, x, rfl, ht, hx⟩ := im_push.mp hp
      obtain ⟨t2, rfl, ht2⟩ := im_cell.mp hx
      obtain ⟨u, hu⟩ := hD p.2
      refine sCons (sIfT (k := false) (TV.to (tvOr3 (k2 := false) (k3 := false) (tvNot (tvVal (vpIsi (k := true) (T := "tuple") T.n_isinstance T.n_tuple (by decide +kernel) (vpVar 0 rfl (.base (.tup ht))) (by decide +kernel)))) (fun _ H1 s1 => TV.to (tvNeF (x := .int (2 : Nat)) (y := .int 2) rfl (vpLen T.n_len (vpVar 0 rfl (sz2 ht s1))) fun _ _ => vpInt) rfl)
        fun _ _ H1 s1 => tvNot (k := true) (tvVal (vpIsi (k := true) (t := "str") (T := "str") T.n_isinstance T.n_str (by decide +kernel) (VP.mono (vpIxT (i := 1) (P := fun v _ => v = .str p.2.str) (vpVar 0 rfl (tup1 (s1 _ _ ht))) (fun _ _ => vpInt) eqS) fun v H' s e => by rw [e]; exact .base (.str _)) (by decide +kernel)))) rfl) (fun e => nomatch e) fun _ H1 s1 => sNil ?_)
      refine sCons (sIfT (k := false) (TV.to (tvOr3 (k1 := false) (k2 := false) (k3 := false) (tvNotInSteps (k := true) T ⟨dct, _, gS, hu, rfl⟩ (vpIxT (i := 1) (P := fun v _ => v = .str p.2.str) (vpVar 0 rfl (tup1 (s1 _ _ ht))) (fun _ _ => vpInt) eqS)) (fun _ H2 s2 => tvNot (k := true) (tvVal (vpIsi (k := true) (t := "tuple") (T := "tuple") T.n_isinstance T.n_tuple (by decide +kernel) (VP.mono (vpIxT (i := 0) (P := fun v _ => v = .ref t2) (vpVar 0 rfl (tup0 ((s1.trans s2) _ _ ht))) (fun _ _ => vpInt) eqS) fun v H' s e => by rw [e]; exact .base (.tup ((s1.trans (s2.trans s)) _ _ ht2))) (by decide +kernel))))
        fun _ _ H2 s2 => TV.to (tvNeF (x := .int (2 : Nat)) (y := .int 2) rfl (vpLen T.n_len (VP.mono (vpIxT (i := 0) (P := fun v _ => v = .ref t2) (vpVar 0 rfl (tup0 ((s1.trans s2) _ _ ht))) (fun _ _ => vpInt) eqS) fun v H' s e => by rw [e]; exact sz2 ht2 (s1.trans (s2.trans s)))) fun _ _ => vpInt) rfl) rfl) (fun e => nomatch e) fun _ H2 s2 => sNil ?_)
      have sA := s1.trans s2
      refine sOne (sRet (VP.run (vpAll (bs := [p.1.1, p.1.2].map fun _ => true) rfl T.n_all ?_) fun v H3 s3 e => by subst e; exact q H3 (sA.trans s3)))
      refine fun Q' q' => oLc0 rfl scIsMove.nd (blkOk_by (own := [("one", 1)]) (N := ["value", "one"]) (sc := defScope sIsMove) (by decide +kernel)) (lcM0 1 (fun _ v (d : Int) => v = .int d) (fun _ v (b : Bool) => v = .bl b) (fun _ => true) [p.1.1, p.1.2] (fun _ _ _ _ _ => pg_name (i := 1) scIsMove.nd rfl (Or.inl rfl)) (fun _ => rfl) (fun _ _ _ _ _ h => h) (fun _ _ _ _ _ h => h) ?_ (by simp) ?_ ?_)
      · exact iT (VP.run (vpIxT (i := 0) (P := fun v _ => v = .ref t2) (vpVar 0 rfl (tup0 (sA _ _ ht))) (fun _ _ => vpInt) eqS) fun v H3 s3 e => ⟨t2, e, ⟨_, sqT ((sA.trans s3) _ _ ht2)⟩, s3, _, srcT (sqT ((sA.trans s3) _ _ ht2)), .cons rfl (.cons rfl .nil)⟩)
      · intro v d H' s e m K2 k s0 H0 C cl fp
        subst e
        refine VP.run (vpAnd (k1 := true) (k2 := true) (vpIsi (t := "int") (T := "int") T.n_isinstance T.n_int (by decide +kernel) (vpVar 1 rfl (.base (.int d))) (by decide +kernel)) fun _ H3 s3 => VP.mono (vpNot (k := false) (vpIsi (t := "int") (T := "bool") T.n_isinstance T.n_bool (by decide +kernel) (vpVar 1 rfl (.base (.int d))) (by decide +kernel))) fun v H' s e => e) k
      · intro Dl acc H' s n ha hp
        exact q' _ _ s ⟨Dl, rfl, sqL (by rw [ha, bls_of hp])⟩
    · -- refused at the first row
      cases hw with
      | non e =>
        subst e
        exact sCons (sIfT (k := true) (TV.to (tvOr3 (k1 := true) (k2 := true) (k3 := true) (tvNot (k := false) (tvVal (vpIsi (k := false) (t := "NoneType") (T := "tuple") T.n_isinstance T.n_tuple (by decide +kernel) (vpVar 0 rfl (.base .non)) (by decide +kernel)))) (fun e => nomatch e) (fun e => nomatch e)) rfl) (fun _ H1 s1 => sOne (sRet (wBl (q H1 s1)))) (fun e => nomatch e))
      | @tup t xs e ht hn =>
        subst e
        refine sCons (sIfT (k := true) (TV.to (tvOr3 (k1 := false) (k2 := true) (k3 := true) (tvNot (k := true) (tvVal (vpIsi (k := true) (t := "tuple") (T := "tuple") T.n_isinstance T.n_tuple (by decide +kernel) (vpVar 0 rfl (.base (.tup ht))) (by decide +kernel)))) (fun _ H1 s1 => TV.to (tvNeF (x := .int (xs.length : Nat)) (y := .int 2) rfl (vpLen T.n_len (vpVar 0 rfl (sz2 ht s1))) fun _ _ => vpInt) ?_) (fun _ e => nomatch e)) rfl) (fun _ H1 s1 => sOne (sRet (wBl (q H1 s1)))) (fun e => nomatch e))
        rw [decide_eq_false]
        · rfl
        · intro z
          injection z with z
          omega
      | @num t x i e ht =>
        subst e
        exact sCons (sIfT (k := true) (TV.to (tvOr3 (k1 := false) (k2 := false) (k3 := true) (tvNot (k := true) (tvVal (vpIsi (k := true) (t := "tuple") (T := "tuple") T.n_isinstance T.n_tuple (by decide +kernel) (vpVar 0 rfl (.base (.tup ht))) (by decide +kernel)))) (fun _ H1 s1 => TV.to (tvNeF (x := .int (2 : Nat)) (y := .int 2) rfl (vpLen T.n_len (vpVar 0 rfl (sz2 ht s1))) fun _ _ => vpInt) rfl)
          fun _ _ H1 s1 => tvNot (k := false) (tvVal (vpIsi (k := false) (t := "int") (T := "str") T.n_isinstance T.n_str (by decide +kernel) (VP.mono (vpIxT (i := 1) (P := fun v _ => v = .int i) (vpVar 0 rfl (tup1 (s1 _ _ ht))) (fun _ _ => vpInt) eqS) fun v H' s e => by rw [e]; exact .base (.int _)) (by decide +kernel)))) rfl) (fun _ H1 s1 => sOne (sRet (wBl (q H1 s1)))) (fun e => nomatch e))
      | @ltr t x z e ht hz =>
        subst e
        refine sCons (sIfT (k := false) (TV.to (tvOr3 (k1 := false) (k2 := false) (k3 := false) (tvNot (k := true) (tvVal (vpIsi (k := true) (t := "tuple") (T := "tuple") T.n_isinstance T.n_tuple (by decide +kernel) (vpVar 0 rfl (.base (.tup ht))) (by decide +kernel)))) (fun _ H1 s1 => TV.to (tvNeF (x := .int (2 : Nat)) (y := .int 2) rfl (vpLen T.n_len (vpVar 0 rfl (sz2 ht s1))) fun _ _ => vpInt) rfl)
          fun _ _ H1 s1 => tvNot (k := true) (tvVal (vpIsi (k := true) (t := "str") (T := "str") T.n_isinstance T.n_str (by decide +kernel) (VP.mono (vpIxT (i := 1) (P := fun v _ => v = .str z) (vpVar 0 rfl (tup1 (s1 _ _ ht))) (fun _ _ => vpInt) eqS) fun v H' s e => by rw [e]; exact .base (.str _)) (by decide +kernel)))) rfl) (fun e => nomatch e) fun _ H1 s1 => sNil ?_)
        have nz : PySem.W.nsIn K dct z = some none := by
          rcases hz with e | e
          · rw [e]; exact nx
          · rw [e]; exact nE
        exact sCons (sIfT (k := true) (TV.to (tvOr3 (k1 := true) (k2 := true) (k3 := true) (tvNotInSteps (k := false) T ⟨dct, _, gS, nz, rfl⟩ (vpIxT (i := 1) (P := fun v _ => v = .str z) (vpVar 0 rfl (tup1 (s1 _ _ ht))) (fun _ _ => vpInt) eqS)) (fun e => nomatch e) (fun e => nomatch e)) rfl) (fun _ H2 s2 => sOne (sRet (wBl (q H2 (s1.trans s2))))) (fun e => nomatch e))
      | @lst t l ys e ht hl =>
        subst e
        refine sCons (sIfT (k := false) (TV.to (tvOr3 (k1 := false) (k2 := false) (k3 := false) (tvNot (k := true) (tvVal (vpIsi (k := true) (t := "tuple") (T := "tuple") T.n_isinstance T.n_tuple (by decide +kernel) (vpVar 0 rfl (.base (.tup ht))) (by decide +kernel)))) (fun _ H1 s1 => TV.to (tvNeF (x := .int (2 : Nat)) (y := .int 2) rfl (vpLen T.n_len (vpVar 0 rfl (sz2 ht s1))) fun _ _ => vpInt) rfl)
          fun _ _ H1 s1 => tvNot (k := true) (tvVal (vpIsi (k := true) (t := "str") (T := "str") T.n_isinstance T.n_str (by decide +kernel) (VP.mono (vpIxT (i := 1) (P := fun v _ => v = .str "e") (vpVar 0 rfl (tup1 (s1 _ _ ht))) (fun _ _ => vpInt) eqS) fun v H' s e => by rw [e]; exact .base (.str _)) (by decide +kernel)))) rfl) (fun e => nomatch e) fun _ H1 s1 => sNil ?_)
        obtain ⟨u, hu⟩ := hD .e
        exact sCons (sIfT (k := true) (TV.to (tvOr3 (k1 := false) (k2 := true) (k3 := true) (tvNotInSteps (k := true) T ⟨dct, _, gS, hu, rfl⟩ (vpIxT (i := 1) (P := fun v _ => v = .str "e") (vpVar 0 rfl (tup1 (s1 _ _ ht))) (fun _ _ => vpInt) eqS)) (fun _ H2 s2 => tvNot (k := false) (tvVal (vpIsi (k := false) (t := "list") (T := "tuple") T.n_isinstance T.n_tuple (by decide +kernel) (VP.mono (vpIxT (i := 0) (P := fun v _ => v = .ref l) (vpVar 0 rfl (tup0 ((s1.trans s2) _ _ ht))) (fun _ _ => vpInt) eqS) fun v H' s e => by rw [e]; exact .base (.lst ((s1.trans (s2.trans s)) _ _ hl))) (by decide +kernel)))) (fun _ e => nomatch e)) rfl) (fun _ H2 s2 => sOne (sRet (wBl (q H2 (s1.trans s2))))) (fun e => nomatch e))
      | @tru t t2 e ht ht2 =>
        subst e
        refine sCons (sIfT (k := false) (TV.to (tvOr3 (k1 := false) (k2 := false) (k3 := false) (tvNot (k := true) (tvVal (vpIsi (k := true) (t := "tuple") (T := "tuple") T.n_isinstance T.n_tuple (by decide +kernel) (vpVar 0 rfl (.base (.tup ht))) (by decide +kernel)))) (fun _ H1 s1 => TV.to (tvNeF (x := .int (2 : Nat)) (y := .int 2) rfl (vpLen T.n_len (vpVar 0 rfl (sz2 ht s1))) fun _ _ => vpInt) rfl)
          fun _ _ H1 s1 => tvNot (k := true) (tvVal (vpIsi (k := true) (t := "str") (T := "str") T.n_isinstance T.n_str (by decide +kernel) (VP.mono (vpIxT (i := 1) (P := fun v _ => v = .str "e") (vpVar 0 rfl (tup1 (s1 _ _ ht))) (fun _ _ => vpInt) eqS) fun v H' s e => by rw [e]; exact .base (.str _)) (by decide +kernel)))) rfl) (fun e => nomatch e) fun _ H1 s1 => sNil ?_)
        obtain ⟨u, hu⟩ := hD .e
        refine sCons (sIfT (k := false) (TV.to (tvOr3 (k1 := false) (k2 := false) (k3 := false) (tvNotInSteps (k := true) T ⟨dct, _, gS, hu, rfl⟩ (vpIxT (i := 1) (P := fun v _ => v = .str "e") (vpVar 0 rfl (tup1 (s1 _ _ ht))) (fun _ _ => vpInt) eqS)) (fun _ H2 s2 => tvNot (k := true) (tvVal (vpIsi (k := true) (t := "tuple") (T := "tuple") T.n_isinstance T.n_tuple (by decide +kernel) (VP.mono (vpIxT (i := 0) (P := fun v _ => v = .ref t2) (vpVar 0 rfl (tup0 ((s1.trans s2) _ _ ht))) (fun _ _ => vpInt) eqS) fun v H' s e => by rw [e]; exact .base (.tup ((s1.trans (s2.trans s)) _ _ ht2))) (by decide +kernel))))
          fun _ _ H2 s2 => TV.to (tvNeF (x := .int (2 : Nat)) (y := .int 2) rfl (vpLen T.n_len (VP.mono (vpIxT (i := 0) (P := fun v _ => v = .ref t2) (vpVar 0 rfl (tup0 ((s1.trans s2) _ _ ht))) (fun _ _ => vpInt) eqS) fun v H' s e => by rw [e]; exact sz2 ht2 (s1.trans (s2.trans s)))) fun _ _ => vpInt) rfl) rfl) (fun e => nomatch e) fun _ H2 s2 => sNil ?_)
        have sA := s1.trans s2
        refine sOne (sRet (VP.run (vpAll (bs := [false, true]) rfl T.n_all ?_) fun v H3 s3 e => by subst e; exact q H3 (sA.trans s3)))
        refine fun Q' q' => oLc0 rfl scIsMove.nd (blkOk_by (own := [("one", 1)]) (N := ["value", "one"]) (sc := defScope sIsMove) (by decide +kernel)) (lcM0 1 (fun _ v (d : Bool) => v = if d = true then .int 1 else .bl true) (fun _ v (b : Bool) => v = .bl b) (fun d => d) [false, true] (fun _ _ _ _ _ => pg_name (i := 1) scIsMove.nd rfl (Or.inl rfl)) (fun _ => rfl) (fun _ _ _ _ _ h => h) (fun _ _ _ _ _ h => h) ?_ (by simp) ?_ ?_)
        · exact iT (VP.run (vpIxT (i := 0) (P := fun v _ => v = .ref t2) (vpVar 0 rfl (tup0 (sA _ _ ht))) (fun _ _ => vpInt) eqS) fun v H3 s3 e => ⟨t2, e, ⟨_, sqT ((sA.trans s3) _ _ ht2)⟩, s3, _, srcT (sqT ((sA.trans s3) _ _ ht2)), .cons rfl (.cons rfl .nil)⟩)
        · intro v d H' s e m K2 k s0 H0 C cl fp
          cases d with
          | true =>
            have e : v = .int 1 := e
            subst e
            exact VP.run (vpAnd (k1 := true) (k2 := true) (vpIsi (t := "int") (T := "int") T.n_isinstance T.n_int (by decide +kernel) (vpVar 1 rfl (.base (.int 1))) (by decide +kernel)) fun _ H3 s3 => vpNot (k := false) (vpIsi (t := "int") (T := "bool") T.n_isinstance T.n_bool (by decide +kernel) (vpVar 1 rfl (.base (.int 1))) (by decide +kernel))) k
          | false =>
            have e : v = .bl true := e
            subst e
            exact VP.run (vpAnd (k1 := true) (k2 := false) (vpIsi (t := "bool") (T := "int") T.n_isinstance T.n_int (by decide +kernel) (vpVar 1 rfl (.base (.bl true))) (by decide +kernel)) fun _ H3 s3 => vpNot (k := true) (vpIsi (t := "bool") (T := "bool") T.n_isinstance T.n_bool (by decide +kernel) (vpVar 1 rfl (.base (.bl true))) (by decide +kernel))) k
        · intro Dl acc H' s n ha hp
          exact q' _ _ s ⟨Dl, rfl, sqL (by rw [ha, bls_of hp]; rfl)⟩
end CR
namespace CR
open PySem PySem.Spec PyProof.Rows L2
variable {P : Program} {w : World} {K : PySem.W.Frag} {mg : Str → Option Value} {base : Heap}
theorem RoomOk.mover0 {rows : List Str} (R : RoomOk rows) : ∃ m, (cellsOf rows "mM")[0]? = some m := by
  have h := R.mover
  match hc : cellsOf rows "mM", h with
  | [m], _ => exact ⟨m, rfl⟩
theorem enc_push_row {K : PySem.W.Frag} {H : Hp} {v : V} {ps : List Push} (h : LsE K H pD v ps) : RowE K H pD v ps := h.row
abbrev BT := List Cell → List Cell → Cell → Cell → Dir → Bool
/-! ### pushes, pulls -/
def spList (B : BT) : Sp := fun vs H Q _ => ∃ (rv sv : V) (rows : List Str) (st : Stand), vs = [rv, sv] ∧ Im H rv (rwD rows) ∧ RoomOk rows ∧ Im H sv (stD st) ∧ StandOk rows st ∧ ∀ r H', Same H H' → Im H' r (psD (pairsL (B (floorC rows) st.1 st.2) st.1)) → Q r H'
theorem scPushes : FnScope ["room", "standing"] ["room", "standing"] (defScope sPushes) := ⟨rfl, rfl, rfl, by decide +kernel, rfl, by decide +kernel, by decide +kernel⟩
theorem ok_pushes (T : Facts K w mg) : Fn P w K mg base CX0 "pushes" 7 [] (spList pushB) := by
  obtain ⟨C, fI, fF, G⟩ := T.ground
  have F1 : Fn P w K mg base CX0 "need_standing" 6 [] spStandN := ok_need_standing T
  have F2 : Fn P w K mg base CX0 "pushes_at" 4 [] (spPairs C K pushB) := ok_pushes_at T G
  refine fn_mk T.d_pushes fun f fd F => F.ok scPushes (fun vs H Q E h => ?_) (fun cdv A outer s H vs Q E hr h => ⟨_, pSs, ?_⟩)
  · obtain ⟨rv, sv, rows, st, rfl, _⟩ := h
    rfl
  · obtain ⟨rv, sv, rows, st, rfl, hv, R, hs, S, q⟩ := h
    obtain ⟨m0, hm0⟩ := R.mover0
    refine sCons (sExpr (VP.run (P := fun _ _ => True) (vpCall2 F1 hr (vpVar 0 rfl hv) (fun H1 s1 => vpVar 1 rfl (hs.mono (TS.of s1))) imS fun v u H' s h1 h2 Q q => ⟨v, u, rows, st, rfl, h1, R, h2, S, fun H'' s' => q _ H'' s' trivial⟩) fun _ H1 s1 _ => ?_))
    refine sOne (sRet (VP.run (vpTupOf (enc := pD) (cs := pairsL (pushB (floorC rows) st.1 st.2) st.1) T.n_tuple ?_) fun v H2 s2 h => q v H2 (s1.trans s2) h))
    exact vpCall2 F2 hr (vpGround (rows := rows) T G hr R.rect hm0 (vpVar 0 rfl (hv.mono (TS.of s1)))) (fun H2 s2 => vpVar 1 rfl (hs.mono (TS.of (s1.trans s2)))) grdS fun v u H' s h1 h2 Q q => ⟨v, u, rows, st, rfl, h1, h2, R, Nat.le_trans S.few (by decide), S.mF, S.mN, q⟩
theorem scPulls : FnScope ["room", "standing"] ["room", "standing"] (defScope sPulls) := ⟨rfl, rfl, rfl, by decide +kernel, rfl, by decide +kernel, by decide +kernel⟩
theorem ok_pulls (T : Facts K w mg) : Fn P w K mg base CX0 "pulls" 7 [] (spList pullB) := by
  obtain ⟨C, fI, fF, G⟩ := T.ground
  have F1 : Fn P w K mg base CX0 "need_standing" 6 [] spStandN := ok_need_standing T
  have F2 : Fn P w K mg base CX0 "pulls_at" 4 [] (spPairs C K pullB) := ok_pulls_at T G
  refine fn_mk T.d_pulls fun f fd F => F.ok scPulls (fun vs H Q E h => ?_) (fun cdv A outer s H vs Q E hr h => ⟨_, pSs, ?_⟩)
  · obtain ⟨rv, sv, rows, st, rfl, _⟩ := h
    rfl
  · obtain ⟨rv, sv, rows, st, rfl, hv, R, hs, S, q⟩ := h
    obtain ⟨m0, hm0⟩ := R.mover0
    refine sCons (sExpr (VP.run (P := fun _ _ => True) (vpCall2 F1 hr (vpVar 0 rfl hv) (fun H1 s1 => vpVar 1 rfl (hs.mono (TS.of s1))) imS fun v u H' s h1 h2 Q q => ⟨v, u, rows, st, rfl, h1, R, h2, S, fun H'' s' => q _ H'' s' trivial⟩) fun _ H1 s1 _ => ?_))
    refine sOne (sRet (VP.run (vpTupOf (enc := pD) (cs := pairsL (pullB (floorC rows) st.1 st.2) st.1) T.n_tuple ?_) fun v H2 s2 h => q v H2 (s1.trans s2) h))
    exact vpCall2 F2 hr (vpGround (rows := rows) T G hr R.rect hm0 (vpVar 0 rfl (hv.mono (TS.of s1)))) (fun H2 s2 => vpVar 1 rfl (hs.mono (TS.of (s1.trans s2)))) grdS fun v u H' s h1 h2 Q q => ⟨v, u, rows, st, rfl, h1, h2, R, Nat.le_trans S.few (by decide), S.mF, S.mN, q⟩
/-! ### pushed, pulled -/
def NoMove (H : Hp) (v : V) (ps : List Push) : Prop := Weird H v ∨ ∃ p : Push, Im H v (pD p) ∧ p ∉ ps
theorem NoMove.mono {H H' : Hp} {v : V} {ps : List Push} (s : Same H H') : NoMove H v ps → NoMove H' v ps
  | .inl h => .inl (h.mono s)
  | .inr ⟨p, h, n⟩ => .inr ⟨p, h.mono (TS.of s), n⟩
noncomputable def behS (area : List Cell) (st : Stand) (p : Push) (m : Cell) : Stand := (sortC (mvL st.1 p.1 (go p.1 p.2 1)), headL area (sortC (mvL st.1 p.1 (go p.1 p.2 1))) m)
noncomputable def pushS (area : List Cell) (st : Stand) (p : Push) : Stand := behS area st p p.1
noncomputable def pullS (area : List Cell) (st : Stand) (p : Push) : Stand := behS area st p (go p.1 p.2 2)
def spBeh (CB : Addr) (B : BT) (Z : List Cell → Stand → Push → Stand) : Sp := fun vs H Q E => ∃ (rv sv pv : V) (rows : List Str) (st : Stand), vs = [rv, sv, pv] ∧ Im H rv (rwD rows) ∧ RoomOk rows ∧ Im H sv (stD st) ∧ StandOk rows st ∧
  ((∃ p, Im H pv (pD p) ∧ p ∈ pairsL (B (floorC rows) st.1 st.2) st.1 ∧ ∀ r H', Same H H' → Im H' r (stD (Z (floorC rows) st p)) → Q r H') ∨ (NoMove H pv (pairsL (B (floorC rows) st.1 st.2) st.1) ∧ ∀ H', Same H H' → E (.ref CB) none H'))
theorem scPushed : FnScope ["room", "standing", "push", "ground"] ["room", "standing", "push"] (defScope sPushed) := ⟨rfl, rfl, rfl, by decide +kernel, rfl, by decide +kernel, by decide +kernel⟩
theorem ok_pushed (T : Facts K w mg) {CB : Addr} (B : ClsP K mg CB) : Fn P w K mg base (L2.CX P w) "pushed" 7 [] (spBeh CB pushB pushS) := by
  obtain ⟨C, fI, fF, G⟩ := T.ground
  have F1 : Fn P w K mg base CX0 "need_standing" 6 [] spStandN := ok_need_standing T
  have F2 : Fn P w K mg base CX0 "pushes_at" 4 [] (spPairs C K pushB) := ok_pushes_at T G
  have F3 : Fn P w K mg base CX0 "is_move" 1 [] spIsMove := ok_is_move T
  have F4 : Fn P w K mg base CX0 "push_of" 5 [] (spPushOf C) := ok_push_of T G
  refine fn_mk T.d_pushed fun f fd F => okC F scPushed (fun vs H Q E h => ?_) (fun cdv A outer s H vs Q E hr h => ⟨_, pSs, ?_⟩)
  · obtain ⟨rv, sv, pv, rows, st, rfl, _⟩ := h
    rfl
  · obtain ⟨rv, sv, pv, rows, st, rfl, hv, R, hs, S, q⟩ := h
    obtain ⟨m0, hm0⟩ := R.mover0
    have few : st.1.length ≤ 1000 := Nat.le_trans S.few (by decide)
    refine sCons (sExpr (VP.run (P := fun _ _ => True) (vpCall2 F1 hr (vpVar 0 rfl hv) (fun H1 s1 => vpVar 1 rfl (hs.mono (TS.of s1))) imS fun v u H' s h1 h2 Q q => ⟨v, u, rows, st, rfl, h1, R, h2, S, fun H'' s' => q _ H'' s' trivial⟩) fun _ H1 s1 _ => ?_))
    refine sCons (sSet 3 (VP.run (vpGround (rows := rows) T G hr R.rect hm0 (vpVar 0 rfl (hv.mono (TS.of s1)))) fun g H2 s2 hg => ?_) scPushed.nd)
    have sA := s1.trans s2
    rcases q with ⟨p, hp, hin, q⟩ | ⟨hno, q⟩
    · refine sCons (sIfT (k := false) (TV.to (tvOr (k1 := false) (tvNot (k := true) (tvVal (vpCall1 F3 hr (vpVar 2 rfl (hp.mono (TS.of sA))) fun v H' s h Q q => ⟨v, rfl, .inl ⟨⟨p, h⟩, fun H'' s' => q _ H'' s' rfl⟩⟩))) fun _ H3 s3 => tvNotInE enc_push (hu65 hr) (x := p) (cs := pairsL (pushB (floorC rows) st.1 st.2) st.1) (vpVar 2 rfl (hp.mono (TS.of (sA.trans s3)))) fun H4 s4 => VP.mono (vpCall2 (P := fun v H' => LsE K H' pD v (pairsL (pushB (floorC rows) st.1 st.2) st.1)) F2 hr (vpVar 3 rfl (hg.mono (s3.trans s4))) (fun H5 s5 => vpVar 1 rfl (hs.mono (TS.of (sA.trans (s3.trans (s4.trans s5)))))) grdS fun v u H' s h1 h2 Q q => ⟨v, u, rows, st, rfl, h1, h2, R, few, S.mF, S.mN, q⟩) fun _ _ _ h => h.row) (by rw [isIn_yes hin]; rfl)) (fun e => nomatch e) fun _ H3 s3 => sNil ?_)
      obtain ⟨p1, p2, p3⟩ := push_pre hin S.asc.nodup S.inF
      have sB := sA.trans s3
      refine sOne (sRet (VP.run (vpCall3 (P := fun v H' => Im H' v (stD (pushS (floorC rows) st p))) F4 hr (vpVar 3 rfl (hg.mono s3)) (fun H4 s4 => vpVar 1 rfl (hs.mono (TS.of (sB.trans s4)))) (fun H4 s4 => vpVar 2 rfl (hp.mono (TS.of (sB.trans s4)))) grdS imS fun v u y H' s h1 h2 h3 Q q => ⟨v, u, y, rows, st, p, rfl, h1, h2, h3, R, few, p1, p2, p3, q⟩) fun v H4 s4 h => q v H4 (sB.trans s4) h))
    · rcases hno with hw | ⟨p, hp, hn⟩
      · exact sCons (sIfT (k := true) (TV.to (tvOr (k1 := true) (k2 := true) (tvNot (k := false) (tvVal (vpCall1 F3 hr (vpVar 2 rfl (hw.mono sA)) fun v H' s h Q q => ⟨v, rfl, .inr ⟨h, fun H'' s' => q _ H'' s' rfl⟩⟩))) (fun e => nomatch e)) rfl) (fun _ H3 s3 => sOne (sRaise0 rfl (takes_of rfl rfl rfl rfl) PySem.F.excBase_ValueError B.xP B.gP B.kP (raises_own B.bP B.tP) (q H3 (sA.trans s3)))) (fun e => nomatch e))
      · exact sCons (sIfT (k := true) (TV.to (tvOr (k1 := false) (tvNot (k := true) (tvVal (vpCall1 F3 hr (vpVar 2 rfl (hp.mono (TS.of sA))) fun v H' s h Q q => ⟨v, rfl, .inl ⟨⟨p, h⟩, fun H'' s' => q _ H'' s' rfl⟩⟩))) fun _ H3 s3 => tvNotInE enc_push (hu65 hr) (x := p) (cs := pairsL (pushB (floorC rows) st.1 st.2) st.1) (vpVar 2 rfl (hp.mono (TS.of (sA.trans s3)))) fun H4 s4 => VP.mono (vpCall2 (P := fun v H' => LsE K H' pD v (pairsL (pushB (floorC rows) st.1 st.2) st.1)) F2 hr (vpVar 3 rfl (hg.mono (s3.trans s4))) (fun H5 s5 => vpVar 1 rfl (hs.mono (TS.of (sA.trans (s3.trans (s4.trans s5)))))) grdS fun v u H' s h1 h2 Q q => ⟨v, u, rows, st, rfl, h1, h2, R, few, S.mF, S.mN, q⟩) fun _ _ _ h => h.row) (by rw [isIn_no hn]; rfl)) (fun _ H3 s3 => sOne (sRaise0 rfl (takes_of rfl rfl rfl rfl) PySem.F.excBase_ValueError B.xP B.gP B.kP (raises_own B.bP B.tP) (q H3 (sA.trans s3)))) (fun e => nomatch e))
theorem scPulled : FnScope ["room", "standing", "pull", "ground"] ["room", "standing", "pull"] (defScope sPulled) := ⟨rfl, rfl, rfl, by decide +kernel, rfl, by decide +kernel, by decide +kernel⟩
theorem ok_pulled (T : Facts K w mg) {CB : Addr} (B : ClsP K mg CB) : Fn P w K mg base (L2.CX P w) "pulled" 7 [] (spBeh CB pullB pullS) := by
  obtain ⟨C, fI, fF, G⟩ := T.ground
  have F1 : Fn P w K mg base CX0 "need_standing" 6 [] spStandN := ok_need_standing T
  have F2 : Fn P w K mg base CX0 "pulls_at" 4 [] (spPairs C K pullB) := ok_pulls_at T G
  have F3 : Fn P w K mg base CX0 "is_move" 1 [] spIsMove := ok_is_move T
  have F4 : Fn P w K mg base CX0 "pull_of" 5 [] (spPullOf C) := ok_pull_of T G
  refine fn_mk T.d_pulled fun f fd F => okC F scPulled (fun vs H Q E h => ?_) (fun cdv A outer s H vs Q E hr h => ⟨_, pSs, ?_⟩)
  · obtain ⟨rv, sv, pv, rows, st, rfl, _⟩ := h
    rfl
  · obtain ⟨rv, sv, pv, rows, st, rfl, hv, R, hs, S, q⟩ := h
    obtain ⟨m0, hm0⟩ := R.mover0
    have few : st.1.length ≤ 1000 := Nat.le_trans S.few (by decide)
    refine sCons (sExpr (VP.run (P := fun _ _ => True) (vpCall2 F1 hr (vpVar 0 rfl hv) (fun H1 s1 => vpVar 1 rfl (hs.mono (TS.of s1))) imS fun v u H' s h1 h2 Q q => ⟨v, u, rows, st, rfl, h1, R, h2, S, fun H'' s' => q _ H'' s' trivial⟩) fun _ H1 s1 _ => ?_))
    refine sCons (sSet 3 (VP.run (vpGround (rows := rows) T G hr R.rect hm0 (vpVar 0 rfl (hv.mono (TS.of s1)))) fun g H2 s2 hg => ?_) scPulled.nd)
    have sA := s1.trans s2
    rcases q with ⟨p, hp, hin, q⟩ | ⟨hno, q⟩
    · refine sCons (sIfT (k := false) (TV.to (tvOr (k1 := false) (tvNot (k := true) (tvVal (vpCall1 F3 hr (vpVar 2 rfl (hp.mono (TS.of sA))) fun v H' s h Q q => ⟨v, rfl, .inl ⟨⟨p, h⟩, fun H'' s' => q _ H'' s' rfl⟩⟩))) fun _ H3 s3 => tvNotInE enc_push (hu65 hr) (x := p) (cs := pairsL (pullB (floorC rows) st.1 st.2) st.1) (vpVar 2 rfl (hp.mono (TS.of (sA.trans s3)))) fun H4 s4 => VP.mono (vpCall2 (P := fun v H' => LsE K H' pD v (pairsL (pullB (floorC rows) st.1 st.2) st.1)) F2 hr (vpVar 3 rfl (hg.mono (s3.trans s4))) (fun H5 s5 => vpVar 1 rfl (hs.mono (TS.of (sA.trans (s3.trans (s4.trans s5)))))) grdS fun v u H' s h1 h2 Q q => ⟨v, u, rows, st, rfl, h1, h2, R, few, S.mF, S.mN, q⟩) fun _ _ _ h => h.row) (by rw [isIn_yes hin]; rfl)) (fun e => nomatch e) fun _ H3 s3 => sNil ?_)
      obtain ⟨p1, p2, p3⟩ := pull_pre hin S.asc.nodup
      have sB := sA.trans s3
      refine sOne (sRet (VP.run (vpCall3 (P := fun v H' => Im H' v (stD (pullS (floorC rows) st p))) F4 hr (vpVar 3 rfl (hg.mono s3)) (fun H4 s4 => vpVar 1 rfl (hs.mono (TS.of (sB.trans s4)))) (fun H4 s4 => vpVar 2 rfl (hp.mono (TS.of (sB.trans s4)))) grdS imS fun v u y H' s h1 h2 h3 Q q => ⟨v, u, y, rows, st, p, rfl, h1, h2, h3, R, few, p1, p2, p3, q⟩) fun v H4 s4 h => q v H4 (sB.trans s4) h))
    · rcases hno with hw | ⟨p, hp, hn⟩
      · exact sCons (sIfT (k := true) (TV.to (tvOr (k1 := true) (k2 := true) (tvNot (k := false) (tvVal (vpCall1 F3 hr (vpVar 2 rfl (hw.mono sA)) fun v H' s h Q q => ⟨v, rfl, .inr ⟨h, fun H'' s' => q _ H'' s' rfl⟩⟩))) (fun e => nomatch e)) rfl) (fun _ H3 s3 => sOne (sRaise0 rfl (takes_of rfl rfl rfl rfl) PySem.F.excBase_ValueError B.xP B.gP B.kP (raises_own B.bP B.tP) (q H3 (sA.trans s3)))) (fun e => nomatch e))
      · exact sCons (sIfT (k := true) (TV.to (tvOr (k1 := false) (tvNot (k := true) (tvVal (vpCall1 F3 hr (vpVar 2 rfl (hp.mono (TS.of sA))) fun v H' s h Q q => ⟨v, rfl, .inl ⟨⟨p, h⟩, fun H'' s' => q _ H'' s' rfl⟩⟩))) fun _ H3 s3 => tvNotInE enc_push (hu65 hr) (x := p) (cs := pairsL (pullB (floorC rows) st.1 st.2) st.1) (vpVar 2 rfl (hp.mono (TS.of (sA.trans s3)))) fun H4 s4 => VP.mono (vpCall2 (P := fun v H' => LsE K H' pD v (pairsL (pullB (floorC rows) st.1 st.2) st.1)) F2 hr (vpVar 3 rfl (hg.mono (s3.trans s4))) (fun H5 s5 => vpVar 1 rfl (hs.mono (TS.of (sA.trans (s3.trans (s4.trans s5)))))) grdS fun v u H' s h1 h2 Q q => ⟨v, u, rows, st, rfl, h1, h2, R, few, S.mF, S.mN, q⟩) fun _ _ _ h => h.row) (by rw [isIn_no hn]; rfl)) (fun _ H3 s3 => sOne (sRaise0 rfl (takes_of rfl rfl rfl rfl) PySem.F.excBase_ValueError B.xP B.gP B.kP (raises_own B.bP B.tP) (q H3 (sA.trans s3)))) (fun e => nomatch e))
end CR
namespace CR
open PySem PySem.Spec PyProof.Rows L2
theorem isIn_frL {area cs : List Cell} {x : Cell} : isIn x (frL area cs) = (isIn x area && !isIn x cs) := by
  by_cases h1 : x ∈ area
  · by_cases h2 : x ∈ cs
    · rw [isIn_yes h1, isIn_yes h2, isIn_no fun z => (frL_mem.mp z).2 h2]
      rfl
    · rw [isIn_yes h1, isIn_no h2, isIn_yes (frL_mem.mpr ⟨h1, h2⟩)]
      rfl
  · rw [isIn_no h1, isIn_no fun z => h1 (frL_mem.mp z).1]
    rfl
theorem isIn_congr {a b : List Cell} (h : ∀ x, x ∈ a ↔ x ∈ b) (x : Cell) : isIn x a = isIn x b := by
  by_cases m : x ∈ a
  · rw [isIn_yes m, isIn_yes ((h x).mp m)]
  · rw [isIn_no m, isIn_no fun z => m ((h x).mpr z)]
theorem frL_congr {area a b : List Cell} (h : ∀ x, x ∈ a ↔ x ∈ b) : frL area a = frL area b := by
  unfold frL
  congr 1
  funext c
  rw [isIn_congr h c]
theorem headL_congr {area a b : List Cell} (h : ∀ x, x ∈ a ↔ x ∈ b) (m : Cell) : headL area a m = headL area b m := by
  unfold headL
  rw [frL_congr h]
def wayD (d : Dir) : PyData := .tuple [.str d.str, .int d.dr, .int d.dc]
variable {P : Program} {w : World} {K : PySem.W.Frag} {mg : Str → Option Value} {base : Heap}
def spWays : Sp := fun vs H Q _ => vs = [] ∧ ∀ l ys H', Same H H' → H l = none → H' l = some (.lst ys) → ImL H' ys (dirs.map wayD) → Q (.ref l) H'
section
variable {X : Cx} {σ : L2.St} {H : Hp} {a b c : Expr} {pos : Pos}
/-- (x, i, j) of a letter -/
theorem vpWay {d : Dir} {x1 : Nat} (ha : VP X a σ H fun v _ => v = .str d.str) (hb : ∀ H', Same H H' → VP X b σ H' fun v _ => v = .int d.dr) (hc : ∀ H', Same H H' → VP X c σ H' fun v _ => v = .int d.dc) (hs : starEach [a, b, c] X.env = (false, eval a X.env) :: starEach [b, c] X.env := by rfl) (hs2 : starEach [b, c] X.env = (false, eval b X.env) :: starEach [c] X.env := by rfl) (hs3 : starEach [c] X.env = (false, eval c X.env) :: starEach [] X.env := by rfl) :
    VP X (.Tuple [a, b, c] x1 pos) σ H (fun v H' => Im H' v (wayD d)) := fun Q q => wTup (wACons (ha _ fun v H1 s1 h1 => wACons (hb H1 s1 _ fun u H2 s2 h2 => wACons (hc H2 (s1.trans s2) _ fun y H3 s3 h3 => wANil ⟨by show 3 ≤ sizeLine; decide, fun p hp => by
      subst h1 h2 h3
      exact q _ _ (((s1.trans s2).trans s3).trans (Same.new hp)) (.tup upd_same (.cons (.str _) (.cons (.int _) (.cons (.int _) .nil))))⟩) hs3) hs2) hs)
theorem way_tup {d : Dir} {v : V} (h : Im H v (wayD d)) : ∃ l, v = .ref l ∧ H l = some (.tup [.str d.str, .int d.dr, .int d.dc]) := by
  obtain ⟨a, vs, e, h1, h2⟩ := im_tup h
  cases h2 with
  | cons a1 t =>
    cases t with
    | cons a2 t =>
      cases t with
      | cons a3 t =>
        cases t
        rw [im_str a1, im_int a2, im_int a3] at h1
        exact ⟨a, e, h1⟩
end
theorem scLawWays : FnScope [] [] (defScope sLawWays) := ⟨rfl, rfl, rfl, by decide +kernel, rfl, by decide +kernel, by decide +kernel⟩
theorem ok_law_ways (T : Facts K w mg) : Fn P w K mg base CX0 "_law_ways" 1 [] spWays := by
  refine fn_mk T.d_law_ways fun f fd F => F.ok scLawWays (fun vs H Q E h => ?_) (fun cdv A outer s H vs Q E hr h => ⟨_, pSs, ?_⟩)
  · obtain ⟨rfl, _⟩ := h
    rfl
  · obtain ⟨rfl, q⟩ := h
    refine sOne (sRet (wLst (wACons (VP.run (vpWay (d := .e) vpStr (fun _ _ => vpInt) (fun _ _ => vpInt)) fun v1 H1 s1 h1 => wACons (VP.run (vpWay (d := .n) vpStr (fun _ _ => vpSub vpInt fun _ _ => vpInt) (fun _ _ => vpInt)) fun v2 H2 s2 h2 =>
      wACons (VP.run (vpWay (d := .s) vpStr (fun _ _ => vpInt) (fun _ _ => vpInt)) fun v3 H3 s3 h3 => wACons (VP.run (vpWay (d := .w) vpStr (fun _ _ => vpInt) (fun _ _ => vpSub vpInt fun _ _ => vpInt)) fun v4 H4 s4 h4 => wANil ⟨by show 4 ≤ sizeLine; decide, fun p hp => ?_⟩)))))))
    have sA := ((s1.trans s2).trans s3).trans s4
    have tn : TS H4 (upd H4 p (.lst [v1, v2, v3, v4])) := TS.new hp
    exact q p _ _ (sA.trans (Same.new hp)) (Same.free sA hp) upd_same (.cons (h1.mono ((TS.of ((s2.trans s3).trans s4)).trans tn)) (.cons (h2.mono ((TS.of (s3.trans s4)).trans tn)) (.cons (h3.mono ((TS.of s4).trans tn)) (.cons (h4.mono tn) .nil))))
/-! ### _law_reach -/
def spLReach (K : PySem.W.Frag) : Sp := fun vs H Q _ => ∃ (av cv mv : V) (area cs : List Cell) (m : Cell), vs = [av, cv, mv] ∧ RowE K H cD av area ∧ RowE K H cD cv cs ∧ Im H mv (cD m) ∧ area.length ≤ 1000 ∧ Asc area ∧ m ∈ area ∧ m ∉ cs ∧
  ∀ r H', Same H H' → LsE K H' cD r (reachL (frL area cs) m) → Q r H'
theorem scLawReach : FnScope ["_law_area", "_law_crates", "_law_mover", "_law_found", "_law_line", "_law_here", "_law_letter", "_law_down", "_law_right", "_law_there"] ["_law_area", "_law_crates", "_law_mover"] (defScope sLawReach) := ⟨rfl, rfl, rfl, by decide +kernel, rfl, by decide +kernel, by decide +kernel⟩
theorem ok_law_reach (T : Facts K w mg) : Fn P w K mg base CX0 "_law_reach" 2 [] (spLReach K) := by
  have F1 : Fn P w K mg base CX0 "_law_ways" 1 [] spWays := ok_law_ways T
  refine fn_mk T.d_law_reach fun f fd F => F.ok scLawReach (fun vs H Q E h => ?_) (fun cdv A outer s H vs Q E hr h => ⟨_, pSs, ?_⟩)
  · obtain ⟨av, cv, mv, area, cs, m, rfl, _⟩ := h
    rfl
  · obtain ⟨av, cv, mv, area, cs, m, rfl, ha, hc, hm, hz, asc, m1, m2, q⟩ := h
    have mf : m ∈ frL area cs := frL_mem.mpr ⟨m1, m2⟩
    have lf := frL_len (area := area) (cs := cs)
    generalize efr : frL area cs = free at *
    refine sCons (sPar 3 4 rfl scLawReach.nd (wACons (wLst (wACons (wVar 2 rfl (wANil ⟨by show 1 ≤ sizeLine; decide, fun Fa hF => wACons (wLst (wACons (wVar 2 rfl (wANil ⟨by show 1 ≤ sizeLine; decide, fun Lp hL => wANil ⟨_, _, rfl, ?_⟩⟩)))) ⟩))))))
    have nFL : Fa ≠ Lp := fun z => by
      subst z
      rw [upd_same] at hL
      cases hL
    have hL0 : H Lp = none := by
      rw [upd_ne (Ne.symm nFL)] at hL
      exact hL
    have sA : Same H (upd (upd H Fa (.lst [mv])) Lp (.lst [mv])) := (Same.new hF).trans (Same.new hL)
    refine sCons (sWhile PassesOwn.never ⟨fun n σ H' => ∃ (L Ls : List Cell) (fvs lvs : List V) (x5 x6 x7 x8 x9 : Option V), n = 2 * (free.length + 1 - L.length) + Ls.length ∧ Ls.length ≤ L.length ∧
      σ = [some av, some cv, some mv, some (.ref Fa), some (.ref Lp), x5, x6, x7, x8, x9] ∧ Same H H' ∧ H' Fa = some (.lst fvs) ∧ ImL H' fvs (L.map cD) ∧ Half free m L Ls ∧ H' Lp = some (.lst lvs) ∧ ImL H' lvs (Ls.map cD), ?_, ?_⟩)
    · refine ⟨_, [m], [m], [mv], [mv], none, none, none, none, none, rfl, Nat.le_refl _, rfl, sA, ?_, .cons (hm.mono (TS.of sA)) .nil, half_start, upd_same, .cons (hm.mono (TS.of sA)) .nil⟩
      rw [upd_ne nFL, upd_same]
    · intro n σ H1 hW
      obtain ⟨L, Ls, fvs, lvs, x5, x6, x7, x8, x9, en, elen, eσ, s1, f1, hf1, hh, l1, hl⟩ := hW
      subst eσ
      refine TV.run (tvNeNil (hu65 hr) (vpVar 4 rfl (nil_E enc_cell (sqL l1) hl))) fun H2 s2 => ?_
      refine ite2 (fun hne => ?_) (fun he => ?_)
      · obtain ⟨Ls', x0, eL⟩ : ∃ Ls' x0, Ls = Ls' ++ [x0] := by
          rcases List.eq_nil_or_concat Ls with z | ⟨a, b, z⟩
          · rw [z] at hne
            cases hne
          · exact ⟨a, b, by rw [z]; simp⟩
        subst eL
        have f2 := s2 _ _ f1
        have l2 := s2 _ _ l1
        have hf2 := hf1.mono (TS.of s2)
        have hl2 := hl.mono (TS.of s2)
        obtain ⟨lv', y0, elv, hl', hy0⟩ : ∃ lv' y0, lvs = lv' ++ [y0] ∧ ImL H2 lv' (Ls'.map cD) ∧ Im H2 y0 (cD x0) := by
          have hd := paired_dropLast hl2
          have hlen := Paired.length hl2
          rw [List.length_map, List.length_append] at hlen
          rcases List.eq_nil_or_concat lvs with z | ⟨a, b, z⟩
          · rw [z] at hlen
            simp at hlen
          · have z2 : lvs = a ++ [b] := by rw [z]; simp
            subst z2
            refine ⟨a, b, rfl, ?_, ?_⟩
            · rw [List.map_append, List.dropLast_concat] at hd
              simpa using hd
            · have e1 : (a ++ [b])[Ls'.length]? = some b := by
                have : a.length = Ls'.length := by
                  simp at hlen
                  exact hlen
                rw [← this]
                simp
              have e2 : ((Ls' ++ [x0]).map cD)[Ls'.length]? = some (cD x0) := by simp
              obtain ⟨y, h1, h2⟩ := paired_get hl2 e1
              rw [e2] at h1
              cases h1
              exact h2
        subst elv
        refine ⟨fun σ' H' => ∃ (fvs lvs : List V) (x5 x6 x7 x8 x9 : Option V), σ' = [some av, some cv, some mv, some (.ref Fa), some (.ref Lp), x5, x6, x7, x8, x9] ∧ Same H H' ∧ H' Fa = some (.lst fvs) ∧ ImL H' fvs ((L ++ newC free L (nbrs x0)).map cD) ∧ H' Lp = some (.lst lvs) ∧ ImL H' lvs ((Ls' ++ newC free L (nbrs x0)).map cD), fun σ' H' hN => ?_, ?_⟩
        · obtain ⟨fvs', lvs', y5, y6, y7, y8, y9, e1, e2, e3, e4, e5, e6⟩ := hN
          refine ⟨_, ?_, _, _, fvs', lvs', y5, y6, y7, y8, y9, rfl, by simp only [List.length_append, List.length_singleton] at elen ⊢; omega, e1, e2, e3, e4, hh.one, e5, e6⟩
          have b := half_bound hh (ys := nbrs x0)
          rw [en]
          simp only [List.length_append, List.length_singleton] at b ⊢
          omega
        · have s02 := s1.trans s2
          refine sCons (sSet 5 (wPop 4 rfl l2 ?_) scLawReach.nd)
          have ts3 : TS H2 (upd H2 Lp (.lst lv')) := TS.lst l2
          have s03 : Same H (upd H2 Lp (.lst lv')) := Same.mut s02 hL0
          have f3 : upd H2 Lp (.lst lv') Fa = some (.lst fvs) := by rw [upd_ne nFL]; exact f2
          have l3 : upd H2 Lp (.lst lv') Lp = some (.lst lv') := upd_same
          have hf3 := hf2.mono ts3
          have hl3 := hl'.mono ts3
          have hy3 := hy0.mono ts3
          generalize upd H2 Lp (.lst lv') = H3 at s03 f3 l3 hf3 hl3 hy3
          have key : ∃ G : Addr → List V → List Cell → L2.St → Hp → Prop, G = fun wl wvs ys σ H' => ∃ (fvs lvs : List V) (x6 x7 x8 x9 : Option V), σ = [some av, some cv, some mv, some (.ref Fa), some (.ref Lp), some y0, x6, x7, x8, x9] ∧ Same H H' ∧ H' wl = some (.lst wvs) ∧ ImL H' wvs (dirs.map wayD) ∧ Im H' y0 (cD x0) ∧ H' Fa = some (.lst fvs) ∧ ImL H' fvs ((L ++ newC free L ys).map cD) ∧
            H' Lp = some (.lst lvs) ∧ ImL H' lvs ((Ls' ++ newC free L ys).map cD) := ⟨_, rfl⟩
          obtain ⟨G, hG⟩ := key
          refine sOne (sForL PassesOwn.never rfl (wCall0 F1 hr ⟨rfl, fun wl wvs H4 s4 hwl0 hwl hwi => ⟨wl, wvs, rfl, sqL hwl, fun j σ H' => G wl wvs ((nbrs x0).take j) σ H', ?_, ?_, ?_, ?_⟩⟩))
          · rw [hG]
            exact ⟨fvs, lv', x6, x7, x8, x9, rfl, s03.trans s4, hwl, hwi, hy3.mono (TS.of s4), s4 _ _ f3, by simpa [newC] using hf3.mono (TS.of s4), s4 _ _ l3, by simpa [newC] using hl3.mono (TS.of s4)⟩
          · intro i σ H' _ hP
            rw [hG] at hP
            obtain ⟨_, _, _, _, _, _, _, _, h3, _⟩ := hP
            exact sqL h3
          · intro j y σ H' hy hP
            have nFw : Fa ≠ wl := fun z => by rw [← z, f3] at hwl0; cases hwl0
            have nLw : Lp ≠ wl := fun z => by rw [← z, l3] at hwl0; cases hwl0
            rw [hG] at hP
            obtain ⟨fvs', lvs', y6, y7, y8, y9, eσ, s5, w5, hw5, hy5, f5, hf5, l5, hl5⟩ := hP
            subst eσ
            obtain ⟨d', hd', imd⟩ := paired_get hw5 hy
            rw [List.getElem?_map] at hd'
            obtain ⟨dd, hdd, e⟩ := Option.map_eq_some_iff.mp hd'
            subst e
            obtain ⟨wt, rfl, hwt⟩ := way_tup imd
            have tk : (nbrs x0).take (j + 1) = (nbrs x0).take j ++ [go x0 dd 1] := take_snoc (nbrs_at hdd)
            generalize eys : (nbrs x0).take j = ys at *
            refine gT3 rfl ⟨wt, _, _, _, rfl, sqT hwt, gNm 6 (gNm 7 (gNm 8 ?_ scLawReach.nd) scLawReach.nd) scLawReach.nd⟩
            refine sCons (sSet 9 ?_ scLawReach.nd)
            refine VP.run (vpCell (i := x0.1 + dd.dr) (j := x0.2 + dd.dc) (vpAdd (vpC0 (vpVar 5 rfl hy5)) fun H6 s6 => vpVar 7 rfl rfl) fun H6 s6 => vpAdd (vpC1 (vpVar 5 rfl (hy5.mono (TS.of s6)))) fun H7 s7 => vpVar 8 rfl rfl) fun tv H6 s6 h6 => ?_
            have ego : (x0.1 + dd.dr, x0.2 + dd.dc) = go x0 dd 1 := by
              unfold go
              rw [Int.one_mul, Int.one_mul]
            rw [ego] at h6
            have b := half_bound hh (ys := ys)
            have sH6 := s5.trans s6
            have no : ∀ H7, Same H6 H7 → ¬ (go x0 dd 1 ∈ free ∧ go x0 dd 1 ∉ L ++ newC free L ys) → G wl wvs ((nbrs x0).take (j + 1)) [some av, some cv, some mv, some (.ref Fa), some (.ref Lp), some y0, some (.str dd.str), some (.int dd.dr), some (.int dd.dc), some tv] H7 := fun H7 s7 no => by
              have s67 := s6.trans s7
              rw [tk, hG]
              exact ⟨fvs', lvs', _, _, _, _, rfl, s5.trans s67, s67 _ _ w5, hw5.mono (TS.of s67), hy5.mono (TS.of s67), s67 _ _ f5, by rw [newC_snoc, stp_no no]; exact hf5.mono (TS.of s67), s67 _ _ l5, by rw [newC_snoc, stp_no no]; exact hl5.mono (TS.of s67)⟩
            have ftest : (isIn (go x0 dd 1) area && (!isIn (go x0 dd 1) cs && !isIn (go x0 dd 1) (L ++ newC free L ys))) = true ↔ (go x0 dd 1 ∈ free ∧ go x0 dd 1 ∉ L ++ newC free L ys) := by
              rw [← Bool.and_assoc, ← isIn_frL, efr, Bool.and_eq_true, isIn_iff]
              constructor
              · rintro ⟨h1, h2⟩
                refine ⟨h1, fun z => ?_⟩
                rw [isIn_yes z] at h2
                cases h2
              · rintro ⟨h1, h2⟩
                exact ⟨h1, by rw [isIn_no h2]; rfl⟩
            refine sOne (sIfT (tvAnd3 (tvInE enc_cell (hu65 hr) (x := go x0 dd 1) (cs := area) (vpVar 9 rfl h6) fun H7 s7 => vpVar 0 rfl (ha.mono (sH6.trans s7))) (fun _ H7 s7 => tvNotInE enc_cell (hu65 hr) (x := go x0 dd 1) (cs := cs) (vpVar 9 rfl (h6.mono (TS.of s7))) fun H8 s8 => vpVar 1 rfl (hc.mono (sH6.trans (s7.trans s8))))
              fun _ _ H7 s7 => tvNotInE enc_cell (hu65 hr) (x := go x0 dd 1) (cs := L ++ newC free L ys) (vpVar 9 rfl (h6.mono (TS.of s7))) fun H8 s8 => vpVar 3 rfl ⟨Fa, fvs', rfl, .inl (sqL ((s6.trans (s7.trans s8)) _ _ f5)), hf5.mono (TS.of (s6.trans (s7.trans s8)))⟩) (fun hk H7 s7 => ?_) (fun hk H7 s7 => sNil (no H7 s7 fun z => by rw [ftest.mpr z] at hk; cases hk)))
            obtain ⟨hin, hc'⟩ := ftest.mp hk
            have s67 := s6.trans s7
            have f7 := s67 _ _ f5
            have l7 := s67 _ _ l5
            have hf7 := hf5.mono (TS.of s67)
            have hl7 := hl5.mono (TS.of s67)
            have ht7 := h6.mono (TS.of s7)
            have lenF : fvs'.length ≤ free.length + 1 := by
              rw [Paired.length hf5, List.length_map]
              exact b.2
            have lenL : lvs'.length ≤ Ls'.length + (free.length + 1) := by
              rw [Paired.length hl5, List.length_map, List.length_append]
              have := b.2
              rw [List.length_append] at this
              omega
            have lenLs : Ls'.length ≤ free.length + 1 := by
              have := hh.few
              rw [List.length_append, List.length_singleton] at elen
              omega
            refine sCons (sApp 3 rfl ⟨_, f7⟩ (wVar 9 rfl ⟨fvs', f7, szl (by omega), ?_⟩))
            have ts8 : TS H7 (upd H7 Fa (.lst (fvs' ++ [tv]))) := TS.lst f7
            have l8 : upd H7 Fa (.lst (fvs' ++ [tv])) Lp = some (.lst lvs') := by rw [upd_ne (Ne.symm nFL)]; exact l7
            refine sOne (sApp 4 rfl ⟨_, l8⟩ (wVar 9 rfl ⟨lvs', l8, szl (by omega), ?_⟩))
            have ts9 : TS (upd H7 Fa (.lst (fvs' ++ [tv]))) (upd (upd H7 Fa (.lst (fvs' ++ [tv]))) Lp (.lst (lvs' ++ [tv]))) := TS.lst l8
            have tsA := ts8.trans ts9
            refine (?_ : G wl wvs ((nbrs x0).take (j + 1)) _ _)
            rw [tk, hG]
            refine ⟨_, _, _, _, _, _, rfl, Same.mut (Same.mut (s5.trans s67) hF) hL0, by rw [upd_ne (Ne.symm nLw), upd_ne (Ne.symm nFw)]; exact s67 _ _ w5, (hw5.mono (TS.of s67)).mono tsA, (hy5.mono (TS.of s67)).mono tsA, by rw [upd_ne nFL, upd_same], ?_, upd_same, ?_⟩
            · rw [newC_snoc, stp_yes hin hc', ← List.append_assoc, List.map_append]
              exact paired_snoc (hf7.mono tsA) (ht7.mono tsA)
            · rw [newC_snoc, stp_yes hin hc', ← List.append_assoc, List.map_append]
              exact paired_snoc (hl7.mono tsA) (ht7.mono tsA)
          · intro σ H' hP
            have ll : wvs.length = 4 := by rw [Paired.length hwi]; rfl
            rw [ll, List.take_of_length_le (l := nbrs x0) (by rw [nbrs_len]; omega), hG] at hP
            obtain ⟨fvs', lvs', y6, y7, y8, y9, eσ, s5, w5, hw5, hy5, f5, hf5, l5, hl5⟩ := hP
            exact ⟨fvs', lvs', _, _, _, _, _, eσ, s5, f5, hf5, l5, hl5⟩
      · have hLs : Ls = [] := by
          cases Ls with
          | nil => rfl
          | cons a b => exact absurd rfl he
        subst hLs
        refine sOne (sRet (VP.run (vpSorted (cs := L) T.n_sorted hh.nd (vpVar 3 rfl ⟨Fa, fvs, rfl, sqL (s2 _ _ f1), hf1.mono (TS.of s2)⟩)) fun v H3 s3 h3 => q v H3 ((s1.trans s2).trans s3) ?_))
        have e : sortC L = reachL free m := (sortC_of hh.nd (reachL_asc (by rw [← efr]; exact frL_asc asc)) fun x => by rw [reachL_mem mf, hh.end]).symm
        rw [e] at h3
        exact h3
end CR
namespace CR
open PySem PySem.Spec PyProof.Rows L2
def duD (b : Push × Stand) : PyData := .tuple [pD b.1, stD b.2]
def pairsZ (b : Cell → Dir → Bool) (Z : Push → Stand) (cs : List Cell) : List (Push × Stand) := cs.flatMap fun c => dirs.flatMap fun d => if b c d = true then [((c, d), Z (c, d))] else []
theorem flatMap_map' {α β γ : Type} (f : α → List β) (g : β → γ) : ∀ l : List α, (l.flatMap f).map g = l.flatMap fun x => (f x).map g
  | [] => rfl
  | x :: l => by rw [List.flatMap_cons, List.flatMap_cons, List.map_append, flatMap_map' f g l]
theorem pairsZ_eq (b : Cell → Dir → Bool) (Z : Push → Stand) (cs : List Cell) : pairsZ b Z cs = (pairsL b cs).map fun p => (p, Z p) := by
  unfold pairsZ pairsL
  rw [flatMap_map']
  congr 1
  funext c
  rw [flatMap_map']
  congr 1
  funext d
  by_cases e : b c d = true
  · rw [if_pos e, if_pos e]
    rfl
  · rw [if_neg e, if_neg e]
    rfl
theorem pairsZ_len (b : Cell → Dir → Bool) (Z : Push → Stand) (cs : List Cell) : (pairsZ b Z cs).length ≤ 4 * cs.length := by
  rw [pairsZ_eq, List.length_map]
  exact pairsL_len b cs
theorem rowS {α : Type} {K : PySem.W.Frag} {enc : α → PyData} {cs : List α} (v : V) (H H' : Hp) (s : Same H H') (h : RowE K H enc v cs) : RowE K H' enc v cs := h.mono s
theorem back_dr (d : Dir) : d.back.dr = -d.dr := by cases d <;> rfl
theorem back_dc (d : Dir) : d.back.dc = -d.dc := by cases d <;> rfl
theorem go1 (c : Cell) (d : Dir) : go c d 1 = (c.1 + d.dr, c.2 + d.dc) := by
  unfold go
  rw [Int.one_mul, Int.one_mul]
theorem go_back (c : Cell) (d : Dir) : go c d.back 1 = (c.1 - d.dr, c.2 - d.dc) := by
  rw [go1, back_dr, back_dc]
  rfl
/-- a new sorted list of cells -/
theorem vpSortedF {X : Cx} {σ : L2.St} {H : Hp} {e : Expr} {pos p : Pos} {cs : List Cell} (hm : X.mg "sorted" = none) (nd : cs.Nodup) (he : VP X e σ H fun v H' => LsE X.K H' cD v cs) (hg : Gl X "sorted" := by rfl) (hst : starEach (e :: []) X.env = (false, eval e X.env) :: starEach [] X.env := by rfl) (hpl : (backTo pos (starEach [] X.env)).any (·.1) = false := by rfl) :
    VP X (.Call (.Name "sorted" p) [e] [] pos) σ H (fun v H' => ∃ l ys, v = .ref l ∧ H l = none ∧ SqL X.K H' l ys ∧ ImL H' ys ((sortC cs).map cD)) := fun Q q => wCallB cr_sortedC hm (by decide +kernel) (wACons (he _ fun v H1 s1 h1 => by
  obtain ⟨l, vs, e1, h2, h3⟩ := h1
  subst e1
  exact wANil ⟨l, vs, cs, rfl, h2, h3, nd, fun p ys hp hy => q _ _ (s1.trans (Same.new hp)) ⟨p, ys, rfl, Same.free s1 hp, sqL upd_same, hy.mono (TS.new hp)⟩⟩) hst) hg (he := hst) (hpl := hpl)
noncomputable def lawPush (area cs : List Cell) (p : Push) : Stand := (sortC (mvL cs p.1 (go p.1 p.2 1)), headL area (mvL cs p.1 (go p.1 p.2 1)) p.1)
noncomputable def lawPull (area cs : List Cell) (p : Push) : Stand := (sortC (mvL cs p.1 (go p.1 p.2 1)), headL area (mvL cs p.1 (go p.1 p.2 1)) (go p.1 p.2 2))
variable {P : Program} {w : World} {K : PySem.W.Frag} {mg : Str → Option Value} {base : Heap}
/-! ### _law_plain -/
def spLPlain (K : PySem.W.Frag) : Sp := fun vs H Q _ => ∃ (av cv mv : V) (area cs : List Cell) (m : Cell), vs = [av, cv, mv] ∧ RowE K H cD av area ∧ LsE K H cD cv cs ∧ Im H mv (cD m) ∧ area.length ≤ 1000 ∧ cs.length ≤ 1000 ∧ Asc area ∧ cs.Nodup ∧ m ∈ area ∧ m ∉ cs ∧
  ∀ r H', Same H H' → Im H' r (stD (sortC cs, headL area cs m)) → Q r H'
theorem scLawPlain : FnScope ["_law_area", "_law_crates", "_law_mover"] ["_law_area", "_law_crates", "_law_mover"] (defScope sLawPlain) := ⟨rfl, rfl, rfl, by decide +kernel, rfl, by decide +kernel, by decide +kernel⟩
theorem ok_law_plain (T : Facts K w mg) : Fn P w K mg base CX0 "_law_plain" 3 [] (spLPlain K) := by
  have F1 : Fn P w K mg base CX0 "_law_reach" 2 [] (spLReach K) := ok_law_reach T
  refine fn_mk T.d_law_plain fun f fd F => F.ok scLawPlain (fun vs H Q E h => ?_) (fun cdv A outer s H vs Q E hr h => ⟨_, pSs, ?_⟩)
  · obtain ⟨av, cv, mv, area, cs, m, rfl, _⟩ := h
    rfl
  · obtain ⟨av, cv, mv, area, cs, m, rfl, ha, hc, hm, hz, hcz, asc, nd, m1, m2, q⟩ := h
    refine sOne (sRet (VP.run (vpPair (d1 := csD (sortC cs)) (d2 := cD (headL area cs m)) (vpTupOf T.n_tuple (vpSorted T.n_sorted nd (vpVar 1 rfl hc))) fun H1 s1 => vpIxL (i := 0) (P := fun v H' => Im H' v (cD (headL area cs m))) (VP.mono (vpCall3 (P := fun v H' => LsE K H' cD v (reachL (frL area cs) m)) F1 hr (vpVar 0 rfl (ha.mono s1)) (fun H2 s2 => vpVar 1 rfl (hc.mono (s1.trans s2)).row) (fun H2 s2 => vpVar 2 rfl (hm.mono (TS.of (s1.trans s2)))) rowS rowS fun v u y H' s h1 h2 h3 Q q => ⟨v, u, y, area, cs, m, rfl, h1, h2, h3, hz, asc, m1, m2, q⟩) fun v H' s h => h.get (headL_at (frL_mem.mpr ⟨m1, m2⟩))) (fun _ _ => vpInt) imS) fun v H' s h => q v H' s h))
def spRows (K : PySem.W.Frag) (B : BT) (Z : List Cell → List Cell → Push → Stand) : Sp := fun vs H Q _ => ∃ (av cv mv : V) (area cs : List Cell) (m : Cell), vs = [av, cv, mv] ∧ RowE K H cD av area ∧ LsE K H cD cv cs ∧ Im H mv (cD m) ∧ area.length ≤ 1000 ∧ cs.length ≤ 1000 ∧ Asc area ∧ cs.Nodup ∧ (∀ c ∈ cs, c ∈ area) ∧ m ∈ area ∧ m ∉ cs ∧
  ∀ r H', Same H H' → LsE K H' duD r ((pairsL (B area cs m) (sortC cs)).map fun p => (p, Z area cs p)) → Q r H'
/-! ### _law_pushes -/
theorem scLawPushes : FnScope ["_law_area", "_law_crates", "_law_mover", "_law_near", "_law_found", "_law_cell", "_law_letter", "_law_down", "_law_right", "_law_ahead", "_law_behind", "_law_later", "_law_other"] ["_law_area", "_law_crates", "_law_mover"] (defScope sLawPushes) := ⟨rfl, rfl, rfl, by decide +kernel, rfl, by decide +kernel, by decide +kernel⟩
theorem ok_law_pushes (T : Facts K w mg) : Fn P w K mg base CX0 "_law_pushes" 4 [] (spRows K pushB lawPush) := by
  have F1 : Fn P w K mg base CX0 "_law_ways" 1 [] spWays := ok_law_ways T
  have F2 : Fn P w K mg base CX0 "_law_reach" 2 [] (spLReach K) := ok_law_reach T
  have F3 : Fn P w K mg base CX0 "_law_plain" 3 [] (spLPlain K) := ok_law_plain T
  refine fn_mk T.d_law_pushes fun f fd F => F.ok scLawPushes (fun vs H Q E h => ?_) (fun cdv A outer s H vs Q E hr h => ⟨_, pSs, ?_⟩)
  · obtain ⟨av, cv, mv, area, cs, m, rfl, _⟩ := h
    rfl
  · obtain ⟨av, cv, mv, area, cs, m, rfl, ha, hc, hm, hz, hcz, asc, nd, inA, m1, m2, q⟩ := h
    refine sCons (sPar 3 4 rfl scLawPushes.nd (wACons (VP.run (vpCall3 (P := fun v H' => LsE K H' cD v (reachL (frL area cs) m)) F2 hr (vpVar 0 rfl ha) (fun H1 s1 => vpVar 1 rfl (hc.mono s1).row) (fun H1 s1 => vpVar 2 rfl (hm.mono (TS.of s1))) rowS rowS fun v u y H' s h1 h2 h3 Q q => ⟨v, u, y, area, cs, m, rfl, h1, h2, h3, hz, asc, m1, m2, q⟩) fun nv H1 s1 hn =>
      wACons (wLst (wANil ⟨Nat.zero_le _, fun Fa hF => wANil ⟨nv, .ref Fa, rfl, ?_⟩⟩)))))
    have ha1 := ha.mono s1
    have hc1 := hc.mono s1
    have few := pairsZ_len (pushB area cs m) (lawPush area cs) (sortC cs)
    rw [sortC_len] at few
    refine sCons (sColl PassesOwn.never rfl (F := Fa) (fun σ => ∃ x5 x6 x7 x8 x9 x10 x11 x12, σ = [some av, some cv, some mv, some nv, some (.ref Fa), x5, x6, x7, x8, x9, x10, x11, x12]) (fun H v b => Im H v (duD b)) (fun H v c => Im H v (cD c)) (sortC cs) (fun c => dirs.flatMap fun d => if pushB area cs m c d = true then [((c, d), lawPush area cs (c, d))] else []) []
      (fun _ _ _ _ t _ h => h.mono t) (fun _ _ _ _ t h => h.mono t) ⟨none, none, none, none, none, none, none, none, rfl⟩ ⟨[], upd_same, .nil⟩ ?_ ?_ ?_)
    · refine iL (VP.run (vpSortedF (cs := cs) T.n_sorted nd (vpVar 1 rfl (hc1.mono (Same.new hF)))) fun v H3 s3 h3 => ?_)
      obtain ⟨l, ys, e, hl0, hl, hy⟩ := h3
      exact ⟨l, e, ⟨_, hl⟩, s3, ys, srcXL (fun z => by rw [z, upd_same] at hl0; cases hl0) hl, paired_map.mp hy⟩
    · intro v c bs acc σ1 H3 sx hS mc hv hF3 hp3 few1 N hN
      obtain ⟨x5, x6, x7, x8, x9, x10, x11, x12, rfl⟩ := hS
      have mc : c ∈ cs := sortC_mem.mp mc
      refine gNm 5 ?_ scLawPushes.nd
      refine sOne (sColl PassesOwn.never rfl (F := Fa) (fun σ => ∃ x6 x7 x8 x9 x10 x11 x12, σ = [some av, some cv, some mv, some nv, some (.ref Fa), some v, x6, x7, x8, x9, x10, x11, x12]) (fun H v b => Im H v (duD b)) (fun H v (d : Dir) => Im H v (wayD d)) dirs (fun d => if pushB area cs m c d = true then [((c, d), lawPush area cs (c, d))] else []) bs
        (fun _ _ _ _ t _ h => h.mono t) (fun _ _ _ _ t h => h.mono t) ⟨x6, x7, x8, x9, x10, x11, x12, rfl⟩ ⟨acc, hF3, hp3⟩ ?_ ?_ ?_)
      · exact iL (wCall0 F1 hr ⟨rfl, fun l ys H4 s4 hl0 hl hy => ⟨l, rfl, ⟨_, sqL hl⟩, s4, ys, srcXL (fun z => by rw [z, hF3] at hl0; cases hl0) (sqL hl), paired_map.mp hy⟩⟩)
      · intro v2 d bs2 acc2 σ2 H4 sx2 hS2 md hw hF4 hp4 few2 N2 hN2
        obtain ⟨x6, x7, x8, x9, x10, x11, x12, rfl⟩ := hS2
        have sm4 : Same H1 H4 := (sx.trans sx2).same (Same.new hF) hF
        have hv4 := hv.mono (sx2.ts hF3)
        obtain ⟨wt, rfl, hwt⟩ := way_tup hw
        refine gT3 rfl ⟨wt, _, _, _, rfl, sqT hwt, gNm 6 (gNm 7 (gNm 8 ?_ scLawPushes.nd) scLawPushes.nd) scLawPushes.nd⟩
        refine sCons (sAsg (wTup (wACons (VP.run (P := fun v H' => Im H' v (cD (go c d 1))) (VP.mono (vpCell (i := c.1 + d.dr) (j := c.2 + d.dc) (vpAdd (vpC0 (vpVar 5 rfl hv4)) fun _ _ => vpVar 7 rfl rfl) fun Hq sq => vpAdd (vpC1 (vpVar 5 rfl (hv4.mono (TS.of sq)))) fun _ _ => vpVar 8 rfl rfl) fun v H' s h => by rw [go1]; exact h) fun v1 H5 s5 h5 => wACons (VP.run (P := fun v H' => Im H' v (cD (go c d.back 1))) (VP.mono (vpCell (i := c.1 - d.dr) (j := c.2 - d.dc) (vpSub (vpC0 (vpVar 5 rfl (hv4.mono (TS.of s5)))) fun _ _ => vpVar 7 rfl rfl) fun Hq sq => vpSub (vpC1 (vpVar 5 rfl ((hv4.mono (TS.of s5)).mono (TS.of sq)))) fun _ _ => vpVar 8 rfl rfl) fun v H' s h => by rw [go_back]; exact h) fun v2 H6 s6 h6 => wANil ⟨by show 2 ≤ sizeLine; decide, fun p hp => gT2 rfl ⟨p, v1, v2, rfl, sqT upd_same, gNm 9 (gNm 10 ?_ scLawPushes.nd) scLawPushes.nd⟩⟩)))))
        have s47 := (s5.trans s6).trans (Same.new (o := .tup [v1, v2]) hp)
        have h5 := h5.mono ((TS.of s6).trans (TS.new hp (o := .tup [v1, v2])))
        have h6 := h6.mono (TS.new hp (o := .tup [v1, v2]))
        generalize upd H6 p (.tup [v1, v2]) = H7 at s47 h5 h6 ⊢
        have sm7 := sm4.trans s47
        have hF7 := s47 _ _ hF4
        have hv7 := hv4.mono (TS.of s47)
        have ll := Paired.length hp4
        have len2 : acc2.length < 100000 := by
          have e1 : (bs ++ List.flatMap (fun d => if pushB area cs m c d = true then [((c, d), lawPush area cs (c, d))] else []) dirs).length ≤ bs.length + 4 := by
            have := pairsZ_len (pushB area cs m) (lawPush area cs) [c]
            unfold pairsZ at this
            rw [List.flatMap_cons, List.flatMap_nil, List.append_nil] at this
            rw [List.length_append]
            simp only [List.length_singleton] at this
            omega
          have e2 : bs.length ≤ 4 * cs.length := Nat.le_trans few1 (by rw [List.nil_append]; exact few)
          omega
        clear few2
        refine sOne (sIfT (tvAnd3 (tvInE enc_cell (hu65 hr) (x := go c d.back 1) (cs := reachL (frL area cs) m) (vpVar 10 rfl h6) fun H9 s9 => vpVar 3 rfl (hn.mono (sm7.trans s9)).row) (fun _ H8 s8 => tvInE enc_cell (hu65 hr) (x := go c d 1) (cs := area) (vpVar 9 rfl (h5.mono (TS.of s8))) fun H9 s9 => vpVar 0 rfl (ha1.mono (sm7.trans (s8.trans s9)))) fun _ _ H8 s8 => tvNotInE enc_cell (hu65 hr) (x := go c d 1) (cs := cs) (vpVar 9 rfl (h5.mono (TS.of s8))) fun H9 s9 => vpVar 1 rfl (hc1.mono (sm7.trans (s8.trans s9))).row) (fun hk H8 s8 => ?_) (fun hk H8 s8 => ?_))
        · have hk : pushB area cs m c d = true := by
            unfold pushB
            rw [isIn_frL]
            rw [Bool.and_comm] at hk
            exact hk
          rw [if_pos hk] at hN2
          have sm8 := sm7.trans s8
          obtain ⟨p1, p2, p3⟩ := push_pre (p := (c, d)) (pairsL_mem.mpr ⟨mc, hk⟩) nd inA
          have hF8 := s8 _ _ hF7
          refine sCons (sLc0 11 rfl scLawPushes.nd (blkOk_by (own := [("_law_other", 12)]) (N := ["_law_area", "_law_crates", "_law_mover", "_law_near", "_law_found", "_law_cell", "_law_letter", "_law_down", "_law_right", "_law_ahead", "_law_behind", "_law_later", "_law_other"]) (sc := defScope sLawPushes) (by decide +kernel)) (lcM0 12 (fun H v (d : Cell) => Im H v (cD d)) (fun H v (d : Cell) => Im H v (cD d)) (fun o => if o = c then go c d 1 else o) cs (fun _ _ _ _ _ => pg_name (i := 12) scLawPushes.nd rfl (Or.inl rfl)) (fun _ => rfl) (fun _ _ _ _ s h => h.mono (TS.of s)) (fun _ _ _ _ s h => h.mono s) ?_ (by omega) ?_ ?_))
          · obtain ⟨l, ys, e, hl, hy⟩ := hc1.mono sm8
            exact iL (wVar 1 rfl ⟨l, e, ⟨_, hl⟩, Same.refl _, _, srcL hl, paired_map.mp hy⟩)
          · intro v3 o H' s e mo K2 k s0 H0 C cl fp
            refine wIfE (TV.run (tvEqE enc_cell (hu65 hr) (x := o) (y := c) (vpVar 12 rfl e) fun H2 s2 => vpVar 5 rfl (hv7.mono (TS.of (s8.trans (s.trans s2))))) fun H2 s2 => ?_)
            by_cases e2 : o = c
            · rw [decide_eq_true e2]
              exact iteT (wVar 9 rfl (k _ _ s2 (by rw [if_pos e2]; exact h5.mono (TS.of (s8.trans (s.trans s2))))))
            · rw [decide_eq_false e2]
              exact iteF (wVar 12 rfl (k _ _ s2 (by rw [if_neg e2]; exact e.mono (TS.of s2))))
          · intro Dl acc3 H9 s9 n9 ha9 hp9
            have hlat : LsE K H9 cD (.ref Dl) (mvL cs c (go c d 1)) := ⟨Dl, acc3, rfl, sqL ha9, paired_map.mpr hp9⟩
            have s79 := s8.trans s9
            have hF9 := s79 _ _ hF7
            refine sOne (sApp 4 rfl ⟨_, hF9⟩ (VP.run (vpPair (d1 := pD (c, d)) (d2 := stD (lawPush area cs (c, d))) (vpPair (d1 := cD c) (d2 := .str d.str) (vpVar 5 rfl (hv7.mono (TS.of s79))) fun HA sA => vpVar 6 rfl (.str _)) fun HA sA => vpCall3 (P := fun v H' => Im H' v (stD (lawPush area cs (c, d)))) F3 hr (vpVar 0 rfl (ha1.mono (sm7.trans (s79.trans sA)))) (fun HB sB => vpVar 11 rfl (hlat.mono (sA.trans sB))) (fun HB sB => vpVar 5 rfl (hv7.mono (TS.of (s79.trans (sA.trans sB))))) rowS lsS fun v u y H' s h1 h2 h3 Q q => ⟨v, u, y, area, mvL cs c (go c d 1), c, rfl, h1, h2, h3, hz, by rw [mvL_len]; exact hcz, asc, p1, p2, p3, q⟩) fun z HC sC hzC => ⟨acc2, sC _ _ hF9, szl len2, ?_⟩))
            have tC : TS HC (upd HC Fa (.lst (acc2 ++ [z]))) := TS.lst (sC _ _ hF9)
            refine hN2 _ _ ⟨_, _, _, _, _, _, _, rfl⟩ ((SX.of (s47.trans (s79.trans sC))).trans SX.put) ⟨_, upd_same, ?_⟩
            exact paired_snoc (paired_mono hp4 fun _ _ h => h.mono ((TS.of (s47.trans (s79.trans sC))).trans tC)) (hzC.mono tC)
        · have hk : pushB area cs m c d = false := by
            unfold pushB
            rw [isIn_frL]
            rw [Bool.and_comm] at hk
            exact hk
          rw [if_neg (by rw [hk]; decide)] at hN2
          exact sNil (hN2 _ _ ⟨_, _, _, _, _, _, _, rfl⟩ (SX.of (s47.trans s8)) ⟨acc2, s8 _ _ hF7, by rw [List.append_nil]; exact paired_mono hp4 fun _ _ h => h.mono (TS.of (s47.trans s8))⟩)
      · intro σ' H' hS' sx' ha'
        obtain ⟨x6, x7, x8, x9, x10, x11, x12, rfl⟩ := hS'
        exact hN _ _ ⟨_, _, _, _, _, _, _, _, rfl⟩ sx' ha'
    · intro σ' H' hS' sx' ha'
      obtain ⟨x5, x6, x7, x8, x9, x10, x11, x12, rfl⟩ := hS'
      obtain ⟨acc, h1, h2⟩ := ha'
      exact sOne (sRet (wVar 4 rfl (q _ _ (sx'.same (s1.trans (Same.new hF)) (Same.free s1 hF)) ⟨Fa, acc, rfl, sqL h1, paired_map.mpr (by rw [List.nil_append] at h2; rw [← pairsZ_eq]; exact h2)⟩)))
/-! ### _law_pull_rows -/
theorem scLawPullRows : FnScope ["_law_area", "_law_crates", "_law_mover", "_law_near", "_law_found", "_law_cell", "_law_letter", "_law_down", "_law_right", "_law_one", "_law_two", "_law_later", "_law_other"] ["_law_area", "_law_crates", "_law_mover"] (defScope sLawPullRows) := ⟨rfl, rfl, rfl, by decide +kernel, rfl, by decide +kernel, by decide +kernel⟩
theorem ok_law_pull_rows (T : Facts K w mg) : Fn P w K mg base CX0 "_law_pull_rows" 4 [] (spRows K pullB lawPull) := by
  have F1 : Fn P w K mg base CX0 "_law_ways" 1 [] spWays := ok_law_ways T
  have F2 : Fn P w K mg base CX0 "_law_reach" 2 [] (spLReach K) := ok_law_reach T
  have F3 : Fn P w K mg base CX0 "_law_plain" 3 [] (spLPlain K) := ok_law_plain T
  refine fn_mk T.d_law_pull_rows fun f fd F => F.ok scLawPullRows (fun vs H Q E h => ?_) (fun cdv A outer s H vs Q E hr h => ⟨_, pSs, ?_⟩)
  · obtain ⟨av, cv, mv, area, cs, m, rfl, _⟩ := h
    rfl
  · obtain ⟨av, cv, mv, area, cs, m, rfl, ha, hc, hm, hz, hcz, asc, nd, inA, m1, m2, q⟩ := h
    refine sCons (sPar 3 4 rfl scLawPullRows.nd (wACons (VP.run (vpCall3 (P := fun v H' => LsE K H' cD v (reachL (frL area cs) m)) F2 hr (vpVar 0 rfl ha) (fun H1 s1 => vpVar 1 rfl (hc.mono s1).row) (fun H1 s1 => vpVar 2 rfl (hm.mono (TS.of s1))) rowS rowS fun v u y H' s h1 h2 h3 Q q => ⟨v, u, y, area, cs, m, rfl, h1, h2, h3, hz, asc, m1, m2, q⟩) fun nv H1 s1 hn =>
      wACons (wLst (wANil ⟨Nat.zero_le _, fun Fa hF => wANil ⟨nv, .ref Fa, rfl, ?_⟩⟩)))))
    have ha1 := ha.mono s1
    have hc1 := hc.mono s1
    have few := pairsZ_len (pullB area cs m) (lawPull area cs) (sortC cs)
    rw [sortC_len] at few
    refine sCons (sColl PassesOwn.never rfl (F := Fa) (fun σ => ∃ x5 x6 x7 x8 x9 x10 x11 x12, σ = [some av, some cv, some mv, some nv, some (.ref Fa), x5, x6, x7, x8, x9, x10, x11, x12]) (fun H v b => Im H v (duD b)) (fun H v c => Im H v (cD c)) (sortC cs) (fun c => dirs.flatMap fun d => if pullB area cs m c d = true then [((c, d), lawPull area cs (c, d))] else []) []
      (fun _ _ _ _ t _ h => h.mono t) (fun _ _ _ _ t h => h.mono t) ⟨none, none, none, none, none, none, none, none, rfl⟩ ⟨[], upd_same, .nil⟩ ?_ ?_ ?_)
    · refine iL (VP.run (vpSortedF (cs := cs) T.n_sorted nd (vpVar 1 rfl (hc1.mono (Same.new hF)))) fun v H3 s3 h3 => ?_)
      obtain ⟨l, ys, e, hl0, hl, hy⟩ := h3
      exact ⟨l, e, ⟨_, hl⟩, s3, ys, srcXL (fun z => by rw [z, upd_same] at hl0; cases hl0) hl, paired_map.mp hy⟩
    · intro v c bs acc σ1 H3 sx hS mc hv hF3 hp3 few1 N hN
      obtain ⟨x5, x6, x7, x8, x9, x10, x11, x12, rfl⟩ := hS
      have mc : c ∈ cs := sortC_mem.mp mc
      refine gNm 5 ?_ scLawPullRows.nd
      refine sOne (sColl PassesOwn.never rfl (F := Fa) (fun σ => ∃ x6 x7 x8 x9 x10 x11 x12, σ = [some av, some cv, some mv, some nv, some (.ref Fa), some v, x6, x7, x8, x9, x10, x11, x12]) (fun H v b => Im H v (duD b)) (fun H v (d : Dir) => Im H v (wayD d)) dirs (fun d => if pullB area cs m c d = true then [((c, d), lawPull area cs (c, d))] else []) bs
        (fun _ _ _ _ t _ h => h.mono t) (fun _ _ _ _ t h => h.mono t) ⟨x6, x7, x8, x9, x10, x11, x12, rfl⟩ ⟨acc, hF3, hp3⟩ ?_ ?_ ?_)
      · exact iL (wCall0 F1 hr ⟨rfl, fun l ys H4 s4 hl0 hl hy => ⟨l, rfl, ⟨_, sqL hl⟩, s4, ys, srcXL (fun z => by rw [z, hF3] at hl0; cases hl0) (sqL hl), paired_map.mp hy⟩⟩)
      · intro v2 d bs2 acc2 σ2 H4 sx2 hS2 md hw hF4 hp4 few2 N2 hN2
        obtain ⟨x6, x7, x8, x9, x10, x11, x12, rfl⟩ := hS2
        have sm4 : Same H1 H4 := (sx.trans sx2).same (Same.new hF) hF
        have hv4 := hv.mono (sx2.ts hF3)
        obtain ⟨wt, rfl, hwt⟩ := way_tup hw
        refine gT3 rfl ⟨wt, _, _, _, rfl, sqT hwt, gNm 6 (gNm 7 (gNm 8 ?_ scLawPullRows.nd) scLawPullRows.nd) scLawPullRows.nd⟩
        refine sCons (sAsg (wTup (wACons (VP.run (P := fun v H' => Im H' v (cD (go c d 1))) (VP.mono (vpCell (i := c.1 + d.dr) (j := c.2 + d.dc) (vpAdd (vpC0 (vpVar 5 rfl hv4)) fun _ _ => vpVar 7 rfl rfl) fun Hq sq => vpAdd (vpC1 (vpVar 5 rfl (hv4.mono (TS.of sq)))) fun _ _ => vpVar 8 rfl rfl) fun v H' s h => by rw [go1]; exact h) fun v1 H5 s5 h5 => wACons (VP.run (P := fun v H' => Im H' v (cD (go c d 2))) (VP.mono (vpCell (i := c.1 + 2 * d.dr) (j := c.2 + 2 * d.dc) (vpAdd (vpC0 (vpVar 5 rfl (hv4.mono (TS.of s5)))) fun _ _ => vpMul (.inl (by omega)) vpInt fun _ _ => vpVar 7 rfl rfl) fun Hq sq => vpAdd (vpC1 (vpVar 5 rfl ((hv4.mono (TS.of s5)).mono (TS.of sq)))) fun _ _ => vpMul (.inl (by omega)) vpInt fun _ _ => vpVar 8 rfl rfl) fun v H' s h => h) fun v2 H6 s6 h6 => wANil ⟨by show 2 ≤ sizeLine; decide, fun p hp => gT2 rfl ⟨p, v1, v2, rfl, sqT upd_same, gNm 9 (gNm 10 ?_ scLawPullRows.nd) scLawPullRows.nd⟩⟩)))))
        have s47 := (s5.trans s6).trans (Same.new (o := .tup [v1, v2]) hp)
        have h5 := h5.mono ((TS.of s6).trans (TS.new hp (o := .tup [v1, v2])))
        have h6 := h6.mono (TS.new hp (o := .tup [v1, v2]))
        generalize upd H6 p (.tup [v1, v2]) = H7 at s47 h5 h6 ⊢
        have sm7 := sm4.trans s47
        have hF7 := s47 _ _ hF4
        have hv7 := hv4.mono (TS.of s47)
        have ll := Paired.length hp4
        have len2 : acc2.length < 100000 := by
          have e1 : (bs ++ List.flatMap (fun d => if pullB area cs m c d = true then [((c, d), lawPull area cs (c, d))] else []) dirs).length ≤ bs.length + 4 := by
            have := pairsZ_len (pullB area cs m) (lawPull area cs) [c]
            unfold pairsZ at this
            rw [List.flatMap_cons, List.flatMap_nil, List.append_nil] at this
            rw [List.length_append]
            simp only [List.length_singleton] at this
            omega
          have e2 : bs.length ≤ 4 * cs.length := Nat.le_trans few1 (by rw [List.nil_append]; exact few)
          omega
        clear few2
        refine sOne (sIfT (tvAnd3 (tvInE enc_cell (hu65 hr) (x := go c d 1) (cs := reachL (frL area cs) m) (vpVar 9 rfl h5) fun H9 s9 => vpVar 3 rfl (hn.mono (sm7.trans s9)).row) (fun _ H8 s8 => tvInE enc_cell (hu65 hr) (x := go c d 2) (cs := area) (vpVar 10 rfl (h6.mono (TS.of s8))) fun H9 s9 => vpVar 0 rfl (ha1.mono (sm7.trans (s8.trans s9)))) fun _ _ H8 s8 => tvNotInE enc_cell (hu65 hr) (x := go c d 2) (cs := cs) (vpVar 10 rfl (h6.mono (TS.of s8))) fun H9 s9 => vpVar 1 rfl (hc1.mono (sm7.trans (s8.trans s9))).row) (fun hk H8 s8 => ?_) (fun hk H8 s8 => ?_))
        · have hk : pullB area cs m c d = true := by
            unfold pullB
            rw [isIn_frL]
            exact hk
          rw [if_pos hk] at hN2
          have sm8 := sm7.trans s8
          obtain ⟨p1, p2, p3⟩ := pull_pre (p := (c, d)) (pairsL_mem.mpr ⟨mc, hk⟩) nd
          have hF8 := s8 _ _ hF7
          refine sCons (sLc0 11 rfl scLawPullRows.nd (blkOk_by (own := [("_law_other", 12)]) (N := ["_law_area", "_law_crates", "_law_mover", "_law_near", "_law_found", "_law_cell", "_law_letter", "_law_down", "_law_right", "_law_one", "_law_two", "_law_later", "_law_other"]) (sc := defScope sLawPullRows) (by decide +kernel)) (lcM0 12 (fun H v (d : Cell) => Im H v (cD d)) (fun H v (d : Cell) => Im H v (cD d)) (fun o => if o = c then go c d 1 else o) cs (fun _ _ _ _ _ => pg_name (i := 12) scLawPullRows.nd rfl (Or.inl rfl)) (fun _ => rfl) (fun _ _ _ _ s h => h.mono (TS.of s)) (fun _ _ _ _ s h => h.mono s) ?_ (by omega) ?_ ?_))
          · obtain ⟨l, ys, e, hl, hy⟩ := hc1.mono sm8
            exact iL (wVar 1 rfl ⟨l, e, ⟨_, hl⟩, Same.refl _, _, srcL hl, paired_map.mp hy⟩)
          · intro v3 o H' s e mo K2 k s0 H0 C cl fp
            refine wIfE (TV.run (tvEqE enc_cell (hu65 hr) (x := o) (y := c) (vpVar 12 rfl e) fun H2 s2 => vpVar 5 rfl (hv7.mono (TS.of (s8.trans (s.trans s2))))) fun H2 s2 => ?_)
            by_cases e2 : o = c
            · rw [decide_eq_true e2]
              exact iteT (wVar 9 rfl (k _ _ s2 (by rw [if_pos e2]; exact h5.mono (TS.of (s8.trans (s.trans s2))))))
            · rw [decide_eq_false e2]
              exact iteF (wVar 12 rfl (k _ _ s2 (by rw [if_neg e2]; exact e.mono (TS.of s2))))
          · intro Dl acc3 H9 s9 n9 ha9 hp9
            have hlat : LsE K H9 cD (.ref Dl) (mvL cs c (go c d 1)) := ⟨Dl, acc3, rfl, sqL ha9, paired_map.mpr hp9⟩
            have s79 := s8.trans s9
            have hF9 := s79 _ _ hF7
            refine sOne (sApp 4 rfl ⟨_, hF9⟩ (VP.run (vpPair (d1 := pD (c, d)) (d2 := stD (lawPull area cs (c, d))) (vpPair (d1 := cD c) (d2 := .str d.str) (vpVar 5 rfl (hv7.mono (TS.of s79))) fun HA sA => vpVar 6 rfl (.str _)) fun HA sA => vpCall3 (P := fun v H' => Im H' v (stD (lawPull area cs (c, d)))) F3 hr (vpVar 0 rfl (ha1.mono (sm7.trans (s79.trans sA)))) (fun HB sB => vpVar 11 rfl (hlat.mono (sA.trans sB))) (fun HB sB => vpVar 10 rfl (h6.mono (TS.of (s79.trans (sA.trans sB))))) rowS lsS fun v u y H' s h1 h2 h3 Q q => ⟨v, u, y, area, mvL cs c (go c d 1), go c d 2, rfl, h1, h2, h3, hz, by rw [mvL_len]; exact hcz, asc, p1, p2, p3, q⟩) fun z HC sC hzC => ⟨acc2, sC _ _ hF9, szl len2, ?_⟩))
            have tC : TS HC (upd HC Fa (.lst (acc2 ++ [z]))) := TS.lst (sC _ _ hF9)
            refine hN2 _ _ ⟨_, _, _, _, _, _, _, rfl⟩ ((SX.of (s47.trans (s79.trans sC))).trans SX.put) ⟨_, upd_same, ?_⟩
            exact paired_snoc (paired_mono hp4 fun _ _ h => h.mono ((TS.of (s47.trans (s79.trans sC))).trans tC)) (hzC.mono tC)
        · have hk : pullB area cs m c d = false := by
            unfold pullB
            rw [isIn_frL]
            exact hk
          rw [if_neg (by rw [hk]; decide)] at hN2
          exact sNil (hN2 _ _ ⟨_, _, _, _, _, _, _, rfl⟩ (SX.of (s47.trans s8)) ⟨acc2, s8 _ _ hF7, by rw [List.append_nil]; exact paired_mono hp4 fun _ _ h => h.mono (TS.of (s47.trans s8))⟩)
      · intro σ' H' hS' sx' ha'
        obtain ⟨x6, x7, x8, x9, x10, x11, x12, rfl⟩ := hS'
        exact hN _ _ ⟨_, _, _, _, _, _, _, _, rfl⟩ sx' ha'
    · intro σ' H' hS' sx' ha'
      obtain ⟨x5, x6, x7, x8, x9, x10, x11, x12, rfl⟩ := hS'
      obtain ⟨acc, h1, h2⟩ := ha'
      exact sOne (sRet (wVar 4 rfl (q _ _ (sx'.same (s1.trans (Same.new hF)) (Same.free s1 hF)) ⟨Fa, acc, rfl, sqL h1, paired_map.mpr (by rw [List.nil_append] at h2; rw [← pairsZ_eq]; exact h2)⟩)))
end CR
namespace CR
open PySem PySem.Spec PyProof.Rows L2
section
variable {X : Cx} {σ : L2.St} {H : Hp} {a b c d e : Expr} {pos : Pos}
/-- a row of a room; a sign -/
theorem rows_at {K : PySem.W.Frag} {H : Hp} {v : V} {rows : List Str} {row : Str} {i : Nat} (h : Im H v (rwD rows)) (hr : rows[i]? = some row) : ∃ l ys y, v = .ref l ∧ SqT K H l ys ∧ ys[i]? = some y ∧ y = .str row := by
  obtain ⟨t, e, g⟩ := im_rows.mp h
  exact ⟨t, _, _, e, sqT g, by rw [List.getElem?_map, hr]; rfl, rfl⟩
theorem rows_n {K : PySem.W.Frag} {H : Hp} {v : V} {rows : List Str} (h : Im H v (rwD rows)) : SqN K H v rows.length := by
  obtain ⟨t, e, g⟩ := im_rows.mp h
  exact ⟨t, _, e, .inr (sqT g), List.length_map ..⟩
/-- room[r][c] -/
theorem vpSign {rows : List Str} {r n : Nat} (R : Rect rows) (h1 : r < rows.length) (h2 : n < wid rows) (ho : VP X e σ H fun v H' => Im H' v (rwD rows)) (ha : ∀ H', Same H H' → VP X a σ H' fun v _ => v = .int (r : Nat)) (hb : ∀ H', Same H H' → VP X b σ H' fun v _ => v = .int (n : Nat)) {p2 : Pos} (hs : PlainIx a := by exact fun _ _ => rfl) (hs2 : PlainIx b := by exact fun _ _ => rfl) :
    VP X (.Subscript (.Subscript e a p2) b pos) σ H (fun v _ => v = .str ⟨#[sgn rows r n]⟩) := by
  obtain ⟨row, e0, l0, hx⟩ := R.sgnAt h1 h2
  exact vpIxS (z := row) (by have := R.wide; omega) hx (vpIxT (i := r) (P := fun v _ => v = .str row) (VP.mono ho fun _ _ _ h => rows_at h e0) ha eqS hs) hb hs2
/-- len(room[0]) -/
theorem vpWid {rows : List Str} {j : Nat} {p p2 p3 : Pos} (hm : X.mg "len" = none) (R : Rect rows) (ho : VP X e σ H fun v H' => Im H' v (rwD rows)) (hg : Gl X "len" := by rfl) (hst : starEach ((.Subscript e (.Constant (.int 0) j p2) p3) :: []) X.env = (false, eval (.Subscript e (.Constant (.int 0) j p2) p3) X.env) :: starEach [] X.env := by rfl) (hpl : (backTo pos (starEach [] X.env)).any (·.1) = false := by rfl) :
    VP X (.Call (.Name "len" p) [.Subscript e (.Constant (.int 0) j p2) p3] [] pos) σ H (fun v _ => v = .int (wid rows : Nat)) := by
  obtain ⟨row, e0, l0⟩ := R.row R.pos
  refine VP.mono (vpLenS (z := row) hm (by have := R.wide; omega) (vpIxT (i := 0) (P := fun v _ => v = .str row) (VP.mono ho fun _ _ _ h => rows_at h e0) (fun _ _ => vpInt) eqS) hg hst hpl) fun v H' s e => ?_
  rw [e, l0]
theorem gT4 {x1 : Nat} {v : V} {R : L2.St → Hp → Prop} (hc : X.calm = true) (h : ∃ l x y z u, v = .ref l ∧ SqT X.K H l [x, y, z, u] ∧ wG X a x σ H fun σ1 H1 => wG X b y σ1 H1 fun σ2 H2 => wG X c z σ2 H2 fun σ3 H3 => wG X d u σ3 H3 R)
    (hs1 : (assignEach [a, b, c, d] X.env).map (·.2) = assign a X.env :: (assignEach [b, c, d] X.env).map (·.2) := by rfl) (hs2 : (assignEach [b, c, d] X.env).map (·.2) = assign b X.env :: (assignEach [c, d] X.env).map (·.2) := by rfl) (hs3 : (assignEach [c, d] X.env).map (·.2) = assign c X.env :: (assignEach [d] X.env).map (·.2) := by rfl) (hs4 : (assignEach [d] X.env).map (·.2) = assign d X.env :: (assignEach [] X.env).map (·.2) := by rfl)
    (hn : (assignEach [a, b, c, d] X.env).length = 4 := by rfl) (hst : (assignEach [a, b, c, d] X.env).findIdx? (·.1) = none := by rfl) : wG X (.Tuple [a, b, c, d] x1 pos) v σ H R := by
  obtain ⟨l, x, y, z, u, e, hl, q⟩ := h
  exact oG (pg_tup hc (pgs_cons pG (pgs_cons pG (pgs_cons pG (pgs_cons pG pgs_nil hs4) hs3) hs2) hs1) hn hst) ⟨l, [x, y, z, u], e, hl, rfl, x, [y, z, u], rfl, wG_mono q fun σ1 H1 q1 => ⟨y, [z, u], rfl, wG_mono q1 fun σ2 H2 q2 => ⟨z, [u], rfl, wG_mono q2 fun σ3 H3 q3 => ⟨u, [], rfl, wG_mono q3 fun σ4 H4 q4 => ⟨rfl, q4⟩⟩⟩⟩⟩
end
variable {P : Program} {w : World} {K : PySem.W.Frag} {mg : Str → Option Value} {base : Heap}
/-! ### _law_cells, _law_of -/
def spLCells (K : PySem.W.Frag) : Sp := fun vs H Q _ => ∃ (v : V) (rows : List Str) (sg : Str), vs = [v, .str sg] ∧ Im H v (rwD rows) ∧ Rect rows ∧ ∀ l ys H', Same H H' → H l = none → SqL K H' l ys → ImL H' ys ((cellsOf rows sg).map cD) → Q (.ref l) H'
theorem scLawCells : FnScope ["_law_room_here", "_law_signs", "_law_found", "_law_r", "_law_c"] ["_law_room_here", "_law_signs"] (defScope sLawCells) := ⟨rfl, rfl, rfl, by decide +kernel, rfl, by decide +kernel, by decide +kernel⟩
theorem ok_law_cells (T : Facts K w mg) : Fn P w K mg base CX0 "_law_cells" 1 [] (spLCells K) := by
  refine fn_mk T.d_law_cells fun f fd F => F.ok scLawCells (fun vs H Q E h => ?_) (fun cdv A outer s H vs Q E hr h => ⟨_, pSs, ?_⟩)
  · obtain ⟨v, rows, sg, rfl, _⟩ := h
    rfl
  · obtain ⟨v, rows, sg, rfl, hv, R, q⟩ := h
    have few := R.few
    have wide := R.wide
    refine sCons (sSet 2 (wLst (wANil ⟨Nat.zero_le _, fun F0 hF0 => ?_⟩)) scLawCells.nd)
    have s0 : Same H (upd H F0 (.lst [])) := Same.new hF0
    refine sCons (sForR PassesOwn.never rfl T.n_range (wACons (VP.run (vpLen T.n_len (vpVar 0 rfl (rows_n (hv.mono (TS.of s0))))) fun vv H1 s1 e1 => wANil ⟨rows.length, by rw [e1], by omega, fun r σ' H' => ∃ (l : Addr) (acc : List V) (x3 x4 : Option V), σ' = [some v, some (.str sg), some (.ref l), x3, x4] ∧ Same H H' ∧ H l = none ∧ H' l = some (.lst acc) ∧ ImL H' acc ((cellsTo rows sg r).map cD), ?_, ?_, ?_⟩)))
    · exact ⟨F0, [], none, none, rfl, s0.trans s1, hF0, s1 _ _ upd_same, .nil⟩
    · intro r σ' H2 hr1 hP
      obtain ⟨l, acc, x3, x4, rfl, s2, hl0, hl, hi⟩ := hP
      refine gNm 3 ?_ scLawCells.nd
      refine sOne (sSet 2 (wBin op_cat (wVar 2 rfl ?_)) scLawCells.nd)
      refine oLc1 rfl scLawCells.nd (blkOk_by (own := [("_law_c", 4)]) (N := ["_law_room_here", "_law_signs", "_law_found", "_law_r", "_law_c"]) (sc := defScope sLawCells) (by decide +kernel)) (lcM1 4 (fun _ v (d : Nat) => v = .int (d : Nat)) (fun H v (d : Cell) => Im H v (cD d)) (fun d => inS sg (sgn rows r d)) (fun d : Nat => ((r : Int), (d : Int))) (List.range (wid rows)) (fun _ _ _ _ _ => pg_name (i := 4) scLawCells.nd rfl (Or.inl rfl)) (fun _ => rfl) (fun _ _ _ _ _ h => h) (fun _ _ _ _ s h => h.mono s) ?_ (by rw [List.length_range]; omega) ?_ ?_ ?_)
      · exact iRn (wACons (VP.run (vpWid T.n_len R (vpVar 0 rfl (hv.mono (TS.of s2)))) fun v3 H3 s3 e3 => wANil ⟨wid rows, by rw [e3], by omega, s3, _, srcR, paired_self⟩)) T.n_range
      · intro v3 d H' s e m K2 k s0 H0 C cl fp
        subst e
        exact TV.run (tvInS (x := sgn rows r d) (z := sg) (vpSign R hr1 (List.mem_range.mp m) (vpVar 0 rfl (hv.mono (TS.of (s2.trans s)))) (fun _ _ => vpVar 3 rfl rfl) fun _ _ => vpVar 4 rfl rfl) fun _ _ => vpVar 1 rfl rfl) k
      · intro v3 d H' s e m hp K2 k s0 H0 C cl fp
        subst e
        exact VP.run (vpCell (i := (r : Int)) (j := (d : Int)) (vpVar 3 rfl rfl) fun _ _ => vpVar 4 rfl rfl) k
      · intro Dl acc2 H' s n ha hp
        have hp2 : ImL H' acc2 ((cellRow rows sg r).map cD) := paired_map.mpr hp
        have l1 : acc.length = (cellsTo rows sg r).length := by rw [Paired.length hi, List.length_map]
        have l2 : acc2.length = (cellRow rows sg r).length := by rw [Paired.length hp2, List.length_map]
        have l3 := cellsTo_len rows sg r
        have l4 := cellRow_len rows sg r
        have l5 : r * wid rows ≤ 100 * 100 := Nat.mul_le_mul (by omega) wide
        refine ⟨l, Dl, acc, acc2, rfl, rfl, s _ _ hl, ha, sz (by omega), fun p hp => ⟨p, acc ++ acc2, _, _, rfl, (s2.trans s).trans (Same.new hp), Same.free (s2.trans s) hp, upd_same, ?_⟩⟩
        rw [cellsTo_succ, List.map_append]
        exact paired_append (hi.mono ((TS.of s).trans (TS.new hp))) (hp2.mono (TS.new hp))
    · intro σ' H' hP
      obtain ⟨l, acc, x3, x4, rfl, s2, hl0, hl, hi⟩ := hP
      exact sOne (sRet (wVar 2 rfl (q _ _ _ s2 hl0 (sqL hl) hi)))
/-- a list of data, new since H0 -/
def LsF {α : Type} (K : PySem.W.Frag) (H0 H : Hp) (enc : α → PyData) (v : V) (cs : List α) : Prop := ∃ l vs, v = .ref l ∧ H0 l = none ∧ SqL K H l vs ∧ ImL H vs (cs.map enc)
theorem LsF.mono {α : Type} {K : PySem.W.Frag} {H0 H H' : Hp} {enc : α → PyData} {v : V} {cs : List α} (s : Same H H') (h : LsF K H0 H enc v cs) : LsF K H0 H' enc v cs := by
  obtain ⟨l, vs, e, h0, h1, h2⟩ := h
  exact ⟨l, vs, e, h0, s.seq h1, h2.mono (TS.of s)⟩
def spLOf (K : PySem.W.Frag) : Sp := fun vs H Q _ => ∃ (v : V) (rows : List Str) (m : Cell), vs = [v] ∧ Im H v (rwD rows) ∧ Rect rows ∧ (cellsOf rows "mM")[0]? = some m ∧
  ∀ t a b c d H', Same H H' → H' t = some (.tup [a, b, c, d]) → LsF K H H' cD a (floorC rows) → LsF K H H' cD b (goalsC rows) → LsF K H H' cD c (cellsOf rows "cC") → Im H' d (cD m) → Q (.ref t) H'
theorem scLawOf : FnScope ["_law_room_here"] ["_law_room_here"] (defScope sLawOf) := ⟨rfl, rfl, rfl, by decide +kernel, rfl, by decide +kernel, by decide +kernel⟩
theorem ok_law_of (T : Facts K w mg) : Fn P w K mg base CX0 "_law_of" 2 [] (spLOf K) := by
  have F1 : Fn P w K mg base CX0 "_law_cells" 1 [] (spLCells K) := ok_law_cells T
  refine fn_mk T.d_law_of fun f fd F => F.ok scLawOf (fun vs H Q E h => ?_) (fun cdv A outer s H vs Q E hr h => ⟨_, pSs, ?_⟩)
  · obtain ⟨v, rows, m, rfl, _⟩ := h
    rfl
  · obtain ⟨v, rows, m, rfl, hv, R, hm, q⟩ := h
    refine sOne (sRet (wTup (wACons (VP.run (vpCall2 (P := fun v H' => LsF K H H' cD v (floorC rows)) F1 hr (vpVar 0 rfl hv) (fun _ _ => vpStr) imS fun v u H' s h1 h2 Q q => ⟨v, rows, "-ocCmM", by rw [h2]; rfl, h1, R, fun l ys H'' s' h0 h3 h4 => q _ _ s' ⟨l, ys, rfl, Same.free s h0, h3, h4⟩⟩) fun v1 H1 s1 h1 =>
      wACons (VP.run (vpCall2 (P := fun v H' => LsF K H H' cD v (goalsC rows)) F1 hr (vpVar 0 rfl (hv.mono (TS.of s1))) (fun _ _ => vpStr) imS fun v u H' s h1 h2 Q q => ⟨v, rows, "oCM", by rw [h2]; rfl, h1, R, fun l ys H'' s' h0 h3 h4 => q _ _ s' ⟨l, ys, rfl, Same.free (s1.trans s) h0, h3, h4⟩⟩) fun v2 H2 s2 h2 =>
      wACons (VP.run (vpCall2 (P := fun v H' => LsF K H H' cD v (cellsOf rows "cC")) F1 hr (vpVar 0 rfl (hv.mono (TS.of (s1.trans s2)))) (fun _ _ => vpStr) imS fun v u H' s h1 h2 Q q => ⟨v, rows, "cC", by rw [h2]; rfl, h1, R, fun l ys H'' s' h0 h3 h4 => q _ _ s' ⟨l, ys, rfl, Same.free ((s1.trans s2).trans s) h0, h3, h4⟩⟩) fun v3 H3 s3 h3 =>
      wACons (VP.run (vpIxL (i := 0) (P := fun v H' => Im H' v (cD m)) (VP.mono (vpCall2 (P := fun v H' => LsE K H' cD v (cellsOf rows "mM")) F1 hr (vpVar 0 rfl (hv.mono (TS.of ((s1.trans s2).trans s3)))) (fun _ _ => vpStr) imS fun v u H' s h1 h2 Q q => ⟨v, rows, "mM", by rw [h2]; rfl, h1, R, fun l ys H'' s' _ h3 h4 => q _ _ s' ⟨l, ys, rfl, h3, h4⟩⟩) fun v H' s h => h.get hm) (fun _ _ => vpInt) imS) fun v4 H4 s4 h4 =>
      wANil ⟨by show 4 ≤ sizeLine; decide, fun p hp => ?_⟩)))))))
    have n := Same.new (o := .tup [v1, v2, v3, v4]) hp
    exact q p v1 v2 v3 v4 _ ((((s1.trans s2).trans s3).trans s4).trans n) upd_same (h1.mono (((s2.trans s3).trans s4).trans n)) (h2.mono ((s3.trans s4).trans n)) (h3.mono (s4.trans n)) (h4.mono (TS.of n))
end CR
namespace CR
open PySem PySem.Spec PyProof.Rows L2
section
variable {X : Cx} {σ : L2.St} {H : Hp} {a b c d e : Expr} {pos p : Pos} {D : Ends}
theorem vpInt1 {i : Int} (hm : X.mg "int" = none) (he : VP X e σ H fun v _ => v = .int i) (hg : Gl X "int" := by rfl) (hst : starEach (e :: []) X.env = (false, eval e X.env) :: starEach [] X.env := by rfl) (hpl : (backTo pos (starEach [] X.env)).any (·.1) = false := by rfl) :
    VP X (.Call (.Name "int" p) [e] [] pos) σ H (fun v _ => v = .int i) := fun Q q => wCallTy call_int1 hm (by decide +kernel) (wACons (he _ fun v H1 s1 e1 => by
  subst e1
  exact wANil (.inl ⟨i, rfl, q _ H1 s1 rfl⟩)) hst) hg (he := hst) (hpl := hpl)
theorem vpMod {i j : Int} (hj : 0 < j) (ha : VP X a σ H fun v _ => v = .int i) (hb : ∀ H', Same H H' → VP X b σ H' fun v _ => v = .int j) : VP X (.BinOp a .Mod b pos) σ H (fun v _ => v = .int (i % j)) := fun Q q => wBin op_mod (ha _ fun v H1 s1 e1 => hb H1 s1 _ fun u H2 s2 e2 => by
  subst e1 e2
  exact ⟨i, j, rfl, rfl, hj, q _ H2 (s1.trans s2) rfl⟩)
theorem vpFdiv {i j : Int} (hj : 0 < j ∧ j < 1073741824) (ha : VP X a σ H fun v _ => v = .int i) (hb : ∀ H', Same H H' → VP X b σ H' fun v _ => v = .int j) : VP X (.BinOp a .FloorDiv b pos) σ H (fun v _ => v = .int (i / j)) := fun Q q => wBin op_fdiv (ha _ fun v H1 s1 e1 => hb H1 s1 _ fun u H2 s2 e2 => by
  subst e1 e2
  exact ⟨i, j, rfl, rfl, hj, q _ H2 (s1.trans s2) rfl⟩)
theorem vpPow18 {j k : Nat} {p1 p2 : Pos} : VP X (.BinOp (.Constant (.int 10) j p1) .Pow (.Constant (.int 18) k p2) pos) σ H (fun v _ => v = .int 1000000000000000000) := fun Q q => wBin op_pow (wInt (wInt ⟨10, 18, rfl, rfl, ⟨by decide, by decide, by decide⟩, q _ H (Same.refl H) (congrArg V.int (by decide +kernel : (10 : Int) ^ (18 : Int).toNat = 1000000000000000000))⟩))
theorem tvGt {i j : Int} (ha : VP X a σ H fun v _ => v = .int i) (hb : ∀ H', Same H H' → VP X b σ H' fun v _ => v = .int j) : TV X (.Compare a [.Gt] [b] pos) σ H (decide (i > j)) := tvI op_gt ha hb
theorem tvGe {i j : Int} (ha : VP X a σ H fun v _ => v = .int i) (hb : ∀ H', Same H H' → VP X b σ H' fun v _ => v = .int j) : TV X (.Compare a [.GtE] [b] pos) σ H (decide (i ≥ j)) := tvI op_ge ha hb
theorem tvLt {i j : Int} (ha : VP X a σ H fun v _ => v = .int i) (hb : ∀ H', Same H H' → VP X b σ H' fun v _ => v = .int j) : TV X (.Compare a [.Lt] [b] pos) σ H (decide (i < j)) := tvI op_lt ha hb
end
/-- the row of draws -/
structure RowS (K : PySem.W.Frag) (H : Hp) (R a : Addr) (ns : List Int) (idx st rest : Int) : Prop where
  at_ : H R = some (.lst [.ref a, .int idx, .int st, .int rest])
  sc : SqL K H a (ns.map V.int)
  kp : ∀ H1 H2 : Hp, SX R H1 H2 → SqL K H1 a (ns.map V.int) → SqL K H2 a (ns.map V.int)
  i0 : 0 ≤ idx
  s0 : 0 ≤ st
  s1 : st < 2147483647
  few : ns.length ≤ 63
def Row (K : PySem.W.Frag) (H : Hp) (R a : Addr) (ns : List Int) : Prop := ∃ idx st rest, RowS K H R a ns idx st rest
theorem RowS.mono {K : PySem.W.Frag} {H H' : Hp} {R a : Addr} {ns : List Int} {idx st rest : Int} (s : Same H H') (h : RowS K H R a ns idx st rest) : RowS K H' R a ns idx st rest :=
  ⟨s _ _ h.at_, s.seq h.sc, h.kp, h.i0, h.s0, h.s1, h.few⟩
theorem RowS.put {K : PySem.W.Frag} {H : Hp} {R a : Addr} {ns : List Int} {idx st rest idx' st' rest' : Int} (h : RowS K H R a ns idx st rest) (i0 : 0 ≤ idx') (s0 : 0 ≤ st') (s1 : st' < 2147483647) : RowS K (upd H R (.lst [.ref a, .int idx', .int st', .int rest'])) R a ns idx' st' rest' :=
  ⟨upd_same, h.kp _ _ SX.put h.sc, h.kp, i0, s0, s1, h.few⟩
theorem Row.mono {K : PySem.W.Frag} {H H' : Hp} {R a : Addr} {ns : List Int} (s : Same H H') (h : Row K H R a ns) : Row K H' R a ns := by
  obtain ⟨idx, st, rest, h⟩ := h
  exact ⟨idx, st, rest, h.mono s⟩
section
variable {X : Cx} {σ : L2.St} {H : Hp} {a b c d e : Expr} {pos p : Pos} {D : Ends} {R sa : Addr} {ns : List Int} {idx st rest : Int}
theorem row_i {K : PySem.W.Frag} (h : RowS K H R sa ns idx st rest) (k : Nat) {y : V} (hy : [V.ref sa, .int idx, .int st, .int rest][k]? = some y) : ∃ l ys z, V.ref R = .ref l ∧ SqL K H l ys ∧ ys[k]? = some z ∧ z = y := ⟨R, _, y, rfl, sqL h.at_, hy, rfl⟩
end
def spTaken (K : PySem.W.Frag) : Sp := fun vs H Q _ => ∃ (R : Addr) (n : Nat) (a : Addr) (ns : List Int), vs = [.ref R, .int n] ∧ 1 ≤ n ∧ n ≤ 100000 ∧ Row K H R a ns ∧ ∀ (r : Nat) H', r < n → SX R H H' → Row K H' R a ns → Q (.int r) H'
variable {P : Program} {w : World} {K : PySem.W.Frag} {mg : Str → Option Value} {base : Heap}
theorem mod_nat {i : Int} {n : Nat} (h : 1 ≤ n) : ∃ r : Nat, i % (n : Int) = (r : Int) ∧ r < n := by
  have h1 : 0 ≤ i % (n : Int) := Int.emod_nonneg _ (by omega)
  have h2 : i % (n : Int) < (n : Int) := Int.emod_lt_of_pos _ (by omega)
  exact ⟨(i % (n : Int)).toNat, by omega, by omega⟩
theorem scLawTaken : FnScope ["_law_row", "_law_many", "_law_found", "_law_cell"] ["_law_row", "_law_many"] (defScope sLawTaken) := ⟨rfl, rfl, rfl, by decide +kernel, rfl, by decide +kernel, by decide +kernel⟩
theorem ok_law_taken (T : Facts K w mg) : Fn P w K mg base CX0 "_law_taken" 1 [] (spTaken K) := by
  refine fn_mk T.d_law_taken fun f fd F => F.ok scLawTaken (fun vs H Q E h => ?_) (fun cdv A outer s H vs Q E hr h => ⟨_, pSs, ?_⟩)
  · obtain ⟨R, n, sa, ns, rfl, _⟩ := h
    rfl
  · obtain ⟨R, n, sa, ns, rfl, n1, n2, ⟨idx, st, rest, hR⟩, q⟩ := h
    have i0 := hR.i0
    have st0 := hR.s0
    have st1 := hR.s1
    have few := hR.few
    have sx0 : SX R H H := SX.refl _ _
    refine sCons (sIf (TV.run (tvGt (i := rest) (j := 0) (vpIxL (i := 3) (P := fun v _ => v = .int rest) (vpVar 0 rfl (row_i hR 3 rfl)) (fun _ _ => vpInt) eqS) fun _ _ => vpInt) fun H1 s1 => ?_))
    have hR1 := hR.mono s1
    have sx1 : SX R H H1 := SX.of s1
    refine ite2 (fun hr0 => ?_) (fun hr0 => sNil ?_)
    · have hr0 := of_decide_eq_true hr0
      obtain ⟨r, er, hr1⟩ := mod_nat (i := rest) n1
      refine sCons (sSet 2 (VP.run (vpMod (i := rest) (j := n) (by omega) (vpInt1 T.n_int (vpIxL (i := 3) (P := fun v _ => v = .int rest) (vpVar 0 rfl (row_i hR1 3 rfl)) (fun _ _ => vpInt) eqS)) fun _ _ => vpVar 1 rfl rfl) fun v H2 s2 e => ?_) scLawTaken.nd)
      have hR2 := hR1.mono s2
      refine sCons (sAsg (VP.run (vpFdiv (i := rest) (j := n) ⟨by omega, by omega⟩ (vpIxL (i := 3) (P := fun v _ => v = .int rest) (vpVar 0 rfl (row_i hR2 3 rfl)) (fun _ _ => vpInt) eqS) fun _ _ => vpVar 1 rfl rfl) fun v2 H3 s3 e2 => gSb set_list (wVar 0 rfl (wInt ⟨R, _, 3, 3, rfl, rfl, s3 _ _ hR2.at_, rfl, ?_⟩))))
      subst e2
      have hR3 := (hR2.mono s3).put (idx' := idx) (st' := st) (rest' := rest / (n : Int)) i0 st0 st1
      refine sOne (sRet (wVar 2 rfl ?_))
      rw [e, er]
      exact q r _ hr1 ((sx1.trans (SX.of (s2.trans s3))).trans SX.put) ⟨_, _, _, hR3⟩
    · refine sCons (sAsg (VP.run (vpAdd (i := idx) (j := 1) (vpIxL (i := 1) (P := fun v _ => v = .int idx) (vpVar 0 rfl (row_i hR1 1 rfl)) (fun _ _ => vpInt) eqS) fun _ _ => vpInt) fun v2 H2 s2 e2 => gSb set_list (wVar 0 rfl (wInt ⟨R, _, 1, 1, rfl, rfl, s2 _ _ hR1.at_, rfl, ?_⟩))))
      subst e2
      have hR2 := (hR1.mono s2).put (idx' := idx + 1) (st' := st) (rest' := rest) (by omega) st0 st1
      have sx2 : SX R H (upd H2 R (.lst [.ref sa, .int (idx + 1), .int st, .int rest])) := (sx1.trans (SX.of s2)).trans SX.put
      refine (?_ : wSs _ _ _ _ (upd H2 R (.lst [.ref sa, .int (idx + 1), .int st, .int rest])))
      generalize upd H2 R (.lst [.ref sa, .int (idx + 1), .int st, .int rest]) = H3 at hR2 sx2 ⊢
      refine sCons (sIf (TV.run (tvGt (i := idx + 1) (j := (ns.length : Nat)) (vpIxL (i := 1) (P := fun v _ => v = .int (idx + 1)) (vpVar 0 rfl (row_i hR2 1 rfl)) (fun _ _ => vpInt) eqS) fun H4 s4 => vpLen T.n_len (VP.mono (vpIxL (i := 0) (P := fun v _ => v = .ref sa) (vpVar 0 rfl (row_i (hR2.mono s4) 0 rfl)) (fun _ _ => vpInt) eqS) fun v H' s e => ⟨sa, _, e, .inl ((hR2.mono (s4.trans s)).sc), List.length_map ..⟩)) fun H4 s4 => ?_))
      have hR4 := hR2.mono s4
      have sx4 := sx2.trans (SX.of s4)
      have md : ∀ i : Int, 0 ≤ i % 2147483647 ∧ i % 2147483647 < 2147483647 := fun i => ⟨Int.emod_nonneg _ (by decide), Int.emod_lt_of_pos _ (by decide)⟩
      refine ite2 (fun hge => ?_) (fun hge => sNil ?_)
      · refine sCons (sAsg (VP.run (vpMod (i := st * 48271 + 11) (j := 2147483647) (by decide) (vpInt1 T.n_int (vpAdd (vpMul (.inr (by decide)) (vpIxL (i := 2) (P := fun v _ => v = .int st) (vpVar 0 rfl (row_i hR4 2 rfl)) (fun _ _ => vpInt) eqS) fun _ _ => vpInt) fun _ _ => vpInt)) fun _ _ => vpInt) fun v2 H5 s5 e2 => gSb set_list (wVar 0 rfl (wInt ⟨R, _, 2, 2, rfl, rfl, s5 _ _ hR4.at_, rfl, ?_⟩))))
        subst e2
        obtain ⟨md1, md2⟩ := md (st * 48271 + 11)
        have hR5 := (hR4.mono s5).put (idx' := idx + 1) (st' := (st * 48271 + 11) % 2147483647) (rest' := rest) (by omega) md1 md2
        have sx5 : SX R H (upd H5 R (.lst [.ref sa, .int (idx + 1), .int ((st * 48271 + 11) % 2147483647), .int rest])) := (sx4.trans (SX.of s5)).trans SX.put
        refine (?_ : wSs _ _ _ _ (upd H5 R (.lst [.ref sa, .int (idx + 1), .int ((st * 48271 + 11) % 2147483647), .int rest])))
        generalize upd H5 R (.lst [.ref sa, .int (idx + 1), .int ((st * 48271 + 11) % 2147483647), .int rest]) = H6 at hR5 sx5 ⊢
        generalize (st * 48271 + 11) % 2147483647 = st' at hR5
        obtain ⟨r, er, hr1⟩ := mod_nat (i := st' / 7) n1
        refine sOne (sRet (VP.run (vpMod (i := st' / 7) (j := n) (by omega) (vpInt1 T.n_int (vpFdiv (i := st') (j := 7) (by decide) (vpIxL (i := 2) (P := fun v _ => v = .int st') (vpVar 0 rfl (row_i hR5 2 rfl)) (fun _ _ => vpInt) eqS) fun _ _ => vpInt)) fun _ _ => vpVar 1 rfl rfl) fun v H7 s7 e => ?_))
        rw [e, er]
        exact q r _ hr1 (sx5.trans (SX.of s7)) ⟨_, _, _, hR5.mono s7⟩
      · have hge : ¬ (idx + 1 > (ns.length : Int)) := fun z => hge (decide_eq_true z)
        obtain ⟨k, hk⟩ : ∃ k : Nat, idx = (k : Int) := ⟨idx.toNat, by omega⟩
        have kl : k < ns.length := by omega
        obtain ⟨cell, hcell⟩ : ∃ cell, ns[k]? = some cell := ⟨ns[k], by simp [kl]⟩
        refine sCons (sSet 3 (VP.run (vpIxL (i := k) (P := fun v _ => v = .int cell) (VP.mono (vpIxL (i := 0) (P := fun v _ => v = .ref sa) (vpVar 0 rfl (row_i hR4 0 rfl)) (fun _ _ => vpInt) eqS) fun v H' s e => ⟨sa, _, .int cell, e, (hR4.mono s).sc, by rw [List.getElem?_map, hcell]; rfl, rfl⟩) (fun H5 s5 => VP.mono (vpSub (i := idx + 1) (j := 1) (vpIxL (i := 1) (P := fun v _ => v = .int (idx + 1)) (vpVar 0 rfl (row_i (hR4.mono s5) 1 rfl)) (fun _ _ => vpInt) eqS) fun _ _ => vpInt) fun v H' s e => by rw [e]; congr 1; omega) eqS) fun v H5 s5 e5 => ?_) scLawTaken.nd)
        subst e5
        have hR5 := hR4.mono s5
        have sx5 := sx4.trans (SX.of s5)
        refine sCons (sAsg (VP.run (vpMod (i := st * 48271 + cell + 11) (j := 2147483647) (by decide) (vpInt1 T.n_int (vpAdd (vpAdd (vpMul (.inr (by decide)) (vpIxL (i := 2) (P := fun v _ => v = .int st) (vpVar 0 rfl (row_i hR5 2 rfl)) (fun _ _ => vpInt) eqS) fun _ _ => vpInt) fun _ _ => vpVar 3 rfl rfl) fun _ _ => vpInt)) fun _ _ => vpInt) fun v2 H6 s6 e2 => gSb set_list (wVar 0 rfl (wInt ⟨R, _, 2, 2, rfl, rfl, s6 _ _ hR5.at_, rfl, ?_⟩))))
        subst e2
        obtain ⟨md1, md2⟩ := md (st * 48271 + cell + 11)
        have hR6 := (hR5.mono s6).put (idx' := idx + 1) (st' := (st * 48271 + cell + 11) % 2147483647) (rest' := rest) (by omega) md1 md2
        have sx6 : SX R H (upd H6 R (.lst [.ref sa, .int (idx + 1), .int ((st * 48271 + cell + 11) % 2147483647), .int rest])) := (sx5.trans (SX.of s6)).trans SX.put
        refine (?_ : wSs _ _ _ _ (upd H6 R (.lst [.ref sa, .int (idx + 1), .int ((st * 48271 + cell + 11) % 2147483647), .int rest])))
        generalize upd H6 R (.lst [.ref sa, .int (idx + 1), .int ((st * 48271 + cell + 11) % 2147483647), .int rest]) = H7 at hR6 sx6 ⊢
        generalize (st * 48271 + cell + 11) % 2147483647 = st' at hR6 md1 md2
        obtain ⟨r, er, hr1⟩ := mod_nat (i := cell) n1
        refine sCons (sIf (TV.run (tvGe (i := cell) (j := 1000000000000000000) (vpVar 3 rfl rfl) fun _ _ => vpPow18) fun H8 s8 => ?_))
        have hR8 := hR6.mono s8
        have sx8 := sx6.trans (SX.of s8)
        refine ite2 (fun _ => ?_) (fun _ => sNil (sOne (sRet (VP.run (vpMod (i := cell) (j := n) (by omega) (vpInt1 T.n_int (vpVar 3 rfl rfl)) fun _ _ => vpVar 1 rfl rfl) fun v HZ sZ e => by rw [e, er]; exact q r _ hr1 (sx8.trans (SX.of sZ)) (Row.mono sZ ⟨_, _, _, hR8⟩)))))
        refine sOne (sAsg (VP.run (vpFdiv (i := cell) (j := n) ⟨by omega, by omega⟩ (vpVar 3 rfl rfl) fun _ _ => vpVar 1 rfl rfl) fun v2 H9 s9 e2 => gSb set_list (wVar 0 rfl (wInt ⟨R, _, 3, 3, rfl, rfl, s9 _ _ hR8.at_, rfl, ?_⟩))))
        subst e2
        have hR9 := (hR8.mono s9).put (idx' := idx + 1) (st' := st') (rest' := cell / (n : Int)) (by omega) md1 md2
        exact sOne (sRet (VP.run (vpMod (i := cell) (j := n) (by omega) (vpInt1 T.n_int (vpVar 3 rfl rfl)) fun _ _ => vpVar 1 rfl rfl) fun v HZ sZ e => by rw [e, er]; exact q r _ hr1 (((sx8.trans (SX.of s9)).trans SX.put).trans (SX.of sZ)) (Row.mono sZ ⟨_, _, _, hR9⟩)))
end CR
namespace CR
open PySem PySem.Spec PyProof.Rows L2
theorem SX.mut {F p : Addr} {H H1 : Hp} {o : HO} (s : SX F H H1) (h : H p = none) : SX F H (upd H1 p o) := fun b x n e => by
  rw [upd_ne (ne_of_none e h)]
  exact s b x n e
theorem SX.free {F p : Addr} {H H1 : Hp} (s : SX F H H1) (n : p ≠ F) (h : H1 p = none) : H p = none := by
  cases e : H p with
  | none => rfl
  | some x =>
    rw [s p x n e] at h
    cases h
/-- a row of data that is a list, not the one at R -/
def LsR {α : Type} (K : PySem.W.Frag) (R : Addr) (H : Hp) (enc : α → PyData) (v : V) (cs : List α) : Prop := ∃ l vs, v = .ref l ∧ l ≠ R ∧ SqL K H l vs ∧ ImL H vs (cs.map enc)
theorem LsR.ls {α : Type} {K : PySem.W.Frag} {R : Addr} {H : Hp} {enc : α → PyData} {v : V} {cs : List α} (h : LsR K R H enc v cs) : LsE K H enc v cs := by
  obtain ⟨l, vs, e, _, h1, h2⟩ := h
  exact ⟨l, vs, e, h1, h2⟩
theorem LsR.mono {α : Type} {K : PySem.W.Frag} {R : Addr} {H H' : Hp} {enc : α → PyData} {v : V} {cs : List α} (s : SX R H H') (t : TS H H') (h : LsR K R H enc v cs) : LsR K R H' enc v cs := by
  obtain ⟨l, vs, e, n, h1, h2⟩ := h
  exact ⟨l, vs, e, n, s.sql n h1, h2.mono t⟩
theorem LsR.same {α : Type} {K : PySem.W.Frag} {R : Addr} {H H' : Hp} {enc : α → PyData} {v : V} {cs : List α} (s : Same H H') (h : LsR K R H enc v cs) : LsR K R H' enc v cs := h.mono (SX.of s) (TS.of s)
theorem Row.at_ {K : PySem.W.Frag} {H : Hp} {R a : Addr} {ns : List Int} (h : Row K H R a ns) : ∃ xs, H R = some (.lst xs) := by
  obtain ⟨idx, st, rest, h⟩ := h
  exact ⟨_, h.at_⟩
theorem Row.ts {K : PySem.W.Frag} {H H' : Hp} {R a : Addr} {ns : List Int} (h : Row K H R a ns) (s : SX R H H') : TS H H' := by
  obtain ⟨xs, e⟩ := h.at_
  exact s.ts e
theorem Row.ne {K : PySem.W.Frag} {H : Hp} {R a p : Addr} {ns : List Int} (h : Row K H R a ns) (n : H p = none) : p ≠ R := fun z => by
  obtain ⟨xs, e⟩ := h.at_
  rw [z, e] at n
  cases n
/-- what is new may be written -/
theorem Row.mut {K : PySem.W.Frag} {H H1 : Hp} {R a p : Addr} {ns : List Int} {o : HO} (h0 : Row K H R a ns) (s : SX R H H1) (h1 : Row K H1 R a ns) (n : H p = none) : Row K (upd H1 p o) R a ns := by
  obtain ⟨_, _, _, h⟩ := id h0
  obtain ⟨idx, st, rest, g⟩ := h1
  have e := h0.ne n
  exact ⟨idx, st, rest, by rw [upd_ne (Ne.symm e)]; exact g.at_, h.kp _ _ (s.mut n) h.sc, g.kp, g.i0, g.s0, g.s1, g.few⟩
/-- taken(row, e) -/
theorem wTaken {X : Cx} {σ : L2.St} {H : Hp} {a b : Expr} {p pos : Pos} {j n : Nat} {R sa : Addr} {ns : List Int} {Q : VK} (T : Facts X.K X.w X.mg) (hr : Room j X.A) (hn : 1 ≤ n ∧ n ≤ 100000) (ha : VP X a σ H fun v _ => v = .ref R) (hb : ∀ H', Same H H' → VP X b σ H' fun v _ => v = .int (n : Nat)) (hR : Row X.K H R sa ns) (q : ∀ (r : Nat) H', r < n → SX R H H' → Row X.K H' R sa ns → Q (.int r) H') (hj : 1 ≤ j := by decide) (hg : Gl X "_law_taken" := by rfl)
    (he : starEach (a :: [b]) X.env = (false, eval a X.env) :: starEach [b] X.env := by rfl) (he2 : starEach (b :: []) X.env = (false, eval b X.env) :: starEach [] X.env := by rfl) (hpl : (backTo pos (starEach [b] X.env)).any (·.1) = false := by rfl) : wE X (.Call (.Name "_law_taken" p) [a, b] [] pos) σ H Q :=
  wCall (ok_law_taken T) hr (wACons (ha _ fun v H1 s1 e1 => wACons (hb H1 s1 _ fun u H2 s2 e2 => wANil ⟨R, n, sa, ns, by rw [e1, e2]; rfl, hn.1, hn.2, hR.mono (s1.trans s2), fun r H3 h1 h2 h3 => q r H3 h1 ((SX.of (s1.trans s2)).trans h2) h3⟩) he2) he) hj hg (he := he) (hpl := hpl)
variable {P : Program} {w : World} {K : PySem.W.Frag} {mg : Str → Option Value} {base : Heap}
/-! ### _law_pick -/
def spPick (K : PySem.W.Frag) : Sp := fun vs H Q _ => ∃ (R l a : Addr) (ns : List Int) (xs : List V), vs = [.ref R, .ref l] ∧ l ≠ R ∧ SqL K H l xs ∧ 1 ≤ xs.length ∧ xs.length ≤ 100000 ∧ Row K H R a ns ∧ ∀ (i : Nat) y H', xs[i]? = some y → SX R H H' → Row K H' R a ns → Q y H'
theorem scLawPick : FnScope ["_law_row", "_law_things"] ["_law_row", "_law_things"] (defScope sLawPick) := ⟨rfl, rfl, rfl, by decide +kernel, rfl, by decide +kernel, by decide +kernel⟩
theorem ok_law_pick (T : Facts K w mg) : Fn P w K mg base CX0 "_law_pick" 2 [] (spPick K) := by
  refine fn_mk T.d_law_pick fun f fd F => F.ok scLawPick (fun vs H Q E h => ?_) (fun cdv A outer s H vs Q E hr h => ⟨_, pSs, ?_⟩)
  · obtain ⟨R, l, a, ns, xs, rfl, _⟩ := h
    rfl
  · obtain ⟨R, l, a, ns, xs, rfl, nR, hl, l1, l2, hR, q⟩ := h
    refine sOne (sRet (wIx ix_list (wVar 1 rfl (wTaken (n := xs.length) T hr ⟨l1, l2⟩ (vpVar 0 rfl rfl) (fun H1 s1 => vpLen T.n_len (vpVar 1 rfl ⟨l, xs, rfl, .inl (s1.seq hl), rfl⟩)) hR fun r H1 hr1 sx hR1 => ?_))))
    have e : xs[r]? = some xs[r] := by simp [hr1]
    exact ⟨l, xs, r, xs[r], rfl, rfl, sx.sql nR hl, atI_nat e, q r _ H1 e sx hR1⟩
/-! ### _law_some -/
def spSome (K : PySem.W.Frag) : Sp := fun vs H Q _ => ∃ (R : Addr) (cv : V) (cs : List Cell) (n : Nat) (a : Addr) (ns : List Int), vs = [.ref R, cv, .int n] ∧ RowE K H cD cv cs ∧ cs.Nodup ∧ cs.length ≤ 1000 ∧ n ≤ cs.length ∧ Row K H R a ns ∧
  ∀ r fs H', SX R H H' → Row K H' R a ns → LsR K R H' cD r fs → Asc fs → fs.length = n → (∀ x ∈ fs, x ∈ cs) → Q r H'
theorem erase_facts {α : Type} : ∀ {l : List α} {k : Nat} {x : α}, l[k]? = some x → (x :: l.eraseIdx k).Perm l
  | [], _, _, h => by simp at h
  | a :: l, 0, x, h => by
    have e := Option.some.inj h
    subst e
    exact List.Perm.refl _
  | a :: l, k + 1, x, h => by
    have h : l[k]? = some x := by simpa using h
    rw [List.eraseIdx_cons_succ]
    exact (List.Perm.swap a x _).trans ((erase_facts h).cons a)
theorem scLawSome : FnScope ["_law_row", "_law_cells_here", "_law_many", "_law_left", "_law_found", "_law_turn"] ["_law_row", "_law_cells_here", "_law_many"] (defScope sLawSome) := ⟨rfl, rfl, rfl, by decide +kernel, rfl, by decide +kernel, by decide +kernel⟩
theorem ok_law_some (T : Facts K w mg) : Fn P w K mg base CX0 "_law_some" 2 [] (spSome K) := by
  refine fn_mk T.d_law_some fun f fd F => F.ok scLawSome (fun vs H Q E h => ?_) (fun cdv A outer s H vs Q E hr h => ⟨_, pSs, ?_⟩)
  · obtain ⟨R, cv, cs, n, a, ns, rfl, _⟩ := h
    rfl
  · obtain ⟨R, cv, cs, n, a, ns, rfl, hc, nd, hz, hn, hR, q⟩ := h
    refine sCons (sPar 3 4 rfl scLawSome.nd (wACons (wListOf (cs := cs) T.n_list (vpVar 1 rfl hc) fun L ys H1 s1 hL hy => wACons (wLst (wANil ⟨Nat.zero_le _, fun Fa hF => wANil ⟨_, _, rfl, ?_⟩⟩)))))
    have hL0 : H L = none := Same.free s1 hL
    have nFL : Fa ≠ L := fun z => by rw [z, upd_same] at hF; cases hF
    have hF1 : H1 Fa = none := by rw [upd_ne nFL] at hF; exact hF
    have hF0 : H Fa = none := Same.free s1 hF1
    have nLR : L ≠ R := hR.ne hL0
    have nFR : Fa ≠ R := hR.ne hF0
    have sA : Same H (upd (upd H1 L (.lst ys)) Fa (.lst [])) := (s1.trans (Same.new hL)).trans (Same.new hF)
    have tA : TS H1 (upd (upd H1 L (.lst ys)) Fa (.lst [])) := (TS.new hL).trans (TS.new hF)
    refine sCons (sForR PassesOwn.never rfl T.n_range (wACons (wVar 2 rfl (wANil ⟨n, rfl, by omega, fun k σ' H' => ∃ (lvs fvs : List V) (ls fs : List Cell) (x5 : Option V), σ' = [some (.ref R), some cv, some (.int n), some (.ref L), some (.ref Fa), x5] ∧ SX R H H' ∧ Row K H' R a ns ∧
      H' L = some (.lst lvs) ∧ ImL H' lvs (ls.map cD) ∧ H' Fa = some (.lst fvs) ∧ ImL H' fvs (fs.map cD) ∧ (fs ++ ls).Perm cs ∧ fs.length = k, ?_, ?_, ?_⟩))))
    · exact ⟨ys, [], cs, [], none, rfl, SX.of sA, hR.mono sA, by rw [upd_ne (Ne.symm nFL), upd_same], hy.mono tA, upd_same, .nil, List.Perm.refl _, rfl⟩
    · intro k σ' H2 hk hP
      obtain ⟨lvs, fvs, ls, fs, x5, rfl, sx, hR', hl, hil, hf, hif, pm, lf⟩ := hP
      have len : fs.length + ls.length = cs.length := by
        have := pm.length_eq
        rwa [List.length_append] at this
      have ll : lvs.length = ls.length := by rw [Paired.length hil, List.length_map]
      have lff : fvs.length = fs.length := by rw [Paired.length hif, List.length_map]
      refine gNm 5 ?_ scLawSome.nd
      refine sOne (sApp 4 rfl ⟨_, hf⟩ (wPopAt 3 rfl ⟨_, hl⟩ (wTaken (n := ls.length) T hr ⟨by omega, by omega⟩ (vpVar 0 rfl rfl) (fun H3 s3 => vpLen T.n_len (vpVar 3 rfl ⟨L, lvs, rfl, .inl (sqL (s3 _ _ hl)), ll⟩)) hR' fun r H3 hr3 sx3 hR3 => ?_)))
      have hl3 := sx3 _ _ nLR hl
      have hf3 := sx3 _ _ nFR hf
      have t3 := hR'.ts sx3
      obtain ⟨y, hy⟩ : ∃ y, lvs[r]? = some y := ⟨lvs[r], by simp [show r < lvs.length by omega]⟩
      obtain ⟨x, hx, imx⟩ := paired_get (paired_map.mp (hil.mono t3)) hy
      have ef := erase_facts hx
      have hil3 := hil.mono t3
      have hif3 := hif.mono t3
      have sx03 := sx.trans sx3
      refine ⟨lvs, r, y, rfl, hl3, hy, by omega, fvs, by rw [upd_ne nFL]; exact hf3, szl (by omega), ?_⟩
      have t4 : TS H3 (upd H3 L (.lst (lvs.eraseIdx r))) := TS.lst hl3
      have f4 : upd H3 L (.lst (lvs.eraseIdx r)) Fa = some (.lst fvs) := by rw [upd_ne nFL]; exact hf3
      have t5 : TS (upd H3 L (.lst (lvs.eraseIdx r))) (upd (upd H3 L (.lst (lvs.eraseIdx r))) Fa (.lst (fvs ++ [y]))) := TS.lst f4
      have tt := t4.trans t5
      have r4 : Row K (upd H3 L (.lst (lvs.eraseIdx r))) R a ns := hR.mut sx03 hR3 hL0
      refine ⟨lvs.eraseIdx r, fvs ++ [y], ls.eraseIdx r, fs ++ [x], _, rfl, (sx03.mut hL0).mut hF0, hR.mut (sx03.mut hL0) r4 hF0, by rw [upd_ne (Ne.symm nFL), upd_same], ?_, upd_same, ?_, ?_, by rw [List.length_append, lf]; rfl⟩
      · have := paired_eraseIdx r (paired_map.mp (hil3.mono tt))
        exact paired_map.mpr this
      · rw [List.map_append]
        exact paired_snoc (hif3.mono tt) (imx.mono tt)
      · rw [List.append_assoc]
        exact (ef.append_left fs).trans pm
    · intro σ' H' hP
      obtain ⟨lvs, fvs, ls, fs, x5, rfl, sx, hR', hl, hil, hf, hif, pm, lf⟩ := hP
      have ndf : fs.Nodup := ((pm.nodup_iff.mpr nd).sublist (List.sublist_append_left _ _))
      refine sOne (sRet (VP.run (vpSortedF (cs := fs) T.n_sorted ndf (vpVar 4 rfl ⟨Fa, fvs, rfl, sqL hf, hif⟩)) fun v H2 s2 h2 => ?_))
      obtain ⟨l, zs, e, hl0, h3, h4⟩ := h2
      exact q v (sortC fs) H2 (sx.trans (SX.of s2)) (hR'.mono s2) ⟨l, zs, e, hR'.ne hl0, h3, h4⟩ (sortC_asc ndf) (by rw [sortC_len, lf]) fun x hx => pm.mem_iff.mp (List.mem_append_left _ (sortC_mem.mp hx))
end CR
namespace CR
open PySem PySem.Spec PyProof.Rows L2
/-- (crates, mover) behind a pull -/
def pullO (cs : List Cell) (p : Push) : Stand := (sortC (mvL cs p.1 (go p.1 p.2 1)), go p.1 p.2 2)
def pullsO (b : Cell → Dir → Bool) (cs : List Cell) (l : List Cell) : List Stand := l.flatMap fun c => dirs.flatMap fun d => if b c d = true then [pullO cs (c, d)] else []
theorem pullsO_eq (b : Cell → Dir → Bool) (cs l : List Cell) : pullsO b cs l = (pairsL b l).map (pullO cs) := by
  unfold pullsO pairsL
  rw [flatMap_map']
  congr 1
  funext c
  rw [flatMap_map']
  congr 1
  funext d
  by_cases e : b c d = true
  · rw [if_pos e, if_pos e]
    rfl
  · rw [if_neg e, if_neg e]
    rfl
theorem pullsO_len (b : Cell → Dir → Bool) (cs l : List Cell) : (pullsO b cs l).length ≤ 4 * l.length := by
  rw [pullsO_eq, List.length_map]
  exact pairsL_len b l
/-- a pair of a list of cells, new since H0, and a cell -/
def PE2 (K : PySem.W.Frag) (H0 : Hp) (F : Addr) (H : Hp) (v : V) (b : Stand) : Prop := ∃ (t l : Addr) (y : V) (ys : List V), v = .ref t ∧ t ≠ F ∧ H t = some (.tup [.ref l, y]) ∧ l ≠ F ∧ H0 l = none ∧ SqL K H l ys ∧ ImL H ys (b.1.map cD) ∧ Im H y (cD b.2)
theorem PE2.mono {K : PySem.W.Frag} {H0 H H' : Hp} {F : Addr} {v : V} {b : Stand} (t : TS H H') (s : SX F H H') (h : PE2 K H0 F H v b) : PE2 K H0 F H' v b := by
  obtain ⟨a, l, y, ys, e, n1, h1, n2, h2, h3, h4, h5⟩ := h
  exact ⟨a, l, y, ys, e, n1, t _ _ h1, n2, h2, s.sql n2 h3, h4.mono t, h5.mono t⟩
variable {P : Program} {w : World} {K : PySem.W.Frag} {mg : Str → Option Value} {base : Heap}
def spLPulls (K : PySem.W.Frag) : Sp := fun vs H Q _ => ∃ (av cv mv : V) (area cs : List Cell) (m : Cell), vs = [av, cv, mv] ∧ RowE K H cD av area ∧ LsE K H cD cv cs ∧ Im H mv (cD m) ∧ area.length ≤ 1000 ∧ cs.length ≤ 1000 ∧ Asc area ∧ cs.Nodup ∧ (∀ c ∈ cs, c ∈ area) ∧ m ∈ area ∧ m ∉ cs ∧
  ∀ p acc H', Same H H' → H p = none → H' p = some (.lst acc) → Paired (PE2 K H p H') acc ((pairsL (pullB area cs m) (sortC cs)).map (pullO cs)) → Q (.ref p) H'
/-! ### _law_pulls -/
theorem scLawPulls : FnScope ["_law_area", "_law_crates", "_law_mover", "_law_near", "_law_found", "_law_cell", "_law_letter", "_law_down", "_law_right", "_law_one", "_law_two", "_law_other"] ["_law_area", "_law_crates", "_law_mover"] (defScope sLawPulls) := ⟨rfl, rfl, rfl, by decide +kernel, rfl, by decide +kernel, by decide +kernel⟩
theorem ok_law_pulls (T : Facts K w mg) : Fn P w K mg base CX0 "_law_pulls" 3 [] (spLPulls K) := by
  have F1 : Fn P w K mg base CX0 "_law_ways" 1 [] spWays := ok_law_ways T
  have F2 : Fn P w K mg base CX0 "_law_reach" 2 [] (spLReach K) := ok_law_reach T
  refine fn_mk T.d_law_pulls fun f fd F => F.ok scLawPulls (fun vs H Q E h => ?_) (fun cdv A outer s H vs Q E hr h => ⟨_, pSs, ?_⟩)
  · obtain ⟨av, cv, mv, area, cs, m, rfl, _⟩ := h
    rfl
  · obtain ⟨av, cv, mv, area, cs, m, rfl, ha, hc, hm, hz, hcz, asc, nd, inA, m1, m2, q⟩ := h
    refine sCons (sPar 3 4 rfl scLawPulls.nd (wACons (VP.run (vpCall3 (P := fun v H' => LsE K H' cD v (reachL (frL area cs) m)) F2 hr (vpVar 0 rfl ha) (fun H1 s1 => vpVar 1 rfl (hc.mono s1).row) (fun H1 s1 => vpVar 2 rfl (hm.mono (TS.of s1))) rowS rowS fun v u y H' s h1 h2 h3 Q q => ⟨v, u, y, area, cs, m, rfl, h1, h2, h3, hz, asc, m1, m2, q⟩) fun nv H1 s1 hn =>
      wACons (wLst (wANil ⟨Nat.zero_le _, fun Fa hF => wANil ⟨nv, .ref Fa, rfl, ?_⟩⟩)))))
    have ha1 := ha.mono s1
    have hc1 := hc.mono s1
    have few := pullsO_len (pullB area cs m) cs (sortC cs)
    rw [sortC_len] at few
    refine sCons (sColl PassesOwn.never rfl (F := Fa) (fun σ => ∃ x5 x6 x7 x8 x9 x10 x11, σ = [some av, some cv, some mv, some nv, some (.ref Fa), x5, x6, x7, x8, x9, x10, x11]) (PE2 K H Fa) (fun H v c => Im H v (cD c)) (sortC cs) (fun c => dirs.flatMap fun d => if pullB area cs m c d = true then [pullO cs (c, d)] else []) []
      (fun _ _ _ _ t s h => h.mono t s) (fun _ _ _ _ t h => h.mono t) ⟨none, none, none, none, none, none, none, rfl⟩ ⟨[], upd_same, .nil⟩ ?_ ?_ ?_)
    · refine iL (VP.run (vpSortedF (cs := cs) T.n_sorted nd (vpVar 1 rfl (hc1.mono (Same.new hF)))) fun v H3 s3 h3 => ?_)
      obtain ⟨l, ys, e, hl0, hl, hy⟩ := h3
      exact ⟨l, e, ⟨_, hl⟩, s3, ys, srcXL (fun z => by rw [z, upd_same] at hl0; cases hl0) hl, paired_map.mp hy⟩
    · intro v c bs acc σ1 H3 sx hS mc hv hF3 hp3 few1 N hN
      obtain ⟨x5, x6, x7, x8, x9, x10, x11, rfl⟩ := hS
      have mc : c ∈ cs := sortC_mem.mp mc
      refine gNm 5 ?_ scLawPulls.nd
      refine sOne (sColl PassesOwn.never rfl (F := Fa) (fun σ => ∃ x6 x7 x8 x9 x10 x11, σ = [some av, some cv, some mv, some nv, some (.ref Fa), some v, x6, x7, x8, x9, x10, x11]) (PE2 K H Fa) (fun H v (d : Dir) => Im H v (wayD d)) dirs (fun d => if pullB area cs m c d = true then [pullO cs (c, d)] else []) bs
        (fun _ _ _ _ t s h => h.mono t s) (fun _ _ _ _ t h => h.mono t) ⟨x6, x7, x8, x9, x10, x11, rfl⟩ ⟨acc, hF3, hp3⟩ ?_ ?_ ?_)
      · exact iL (wCall0 F1 hr ⟨rfl, fun l ys H4 s4 hl0 hl hy => ⟨l, rfl, ⟨_, sqL hl⟩, s4, ys, srcXL (fun z => by rw [z, hF3] at hl0; cases hl0) (sqL hl), paired_map.mp hy⟩⟩)
      · intro v2 d bs2 acc2 σ2 H4 sx2 hS2 md hw hF4 hp4 few2 N2 hN2
        obtain ⟨x6, x7, x8, x9, x10, x11, rfl⟩ := hS2
        have sm4 : Same H1 H4 := (sx.trans sx2).same (Same.new hF) hF
        have hv4 := hv.mono (sx2.ts hF3)
        obtain ⟨wt, rfl, hwt⟩ := way_tup hw
        refine gT3 rfl ⟨wt, _, _, _, rfl, sqT hwt, gNm 6 (gNm 7 (gNm 8 ?_ scLawPulls.nd) scLawPulls.nd) scLawPulls.nd⟩
        refine sCons (sAsg (wTup (wACons (VP.run (P := fun v H' => Im H' v (cD (go c d 1))) (VP.mono (vpCell (i := c.1 + d.dr) (j := c.2 + d.dc) (vpAdd (vpC0 (vpVar 5 rfl hv4)) fun _ _ => vpVar 7 rfl rfl) fun Hq sq => vpAdd (vpC1 (vpVar 5 rfl (hv4.mono (TS.of sq)))) fun _ _ => vpVar 8 rfl rfl) fun v H' s h => by rw [go1]; exact h) fun v1 H5 s5 h5 => wACons (VP.run (P := fun v H' => Im H' v (cD (go c d 2))) (VP.mono (vpCell (i := c.1 + 2 * d.dr) (j := c.2 + 2 * d.dc) (vpAdd (vpC0 (vpVar 5 rfl (hv4.mono (TS.of s5)))) fun _ _ => vpMul (.inl (by omega)) vpInt fun _ _ => vpVar 7 rfl rfl) fun Hq sq => vpAdd (vpC1 (vpVar 5 rfl ((hv4.mono (TS.of s5)).mono (TS.of sq)))) fun _ _ => vpMul (.inl (by omega)) vpInt fun _ _ => vpVar 8 rfl rfl) fun v H' s h => h) fun v2 H6 s6 h6 => wANil ⟨by show 2 ≤ sizeLine; decide, fun p hp => gT2 rfl ⟨p, v1, v2, rfl, sqT upd_same, gNm 9 (gNm 10 ?_ scLawPulls.nd) scLawPulls.nd⟩⟩)))))
        have s47 := (s5.trans s6).trans (Same.new (o := .tup [v1, v2]) hp)
        have h5 := h5.mono ((TS.of s6).trans (TS.new hp (o := .tup [v1, v2])))
        have h6 := h6.mono (TS.new hp (o := .tup [v1, v2]))
        generalize upd H6 p (.tup [v1, v2]) = H7 at s47 h5 h6 ⊢
        have sm7 := sm4.trans s47
        have hF7 := s47 _ _ hF4
        have hv7 := hv4.mono (TS.of s47)
        have ll := Paired.length hp4
        have len2 : acc2.length < 100000 := by
          have e1 : (bs ++ List.flatMap (fun d => if pullB area cs m c d = true then [pullO cs (c, d)] else []) dirs).length ≤ bs.length + 4 := by
            have := pullsO_len (pullB area cs m) cs [c]
            unfold pullsO at this
            rw [List.flatMap_cons, List.flatMap_nil, List.append_nil] at this
            rw [List.length_append]
            simp only [List.length_singleton] at this
            omega
          have e2 : bs.length ≤ 4 * cs.length := Nat.le_trans few1 (by rw [List.nil_append]; exact few)
          omega
        clear few2
        refine sOne (sIfT (tvAnd3 (tvInE enc_cell (hu65 hr) (x := go c d 1) (cs := reachL (frL area cs) m) (vpVar 9 rfl h5) fun H9 s9 => vpVar 3 rfl (hn.mono (sm7.trans s9)).row) (fun _ H8 s8 => tvInE enc_cell (hu65 hr) (x := go c d 2) (cs := area) (vpVar 10 rfl (h6.mono (TS.of s8))) fun H9 s9 => vpVar 0 rfl (ha1.mono (sm7.trans (s8.trans s9)))) fun _ _ H8 s8 => tvNotInE enc_cell (hu65 hr) (x := go c d 2) (cs := cs) (vpVar 10 rfl (h6.mono (TS.of s8))) fun H9 s9 => vpVar 1 rfl (hc1.mono (sm7.trans (s8.trans s9))).row) (fun hk H8 s8 => ?_) (fun hk H8 s8 => ?_))
        · have hk : pullB area cs m c d = true := by
            unfold pullB
            rw [isIn_frL]
            exact hk
          rw [if_pos hk] at hN2
          have sm8 := sm7.trans s8
          obtain ⟨p1, p2, p3⟩ := pull_pre (p := (c, d)) (pairsL_mem.mpr ⟨mc, hk⟩) nd
          have hF8 := s8 _ _ hF7
          refine sOne (sApp 4 rfl ⟨_, hF8⟩ (wTup (wACons (VP.run (vpSortedF (cs := mvL cs c (go c d 1)) T.n_sorted p1 ?_) fun z1 H9 s9 hz1 => wACons (VP.run (P := fun v H' => Im H' v (cD (go c d 2))) (vpVar 10 rfl (h6.mono (TS.of (s8.trans s9)))) fun z2 HA sA hz2 => wANil ⟨by show 2 ≤ sizeLine; decide, fun p hp => ?_⟩)))))
          · refine fun Q' q' => oLc0 rfl scLawPulls.nd (blkOk_by (own := [("_law_other", 11)]) (N := ["_law_area", "_law_crates", "_law_mover", "_law_near", "_law_found", "_law_cell", "_law_letter", "_law_down", "_law_right", "_law_one", "_law_two", "_law_other"]) (sc := defScope sLawPulls) (by decide +kernel)) (lcM0 11 (fun H v (d : Cell) => Im H v (cD d)) (fun H v (d : Cell) => Im H v (cD d)) (fun o => if o = c then go c d 1 else o) cs (fun _ _ _ _ _ => pg_name (i := 11) scLawPulls.nd rfl (Or.inl rfl)) (fun _ => rfl) (fun _ _ _ _ s h => h.mono (TS.of s)) (fun _ _ _ _ s h => h.mono s) ?_ (by omega) ?_ ?_)
            · obtain ⟨l, ys, e, hl, hy⟩ := hc1.mono sm8
              exact iL (wVar 1 rfl ⟨l, e, ⟨_, hl⟩, Same.refl _, _, srcL hl, paired_map.mp hy⟩)
            · intro v3 o H' s e mo K2 k s0 H0 C cl fp
              refine wIfE (TV.run (tvEqE enc_cell (hu65 hr) (x := o) (y := c) (vpVar 11 rfl e) fun H2 s2 => vpVar 5 rfl (hv7.mono (TS.of (s8.trans (s.trans s2))))) fun H2 s2 => ?_)
              by_cases e2 : o = c
              · rw [decide_eq_true e2]
                exact iteT (wVar 9 rfl (k _ _ s2 (by rw [if_pos e2]; exact h5.mono (TS.of (s8.trans (s.trans s2))))))
              · rw [decide_eq_false e2]
                exact iteF (wVar 11 rfl (k _ _ s2 (by rw [if_neg e2]; exact e.mono (TS.of s2))))
            · intro Dl acc3 H9 s9 n9 ha9 hp9
              exact q' _ _ s9 ⟨Dl, acc3, rfl, sqL ha9, paired_map.mpr hp9⟩
          · obtain ⟨l, ys, rfl, hl0, hl, hy⟩ := hz1
            have sB := sA.trans (Same.new (o := .tup [.ref l, z2]) hp)
            have hFB : upd HA p (.tup [.ref l, z2]) Fa = some (.lst acc2) := (s9.trans sB) _ _ hF8
            have tC : TS (upd HA p (.tup [.ref l, z2])) (upd (upd HA p (.tup [.ref l, z2])) Fa (.lst (acc2 ++ [.ref p]))) := TS.lst hFB
            have nl : l ≠ Fa := fun z => by rw [z, hF8] at hl0; cases hl0
            have lH : H l = none := Same.free s1 (Same.free (sm8) hl0)
            have np : p ≠ Fa := fun z => by rw [z, (s9.trans sA) _ _ hF8] at hp; cases hp
            refine ⟨acc2, hFB, szl len2, hN2 _ _ ⟨_, _, _, _, _, _, rfl⟩ ((SX.of (s47.trans (s8.trans (s9.trans sB)))).trans SX.put) ⟨_, upd_same, ?_⟩⟩
            refine paired_snoc (paired_mono hp4 fun _ _ h => (h.mono (TS.of (s47.trans (s8.trans (s9.trans sB)))) (SX.of (s47.trans (s8.trans (s9.trans sB))))).mono tC SX.put) ?_
            refine ⟨p, l, z2, ys, rfl, np, tC _ _ upd_same, nl, lH, SX.put.sql nl (sB.seq hl), (hy.mono (TS.of sB)).mono tC, (hz2.mono (TS.new hp)).mono tC⟩
        · have hk : pullB area cs m c d = false := by
            unfold pullB
            rw [isIn_frL]
            exact hk
          rw [if_neg (by rw [hk]; decide)] at hN2
          exact sNil (hN2 _ _ ⟨_, _, _, _, _, _, rfl⟩ (SX.of (s47.trans s8)) ⟨acc2, s8 _ _ hF7, by rw [List.append_nil]; exact paired_mono hp4 fun _ _ h => h.mono (TS.of (s47.trans s8)) (SX.of (s47.trans s8))⟩)
      · intro σ' H' hS' sx' ha'
        obtain ⟨x6, x7, x8, x9, x10, x11, rfl⟩ := hS'
        exact hN _ _ ⟨_, _, _, _, _, _, _, rfl⟩ sx' ha'
    · intro σ' H' hS' sx' ha'
      obtain ⟨x5, x6, x7, x8, x9, x10, x11, rfl⟩ := hS'
      obtain ⟨acc, h1, h2⟩ := ha'
      refine sOne (sRet (wVar 4 rfl (q Fa acc _ (sx'.same (s1.trans (Same.new hF)) (Same.free s1 hF)) (Same.free s1 hF) h1 ?_)))
      rw [List.nil_append] at h2
      rw [← pullsO_eq]
      exact h2
end CR
namespace CR
open PySem PySem.Spec PyProof.Rows L2
/-! ### statements with what is wanted between -/
theorem sMid {X : Cx} {σ : L2.St} {H : Hp} {st : Stmt} {rest : List Stmt} {D : Ends} (N : L2.St → Hp → Prop) (h : wS X st { D with nx := N } σ H) (k : ∀ σ' H', N σ' H' → wSs X rest D σ' H') : wSs X (st :: rest) D σ H := by
  refine sCons ?_
  unfold wS at h ⊢
  exact fun pins s I => thn (h pins s I) fun f s' q => by
    cases f with
    | next =>
      obtain ⟨σ', H', I', n⟩ := q
      exact ⟨σ', H', I', k σ' H' n⟩
    | brk => exact q
    | cont => exact q
    | ret u => exact q
/-! ### rooms by a function -/
def mkRow (n : Nat) (g : Nat → Nat) : Str := ⟨((List.range n).map g).toArray⟩
def mkRows (h n : Nat) (f : Nat → Nat → Nat) : List Str := (List.range h).map fun r => mkRow n (f r)
theorem mkRow_len {n : Nat} {g : Nat → Nat} : (mkRow n g).length = n := by
  show ((List.range n).map g).toArray.size = n
  simp
theorem mkRow_0 {g : Nat → Nat} : mkRow 0 g = ("" : Str) := by
  unfold mkRow
  simp
  decide +kernel
theorem mkRow_succ {n : Nat} {g : Nat → Nat} : mkRow (n + 1) g = mkRow n g ++ (⟨#[g n]⟩ : Str) := by
  have e : ∀ a b : Str, a.cps.toList = b.cps.toList → a = b := fun a b h => by
    obtain ⟨a⟩ := a
    obtain ⟨b⟩ := b
    congr 1
    exact Array.toList_inj.mp h
  refine e _ _ ?_
  rw [tl_app]
  show ((List.range (n + 1)).map g) = (List.range n).map g ++ [g n]
  rw [List.range_succ, List.map_append]
  rfl
theorem mkRows_len {h n : Nat} {f : Nat → Nat → Nat} : (mkRows h n f).length = h := by
  unfold mkRows
  rw [List.length_map, List.length_range]
theorem mkRows_at {h n r : Nat} {f : Nat → Nat → Nat} (hr : r < h) : (mkRows h n f)[r]? = some (mkRow n (f r)) := by
  unfold mkRows
  rw [List.getElem?_map, List.getElem?_range hr]
  rfl
theorem mkRows_wid {h n : Nat} {f : Nat → Nat → Nat} (hh : 0 < h) : wid (mkRows h n f) = n := by
  unfold wid
  rw [mkRows_at hh]
  exact mkRow_len
theorem mkRows_sgn {h n r c : Nat} {f : Nat → Nat → Nat} (hr : r < h) (hc : c < n) : sgn (mkRows h n f) r c = f r c := by
  unfold sgn
  rw [mkRows_at hr]
  show ((((List.range n).map (f r)).toArray)[c]?).getD 0 = f r c
  simp [hc]
theorem mkRows_rect {h n : Nat} {f : Nat → Nat → Nat} (hh : 0 < h) (h1 : h ≤ 100) (h2 : n ≤ 100) : Rect (mkRows h n f) := by
  refine ⟨by rw [mkRows_len]; exact hh, by rw [mkRows_len]; exact h1, by rw [mkRows_wid hh]; exact h2, fun row hr => ?_⟩
  rw [mkRows_wid hh]
  unfold mkRows at hr
  obtain ⟨r, _, e⟩ := List.mem_map.mp hr
  rw [← e]
  exact mkRow_len
theorem mkRows_succ {h n : Nat} {f : Nat → Nat → Nat} : mkRows (h + 1) n f = mkRows h n f ++ [mkRow n (f h)] := by
  unfold mkRows
  rw [List.range_succ, List.map_append]
  rfl
theorem cells_mem {rows : List Str} {sg : Str} {x : Cell} : x ∈ cellsOf rows sg ↔ ∃ r c : Nat, r < rows.length ∧ c < wid rows ∧ sgn rows r c ∈ sg.cps.toList ∧ x = ((r : Int), (c : Int)) := by
  unfold cellsOf cellsTo
  rw [List.mem_flatMap]
  constructor
  · rintro ⟨r, hr, hx⟩
    unfold cellRow at hx
    obtain ⟨c, hc, e⟩ := List.mem_map.mp hx
    obtain ⟨h1, h2⟩ := List.mem_filter.mp hc
    exact ⟨r, c, List.mem_range.mp hr, List.mem_range.mp h1, of_decide_eq_true h2, e.symm⟩
  · rintro ⟨r, c, h1, h2, h3, e⟩
    refine ⟨r, List.mem_range.mpr h1, ?_⟩
    unfold cellRow
    exact List.mem_map.mpr ⟨c, List.mem_filter.mpr ⟨List.mem_range.mpr h2, decide_eq_true h3⟩, e.symm⟩
/-! ### _law_shown -/
def isEnd (x : Nat) : Bool := decide (x ∈ ("oCM" : Str).cps.toList)
def shF (f : Nat → Nat → Nat) (cs : List Cell) (m : Cell) (r c : Nat) : Nat :=
  if f r c = 35 then 35 else if ((r : Int), (c : Int)) = m then (if isEnd (f r c) = true then 77 else 109) else if isIn ((r : Int), (c : Int)) cs = true then (if isEnd (f r c) = true then 67 else 99) else if isEnd (f r c) = true then 111 else 45
theorem s1_35 : ("#" : Str) = ⟨#[35]⟩ := by decide +kernel
theorem s1_111 : ("o" : Str) = ⟨#[111]⟩ := by decide +kernel
theorem s1_45 : ("-" : Str) = ⟨#[45]⟩ := by decide +kernel
theorem s1_67 : ("C" : Str) = ⟨#[67]⟩ := by decide +kernel
theorem s1_99 : ("c" : Str) = ⟨#[99]⟩ := by decide +kernel
theorem s1_77 : ("M" : Str) = ⟨#[77]⟩ := by decide +kernel
theorem s1_109 : ("m" : Str) = ⟨#[109]⟩ := by decide +kernel
theorem str1_eq {x y : Nat} : ((⟨#[x]⟩ : Str) = ⟨#[y]⟩) ↔ x = y := by
  constructor
  · intro h
    injection h with h
    have := congrArg Array.toList h
    simpa using this
  · intro h
    rw [h]
section
variable {X : Cx} {σ : L2.St} {H : Hp} {a b c : Expr} {pos : Pos}
/-- "x" if k else "y" -/
theorem vpPick2 {k : Bool} {x y : Str} {n1 n2 j1 j2 : Nat} {p1 p2 : Pos} (ex : x = ⟨#[n1]⟩) (ey : y = ⟨#[n2]⟩) (hc : VP X c σ H fun v _ => v = .bl k) (he : ∀ whole, isTrue c X.env whole = (do let v ← whole; standAt c.pos; holding [v] (truthy v)) := by intro _; rfl) :
    VP X (.IfExp c (.Constant (.str x) j1 p1) (.Constant (.str y) j2 p2) pos) σ H (fun v _ => v = .str ⟨#[if k = true then n1 else n2]⟩) := fun Q q => wIfE (TV.run (tvVal hc he) fun H1 s1 => by
  subst ex ey
  cases k with
  | true => exact iteT (wStr (q _ H1 s1 rfl))
  | false => exact iteF (wStr (q _ H1 s1 rfl)))
end
variable {P : Program} {w : World} {K : PySem.W.Frag} {mg : Str → Option Value} {base : Heap}
def spShown (K : PySem.W.Frag) : Sp := fun vs H Q _ => ∃ (v cv mv : V) (h n : Nat) (f : Nat → Nat → Nat) (cs : List Cell) (m : Cell), vs = [v, cv, mv] ∧ Im H v (rwD (mkRows h n f)) ∧ 0 < h ∧ h ≤ 100 ∧ n ≤ 100 ∧ RowE K H cD cv cs ∧ Im H mv (cD m) ∧
  ∀ r H', Same H H' → Im H' r (rwD (mkRows h n (shF f cs m))) → Q r H'
theorem scLawShown : FnScope ["_law_room_here", "_law_crates", "_law_mover", "_law_rows", "_law_r", "_law_line", "_law_c", "_law_old", "_law_cell", "_law_is_end", "_law_sign"] ["_law_room_here", "_law_crates", "_law_mover"] (defScope sLawShown) := ⟨rfl, rfl, rfl, by decide +kernel, rfl, by decide +kernel, by decide +kernel⟩
theorem ok_law_shown (T : Facts K w mg) : Fn P w K mg base CX0 "_law_shown" 1 [] (spShown K) := by
  refine fn_mk T.d_law_shown fun f fd F => F.ok scLawShown (fun vs H Q E h => ?_) (fun cdv A outer s H vs Q E hr h => ⟨_, pSs, ?_⟩)
  · obtain ⟨v, cv, mv, h, n, f, cs, m, rfl, _⟩ := h
    rfl
  · obtain ⟨v, cv, mv, h, n, f, cs, m, rfl, hv, h0, h1, h2, hc, hm, q⟩ := h
    have R := mkRows_rect (f := f) h0 h1 h2
    have eh : (mkRows h n f).length = h := mkRows_len
    have en : wid (mkRows h n f) = n := mkRows_wid h0
    refine sCons (sSet 3 (wLst (wANil ⟨Nat.zero_le _, fun Fa hF => ?_⟩)) scLawShown.nd)
    have s0 : Same H (upd H Fa (.lst [])) := Same.new hF
    refine sCons (sForR PassesOwn.never rfl T.n_range (wACons (VP.run (vpLen T.n_len (vpVar 0 rfl (rows_n (hv.mono (TS.of s0))))) fun vv H1 s1 e1 => wANil ⟨h, by rw [e1, eh], by omega, fun r σ' H' => ∃ (x4 x5 x6 x7 x8 x9 x10 : Option V), σ' = [some v, some cv, some mv, some (.ref Fa), x4, x5, x6, x7, x8, x9, x10] ∧ Same H H' ∧ H' Fa = some (.lst ((mkRows r n (shF f cs m)).map V.str)), ?_, ?_, ?_⟩)))
    · exact ⟨none, none, none, none, none, none, none, rfl, s0.trans s1, s1 _ _ upd_same⟩
    · intro r σ' H2 hr1 hP
      obtain ⟨x4, x5, x6, x7, x8, x9, x10, rfl, s2, hf⟩ := hP
      refine gNm 4 ?_ scLawShown.nd
      refine sCons (sSet 5 (wStr ?_) scLawShown.nd)
      refine sCons (sForR PassesOwn.never rfl T.n_range (wACons (VP.run (vpWid T.n_len R (vpVar 0 rfl (hv.mono (TS.of s2)))) fun v3 H3 s3 e3 => wANil ⟨n, by rw [e3, en], by omega, fun c σ' H' => ∃ (x6 x7 x8 x9 x10 : Option V), σ' = [some v, some cv, some mv, some (.ref Fa), some (.int (r : Nat)), some (.str (mkRow c (shF f cs m r))), x6, x7, x8, x9, x10] ∧ Same H2 H', ?_, ?_, ?_⟩)))
      · refine ⟨x6, x7, x8, x9, x10, ?_, s3⟩
        rw [mkRow_0]
        rfl
      · intro c σ' H4 hc1 hP
        obtain ⟨y6, y7, y8, y9, y10, rfl, s4⟩ := hP
        have sH4 := s2.trans s4
        have es : sgn (mkRows h n f) r c = f r c := mkRows_sgn hr1 hc1
        refine gNm 6 ?_ scLawShown.nd
        refine sCons (sPar 7 8 rfl scLawShown.nd (wACons (VP.run (P := fun v _ => v = .str ⟨#[f r c]⟩) (VP.mono (vpSign R (by rw [eh]; exact hr1) (by rw [en]; exact hc1) (vpVar 0 rfl (hv.mono (TS.of sH4))) (fun _ _ => vpVar 4 rfl rfl) fun _ _ => vpVar 6 rfl rfl) fun v H s e => by rw [e, es]) fun v5 H5 s5 e5 => wACons (VP.run (vpCell (i := (r : Int)) (j := (c : Int)) (vpVar 4 rfl rfl) fun _ _ => vpVar 6 rfl rfl) fun v6 H6 s6 h6 => wANil ⟨v5, v6, rfl, ?_⟩))))
        subst e5
        have sH6 := sH4.trans (s5.trans s6)
        refine sCons (sSet 9 (wCmp op_in_sign (wVar 7 rfl (wStr ⟨f r c, _, rfl, rfl, ?_⟩))) scLawShown.nd)
        refine (?_ : wSs _ _ _ (List.set _ 9 (some (.bl (isEnd (f r c))))) _)
        refine sCons (sSet 10 (VP.run (vpPick2 (k := isEnd (f r c)) s1_111 s1_45 (vpVar 9 rfl rfl)) fun v7 H7 s7 e7 => ?_) scLawShown.nd)
        subst e7
        have sH7 := sH6.trans s7
        have h7 := h6.mono (TS.of s7)
        refine sMid (fun σ' H' => σ' = [some v, some cv, some mv, some (.ref Fa), some (.int (r : Nat)), some (.str (mkRow c (shF f cs m r))), some (.int (c : Nat)), some (.str ⟨#[f r c]⟩), some v6, some (.bl (isEnd (f r c))), some (.str ⟨#[if isIn ((r : Int), (c : Int)) cs = true then (if isEnd (f r c) = true then 67 else 99) else if isEnd (f r c) = true then 111 else 45]⟩)] ∧ Same H7 H') ?_ ?_
        · refine sIfT (tvInE enc_cell (hu65 hr) (x := ((r : Int), (c : Int))) (cs := cs) (vpVar 8 rfl h7) fun H8 s8 => vpVar 1 rfl (hc.mono (sH7.trans s8))) (fun hk H8 s8 => ?_) (fun hk H8 s8 => sNil ?_)
          · refine sOne (sSet 10 (VP.run (vpPick2 (k := isEnd (f r c)) s1_67 s1_99 (vpVar 9 rfl rfl)) fun v9 H9 s9 e9 => ?_) scLawShown.nd)
            subst e9
            exact ⟨by rw [if_pos hk]; rfl, s8.trans s9⟩
          · have nk : ¬ (isIn ((r : Int), (c : Int)) cs = true) := fun z => by rw [z] at hk; cases hk
            exact ⟨by rw [if_neg nk]; rfl, s8⟩
        · intro σ' H8 hN
          obtain ⟨rfl, s8⟩ := hN
          have h8 := h7.mono (TS.of s8)
          have sH8 := sH7.trans s8
          refine sMid (fun σ' H' => σ' = [some v, some cv, some mv, some (.ref Fa), some (.int (r : Nat)), some (.str (mkRow c (shF f cs m r))), some (.int (c : Nat)), some (.str ⟨#[f r c]⟩), some v6, some (.bl (isEnd (f r c))), some (.str ⟨#[if ((r : Int), (c : Int)) = m then (if isEnd (f r c) = true then 77 else 109) else if isIn ((r : Int), (c : Int)) cs = true then (if isEnd (f r c) = true then 67 else 99) else if isEnd (f r c) = true then 111 else 45]⟩)] ∧ Same H8 H') ?_ ?_
          · refine sIfT (tvEqE enc_cell (hu65 hr) (x := ((r : Int), (c : Int))) (y := m) (vpVar 8 rfl h8) fun H9 s9 => vpVar 2 rfl (hm.mono (TS.of (sH8.trans s9)))) (fun hk H9 s9 => ?_) (fun hk H9 s9 => sNil ?_)
            · refine sOne (sSet 10 (VP.run (vpPick2 (k := isEnd (f r c)) s1_77 s1_109 (vpVar 9 rfl rfl)) fun v9 HA sA e9 => ?_) scLawShown.nd)
              subst e9
              exact ⟨by rw [if_pos (of_decide_eq_true hk)]; rfl, s9.trans sA⟩
            · exact ⟨by rw [if_neg (of_decide_eq_false hk)], s9⟩
          · intro σ' H9 hN
            obtain ⟨rfl, s9⟩ := hN
            generalize eG : (if ((r : Int), (c : Int)) = m then (if isEnd (f r c) = true then 77 else 109) else if isIn ((r : Int), (c : Int)) cs = true then (if isEnd (f r c) = true then 67 else 99) else if isEnd (f r c) = true then 111 else 45) = x
            have eS : shF f cs m r c = if f r c = 35 then 35 else x := by
              unfold shF
              rw [eG]
            refine sOne (sSet 5 (VP.run (vpAddS (x := mkRow c (shF f cs m r)) (y := ⟨#[shF f cs m r c]⟩) (by rw [mkRow_len]; show c + 1 ≤ 100000; omega) (vpVar 5 rfl rfl) fun HA sA => ?_) fun v9 HB sB e9 => ?_) scLawShown.nd)
            · refine fun Q' q' => wIfE (TV.run (tvEqF (x := .str ⟨#[f r c]⟩) (y := .str "#") rfl (vpVar 7 rfl rfl) fun _ _ => vpStr) fun HC sC => ?_)
              by_cases e : f r c = 35
              · rw [decide_eq_true (show V.str ⟨#[f r c]⟩ = .str "#" by rw [s1_35, e])]
                exact iteT (wStr (q' _ _ sC (by rw [eS, if_pos e, s1_35])))
              · rw [decide_eq_false (show ¬ V.str ⟨#[f r c]⟩ = .str "#" from fun z => e (by rw [s1_35] at z; injection z with z; exact str1_eq.mp z))]
                exact iteF (wVar 10 rfl (q' _ _ sC (by rw [eS, if_neg e])))
            · subst e9
              refine ⟨some (.int (c : Nat)), some (.str ⟨#[f r c]⟩), some v6, some (.bl (isEnd (f r c))), some (.str ⟨#[x]⟩), ?_, s4.trans (s5.trans (s6.trans (s7.trans (s8.trans (s9.trans sB)))))⟩
              rw [mkRow_succ]
              rfl
      · intro σ' H4 hP
        obtain ⟨y6, y7, y8, y9, y10, rfl, s4⟩ := hP
        refine sOne (sApp 3 rfl ⟨_, s4 _ _ hf⟩ (wVar 5 rfl ⟨_, s4 _ _ hf, szl (by rw [List.length_map, mkRows_len]; omega), ?_⟩))
        refine ⟨_, _, _, _, _, _, _, rfl, Same.mut (s2.trans s4) hF, ?_⟩
        rw [upd_same, mkRows_succ, List.map_append]
        rfl
    · intro σ' H2 hP
      obtain ⟨x4, x5, x6, x7, x8, x9, x10, rfl, s2, hf⟩ := hP
      refine sOne (sRet (wCallTy call_tuple_of T.n_tuple (by decide +kernel) (wACons (wVar 3 rfl (wANil ⟨Fa, _, rfl, .inl ⟨sqL hf, fun p hp => q _ _ (s2.trans (Same.new hp)) (im_rows.mpr ⟨p, rfl, upd_same⟩)⟩⟩)))))
end CR
namespace CR
open PySem PySem.Spec PyProof.Rows L2
/-! ### '#' * n -/
theorem op_hash {X : Cx} : OpR X (binaryOp .Mult) (fun x y H Q => ∃ n : Nat, x = .str "#" ∧ y = .int n ∧ 4 ≤ n ∧ n ≤ 6 ∧ Q (.str (mkRow n fun _ => 35)) H) := by
  intro pins s σ H x y v u Q I rx ry h
  obtain ⟨n, rfl, rfl, h4, h6, q⟩ := h
  obtain ⟨t, rfl⟩ := rx
  obtain ⟨t', rfl⟩ := ry
  have e : n = 4 ∨ n = 5 ∨ n = 6 := by omega
  have ok : MulOk "#" (n : Int) := by
    rcases e with e | e | e <;> subst e <;> exact ⟨by decide +kernel, by decide +kernel, by decide +kernel⟩
  have em : Txt.mul "#" (n : Int) = mkRow n fun _ => 35 := by
    rcases e with e | e | e <;> subst e <;> decide +kernel
  refine SB.mul ok fun t2 k => ⟨.str (mkRow n fun _ => 35), H, I.tok _, ⟨t2, by rw [em]⟩, q⟩
/-! ### the shape -/
def gridTo (n r : Nat) : List Cell := (List.range r).flatMap fun (k : Nat) => (List.range n).map fun (c : Nat) => ((k : Int), (c : Int))
theorem gridTo_succ {n r : Nat} : gridTo n (r + 1) = gridTo n r ++ (List.range n).map fun (c : Nat) => ((r : Int), (c : Int)) := by
  unfold gridTo
  rw [List.range_succ, List.flatMap_append]
  simp
theorem gridTo_len {n : Nat} : ∀ r, (gridTo n r).length = r * n
  | 0 => by simp [gridTo]
  | r + 1 => by
    rw [gridTo_succ, List.length_append, gridTo_len r, List.length_map, List.length_range, Nat.succ_mul]
theorem gridTo_mem {n r : Nat} {x : Cell} : x ∈ gridTo n r ↔ ∃ a b : Nat, a < r ∧ b < n ∧ x = ((a : Int), (b : Int)) := by
  unfold gridTo
  rw [List.mem_flatMap]
  constructor
  · rintro ⟨a, ha, hx⟩
    obtain ⟨b, hb, e⟩ := List.mem_map.mp hx
    exact ⟨a, b, List.mem_range.mp ha, List.mem_range.mp hb, e.symm⟩
  · rintro ⟨a, b, ha, hb, e⟩
    exact ⟨a, List.mem_range.mpr ha, List.mem_map.mpr ⟨b, List.mem_range.mpr hb, e.symm⟩⟩
theorem gridTo_asc {n : Nat} : ∀ r, Asc (gridTo n r)
  | 0 => by simp [gridTo]
  | r + 1 => by
    rw [gridTo_succ]
    refine List.pairwise_append.mpr ⟨gridTo_asc r, List.pairwise_map.mpr (List.pairwise_lt_range.imp fun h => .inr ⟨rfl, by show (_ : Int) < _; omega⟩), fun a ha b hb => ?_⟩
    obtain ⟨x, y, h1, h2, e⟩ := gridTo_mem.mp ha
    obtain ⟨z, _, e2⟩ := List.mem_map.mp hb
    rw [e, ← e2]
    exact .inl (by show (_ : Int) < _; omega)
def shapeF (hh ww : Nat) (gs : List Cell) (r c : Nat) : Nat := if 1 ≤ r ∧ r ≤ hh ∧ 1 ≤ c ∧ c ≤ ww ∧ isIn ((r : Int) - 1, (c : Int) - 1) gs = true then 45 else 35
/-- what is drawn -/
structure ShapeOk (h n : Nat) (f : Nat → Nat → Nat) : Prop where
  h3 : 3 ≤ h
  h6 : h ≤ 6
  n4 : 4 ≤ n
  n6 : n ≤ 6
  val : ∀ r c, f r c = 45 ∨ f r c = 35
  edge : ∀ r c, r < h → c < n → (r = 0 ∨ r + 1 = h ∨ c = 0 ∨ c + 1 = n) → f r c = 35
  lo : 3 ≤ (cellsOf (mkRows h n f) "-").length
  hi : (cellsOf (mkRows h n f) "-").length ≤ 16
structure GridOk (hh ww : Nat) (gs : List Cell) : Prop where
  h1 : 1 ≤ hh
  h4 : hh ≤ 4
  w2 : 2 ≤ ww
  w4 : ww ≤ 4
  nd : gs.Nodup
  inG : ∀ x ∈ gs, x ∈ gridTo ww hh
theorem GridOk.few {hh ww : Nat} {gs : List Cell} (g : GridOk hh ww gs) : gs.length ≤ 16 := by
  have h1 := len_sub g.nd g.inG
  rw [gridTo_len] at h1
  have h2 : hh * ww ≤ 4 * 4 := Nat.mul_le_mul g.h4 g.w4
  omega
theorem sign_dash {x : Nat} : x ∈ ("-" : Str).cps.toList ↔ x = 45 := by
  rw [s1_45]
  simp
theorem shape_ok {hh ww : Nat} {gs : List Cell} (g : GridOk hh ww gs) (h3 : 3 ≤ gs.length) : ShapeOk (hh + 2) (ww + 2) (shapeF hh ww gs) := by
  have g1 := g.h1
  have g4 := g.h4
  have w2 := g.w2
  have w4 := g.w4
  have mem : ∀ x : Cell, x ∈ cellsOf (mkRows (hh + 2) (ww + 2) (shapeF hh ww gs)) "-" ↔ (x.1 - 1, x.2 - 1) ∈ gs := by
    intro x
    rw [cells_mem, mkRows_len, mkRows_wid (by omega)]
    constructor
    · rintro ⟨r, c, hr, hc, hs, e⟩
      rw [mkRows_sgn hr hc, sign_dash] at hs
      unfold shapeF at hs
      by_cases q : 1 ≤ r ∧ r ≤ hh ∧ 1 ≤ c ∧ c ≤ ww ∧ isIn ((r : Int) - 1, (c : Int) - 1) gs = true
      · rw [e]
        exact isIn_iff.mp q.2.2.2.2
      · rw [if_neg q] at hs
        cases hs
    · intro hx
      obtain ⟨a, b, ha, hb, e⟩ := gridTo_mem.mp (g.inG _ hx)
      have e1 : x.1 - 1 = (a : Int) := congrArg Prod.fst e
      have e2 : x.2 - 1 = (b : Int) := congrArg Prod.snd e
      refine ⟨a + 1, b + 1, by omega, by omega, ?_, Prod.ext (by show x.1 = ((a + 1 : Nat) : Int); omega) (by show x.2 = ((b + 1 : Nat) : Int); omega)⟩
      rw [mkRows_sgn (by omega) (by omega), sign_dash]
      unfold shapeF
      rw [if_pos]
      refine ⟨by omega, by omega, by omega, by omega, isIn_yes ?_⟩
      have e3 : (((a + 1 : Nat) : Int) - 1, ((b + 1 : Nat) : Int) - 1) = (x.1 - 1, x.2 - 1) := Prod.ext (by show ((a + 1 : Nat) : Int) - 1 = x.1 - 1; omega) (by show ((b + 1 : Nat) : Int) - 1 = x.2 - 1; omega)
      rw [e3]
      exact hx
  refine ⟨by omega, by omega, by omega, by omega, fun r c => ?_, fun r c hr hc hE => ?_, ?_, ?_⟩
  · unfold shapeF
    by_cases q : 1 ≤ r ∧ r ≤ hh ∧ 1 ≤ c ∧ c ≤ ww ∧ isIn ((r : Int) - 1, (c : Int) - 1) gs = true
    · rw [if_pos q]
      exact .inl rfl
    · rw [if_neg q]
      exact .inr rfl
  · unfold shapeF
    rw [if_neg]
    intro q
    omega
  · have nd : (gs.map fun x : Cell => ((x.1 + 1, x.2 + 1) : Cell)).Nodup := by
      refine List.Pairwise.map _ (fun a b hab e => hab ?_) g.nd
      have e1 : a.1 + 1 = b.1 + 1 := congrArg Prod.fst e
      have e2 : a.2 + 1 = b.2 + 1 := congrArg Prod.snd e
      exact Prod.ext (by omega) (by omega)
    have := len_sub nd (M := cellsOf (mkRows (hh + 2) (ww + 2) (shapeF hh ww gs)) "-") fun x hx => by
      obtain ⟨y, hy, e⟩ := List.mem_map.mp hx
      rw [mem, ← e]
      have e3 : (y.1 + 1 - 1, y.2 + 1 - 1) = y := Prod.ext (by show y.1 + 1 - 1 = y.1; omega) (by show y.2 + 1 - 1 = y.2; omega)
      rw [e3]
      exact hy
    rw [List.length_map] at this
    omega
  · have nd0 := (cells_asc (mkRows (hh + 2) (ww + 2) (shapeF hh ww gs)) "-").nodup
    have nd : ((cellsOf (mkRows (hh + 2) (ww + 2) (shapeF hh ww gs)) "-").map fun x : Cell => ((x.1 - 1, x.2 - 1) : Cell)).Nodup := by
      refine List.Pairwise.map _ (fun a b hab e => hab ?_) nd0
      have e1 : a.1 - 1 = b.1 - 1 := congrArg Prod.fst e
      have e2 : a.2 - 1 = b.2 - 1 := congrArg Prod.snd e
      exact Prod.ext (by omega) (by omega)
    have := len_sub nd (M := gs) fun x hx => by
      obtain ⟨y, hy, e⟩ := List.mem_map.mp hx
      rw [← e]
      exact (mem y).mp hy
    rw [List.length_map] at this
    have := g.few
    omega
theorem str_ext {a b : Str} (h : a.cps.toList = b.cps.toList) : a = b := by
  obtain ⟨a⟩ := a
  obtain ⟨b⟩ := b
  congr 1
  exact Array.toList_inj.mp h
theorem mkRow_tl {n : Nat} {g : Nat → Nat} : (mkRow n g).cps.toList = (List.range n).map g := rfl
theorem mkRow_congr {n : Nat} {f g : Nat → Nat} (h : ∀ c, c < n → f c = g c) : mkRow n f = mkRow n g := by
  refine str_ext ?_
  rw [mkRow_tl, mkRow_tl]
  exact List.map_congr_left fun c hc => h c (List.mem_range.mp hc)
/-- a row of the shape by its parts -/
theorem mkRow_wrap {n : Nat} {g : Nat → Nat} {ys : List Str} (h0 : g 0 = 35) (hn : g (n + 1) = 35) (hy : ys = (List.range n).map fun c => (⟨#[g (c + 1)]⟩ : Str)) : ("#" : Str) ++ Txt.join "" ys ++ "#" = mkRow (n + 2) g := by
  refine str_ext ?_
  rw [tl_app, tl_app, tl_join0, mkRow_tl, hy, List.map_map, s1_35]
  have e1 : (List.range (n + 2)).map g = [g 0] ++ (List.range n).map (fun c => g (c + 1)) ++ [g (n + 1)] := by
    rw [List.range_succ, List.map_append, List.range_succ_eq_map, List.map_cons, List.map_map]
    rfl
  rw [e1, h0, hn]
  have e2 : ∀ l : List Nat, (l.map ((fun y : Str => y.cps.toList) ∘ fun c => (⟨#[g (c + 1)]⟩ : Str))).flatten = l.map fun c => g (c + 1) := by
    intro l
    induction l with
    | nil => rfl
    | cons a l ih =>
      rw [List.map_cons, List.flatten_cons, ih]
      rfl
  rw [e2]
theorem joinLen {n : Nat} {g : Nat → Nat} : (Txt.join "" ((List.range n).map fun c => (⟨#[g c]⟩ : Str))).length = n := by
  show (Txt.join "" ((List.range n).map fun c => (⟨#[g c]⟩ : Str))).cps.size = n
  rw [← Array.length_toList, tl_join0, List.map_map]
  induction n with
  | zero => rfl
  | succ n ih =>
    rw [List.range_succ, List.map_append, List.flatten_append, List.length_append, ih]
    rfl
theorem ne_of_new {H : Hp} {F p : Addr} {o : HO} (h : H F = some o) (n : H p = none) : p ≠ F := fun z => by
  rw [z, h] at n
  cases n
theorem two_casts {r1 r2 : Nat} : [V.int ((1 : Int) + (r1 : Nat)), V.int ((2 : Int) + (r2 : Nat))] = [V.int ((1 + r1 : Nat) : Int), V.int ((2 + r2 : Nat) : Int)] := by
  have e1 : (1 : Int) + (r1 : Nat) = ((1 + r1 : Nat) : Int) := by omega
  have e2 : (2 : Int) + (r2 : Nat) = ((2 + r2 : Nat) : Int) := by omega
  rw [e1, e2]
section
variable {X : Cx} {σ : L2.St} {H : Hp} {a b c d e : Expr} {pos : Pos}
/-- '#' * e -/
theorem vpHash {n j : Nat} {p : Pos} (h4 : 4 ≤ n) (h6 : n ≤ 6) (hb : VP X b σ H fun v _ => v = .int (n : Nat)) : VP X (.BinOp (.Constant (.str "#") j p) .Mult b pos) σ H (fun v _ => v = .str (mkRow n fun _ => 35)) := fun Q q => wBin op_hash (wStr (hb _ fun v H1 s1 e1 => by
  subst e1
  exact ⟨n, rfl, rfl, h4, h6, q _ H1 s1 rfl⟩))
end
variable {P : Program} {w : World} {K : PySem.W.Frag} {mg : Str → Option Value} {base : Heap}
def spShape (K : PySem.W.Frag) : Sp := fun vs H Q _ => ∃ (R a : Addr) (ns : List Int), vs = [.ref R, .int 16] ∧ Row K H R a ns ∧ ∀ v h n f H', SX R H H' → Row K H' R a ns → Im H' v (rwD (mkRows h n f)) → ShapeOk h n f → Q v H'
theorem scLawShape : FnScope ["_law_row", "_law_most", "_law_high", "_law_wide", "_law_left", "_law_found", "_law_r", "_law_cell", "_law_rows", "_law_c"] ["_law_row", "_law_most"] (defScope sLawShape) := ⟨rfl, rfl, rfl, by decide +kernel, rfl, by decide +kernel, by decide +kernel⟩
theorem ok_law_shape (T : Facts K w mg) : Fn P w K mg base CX0 "_law_shape" 2 [] (spShape K) := by
  refine fn_mk T.d_law_shape fun f fd F => F.ok scLawShape (fun vs H Q E h => ?_) (fun cdv A outer s H vs Q E hr h => ⟨_, pSs, ?_⟩)
  · obtain ⟨R, a, ns, rfl, _⟩ := h
    rfl
  · obtain ⟨R, a, ns, rfl, hR, q⟩ := h
    refine sCons (sPar 2 3 rfl scLawShape.nd (wACons (wBin op_add (wInt (wTaken (n := 4) T hr (by omega) (vpVar 0 rfl rfl) (fun _ _ => vpInt) hR fun r1 H1 hr1 sx1 hR1 => ⟨1, r1, rfl, rfl, wACons (wBin op_add (wInt (wTaken (n := 3) T hr (by omega) (vpVar 0 rfl rfl) (fun _ _ => vpInt) hR1 fun r2 H2 hr2 sx2 hR2 => ⟨2, r2, rfl, rfl, wANil ⟨.int ((1 + r1 : Nat) : Int), .int ((2 + r2 : Nat) : Int), two_casts, ?_⟩⟩)))⟩)))))
    obtain ⟨hh, eh⟩ : ∃ hh, hh = 1 + r1 := ⟨_, rfl⟩
    obtain ⟨ww, ew⟩ : ∃ ww, ww = 2 + r2 := ⟨_, rfl⟩
    rw [← eh, ← ew]
    have sx02 := sx1.trans sx2
    refine sCons (sAsg (wTup (wACons (wLst (wANil ⟨Nat.zero_le _, fun L hL => wACons (wLst (wANil ⟨Nat.zero_le _, fun Fa hF => wANil ⟨by show 2 ≤ sizeLine; decide, fun p hp => gT2 rfl ⟨p, _, _, rfl, sqT upd_same, gNm 4 (gNm 5 ?_ scLawShape.nd) scLawShape.nd⟩⟩⟩))⟩)))))
    have s25 : Same H2 (upd (upd (upd H2 L (.lst [])) Fa (.lst [])) p (.tup [.ref L, .ref Fa])) := ((Same.new hL).trans (Same.new hF)).trans (Same.new hp)
    have nLF : L ≠ Fa := fun z => by rw [← z, upd_same] at hF; cases hF
    have hF2 : H2 Fa = none := by rw [upd_ne (Ne.symm nLF)] at hF; exact hF
    have nLp : L ≠ p := fun z => by rw [← z, upd_ne nLF, upd_same] at hp; cases hp
    have nFp : Fa ≠ p := fun z => by rw [← z, upd_same] at hp; cases hp
    have l5 : (upd (upd (upd H2 L (.lst [])) Fa (.lst [])) p (.tup [.ref L, .ref Fa])) L = some (.lst []) := by rw [upd_ne nLp, upd_ne nLF, upd_same]
    have f5 : (upd (upd (upd H2 L (.lst [])) Fa (.lst [])) p (.tup [.ref L, .ref Fa])) Fa = some (.lst []) := by rw [upd_ne nFp, upd_same]
    generalize upd (upd (upd H2 L (.lst [])) Fa (.lst [])) p (.tup [.ref L, .ref Fa]) = H5 at s25 l5 f5 ⊢
    have hR5 := hR2.mono s25
    have sx05 := sx02.trans (SX.of s25)
    have nFR : Fa ≠ R := hR2.ne hF2
    have hF0 : H Fa = none := SX.free sx02 nFR hF2
    refine sCons (sForR PassesOwn.never rfl T.n_range (wACons (wVar 2 rfl (wANil ⟨hh, rfl, by omega, fun r σ' H' => ∃ (l : Addr) (acc : List V) (x6 x7 x8 x9 : Option V), σ' = [some (.ref R), some (.int 16), some (.int hh), some (.int ww), some (.ref l), some (.ref Fa), x6, x7, x8, x9] ∧ Same H5 H' ∧ l ≠ Fa ∧ l ≠ R ∧ H' l = some (.lst acc) ∧ ImL H' acc ((gridTo ww r).map cD), ?_, ?_, ?_⟩))))
    · exact ⟨L, [], none, none, none, none, rfl, Same.refl _, nLF, hR2.ne hL, l5, .nil⟩
    · intro r σ' H6 hr1 hP
      obtain ⟨l, acc, x6, x7, x8, x9, rfl, s6, n1, n2, hl, hi⟩ := hP
      refine gNm 6 ?_ scLawShape.nd
      refine sOne (sSet 4 (wBin op_cat (wVar 4 rfl ?_)) scLawShape.nd)
      refine oLc0 rfl scLawShape.nd (blkOk_by (own := [("_law_c", 9)]) (N := ["_law_row", "_law_most", "_law_high", "_law_wide", "_law_left", "_law_found", "_law_r", "_law_cell", "_law_rows", "_law_c"]) (sc := defScope sLawShape) (by decide +kernel)) (lcM0 9 (fun _ v (d : Nat) => v = .int (d : Nat)) (fun H v (d : Cell) => Im H v (cD d)) (fun d : Nat => ((r : Int), (d : Int))) (List.range ww) (fun _ _ _ _ _ => pg_name (i := 9) scLawShape.nd rfl (Or.inl rfl)) (fun _ => rfl) (fun _ _ _ _ _ h => h) (fun _ _ _ _ s h => h.mono s) ?_ (by rw [List.length_range]; omega) ?_ ?_)
      · exact iRn (wACons (wVar 3 rfl (wANil ⟨ww, rfl, by omega, Same.refl _, _, srcR, paired_self⟩))) T.n_range
      · intro v3 d H' s e m K2 k s0 H0 C cl fp
        subst e
        exact VP.run (vpCell (i := (r : Int)) (j := (d : Int)) (vpVar 6 rfl rfl) fun _ _ => vpVar 9 rfl rfl) k
      · intro Dl acc2 H' s n ha hp
        have l1 : acc.length = (gridTo ww r).length := by rw [Paired.length hi, List.length_map]
        have l2 : acc2.length = ww := by rw [Paired.length hp, List.length_map, List.length_range]
        rw [gridTo_len] at l1
        have l3 : r * ww ≤ 4 * 4 := Nat.mul_le_mul (by omega) (by omega)
        refine ⟨l, Dl, acc, acc2, rfl, rfl, s _ _ hl, ha, sz (by omega), fun p hp2 => ⟨p, acc ++ acc2, _, _, _, _, rfl, (s6.trans s).trans (Same.new hp2), ne_of_new ((s6.trans s) _ _ f5) hp2, (hR5.mono (s6.trans s)).ne hp2, upd_same, ?_⟩⟩
        rw [gridTo_succ, List.map_append]
        exact paired_append (hi.mono ((TS.of s).trans (TS.new hp2))) (ImL.mono (TS.new hp2) (paired_map.mpr hp))
    · intro σ' H6 hP
      obtain ⟨l, acc, x6, x7, x8, x9, rfl, s6, n1, n2, hl, hi⟩ := hP
      have f6 := s6 _ _ f5
      have sx06 := sx05.trans (SX.of s6)
      have hR6 := hR5.mono s6
      have lac : acc.length = hh * ww := by rw [Paired.length hi, List.length_map, gridTo_len]
      have l16 : hh * ww ≤ 4 * 4 := Nat.mul_le_mul (by omega) (by omega)
      refine sCons (sForL PassesOwn.never rfl (wVar 4 rfl ⟨l, acc, rfl, sqL hl, fun i σ' H' => ∃ (fvs : List V) (fs : List Cell) (x6 x7 x8 x9 : Option V), σ' = [some (.ref R), some (.int 16), some (.int hh), some (.int ww), some (.ref l), some (.ref Fa), x6, x7, x8, x9] ∧ SX R H H' ∧ Row K H' R a ns ∧ H' l = some (.lst acc) ∧ ImL H' acc ((gridTo ww hh).map cD) ∧ H' Fa = some (.lst fvs) ∧ ImL H' fvs (fs.map cD) ∧ fs.Sublist ((gridTo ww hh).take i), ?_, ?_, ?_, ?_⟩))
      · exact ⟨[], [], x6, x7, x8, x9, rfl, sx06, hR6, hl, hi, f6, .nil, List.nil_sublist _⟩
      · intro i σ' H' _ hP
        obtain ⟨_, _, _, _, _, _, _, _, _, h3, _⟩ := hP
        exact sqL h3
      · intro i y σ' H7 hy hP
        obtain ⟨fvs, fs, y6, y7, y8, y9, rfl, sx7, hR7, l7, hi7, f7, hf7, sub⟩ := hP
        obtain ⟨x, hx, imx⟩ := paired_get (paired_map.mp hi7) hy
        have fsl : fs.length ≤ i := by
          have := sub.length_le
          rw [List.length_take] at this
          omega
        have il : i < acc.length := by
          rcases Nat.lt_or_ge i acc.length with z | z
          · exact z
          · rw [List.getElem?_eq_none z] at hy
            cases hy
        refine gNm 7 ?_ scLawShape.nd
        refine sOne (sIf (tCmp op_gt (wTaken (n := 5) T hr (by omega) (vpVar 0 rfl rfl) (fun _ _ => vpInt) hR7 fun r H8 hr8 sx8 hR8 => wInt ⟨r, 0, rfl, rfl, _, rfl, ?_⟩)))
        have t8 := hR7.ts sx8
        have l8 := sx8 _ _ n2 l7
        have f8 := sx8 _ _ nFR f7
        have sub2 : fs.Sublist ((gridTo ww hh).take (i + 1)) := sub.trans (by rw [take_snoc hx]; exact List.sublist_append_left _ _)
        refine ite2 (fun _ => ?_) (fun _ => sNil ?_)
        · refine sOne (sApp 5 rfl ⟨_, f8⟩ (wVar 7 rfl ⟨fvs, f8, szl (by rw [Paired.length hf7, List.length_map]; omega), ?_⟩))
          have t9 : TS H8 (upd H8 Fa (.lst (fvs ++ [y]))) := TS.lst f8
          refine ⟨fvs ++ [y], fs ++ [x], _, _, _, _, rfl, (sx7.trans sx8).mut hF0, hR.mut (sx7.trans sx8) hR8 hF0, by rw [upd_ne n1]; exact l8, (hi7.mono t8).mono t9, upd_same, ?_, ?_⟩
          · rw [List.map_append]
            exact paired_snoc ((hf7.mono t8).mono t9) ((imx.mono t8).mono t9)
          · rw [take_snoc hx]
            exact sub.append (List.Sublist.refl _)
        · exact ⟨fvs, fs, _, _, _, _, rfl, sx7.trans sx8, hR8, l8, hi7.mono t8, f8, hf7.mono t8, sub2⟩
      · intro σ' H7 hP
        obtain ⟨fvs, fs, y6, y7, y8, y9, rfl, sx7, hR7, l7, hi7, f7, hf7, sub⟩ := hP
        have sub : fs.Sublist (gridTo ww hh) := sub.trans (List.take_sublist _ _)
        have G1 : GridOk hh ww fs := ⟨by omega, by omega, by omega, by omega, (gridTo_asc hh).nodup.sublist sub, fun x hx => sub.subset hx⟩
        have G0 : GridOk hh ww (gridTo ww hh) := ⟨by omega, by omega, by omega, by omega, (gridTo_asc hh).nodup, fun x hx => hx⟩
        refine sMid (fun σ' H' => ∃ (G : Addr) (gvs : List V) (gs : List Cell), σ' = [some (.ref R), some (.int 16), some (.int hh), some (.int ww), some (.ref l), some (.ref G), y6, y7, y8, y9] ∧ SX R H H' ∧ Row K H' R a ns ∧ H' G = some (.lst gvs) ∧ ImL H' gvs (gs.map cD) ∧ GridOk hh ww gs) ?_ ?_
        · refine sSet 5 (wIfE (TV.run (tvLt (i := (fvs.length : Nat)) (j := 3) (vpLen T.n_len (vpVar 5 rfl ⟨Fa, fvs, rfl, .inl (sqL f7), rfl⟩)) fun _ _ => vpInt) fun H8 s8 => ?_)) scLawShape.nd
          refine ite2 (fun _ => wVar 4 rfl ?_) (fun _ => wVar 5 rfl ?_)
          · exact ⟨l, acc, gridTo ww hh, rfl, sx7.trans (SX.of s8), hR7.mono s8, s8 _ _ l7, hi7.mono (TS.of s8), G0⟩
          · exact ⟨Fa, fvs, fs, rfl, sx7.trans (SX.of s8), hR7.mono s8, s8 _ _ f7, hf7.mono (TS.of s8), G1⟩
        · intro σ' H8 hN
          obtain ⟨G, gvs, gs, rfl, sx8, hR8, g8, hg8, GO⟩ := hN
          have lg : gvs.length = gs.length := by rw [Paired.length hg8, List.length_map]
          have few := GO.few
          refine sCons (sWhile PassesOwn.never ⟨fun _ σ' H' => σ' = [some (.ref R), some (.int 16), some (.int hh), some (.int ww), some (.ref l), some (.ref G), y6, y7, y8, y9] ∧ Same H8 H', ⟨0, rfl, Same.refl _⟩, fun m σ' H9 hW => ?_⟩)
          obtain ⟨rfl, s9⟩ := hW
          refine TV.run (tvGt (i := (gvs.length : Nat)) (j := 16) (vpLen T.n_len (vpVar 5 rfl ⟨G, gvs, rfl, .inl (sqL (s9 _ _ g8)), rfl⟩)) fun _ _ => vpVar 1 rfl rfl) fun HA sA => ?_
          rw [decide_eq_false (show ¬ ((gvs.length : Nat) : Int) > 16 by omega)]
          refine iteF ?_
          have s8A := s9.trans sA
          refine sMid (fun σ' H' => ∃ (hh ww : Nat) (G : Addr) (gvs : List V) (gs : List Cell), σ' = [some (.ref R), some (.int 16), some (.int hh), some (.int ww), some (.ref l), some (.ref G), y6, y7, y8, y9] ∧ SX R H H' ∧ Row K H' R a ns ∧ H' G = some (.lst gvs) ∧ ImL H' gvs (gs.map cD) ∧ GridOk hh ww gs ∧ 3 ≤ gs.length) ?_ ?_
          · refine sIf (TV.run (tvLt (i := (gvs.length : Nat)) (j := 3) (vpLen T.n_len (vpVar 5 rfl ⟨G, gvs, rfl, .inl (sqL (s8A _ _ g8)), rfl⟩)) fun _ _ => vpInt) fun HB sB => ?_)
            have s8B := s8A.trans sB
            refine ite2 (fun _ => ?_) (fun hno => sNil ?_)
            · refine sOne (sAsg (wTup (wACons (wInt (wACons (wInt (wACons (wLst (wACons (VP.run (vpCell (i := 0) (j := 0) vpInt fun _ _ => vpInt) fun v1 HC sC h1 => wACons (VP.run (vpCell (i := 0) (j := 1) vpInt fun _ _ => vpInt) fun v2 HD sD h2 => wACons (VP.run (vpCell (i := 0) (j := 2) vpInt fun _ _ => vpInt) fun v3 HE sE h3 => wANil ⟨by show 3 ≤ sizeLine; decide, fun q1 hq1 => wANil ⟨by show 3 ≤ sizeLine; decide, fun q2 hq2 => gT3 rfl ⟨q2, _, _, _, rfl, sqT upd_same, gNm 2 (gNm 3 (gNm 5 ?_ scLawShape.nd) scLawShape.nd) scLawShape.nd⟩⟩⟩))))))))))))
              have sN := ((s8B.trans sC).trans (sD.trans sE)).trans ((Same.new hq1 (o := .lst [v1, v2, v3])).trans (Same.new hq2 (o := .tup [.int 1, .int 3, .ref q1])))
              have tN : TS HE _ := (TS.new hq1 (o := .lst [v1, v2, v3])).trans (TS.new hq2 (o := .tup [.int 1, .int 3, .ref q1]))
              have nq : q1 ≠ q2 := fun z => by rw [← z, upd_same] at hq2; cases hq2
              refine ⟨1, 3, q1, [v1, v2, v3], [(0, 0), (0, 1), (0, 2)], rfl, sx8.trans (SX.of sN), hR8.mono sN, by rw [upd_ne nq, upd_same], .cons ((h1.mono (TS.of (sD.trans sE))).mono tN) (.cons ((h2.mono (TS.of sE)).mono tN) (.cons (h3.mono tN) .nil)), ⟨by omega, by omega, by omega, by omega, by decide, ?_⟩, by decide⟩
              decide
            · exact ⟨hh, ww, G, gvs, gs, rfl, sx8.trans (SX.of s8B), hR8.mono s8B, s8B _ _ g8, hg8.mono (TS.of s8B), GO, by
                have := of_decide_eq_false (by simpa using hno : decide (((gvs.length : Nat) : Int) < 3) = false)
                omega⟩
          · clear hr1 hr2 eh ew lac l16 G1 G0 few lg GO hi7 sub hf7 f7 l7 g8 hg8 hl hi
            intro σ' HB hN
            obtain ⟨hh, ww, G, gvs, gs, rfl, sxB, hRB, gB, hgB, GO, g3⟩ := hN
            have g1 := GO.h1
            have g4 := GO.h4
            have w2 := GO.w2
            have w4 := GO.w4
            have SO := shape_ok GO g3
            generalize eF : shapeF hh ww gs = ff at SO
            have row0 : mkRow (ww + 2) (ff 0) = mkRow (ww + 2) fun _ => 35 := mkRow_congr fun c hc => SO.edge 0 c (by omega) hc (.inl rfl)
            have rowL : mkRow (ww + 2) (ff (hh + 1)) = mkRow (ww + 2) fun _ => 35 := mkRow_congr fun c hc => SO.edge (hh + 1) c (by omega) hc (.inr (.inl rfl))
            refine sCons (sSet 8 (wLst (wACons (VP.run (vpHash (n := ww + 2) (by omega) (by omega) (VP.mono (vpAdd (i := ww) (j := 2) (vpVar 3 rfl rfl) fun _ _ => vpInt) fun v H' s e => by rw [e]; rfl)) fun v1 HC sC e1 => wANil ⟨by show 1 ≤ sizeLine; decide, fun Wa hW => ?_⟩))) scLawShape.nd)
            subst e1
            have sBD : Same HB (upd HC Wa (.lst [.str (mkRow (ww + 2) fun _ => 35)])) := sC.trans (Same.new hW)
            have hWB : HB Wa = none := Same.free sC hW
            refine sCons (sForR PassesOwn.never rfl T.n_range (wACons (wVar 2 rfl (wANil ⟨hh, rfl, by omega, fun r σ' H' => ∃ (x6 x9 : Option V), σ' = [some (.ref R), some (.int 16), some (.int hh), some (.int ww), some (.ref l), some (.ref G), x6, y7, some (.ref Wa), x9] ∧ Same HB H' ∧ H' Wa = some (.lst ((mkRows (r + 1) (ww + 2) ff).map V.str)), ?_, ?_, ?_⟩))))
            · refine ⟨_, _, rfl, sBD, ?_⟩
              rw [upd_same]
              have e0 : mkRows (0 + 1) (ww + 2) ff = [mkRow (ww + 2) fun _ => 35] := by
                rw [mkRows_succ, row0]
                rfl
              rw [e0]
              rfl
            · intro r σ' HD hr1 hP
              obtain ⟨x6, x9, rfl, sD, hWD⟩ := hP
              refine gNm 6 ?_ scLawShape.nd
              have inner : (List.range ww).map (fun (c : Nat) => if isIn ((r : Int), (c : Int)) gs = true then ("-" : Str) else "#") = (List.range ww).map fun c => (⟨#[ff (r + 1) (c + 1)]⟩ : Str) := by
                refine List.map_congr_left fun c hc => ?_
                have hc := List.mem_range.mp hc
                rw [← eF]
                unfold shapeF
                have ec : (((r + 1 : Nat) : Int) - 1, ((c + 1 : Nat) : Int) - 1) = ((r : Int), (c : Int)) := Prod.ext (by show ((r + 1 : Nat) : Int) - 1 = r; omega) (by show ((c + 1 : Nat) : Int) - 1 = c; omega)
                rw [ec]
                by_cases e : isIn ((r : Int), (c : Int)) gs = true
                · rw [if_pos e, if_pos ⟨by omega, by omega, by omega, by omega, e⟩, s1_45]
                · rw [if_neg e, if_neg (fun z => e z.2.2.2.2), s1_35]
              refine sOne (sApp 8 rfl ⟨_, hWD⟩ (VP.run (vpAddS (x := ("#" : Str) ++ Txt.join "" ((List.range ww).map fun c => (⟨#[ff (r + 1) (c + 1)]⟩ : Str))) (y := "#") ?_ (vpAddS (x := "#") (y := Txt.join "" ((List.range ww).map fun c => (⟨#[ff (r + 1) (c + 1)]⟩ : Str))) ?_ vpStr fun HE sE => vpJoin (z := "") (ys := (List.range ww).map fun c => (⟨#[ff (r + 1) (c + 1)]⟩ : Str)) ?_ vpStr fun HG sG => ?_) fun _ _ => vpStr) fun v2 HE sE e2 => ⟨_, sE _ _ hWD, szl (by rw [List.length_map, mkRows_len]; omega), ?_⟩))
              · rw [len_app, joinLen]
                show 1 + ww + 1 ≤ 100000
                omega
              · rw [joinLen]
                show 1 + ww ≤ 100000
                omega
              · have e : ((List.range ww).map fun c => (⟨#[ff (r + 1) (c + 1)]⟩ : Str)).map (·.length) = (List.range ww).map fun _ => 1 := by
                  rw [List.map_map]
                  rfl
                have e0 : ("" : Str).length = 0 := by decide +kernel
                rw [e, e0]
                have : ∀ k : Nat, ((List.range k).map fun _ => 1).sum = k := fun k => by
                  induction k with
                  | zero => rfl
                  | succ k ih =>
                    rw [List.range_succ, List.map_append, List.sum_append, ih]
                    rfl
                rw [this]
                omega
              · refine fun Q' q' => oLc0 rfl scLawShape.nd (blkOk_by (own := [("_law_c", 9)]) (N := ["_law_row", "_law_most", "_law_high", "_law_wide", "_law_left", "_law_found", "_law_r", "_law_cell", "_law_rows", "_law_c"]) (sc := defScope sLawShape) (by decide +kernel)) (lcM0 9 (fun _ v (d : Nat) => v = .int (d : Nat)) (fun _ v (b : Str) => v = .str b) (fun c : Nat => if isIn ((r : Int), (c : Int)) gs = true then ("-" : Str) else "#") (List.range ww) (fun _ _ _ _ _ => pg_name (i := 9) scLawShape.nd rfl (Or.inl rfl)) (fun _ => rfl) (fun _ _ _ _ _ h => h) (fun _ _ _ _ _ h => h) ?_ (by rw [List.length_range]; omega) ?_ ?_)
                · exact iRn (wACons (wVar 3 rfl (wANil ⟨ww, rfl, by omega, Same.refl _, _, srcR, paired_self⟩))) T.n_range
                · intro v3 d H' s e m K2 k s0 H0 C cl fp
                  subst e
                  have sA := (sD.trans (sE.trans sG)).trans s
                  refine wIfE (TV.run (tvInE enc_cell (hu65 hr) (x := ((r : Int), (d : Int))) (cs := gs) (vpCell (vpVar 6 rfl rfl) fun _ _ => vpVar 9 rfl rfl) fun H2 s2 => vpVar 5 rfl ⟨G, gvs, rfl, .inl (sqL ((sA.trans s2) _ _ gB)), hgB.mono (TS.of (sA.trans s2))⟩) fun H2 s2 => ?_)
                  refine ite2 (fun e => wStr (k _ _ s2 (by rw [if_pos e]))) (fun e => wStr (k _ _ s2 (by rw [if_neg e])))
                · intro Dl acc3 H' s n ha hp
                  exact q' _ _ s ⟨Dl, rfl, .inl (sqL (by rw [ha, strs_of hp, inner]))⟩
              · subst e2
                refine ⟨_, _, rfl, Same.mut (sD.trans sE) hWB, ?_⟩
                rw [upd_same, mkRows_succ (h := r + 1), List.map_append]
                have er : ("#" : Str) ++ Txt.join "" ((List.range ww).map fun c => (⟨#[ff (r + 1) (c + 1)]⟩ : Str)) ++ "#" = mkRow (ww + 2) (ff (r + 1)) := mkRow_wrap (SO.edge _ _ (by omega) (by omega) (.inr (.inr (.inl rfl)))) (SO.edge _ _ (by omega) (by omega) (.inr (.inr (.inr rfl)))) rfl
                rw [er]
                rfl
            · intro σ' HD hP
              obtain ⟨x6, x9, rfl, sD, hWD⟩ := hP
              refine sOne (sRet (wCallTy call_tuple_of T.n_tuple (by decide +kernel) (wACons (wBin op_cat (wVar 8 rfl (wLst (wACons (VP.run (vpHash (n := ww + 2) (by omega) (by omega) (VP.mono (vpAdd (i := ww) (j := 2) (vpVar 3 rfl rfl) fun _ _ => vpInt) fun v H' s e => by rw [e]; rfl)) fun v1 HE sE e1 => wANil ⟨by show 1 ≤ sizeLine; decide, fun Za hZ => ⟨Wa, Za, _, _, rfl, rfl, Same.new hZ _ _ (sE _ _ hWD), upd_same, sz (by rw [List.length_map, mkRows_len]; show hh + 1 + 1 ≤ 100000; omega), fun q1 hq1 => wANil ⟨q1, _, rfl, .inl ⟨sqL upd_same, fun q2 hq2 => ?_⟩⟩⟩⟩))))))))
              subst e1
              have sN := ((sD.trans sE).trans (Same.new hZ (o := .lst [.str (mkRow (ww + 2) fun _ => 35)]))).trans ((Same.new hq1 (o := .lst ((mkRows (hh + 1) (ww + 2) ff).map V.str ++ [.str (mkRow (ww + 2) fun _ => 35)]))).trans (Same.new hq2 (o := .tup ((mkRows (hh + 1) (ww + 2) ff).map V.str ++ [.str (mkRow (ww + 2) fun _ => 35)]))))
              refine q _ (hh + 2) (ww + 2) ff _ (sxB.trans (SX.of sN)) (hRB.mono sN) (im_rows.mpr ⟨q2, rfl, ?_⟩) SO
              rw [upd_same, mkRows_succ (h := hh + 1), List.map_append, rowL]
              rfl
end CR
namespace CR
open PySem PySem.Spec PyProof.Rows L2
theorem tl_oCM : ("oCM" : Str).cps.toList = [111, 67, 77] := by decide +kernel
theorem tl_cC : ("cC" : Str).cps.toList = [99, 67] := by decide +kernel
theorem tl_mM : ("mM" : Str).cps.toList = [109, 77] := by decide +kernel
theorem tl_floor : ("-ocCmM" : Str).cps.toList = [45, 111, 99, 67, 109, 77] := by decide +kernel
theorem tl_all : ("#-ocCmM" : Str).cps.toList = [35, 45, 111, 99, 67, 109, 77] := by decide +kernel
theorem len_same {L M : List Cell} (h1 : L.Nodup) (h2 : M.Nodup) (h : ∀ x, x ∈ L ↔ x ∈ M) : L.length = M.length := Nat.le_antisymm (len_sub h1 fun x hx => (h x).mp hx) (len_sub h2 fun x hx => (h x).mpr hx)
def endF (f : Nat → Nat → Nat) (E : List Cell) (r c : Nat) : Nat := if isIn ((r : Int), (c : Int)) E = true then 111 else f r c
abbrev areaOf (h n : Nat) (f : Nat → Nat → Nat) : List Cell := cellsOf (mkRows h n f) "-"
theorem area_mem {h n : Nat} {f : Nat → Nat → Nat} (h0 : 0 < h) {x : Cell} : x ∈ areaOf h n f ↔ ∃ r c : Nat, r < h ∧ c < n ∧ f r c = 45 ∧ x = ((r : Int), (c : Int)) := by
  unfold areaOf
  rw [cells_mem, mkRows_len, mkRows_wid h0]
  constructor
  · rintro ⟨r, c, hr, hc, hs, e⟩
    rw [mkRows_sgn hr hc, sign_dash] at hs
    exact ⟨r, c, hr, hc, hs, e⟩
  · rintro ⟨r, c, hr, hc, hs, e⟩
    exact ⟨r, c, hr, hc, by rw [mkRows_sgn hr hc, sign_dash]; exact hs, e⟩
theorem area_at {h n : Nat} {f : Nat → Nat → Nat} (h0 : 0 < h) {r c : Nat} (hr : r < h) (hc : c < n) : ((r : Int), (c : Int)) ∈ areaOf h n f ↔ f r c = 45 := by
  rw [area_mem h0]
  constructor
  · rintro ⟨r', c', _, _, e, e2⟩
    have e3 : (r : Int) = (r' : Int) := congrArg Prod.fst e2
    have e4 : (c : Int) = (c' : Int) := congrArg Prod.snd e2
    have e5 : r = r' := by omega
    have e6 : c = c' := by omega
    rw [e5, e6]
    exact e
  · intro e
    exact ⟨r, c, hr, hc, e, rfl⟩
/-- the signs of what is shown -/
theorem shown_sign {h n : Nat} {f : Nat → Nat → Nat} {E S : List Cell} {m : Cell} (SO : ShapeOk h n f) (hE : ∀ x ∈ E, x ∈ areaOf h n f) (hS : ∀ x ∈ S, x ∈ areaOf h n f) (m2 : m ∉ S) {r c : Nat} (hr : r < h) (hc : c < n) :
    (f r c = 35 ∧ shF (endF f E) S m r c = 35 ∧ ((r : Int), (c : Int)) ∉ areaOf h n f) ∨
    (((r : Int), (c : Int)) ∈ areaOf h n f ∧ shF (endF f E) S m r c ∈ [45, 111, 99, 67, 109, 77] ∧ (shF (endF f E) S m r c ∈ [99, 67] ↔ ((r : Int), (c : Int)) ∈ S) ∧ (shF (endF f E) S m r c ∈ [109, 77] ↔ ((r : Int), (c : Int)) = m) ∧ (shF (endF f E) S m r c ∈ [111, 67, 77] ↔ ((r : Int), (c : Int)) ∈ E)) := by
  have h0 : 0 < h := by
    have := SO.h3
    omega
  have ha := area_at (f := f) h0 hr hc
  rcases SO.val r c with v | v
  · refine .inr ⟨ha.mpr v, ?_⟩
    have e35 : endF f E r c ≠ 35 := by
      unfold endF
      by_cases q : isIn ((r : Int), (c : Int)) E = true
      · rw [if_pos q]
        decide
      · rw [if_neg q, v]
        decide
    have eE : isEnd (endF f E r c) = isIn ((r : Int), (c : Int)) E := by
      unfold endF
      by_cases q : isIn ((r : Int), (c : Int)) E = true
      · rw [if_pos q, q]
        decide +kernel
      · rw [if_neg q, v]
        have : isIn ((r : Int), (c : Int)) E = false := by simpa using q
        rw [this]
        decide +kernel
    unfold shF
    rw [if_neg e35, eE]
    by_cases q1 : ((r : Int), (c : Int)) = m
    · have q2 : ((r : Int), (c : Int)) ∉ S := by rw [q1]; exact m2
      rw [if_pos q1]
      by_cases q3 : ((r : Int), (c : Int)) ∈ E
      · rw [isIn_yes q3]
        exact ⟨by decide, ⟨fun z => absurd z (by decide), fun z => absurd z q2⟩, ⟨fun _ => q1, fun _ => by decide⟩, ⟨fun _ => q3, fun _ => by decide⟩⟩
      · rw [isIn_no q3]
        exact ⟨by decide, ⟨fun z => absurd z (by decide), fun z => absurd z q2⟩, ⟨fun _ => q1, fun _ => by decide⟩, ⟨fun z => absurd z (by decide), fun z => absurd z q3⟩⟩
    · rw [if_neg q1]
      by_cases q2 : ((r : Int), (c : Int)) ∈ S
      · rw [isIn_yes q2, if_pos rfl]
        by_cases q3 : ((r : Int), (c : Int)) ∈ E
        · rw [isIn_yes q3]
          exact ⟨by decide, ⟨fun _ => q2, fun _ => by decide⟩, ⟨fun z => absurd z (by decide), fun z => absurd z q1⟩, ⟨fun _ => q3, fun _ => by decide⟩⟩
        · rw [isIn_no q3]
          exact ⟨by decide, ⟨fun _ => q2, fun _ => by decide⟩, ⟨fun z => absurd z (by decide), fun z => absurd z q1⟩, ⟨fun z => absurd z (by decide), fun z => absurd z q3⟩⟩
      · rw [isIn_no q2, if_neg (by decide)]
        by_cases q3 : ((r : Int), (c : Int)) ∈ E
        · rw [isIn_yes q3]
          exact ⟨by decide, ⟨fun z => absurd z (by decide), fun z => absurd z q2⟩, ⟨fun z => absurd z (by decide), fun z => absurd z q1⟩, ⟨fun _ => q3, fun _ => by decide⟩⟩
        · rw [isIn_no q3]
          exact ⟨by decide, ⟨fun z => absurd z (by decide), fun z => absurd z q2⟩, ⟨fun z => absurd z (by decide), fun z => absurd z q1⟩, ⟨fun z => absurd z (by decide), fun z => absurd z q3⟩⟩
  · have nA : ((r : Int), (c : Int)) ∉ areaOf h n f := fun z => by
      have := ha.mp z
      rw [v] at this
      cases this
    refine .inl ⟨v, ?_, nA⟩
    have e35 : endF f E r c = 35 := by
      unfold endF
      rw [if_neg fun q => nA (hE _ (isIn_iff.mp q)), v]
    unfold shF
    rw [if_pos e35]
theorem room_ok {h n k : Nat} {f : Nat → Nat → Nat} {E S : List Cell} {m : Cell} (SO : ShapeOk h n f) (nE : E.Nodup) (nS : S.Nodup) (lE : E.length = k) (lS : S.length = k) (k1 : 1 ≤ k) (k4 : k ≤ 4) (hE : ∀ x ∈ E, x ∈ areaOf h n f) (hS : ∀ x ∈ S, x ∈ areaOf h n f) (m1 : m ∈ areaOf h n f) (m2 : m ∉ S) : RoomOk (mkRows h n (shF (endF f E) S m)) := by
  have h3 := SO.h3
  have h6 := SO.h6
  have n4 := SO.n4
  have n6 := SO.n6
  have h0 : 0 < h := by omega
  have sh := fun {r c : Nat} (hr : r < h) (hc : c < n) => shown_sign SO hE hS m2 hr hc
  have cm : ∀ (sg : Str) (L : List Cell), L.Nodup → (∀ x ∈ L, x ∈ areaOf h n f) → (∀ r c, r < h → c < n → (shF (endF f E) S m r c ∈ sg.cps.toList ↔ ((r : Int), (c : Int)) ∈ L)) → (cellsOf (mkRows h n (shF (endF f E) S m)) sg).length = L.length := by
    intro sg L nL hL hk
    refine len_same (cells_asc _ _).nodup nL fun x => ?_
    rw [cells_mem, mkRows_len, mkRows_wid h0]
    constructor
    · rintro ⟨r, c, hr, hc, hs, e⟩
      rw [mkRows_sgn hr hc, hk r c hr hc] at hs
      rw [e]
      exact hs
    · intro hx
      obtain ⟨r, c, hr, hc, _, e⟩ := (area_mem h0).mp (hL x hx)
      refine ⟨r, c, hr, hc, ?_, e⟩
      rw [mkRows_sgn hr hc, hk r c hr hc, ← e]
      exact hx
  have cC := cm "cC" S nS hS fun r c hr hc => by
    rw [tl_cC]
    rcases sh hr hc with ⟨_, e, q⟩ | ⟨_, _, e, _⟩
    · rw [e]
      exact ⟨fun z => absurd z (by decide), fun z => absurd (hS _ z) q⟩
    · exact e
  have mM := cm "mM" [m] (by simp) (fun x hx => by rw [List.mem_singleton.mp hx]; exact m1) fun r c hr hc => by
    rw [tl_mM, List.mem_singleton]
    rcases sh hr hc with ⟨_, e, q⟩ | ⟨_, _, _, e, _⟩
    · rw [e]
      exact ⟨fun z => absurd z (by decide), fun z => absurd (z ▸ m1) q⟩
    · exact e
  have oC := cm "oCM" E nE hE fun r c hr hc => by
    rw [tl_oCM]
    rcases sh hr hc with ⟨_, e, q⟩ | ⟨_, _, _, _, e⟩
    · rw [e]
      exact ⟨fun z => absurd z (by decide), fun z => absurd (hE _ z) q⟩
    · exact e
  have fl := cm "-ocCmM" (areaOf h n f) (cells_asc _ _).nodup (fun x hx => hx) fun r c hr hc => by
    rw [tl_floor]
    rcases sh hr hc with ⟨_, e, q⟩ | ⟨q, e, _⟩
    · rw [e]
      exact ⟨fun z => absurd z (by decide), fun z => absurd z q⟩
    · exact ⟨fun _ => q, fun _ => e⟩
  refine ⟨mkRows_rect h0 (by omega) (by omega), by rw [mkRows_len]; exact h3, by rw [mkRows_len]; omega, by rw [mkRows_wid h0]; omega, by rw [mkRows_wid h0]; omega, fun r c hr hc => ?_, fun r c hr hc he => ?_, by rw [mM]; rfl, by rw [cC]; omega, by rw [cC]; omega, by rw [oC, cC]; omega, by rw [fl]; exact SO.hi⟩
  · rw [mkRows_len] at hr
    rw [mkRows_wid h0] at hc
    rw [mkRows_sgn hr hc, tl_all]
    rcases sh hr hc with ⟨_, e, q⟩ | ⟨q, e, _⟩
    · rw [e]
      decide
    · exact List.mem_cons_of_mem _ e
  · rw [mkRows_len] at hr he
    rw [mkRows_wid h0] at hc he
    rw [mkRows_sgn hr hc]
    have z := SO.edge r c hr hc he
    rcases sh hr hc with ⟨_, e, q⟩ | ⟨q, _⟩
    · exact e
    · rw [area_at h0 hr hc, z] at q
      cases q
section
variable {X : Cx} {σ : L2.St} {H : Hp} {a b c d e : Expr} {pos p : Pos}
theorem vpMin2 {i j : Int} (hc : X.calm = true) (hm : X.mg "min" = none) (ha : VP X a σ H fun v _ => v = .int i) (hb : ∀ H', Same H H' → VP X b σ H' fun v _ => v = .int j) (hg : Gl X "min" := by rfl) (he : starEach (a :: [b]) X.env = (false, eval a X.env) :: starEach [b] X.env := by rfl) (he2 : starEach (b :: []) X.env = (false, eval b X.env) :: starEach [] X.env := by rfl) (hpl : (backTo pos (starEach [b] X.env)).any (·.1) = false := by rfl) :
    VP X (.Call (.Name "min" p) [a, b] [] pos) σ H (fun v _ => v = .int (if j < i then j else i)) := fun Q q => wCallB (call_min2 hc) hm (by decide +kernel) (wACons (ha _ fun v H1 s1 e1 => wACons (hb H1 s1 _ fun u H2 s2 e2 => by
  subst e1 e2
  exact wANil ⟨i, j, rfl, q _ H2 (s1.trans s2) rfl⟩) he2) he) hg (he := he) (hpl := hpl)
end
end CR
namespace CR
open PySem PySem.Spec PyProof.Rows L2
theorem LsR.row {α : Type} {K : PySem.W.Frag} {R : Addr} {H : Hp} {enc : α → PyData} {v : V} {cs : List α} (h : LsR K R H enc v cs) : RowE K H enc v cs := h.ls.row
theorem frL_ne {area S : List Cell} (nA : area.Nodup) (h : S.length < area.length) : 1 ≤ (frL area S).length := by
  rcases Nat.eq_zero_or_pos (frL area S).length with z | z
  · have e : frL area S = [] := List.length_eq_zero_iff.mp z
    have := len_sub nA (M := S) fun x hx => Classical.byContradiction fun q => by
      have m := frL_mem.mpr ⟨hx, q⟩
      rw [e] at m
      cases m
    omega
  · exact z
def enc2 (st : Stand) : PyData := .tuple [.list (st.1.map cD), cD st.2]
theorem enc2_lay (st : Stand) : (enc2 st).canLay0 = true := by
  have h1 := enc_cell.layAll st.1
  have h2 := enc_cell.lay st.2
  simp only [enc2, PyData.canLay0, PyData.canLayAll0, h1]
  simpa using h2
theorem enc2_dep (st : Stand) : (enc2 st).depth ≤ 62 := by
  have h1 := enc_cell.depAll st.1
  have h2 := enc_cell.dep st.2
  simp only [enc2, PyData.depth, PyData.depthAll]
  omega
theorem enc2_layAll : ∀ l : List Stand, PyData.canLayAll0 (l.map enc2) = true
  | [] => by simp [PyData.canLayAll0]
  | a :: l => by simp [PyData.canLayAll0, enc2_lay a, enc2_layAll l]
theorem enc2_depAll : ∀ l : List Stand, PyData.depthAll (l.map enc2) ≤ 62
  | [] => by simp [PyData.depthAll]
  | a :: l => by
    have h1 := enc2_dep a
    have h2 := enc2_depAll l
    simp only [List.map_cons, PyData.depthAll]
    omega
theorem pe2_dp {K : PySem.W.Frag} {H0 H : Hp} {F : Addr} : ∀ {vs : List V} {bs : List Stand}, Paired (PE2 K H0 F H) vs bs → DpAll K H vs (bs.map enc2)
  | _, _, .nil => .nil
  | _, _, .cons a t => by
    obtain ⟨t', l, y, ys, e, _, h1, _, _, h3, h4, h5⟩ := a
    subst e
    exact .cons (.tup (sqT h1) (.cons (.lst h3 (imAll_dp _ _ h4)) (.cons (Im.dp _ _ h5) .nil))) (pe2_dp t)
theorem pe2_nil {K : PySem.W.Frag} {H0 H : Hp} {F p : Addr} {vs : List V} {bs : List Stand} (h : H p = some (.lst vs)) (hs : Paired (PE2 K H0 F H) vs bs) : NilK K H (.ref p) bs.isEmpty := by
  refine ⟨p, vs, bs.map enc2, rfl, sqL h, pe2_dp hs, ?_, by cases bs <;> rfl⟩
  have hd := enc2_depAll bs
  show (PyData.canLay0 (.list (bs.map enc2)) && decide (PyData.depth (.list (bs.map enc2)) ≤ 64)) = true
  rw [Bool.and_eq_true]
  refine ⟨?_, decide_eq_true ?_⟩
  · simp only [PyData.canLay0]
    exact enc2_layAll bs
  · simp only [PyData.depth]
    omega
theorem pull_area {area cs : List Cell} {m : Cell} {p : Push} (h : p ∈ pairsL (pullB area cs m) cs) (inA : ∀ c ∈ cs, c ∈ area) : ∀ x ∈ mvL cs p.1 (go p.1 p.2 1), x ∈ area := by
  intro x hx
  obtain ⟨_, h2⟩ := pairsL_mem.mp h
  unfold pullB at h2
  obtain ⟨h3, _⟩ := Bool.and_eq_true_iff.mp h2
  rcases mvL_mem hx with z | z
  · rw [z]
    exact (frL_mem.mp (reachL_sub (isIn_iff.mp h3))).1
  · exact inA _ z.1
variable {P : Program} {w : World} {K : PySem.W.Frag} {mg : Str → Option Value} {base : Heap}
def spRoom (K : PySem.W.Frag) : Sp := fun vs H Q _ => ∃ (R a : Addr) (ns : List Int), vs = [.ref R, .int 16, .int 4] ∧ Row K H R a ns ∧ ∀ v rows H', SX R H H' → Row K H' R a ns → Im H' v (rwD rows) → RoomOk rows → Q v H'
theorem scLawRoom : FnScope ["_law_row", "_law_most", "_law_crates", "_law_shape_here", "_law_area", "_law_many", "_law_ends", "_law_rows", "_law_r", "_law_is_pulled", "_law_some_here", "_law_mover", "_law_turn", "_law_can", "_law_c", "_law_cell"] ["_law_row", "_law_most", "_law_crates"] (defScope sLawRoom) := ⟨rfl, rfl, rfl, by decide +kernel, rfl, by decide +kernel, by decide +kernel⟩
theorem ok_law_room (T : Facts K w mg) : Fn P w K mg base CX0 "_law_room" 5 [] (spRoom K) := by
  have F1 : Fn P w K mg base CX0 "_law_shape" 2 [] (spShape K) := ok_law_shape T
  have F2 : Fn P w K mg base CX0 "_law_cells" 1 [] (spLCells K) := ok_law_cells T
  have F3 : Fn P w K mg base CX0 "_law_some" 2 [] (spSome K) := ok_law_some T
  have F4 : Fn P w K mg base CX0 "_law_pick" 2 [] (spPick K) := ok_law_pick T
  have F5 : Fn P w K mg base CX0 "_law_pulls" 3 [] (spLPulls K) := ok_law_pulls T
  have F6 : Fn P w K mg base CX0 "_law_shown" 1 [] (spShown K) := ok_law_shown T
  refine fn_mk T.d_law_room fun f fd F => F.ok scLawRoom (fun vs H Q E h => ?_) (fun cdv A outer s H vs Q E hr h => ⟨_, pSs, ?_⟩)
  · obtain ⟨R, a, ns, rfl, hR, q⟩ := h
    rfl
  · obtain ⟨R, a, ns, rfl, hR, q⟩ := h
    refine sCons (sSet 3 (wCall F1 hr (wACons (wVar 0 rfl (wACons (wVar 1 rfl (wANil ⟨R, a, ns, rfl, hR, fun sv h n f H1 sx1 hR1 hsv SO => ?_⟩)))))) scLawRoom.nd)
    have h3 := SO.h3
    have h6 := SO.h6
    have n4 := SO.n4
    have n6 := SO.n6
    have h0 : 0 < h := by omega
    have Rt : Rect (mkRows h n f) := mkRows_rect h0 (by omega) (by omega)
    have lo : 3 ≤ (areaOf h n f).length := SO.lo
    have hi : (areaOf h n f).length ≤ 16 := SO.hi
    have aA : Asc (areaOf h n f) := cells_asc _ _
    refine sCons (sSet 4 (wCall F2 hr (wACons (wVar 3 rfl (wACons (wStr (wANil ⟨sv, mkRows h n f, "-", rfl, hsv, Rt, fun la las H2 s2 hla0 hla hlai => ?_⟩)))))) scLawRoom.nd)
    have hR2 := hR1.mono s2
    have sx2 := sx1.trans (SX.of s2)
    have hsv2 := hsv.mono (TS.of s2)
    have hA2 : LsR K R H2 cD (.ref la) (areaOf h n f) := ⟨la, las, rfl, hR1.ne hla0, hla, hlai⟩
    obtain ⟨n0, en0⟩ : ∃ n0 : Nat, n0 = if (areaOf h n f).length - 1 < 4 then (areaOf h n f).length - 1 else 4 := ⟨_, rfl⟩
    have n0a : 1 ≤ n0 ∧ n0 ≤ 4 ∧ n0 + 1 ≤ (areaOf h n f).length := by
      rw [en0]
      split <;> omega
    refine sCons (sSet 5 (wBin op_add (wInt (wTaken (n := n0) T hr (by omega) (vpVar 0 rfl rfl) (fun H3 s3 => VP.mono (vpMin2 (i := 4) (j := ((areaOf h n f).length : Nat) - 1) rfl T.n_min (vpVar 2 rfl rfl) fun H4 s4 => vpSub (i := ((areaOf h n f).length : Nat)) (j := 1) (vpLen T.n_len (vpVar 4 rfl (hA2.same (s3.trans s4)).ls.sqn)) fun _ _ => vpInt) fun v H' s e => by
      rw [e, en0]
      congr 1
      split <;> split <;> omega) hR2 fun r H3 hr3 sx3 hR3 => ⟨1, r, rfl, rfl, ?_⟩))) scLawRoom.nd)
    have ek : (1 : Int) + (r : Nat) = ((1 + r : Nat) : Int) := by omega
    refine (?_ : wSs _ _ _ (List.set _ 5 (some (.int ((1 : Int) + (r : Nat))))) _)
    rw [ek]
    obtain ⟨k, ekk⟩ : ∃ k : Nat, k = 1 + r := ⟨_, rfl⟩
    rw [← ekk]
    have k1 : 1 ≤ k := by omega
    have k4 : k ≤ 4 := by omega
    have kA : k + 1 ≤ (areaOf h n f).length := by omega
    have t3 := hR2.ts sx3
    have hA3 := hA2.mono sx3 t3
    have sxH3 := sx2.trans sx3
    have hsv3 := hsv2.mono t3
    refine sCons (sSet 6 (wCall F3 hr (wACons (wVar 0 rfl (wACons (wVar 4 rfl (wACons (wVar 5 rfl (wANil ⟨R, .ref la, areaOf h n f, k, a, ns, rfl, hA3.row, aA.nodup, by omega, by omega, hR3, fun ev E H4 sx4 hR4 hE4 aE lE inE => ?_⟩)))))))) scLawRoom.nd)
    have t4 := hR3.ts sx4
    have hA4 := hA3.mono sx4 t4
    have sxH4 := sxH3.trans sx4
    have hsv4 := hsv3.mono t4
    refine sCons (sSet 7 (wLst (wANil ⟨Nat.zero_le _, fun Wa hW => ?_⟩)) scLawRoom.nd)
    have s45 : Same H4 (upd H4 Wa (.lst [])) := Same.new hW
    refine sCons (sForR PassesOwn.never rfl T.n_range (wACons (VP.run (vpLen T.n_len (vpVar 3 rfl (rows_n (hsv4.mono (TS.of s45))))) fun vv H5 s5 e5 => wANil ⟨h, by rw [e5, mkRows_len], by omega, fun r σ' H' => ∃ (x8 x9 x10 x11 x12 x13 x14 x15 : Option V), σ' = [some (.ref R), some (.int 16), some (.int 4), some sv, some (.ref la), some (.int (k : Nat)), some ev, some (.ref Wa), x8, x9, x10, x11, x12, x13, x14, x15] ∧ Same H4 H' ∧ H' Wa = some (.lst ((mkRows r n (endF f E)).map V.str)), ?_, ?_, ?_⟩)))
    · exact ⟨_, _, _, _, _, _, _, _, rfl, s45.trans s5, s5 _ _ upd_same⟩
    · intro r σ' H6 hr1 hP
      obtain ⟨x8, x9, x10, x11, x12, x13, x14, x15, rfl, s6, hW6⟩ := hP
      refine gNm 8 ?_ scLawRoom.nd
      have ej : (List.range n).map (fun (c : Nat) => if isIn ((r : Int), (c : Int)) E = true then ("o" : Str) else (⟨#[f r c]⟩ : Str)) = (List.range n).map fun c => (⟨#[endF f E r c]⟩ : Str) := by
        refine List.map_congr_left fun c _ => ?_
        unfold endF
        by_cases e : isIn ((r : Int), (c : Int)) E = true
        · rw [if_pos e, if_pos e, s1_111]
        · rw [if_neg e, if_neg e]
      have ejoin : Txt.join "" ((List.range n).map fun c => (⟨#[endF f E r c]⟩ : Str)) = mkRow n (endF f E r) := by
        refine str_ext ?_
        rw [tl_join0, mkRow_tl, List.map_map]
        generalize List.range n = l
        induction l with
        | nil => rfl
        | cons a l ih =>
          rw [List.map_cons, List.flatten_cons, ih]
          rfl
      refine sOne (sApp 7 rfl ⟨_, hW6⟩ (VP.run (vpJoin (z := "") (ys := (List.range n).map fun c => (⟨#[endF f E r c]⟩ : Str)) ?_ vpStr fun HE sE => ?_) fun v7 H7 s7 e7 => ⟨_, s7 _ _ hW6, szl (by rw [List.length_map, mkRows_len]; omega), ?_⟩))
      · have e : ((List.range n).map fun c => (⟨#[endF f E r c]⟩ : Str)).map (·.length) = (List.range n).map fun _ => 1 := by
          rw [List.map_map]
          rfl
        have e0 : ("" : Str).length = 0 := by decide +kernel
        rw [e, e0]
        have : ∀ k : Nat, ((List.range k).map fun _ => 1).sum = k := fun k => by
          induction k with
          | zero => rfl
          | succ k ih =>
            rw [List.range_succ, List.map_append, List.sum_append, ih]
            rfl
        rw [this]
        omega
      · refine fun Q' q' => oLc0 rfl scLawRoom.nd (blkOk_by (own := [("_law_c", 14)]) (N := ["_law_row", "_law_most", "_law_crates", "_law_shape_here", "_law_area", "_law_many", "_law_ends", "_law_rows", "_law_r", "_law_is_pulled", "_law_some_here", "_law_mover", "_law_turn", "_law_can", "_law_c", "_law_cell"]) (sc := defScope sLawRoom) (by decide +kernel)) (lcM0 14 (fun _ v (d : Nat) => v = .int (d : Nat)) (fun _ v (b : Str) => v = .str b) (fun c : Nat => if isIn ((r : Int), (c : Int)) E = true then ("o" : Str) else (⟨#[f r c]⟩ : Str)) (List.range n) (fun _ _ _ _ _ => pg_name (i := 14) scLawRoom.nd rfl (Or.inl rfl)) (fun _ => rfl) (fun _ _ _ _ _ h => h) (fun _ _ _ _ _ h => h) ?_ (by rw [List.length_range]; omega) ?_ ?_)
        · exact iRn (wACons (VP.run (vpWid T.n_len Rt (vpVar 3 rfl (hsv4.mono (TS.of (s6.trans sE))))) fun v3 H7 s7 e3 => wANil ⟨n, by rw [e3, mkRows_wid h0], by omega, s7, _, srcR, paired_self⟩)) T.n_range
        · intro v3 d H' s e m K2 k s0 H0 C cl fp
          subst e
          have hd := List.mem_range.mp m
          have sA := (s6.trans sE).trans s
          refine wIfE (TV.run (tvInE enc_cell (hu65 hr) (x := ((r : Int), (d : Int))) (cs := E) (vpCell (vpVar 8 rfl rfl) fun _ _ => vpVar 14 rfl rfl) fun H2 s2 => vpVar 6 rfl (hE4.same (sA.trans s2)).row) fun H2 s2 => ?_)
          refine ite2 (fun e => wStr (k _ _ s2 (by rw [if_pos e]))) (fun e => VP.run (vpSign Rt (by rw [mkRows_len]; exact hr1) (by rw [mkRows_wid h0]; exact hd) (vpVar 3 rfl (hsv4.mono (TS.of (sA.trans s2)))) (fun _ _ => vpVar 8 rfl rfl) fun _ _ => vpVar 14 rfl rfl) fun v4 H3 s3 e4 => k _ _ (s2.trans s3) (by rw [if_neg e, e4, mkRows_sgn hr1 hd]))
        · intro Dl acc3 H' s n2 ha hp
          exact q' _ _ s ⟨Dl, rfl, .inl (sqL (by rw [ha, strs_of hp, ej]))⟩
      · subst e7
        refine ⟨_, _, _, _, _, _, _, _, rfl, Same.mut (s6.trans s7) hW, ?_⟩
        rw [upd_same, mkRows_succ, List.map_append, ejoin]
        rfl
    · intro σ' H6 hP
      obtain ⟨x8, x9, x10, x11, x12, x13, x14, x15, rfl, s6, hW6⟩ := hP
      have hR6 := hR4.mono s6
      have sxH6 := sxH4.trans (SX.of s6)
      have nW : Wa ≠ R := hR4.ne hW
      have hA6 := hA4.same s6
      have hE6 := hE4.same s6
      refine sCons (sSet 9 (wCmp op_eq (wTaken (n := 2) T hr (by omega) (vpVar 0 rfl rfl) (fun _ _ => vpInt) hR6 fun r H7 hr7 sx7 hR7 => wInt ⟨rfl, ?_⟩)) scLawRoom.nd)
      generalize decide (V.int (r : Nat) = .int 0) = kp
      have t7 := hR6.ts sx7
      have hA7 := hA6.mono sx7 t7
      have hE7 := hE6.mono sx7 t7
      have hW7 := sx7 _ _ nW hW6
      have sxH7 := sxH6.trans sx7
      refine sMid (fun σ' H' => ∃ (zv : V) (S : List Cell), σ' = [some (.ref R), some (.int 16), some (.int 4), some sv, some (.ref la), some (.int (k : Nat)), some ev, some (.ref Wa), x8, some (.bl kp), some zv, x11, x12, x13, x14, x15] ∧ SX R H H' ∧ Row K H' R a ns ∧ LsR K R H' cD (.ref la) (areaOf h n f) ∧ H' Wa = some (.lst ((mkRows h n (endF f E)).map V.str)) ∧ LsR K R H' cD zv S ∧ S.Nodup ∧ S.length = k ∧ ∀ x ∈ S, x ∈ areaOf h n f) ?_ ?_
      · refine sSet 10 (wIfE (TV.run (tvVal (k := kp) (vpVar 9 rfl rfl)) fun H8 s8 => ?_)) scLawRoom.nd
        refine ite2 (fun _ => ?_) (fun _ => ?_)
        · refine wListOf (cs := E) T.n_list (vpVar 6 rfl (hE7.same s8).row) fun p ys H9 s9 hp hy => ?_
          have sN := (s8.trans s9).trans (Same.new (o := .lst ys) hp)
          exact ⟨.ref p, E, rfl, sxH7.trans (SX.of sN), hR7.mono sN, hA7.same sN, sN _ _ hW7, ⟨p, ys, rfl, (hR7.mono (s8.trans s9)).ne hp, sqL upd_same, hy.mono (TS.new hp)⟩, aE.nodup, lE, inE⟩
        · refine wCall F3 hr (wACons (wVar 0 rfl (wACons (wVar 4 rfl (wACons (wVar 5 rfl (wANil ⟨R, .ref la, areaOf h n f, k, a, ns, rfl, (hA7.same s8).row, aA.nodup, by omega, by omega, hR7.mono s8, fun zv S H9 sx9 hR9 hS9 aS lS inS => ?_⟩)))))))
          have t9 := (hR7.mono s8).ts sx9
          exact ⟨zv, S, rfl, sxH7.trans ((SX.of s8).trans sx9), hR9, (hA7.same s8).mono sx9 t9, sx9 _ _ nW (s8 _ _ hW7), hS9, aS.nodup, lS, inS⟩
      · intro σ' H8 hN
        obtain ⟨zv, S, rfl, sxH8, hR8, hA8, hW8, hS8, nS, lS, inS⟩ := hN
        refine sCons (sSet 11 (wCall F4 hr (wACons (wVar 0 rfl (wACons ?_)))) scLawRoom.nd)
        refine oLc1 rfl scLawRoom.nd (blkOk_by (own := [("_law_cell", 15)]) (N := ["_law_row", "_law_most", "_law_crates", "_law_shape_here", "_law_area", "_law_many", "_law_ends", "_law_rows", "_law_r", "_law_is_pulled", "_law_some_here", "_law_mover", "_law_turn", "_law_can", "_law_c", "_law_cell"]) (sc := defScope sLawRoom) (by decide +kernel)) (lcM1 15 (fun H v (d : Cell) => Im H v (cD d)) (fun H v (d : Cell) => Im H v (cD d)) (fun c => !isIn c S) (fun c => c) (areaOf h n f) (fun _ _ _ _ _ => pg_name (i := 15) scLawRoom.nd rfl (Or.inl rfl)) (fun _ => rfl) (fun _ _ _ _ s h => h.mono (TS.of s)) (fun _ _ _ _ s h => h.mono s) ?_ (by omega) ?_ ?_ ?_)
        · obtain ⟨l, ys, e, _, hl, hy⟩ := hA8
          exact iL (wVar 4 rfl ⟨l, e, ⟨_, hl⟩, Same.refl _, _, srcL hl, paired_map.mp hy⟩)
        · intro v2 d H' s e m K2 k s0 H0 C cl fp
          exact TV.run (tvNotInE enc_cell (hu65 hr) (x := d) (cs := S) (vpVar 15 rfl e) fun H2 s2 => vpVar 10 rfl (hS8.same (s.trans s2)).row) k
        · intro v2 d H' s e m _ K2 k s0 H0 C cl fp
          exact VP.run (vpVar 15 rfl e) fun z H3 s3 h => k z H3 s3 h
        · intro Dl acc H9 s9 n9 ha hp
          rw [List.map_id'] at hp
          have hp : Paired (fun v (c : Cell) => Im H9 v (cD c)) acc (frL (areaOf h n f) S) := hp
          have lacc : acc.length = (frL (areaOf h n f) S).length := Paired.length hp
          have fne := frL_ne (S := S) aA.nodup (by omega)
          have fle := frL_len (area := areaOf h n f) (cs := S)
          refine wANil ⟨R, Dl, a, ns, acc, rfl, hR8.ne n9, sqL ha, by omega, by omega, hR8.mono s9, fun i y HA hy sxA hRA => ?_⟩
          obtain ⟨m, hm, imm⟩ := paired_get hp hy
          have mm := frL_mem.mp (List.mem_of_getElem? hm)
          have tA := (hR8.mono s9).ts sxA
          have immA := imm.mono tA
          have hAA := (hA8.same s9).mono sxA tA
          have hSA := (hS8.same s9).mono sxA tA
          have hWA := sxA _ _ nW (s9 _ _ hW8)
          have sxHA := sxH8.trans ((SX.of s9).trans sxA)
          refine sCons (sForR PassesOwn.never rfl T.n_range (wACons (wE_mono (Q := fun v HB => ∃ nt : Nat, v = .int nt ∧ nt < 1000000 ∧ SX R HA HB ∧ Row K HB R a ns) (wIfE (TV.run (tvVal (k := kp) (vpVar 9 rfl rfl)) fun HB sB => ite2 (fun _ => wTaken (n := 14) T hr (by omega) (vpVar 0 rfl rfl) (fun _ _ => vpInt) (hRA.mono sB) fun r HC hrC sxC hRC => ⟨r, rfl, by omega, (SX.of sB).trans sxC, hRC⟩) (fun _ => wInt ⟨0, rfl, by decide, SX.of sB, hRA.mono sB⟩))) fun v0 HB hB => ?_)))
          obtain ⟨nt, e0, hnt, sxB, hRB⟩ := hB
          subst e0
          have tB := hRA.ts sxB
          refine wANil ⟨nt, rfl, hnt, fun _ σ' H' => ∃ (zv y : V) (S : List Cell) (m : Cell) (x12 x13 x14 x15 : Option V), σ' = [some (.ref R), some (.int 16), some (.int 4), some sv, some (.ref la), some (.int (k : Nat)), some ev, some (.ref Wa), x8, some (.bl kp), some zv, some y, x12, x13, x14, x15] ∧ SX R H H' ∧ Row K H' R a ns ∧ LsR K R H' cD (.ref la) (areaOf h n f) ∧ H' Wa = some (.lst ((mkRows h n (endF f E)).map V.str)) ∧ LsR K R H' cD zv S ∧ S.Nodup ∧ S.length = k ∧ (∀ x ∈ S, x ∈ areaOf h n f) ∧ Im H' y (cD m) ∧ m ∈ areaOf h n f ∧ m ∉ S, ?_, ?_, ?_⟩
          · exact ⟨zv, y, S, m, _, _, _, _, rfl, sxHA.trans sxB, hRB, hAA.mono sxB tB, sxB _ _ nW hWA, hSA.mono sxB tB, nS, lS, inS, immA.mono tB, mm.1, mm.2⟩
          · clear hS8 nS lS inS hSA hp immA mm hm imm fne hAA hWA sxHA hA8 hW8
            intro i0 σ' HC _ hP
            obtain ⟨zv, y, S, m, x12, x13, x14, x15, rfl, sxHC, hRC, hAC, hWC, hSC, nS, lS, inS, imm, mm1, mm2⟩ := hP
            refine gNm 12 ?_ scLawRoom.nd
            refine sCons (sSet 13 (wCall F5 hr (wACons (wVar 4 rfl (wACons (wVar 10 rfl (wACons (wVar 11 rfl (wANil ⟨.ref la, zv, y, areaOf h n f, S, m, rfl, hAC.row, hSC.ls, imm, by omega, by omega, aA, nS, inS, mm1, mm2, fun pc cvs HD sD hpc hcl hcs => ?_⟩)))))))) scLawRoom.nd)
            have hRD := hRC.mono sD
            have hAD := hAC.same sD
            have hWD := sD _ _ hWC
            have hSD := hSC.same sD
            have immD := imm.mono (TS.of sD)
            have sxHD := sxHC.trans (SX.of sD)
            have lcv : cvs.length = ((pairsL (pullB (areaOf h n f) S m) (sortC S)).map (pullO S)).length := Paired.length hcs
            have lpl := pairsL_len (pullB (areaOf h n f) S m) (sortC S)
            rw [List.length_map] at lcv
            rw [sortC_len] at lpl
            refine sOne (sIfT (tvNeNil (hu65 hr) (vpVar 13 rfl (pe2_nil hcl hcs))) (fun hk HE sE => ?_) (fun hk HE sE => sNil ?_))
            · have hRE := hRD.mono sE
              have npR : pc ≠ R := hRC.ne hpc
              have l1 : 1 ≤ cvs.length := by
                rcases Nat.eq_zero_or_pos cvs.length with z | z
                · rw [lcv] at z
                  have e := List.length_eq_zero_iff.mp z
                  rw [e] at hk
                  cases hk
                · exact z
              refine sOne (sAsg (wCall F4 hr (wACons (wVar 0 rfl (wACons (wVar 13 rfl (wANil ⟨R, pc, a, ns, cvs, rfl, npR, sqL (sE _ _ hcl), l1, by omega, hRE, fun i yy HF hyy sxF hRF => ?_⟩)))))))
              have tF := hRE.ts sxF
              obtain ⟨b, hb, eb⟩ := paired_get hcs hyy
              rw [List.getElem?_map] at hb
              obtain ⟨pp, hpp, e⟩ := Option.map_eq_some_iff.mp hb
              subst e
              have mpp := pairsL_mem.mp (List.mem_of_getElem? hpp)
              have mpp2 : pp ∈ pairsL (pullB (areaOf h n f) S m) S := pairsL_mem.mpr ⟨sortC_mem.mp mpp.1, mpp.2⟩
              obtain ⟨p1, p2, p3⟩ := pull_pre mpp2 nS
              have p4 := pull_area mpp2 inS
              obtain ⟨t, l, y2, ys, rfl, n1, g1, n2, g2, g3, g4, g5⟩ := eb
              have tt := (TS.of sE).trans tF
              have g1F := tt _ _ g1
              have nlR : l ≠ R := hRC.ne g2
              refine gT2 rfl ⟨t, _, _, rfl, sqT g1F, gNm 10 (gNm 11 ?_ scLawRoom.nd) scLawRoom.nd⟩
              exact ⟨.ref l, y2, sortC (mvL S pp.1 (go pp.1 pp.2 1)), go pp.1 pp.2 2, _, _, _, _, rfl, sxHD.trans ((SX.of sE).trans sxF), hRF, (hAD.same sE).mono sxF tF, sxF _ _ nW (sE _ _ hWD), ⟨l, ys, rfl, nlR, sxF.sql nlR (sE.seq g3), g4.mono tt⟩, (sortC_asc p1).nodup, by rw [sortC_len, mvL_len, lS], fun x hx => p4 x (sortC_mem.mp hx), g5.mono tt, p2, fun z => p3 (sortC_mem.mp z)⟩
            · exact ⟨zv, y, S, m, _, _, _, _, rfl, sxHD.trans (SX.of sE), hRD.mono sE, hAD.same sE, sE _ _ hWD, hSD.same sE, nS, lS, inS, immD.mono (TS.of sE), mm1, mm2⟩
          · clear hS8 nS lS inS hSA hp immA mm hm imm fne hAA hWA sxHA hA8 hW8
            intro σ' HC hP
            obtain ⟨zv, y, S, m, x12, x13, x14, x15, rfl, sxHC, hRC, hAC, hWC, hSC, nS, lS, inS, imm, mm1, mm2⟩ := hP
            refine sOne (sRet (wCall F6 hr (wACons (wCallTy call_tuple_of T.n_tuple (by decide +kernel) (wACons (wVar 7 rfl (wANil ⟨Wa, _, rfl, .inl ⟨sqL hWC, fun pt hpt => wACons (wVar 10 rfl (wACons (wVar 11 rfl (wANil ⟨.ref pt, zv, y, h, n, endF f E, S, m, rfl, im_rows.mpr ⟨pt, rfl, upd_same⟩, h0, by omega, by omega, (hSC.same (Same.new hpt)).row, imm.mono (TS.new hpt), fun r HD sD hD => ?_⟩))))⟩⟩)))))))
            exact q r _ HD (sxHC.trans (SX.of ((Same.new hpt).trans sD))) (hRC.mono ((Same.new hpt).trans sD)) hD (room_ok SO aE.nodup nS lE lS k1 k4 inE inS mm1 mm2)
end CR
namespace CR
open PySem PySem.Spec PyProof.Rows L2
section
variable {X : Cx} {σ : L2.St} {H : Hp} {a b c d e : Expr} {pos p p1 p2 p3 : Pos}
theorem vpIsi2 {t : String} {k : Bool} {x1 : Nat} (T : Facts X.K X.w X.mg) {v0 : V} (he : VP X e σ H fun v _ => v = v0) (hm : ∀ H', Same H H' → TyX X.K H' v0 (.type t)) (hb : PySem.W.kitAny X.K (.type t) [.type "tuple", .type "list"] = some k) (hg : Gl X "isinstance" := by rfl) (hg2 : Gl X "tuple" := by rfl) (hg3 : Gl X "list" := by rfl)
    (hst : starEach (e :: [.Tuple [.Name "tuple" p2, .Name "list" p3] x1 p1]) X.env = (false, eval e X.env) :: starEach [.Tuple [.Name "tuple" p2, .Name "list" p3] x1 p1] X.env := by rfl) (hst2 : starEach [.Tuple [.Name "tuple" p2, .Name "list" p3] x1 p1] X.env = (false, eval (.Tuple [.Name "tuple" p2, .Name "list" p3] x1 p1) X.env) :: starEach [] X.env := by rfl) (hpl : (backTo pos (starEach [.Tuple [.Name "tuple" p2, .Name "list" p3] x1 p1] X.env)).any (·.1) = false := by rfl)
    (hs1 : starEach [.Name "tuple" p2, .Name "list" p3] X.env = (false, eval (.Name "tuple" p2) X.env) :: starEach [.Name "list" p3] X.env := by rfl) (hs2 : starEach [.Name "list" p3] X.env = (false, eval (.Name "list" p3) X.env) :: starEach [] X.env := by rfl) :
    VP X (.Call (.Name "isinstance" p) [e, .Tuple [.Name "tuple" p2, .Name "list" p3] x1 p1] [] pos) σ H (fun v _ => v = .bl k) := fun Q q => wCallB call_isiT T.n_isinstance (by decide +kernel) (wACons (he _ fun v H1 s1 h1 => by
  subst h1
  exact wACons (wTup (wACons (wBltn (v := .ty "tuple") T.n_tuple (by decide +kernel) rfl (wACons (wBltn (v := .ty "list") T.n_list (by decide +kernel) rfl (wANil ⟨by show 2 ≤ sizeLine; decide, fun tp htp =>
    wANil ⟨v, tp, [.ty "tuple", .ty "list"], .type t, [.type "tuple", .type "list"], k, rfl, upd_same, .cons (.ty "tuple") (.cons (.ty "list") .nil), hm _ (s1.trans (Same.new htp)), hb, q _ _ (s1.trans (Same.new htp)) rfl⟩⟩) hg3) hs2) hg2) hs1)) hst2) hst) hg (he := hst) (hpl := hpl)
theorem vpCall2L {x : Str} {k j : Nat} {dvs : List V} {sp : Sp} {P Pa Pb : V → Hp → Prop} (F : Fn X.prog X.w X.K X.mg X.base CX0 x k dvs sp) (hr : Room j X.A) (hj : k ≤ j) (ha : VP X a σ H Pa) (hb : ∀ H', Same H H' → VP X b σ H' Pb) (mA : ∀ v H' H'', Same H' H'' → Pa v H' → Pa v H'')
    (h : ∀ v u H', Same H H' → Pa v H' → Pb u H' → ∀ Q : VK, (∀ r H'', Same H' H'' → P r H'' → Q r H'') → sp ([v, u] ++ dvs) H' Q E0) (hg : Gl X x := by rfl) (hdb : (x == ("__debug__" : Str)) = false := by decide)
    (he : starEach (a :: [b]) X.env = (false, eval a X.env) :: starEach [b] X.env := by rfl) (he2 : starEach (b :: []) X.env = (false, eval b X.env) :: starEach [] X.env := by rfl) (hpl : (backTo pos (starEach [b] X.env)).any (·.1) = false := by rfl) : VP X (.Call (.Name x p) [a, b] [] pos) σ H P :=
  vpCall2 F hr ha hb mA h hj hg hdb he he2 hpl
theorem tvIsN {v0 : V} (he : VP X e σ H fun v _ => v = v0) {j : Nat} {p' : Pos} : TV X (.Compare e [.Is] [.Constant .none j p'] pos) σ H (decide (v0 = .non)) := fun Q q => tCmp op_isN (he _ fun v H1 s1 e1 => by
  subst e1
  exact wNon ⟨rfl, _, rfl, q H1 s1⟩)
end
/-- data of tuples, ints and texts, so deep at most -/
def aOk : Nat → PyData → Prop
  | _, .int _ => True
  | _, .str _ => True
  | n + 1, .tuple ds => ds.length ≤ 1000 ∧ ∀ d ∈ ds, aOk n d
  | _, _ => False
theorem aOk_cell (n : Nat) (c : Cell) : aOk (n + 1) (cD c) := by
  refine ⟨by simp, fun d hd => ?_⟩
  rcases List.mem_cons.mp hd with e | hd
  · rw [e]; cases n <;> exact trivial
  · rw [List.mem_singleton.mp hd]; cases n <;> exact trivial
theorem aOk_push (n : Nat) (p : Push) : aOk (n + 2) (pD p) := by
  refine ⟨by simp, fun d hd => ?_⟩
  rcases List.mem_cons.mp hd with e | hd
  · rw [e]; exact aOk_cell n p.1
  · rw [List.mem_singleton.mp hd]; exact trivial
theorem aOk_pushes {ps : List Push} (h : ps.length ≤ 1000) : aOk 3 (psD ps) := by
  refine ⟨by rw [List.length_map]; exact h, fun d hd => ?_⟩
  obtain ⟨p, _, e⟩ := List.mem_map.mp hd
  rw [← e]
  exact aOk_push 0 p
theorem aOk_stand {s : Stand} (h : s.1.length ≤ 1000) : aOk 3 (stD s) := by
  refine ⟨by simp, fun d hd => ?_⟩
  rcases List.mem_cons.mp hd with e | hd
  · rw [e]
    refine ⟨by rw [List.length_map]; exact h, fun d hd => ?_⟩
    obtain ⟨p, _, e⟩ := List.mem_map.mp hd
    rw [← e]
    exact aOk_cell 0 p
  · rw [List.mem_singleton.mp hd]
    exact aOk_cell 1 s.2
variable {P : Program} {w : World} {K : PySem.W.Frag} {mg : Str → Option Value} {base : Heap}
def spAlike (n : Nat) : Sp := fun vs H Q _ => ∃ (v u : V) (d : PyData), vs = [v, u] ∧ Im H v d ∧ Im H u d ∧ aOk n d ∧ ∀ H', Same H H' → Q (.bl true) H'
theorem tyS {a : Addr} {xs : List V} {K : PySem.W.Frag} {H H' : Hp} (s : Same H H') (h : H a = some (.tup xs)) : TyX K H' (.ref a) (.type "tuple") := .base (.tup (s _ _ h))
theorem kit_tup {K : PySem.W.Frag} : PySem.W.kitAny K (.type "tuple") [.type "tuple", .type "list"] = some true := kitAny_cons (b := true) (kit_ty (by decide +kernel)) (fun e => nomatch e) fun _ => rfl
theorem kit_int {K : PySem.W.Frag} : PySem.W.kitAny K (.type "int") [.type "tuple", .type "list"] = some false := kitAny_cons (b := false) (kit_ty (by decide +kernel)) (fun _ => kitAny_cons (b := false) (kit_ty (by decide +kernel)) (fun _ => rfl) fun e => nomatch e) fun e => nomatch e
theorem kit_str {K : PySem.W.Frag} : PySem.W.kitAny K (.type "str") [.type "tuple", .type "list"] = some false := kitAny_cons (b := false) (kit_ty (by decide +kernel)) (fun _ => kitAny_cons (b := false) (kit_ty (by decide +kernel)) (fun _ => rfl) fun e => nomatch e) fun e => nomatch e
theorem scLawAlike : FnScope ["_law_found", "_law_due", "_law_k"] ["_law_found", "_law_due"] (defScope sLawAlike) := ⟨rfl, rfl, rfl, by decide +kernel, rfl, by decide +kernel, by decide +kernel⟩
theorem law_alike_step (T : Facts K w mg) (n : Nat) (ih : ∀ m, n = m + 1 → Fn P w K mg base CX0 "_law_alike" (m + 1) [] (spAlike m)) : Fn P w K mg base CX0 "_law_alike" (n + 1) [] (spAlike n) := by
  refine fn_mk T.d_law_alike fun f fd F => F.ok scLawAlike (fun vs H Q E h => ?_) (fun cdv A outer s H vs Q E hr h => ⟨_, pSs, ?_⟩)
  · obtain ⟨v, u, d, rfl, _⟩ := h
    rfl
  · obtain ⟨v, u, d, rfl, hv, hu, hd, q⟩ := h
    cases d with
    | int i =>
      cases im_int hv
      cases im_int hu
      refine sCons (sIfT (k := false) (tvVal (vpIsi2 (t := "int") (v0 := .int i) T (vpVar 1 rfl rfl) (fun _ _ => .base (.int i)) kit_int)) (fun e => nomatch e) fun _ H1 s1 => sNil ?_)
      refine sCons (sIfT (k := false) (TV.to (tvOr (k1 := false) (k2 := false) (tvIsN (v0 := .int i) (vpVar 1 rfl rfl)) fun _ H2 s2 => tvVal (vpIsi (t := "int") (T := "str") T.n_isinstance T.n_str (by decide +kernel) (vpVar 1 rfl (.base (.int i))) (by decide +kernel))) rfl) (fun e => nomatch e) fun _ H2 s2 => sNil ?_)
      refine sOne (sRet (VP.run (vpAnd3 (k1 := true) (k2 := true) (k3 := true) (vpIsi (t := "int") (T := "int") T.n_isinstance T.n_int (by decide +kernel) (vpVar 0 rfl (.base (.int i))) (by decide +kernel)) (fun _ H3 s3 => VP.mono (vpEqF (x := .bl false) (y := .bl false) rfl (vpIsi (t := "int") (T := "bool") T.n_isinstance T.n_bool (by decide +kernel) (vpVar 0 rfl (.base (.int i))) (by decide +kernel)) fun _ _ => vpIsi (t := "int") (T := "bool") T.n_isinstance T.n_bool (by decide +kernel) (vpVar 1 rfl (.base (.int i))) (by decide +kernel)) fun v H' s e => e) fun _ _ H3 s3 => VP.mono (vpEqF (x := .int i) (y := .int i) rfl (vpVar 0 rfl rfl) fun _ _ => vpVar 1 rfl rfl) fun v H' s e => by rw [e, decide_eq_true rfl]) fun v H3 s3 e => ?_))
      subst e
      exact q H3 ((s1.trans s2).trans s3)
    | str i =>
      cases im_str hv
      cases im_str hu
      refine sCons (sIfT (k := false) (tvVal (vpIsi2 (t := "str") (v0 := .str i) T (vpVar 1 rfl rfl) (fun _ _ => .base (.str i)) kit_str)) (fun e => nomatch e) fun _ H1 s1 => sNil ?_)
      refine sCons (sIfT (k := true) (TV.to (tvOr (k1 := false) (k2 := true) (tvIsN (v0 := .str i) (vpVar 1 rfl rfl)) fun _ H2 s2 => tvVal (vpIsi (t := "str") (T := "str") T.n_isinstance T.n_str (by decide +kernel) (vpVar 1 rfl (.base (.str i))) (by decide +kernel))) rfl) (fun _ H2 s2 => ?_) (fun e => nomatch e))
      refine sOne (sRet (VP.run (vpAnd (k1 := true) (k2 := true) (VP.mono (vpEqF (x := .str i) (y := .str i) rfl (vpVar 0 rfl rfl) fun _ _ => vpVar 1 rfl rfl) fun v H' s e => by rw [e, decide_eq_true rfl]) (fun _ H3 s3 => VP.mono (vpEqF (x := .bl true) (y := .bl true) rfl (vpIsi (t := "str") (T := "str") T.n_isinstance T.n_str (by decide +kernel) (vpVar 0 rfl (.base (.str i))) (by decide +kernel)) fun _ _ => vpIsi (t := "str") (T := "str") T.n_isinstance T.n_str (by decide +kernel) (vpVar 1 rfl (.base (.str i))) (by decide +kernel)) fun v H' s e => e)) fun v H3 s3 e => ?_))
      subst e
      exact q H3 ((s1.trans s2).trans s3)
    | tuple ds =>
      cases n with
      | zero => exact hd.elim
      | succ m =>
        have IH := ih m rfl
        obtain ⟨hlen, hds⟩ := hd
        obtain ⟨tv, vs, rfl, htv, hvs⟩ := im_tup hv
        obtain ⟨tu, us, rfl, htu, hus⟩ := im_tup hu
        have lv : vs.length = ds.length := Paired.length hvs
        have lu : us.length = ds.length := Paired.length hus
        refine sCons (sIfT (k := true) (tvVal (vpIsi2 (t := "tuple") (v0 := .ref tu) T (vpVar 1 rfl rfl) (fun _ s => tyS s htu) kit_tup)) (fun _ H1 s1 => ?_) (fun e => nomatch e))
        refine sCons (sIfT (k := false) (TV.to (tvOr (k1 := false) (k2 := false) (tvNot (k := true) (tvVal (vpIsi2 (t := "tuple") (v0 := .ref tv) T (vpVar 0 rfl rfl) (fun _ s => tyS (s1.trans s) htv) kit_tup))) fun _ H2 s2 => TV.to (tvNeF (x := .bl false) (y := .bl false) rfl (vpIsi (t := "tuple") (T := "list") T.n_isinstance T.n_list (by decide +kernel) (vpVar 0 rfl (.base (.tup ((s1.trans s2) _ _ htv)))) (by decide +kernel)) fun H3 s3 => vpIsi (t := "tuple") (T := "list") T.n_isinstance T.n_list (by decide +kernel) (vpVar 1 rfl (.base (.tup ((s1.trans (s2.trans s3)) _ _ htu)))) (by decide +kernel)) rfl) rfl) (fun e => nomatch e) fun _ H2 s2 => sNil ?_)
        have s02 := s1.trans s2
        refine sCons (sIfT (k := false) (TV.to (tvNeF (x := .int (ds.length : Nat)) (y := .int (ds.length : Nat)) rfl (vpLen T.n_len (vpVar 0 rfl ⟨tv, vs, rfl, .inr (sqT (s02 _ _ htv)), lv⟩)) fun H3 s3 => vpLen T.n_len (vpVar 1 rfl ⟨tu, us, rfl, .inr (sqT ((s02.trans s3) _ _ htu)), lu⟩)) (by rw [decide_eq_true rfl]; rfl)) (fun e => nomatch e) fun _ H3 s3 => sNil ?_)
        have s03 := s02.trans s3
        refine sOne (sRet (VP.run (vpEqNil (k := true) (hu65 hr) ?_) fun v H4 s4 e => by subst e; exact q H4 (s03.trans s4)))
        refine fun Q' q' => oLc1 rfl scLawAlike.nd (blkOk_by (own := [("_law_k", 2)]) (N := ["_law_found", "_law_due", "_law_k"]) (sc := defScope sLawAlike) (by decide +kernel)) (lcM1 2 (fun _ v (d : Nat) => v = .int (d : Nat)) (fun _ v (d : Nat) => v = .int (d : Nat)) (fun _ => false) (fun d => d) (List.range ds.length) (fun _ _ _ _ _ => pg_name (i := 2) scLawAlike.nd rfl (Or.inl rfl)) (fun _ => rfl) (fun _ _ _ _ _ h => h) (fun _ _ _ _ _ h => h) ?_ (by rw [List.length_range]; omega) ?_ ?_ ?_)
        · exact iRn (wACons (VP.run (vpLen T.n_len (vpVar 1 rfl ⟨tu, us, rfl, .inr (sqT (s03 _ _ htu)), lu⟩)) fun v3 H4 s4 e3 => wANil ⟨ds.length, by rw [e3], by omega, s4, _, srcR, paired_self⟩)) T.n_range
        · intro v3 k H' s e mk K2 kk s0 H0 C cl fp
          subst e
          have hk := List.mem_range.mp mk
          have ek : ds[k]? = some ds[k] := List.getElem?_eq_getElem hk
          obtain ⟨xv, hxv, imv⟩ := paired_get' hvs ek
          obtain ⟨xu, hxu, imu⟩ := paired_get' hus ek
          have sA := s03.trans s
          refine tNotT (tVal (VP.run (vpCall2L (P := fun v _ => v = .bl true) (Pa := fun v H' => Im H' v ds[k]) (Pb := fun v H' => Im H' v ds[k]) IH hr (Nat.le_refl _) ?_ ?_ imS ?_) ?_))
          · exact vpIxT (i := k) (P := fun v H' => Im H' v ds[k]) (vpVar 0 rfl ⟨tv, vs, xv, rfl, sqT (sA _ _ htv), hxv, imv.mono (TS.of sA)⟩) (fun _ _ => vpVar 2 rfl rfl) imS
          · exact fun H4 s4 => vpIxT (i := k) (P := fun v H' => Im H' v ds[k]) (vpVar 1 rfl ⟨tu, us, xu, rfl, sqT ((sA.trans s4) _ _ htu), hxu, imu.mono (TS.of (sA.trans s4))⟩) (fun _ _ => vpVar 2 rfl rfl) imS
          · exact fun v u H' s h1 h2 Q q => ⟨v, u, ds[k], rfl, h1, h2, hds _ (List.getElem_mem hk), fun H'' s' => q _ H'' s' rfl⟩
          · exact fun v H4 s4 e4 => ⟨true, e4, kk H4 s4⟩
        · intro v3 k H' s e mk hp
          cases hp
        · intro Dl acc H' s n2 ha hp
          have e0 : (List.range ds.length).filter (fun _ => false) = [] := by simp
          rw [e0] at hp
          cases hp
          exact q' _ _ s (nil_0 (sqL ha))
    | none => exact absurd hd (by cases n <;> exact fun z => z)
    | bool b => exact absurd hd (by cases n <;> exact fun z => z)
    | list b => exact absurd hd (by cases n <;> exact fun z => z)
    | dict b => exact absurd hd (by cases n <;> exact fun z => z)
theorem ok_law_alike (T : Facts K w mg) : ∀ n : Nat, Fn P w K mg base CX0 "_law_alike" (n + 1) [] (spAlike n)
  | 0 => law_alike_step T 0 fun _ e => nomatch e
  | n + 1 => law_alike_step T (n + 1) fun m e => by
    cases e
    exact ok_law_alike T n
end CR
namespace CR
open PySem PySem.Spec PyProof.Rows L2
/-- a call of what slot i holds, what is raised wished for at the caller's slots -/
def tCallLS (i : Nat) (f : Addr) (sp : Sp) (E : L2.St → XK) (t : TA) : TE := fun σ H Q => σ[i]? = some (some (.ref f)) ∧ t σ H fun vs H1 => sp vs H1 Q (E σ)
theorem pe_callLS {X : Cx} {CX : CXT} {k i : Nat} {f : Addr} {fd : FuncData} {ps : List Str} {sp : Sp} {E : L2.St → XK} {x : Str} {p pos : Pos} {e : Expr} {es : List Expr} {t : TA} (F : FnOk X.prog X.w X.K X.mg X.base CX k f fd ps sp) (hr : Room k X.A) (hN : X.N[i]? = some x) (hv : Vis X.env.scope x) (hk : PySem.W.keepIn X.K (.ref f) = true) (hb : Binds X.K fd ps []) (hx : ∀ σ, PassesAt CX X σ (E σ)) (ha : PA X (e :: es) t)
    (hdb : (x == ("__debug__" : Str)) = false := by decide) (hcd : (x == ("__classdict__" : Str)) = false := by decide)
    (he : starEach (e :: es) X.env = (false, eval e X.env) :: starEach es X.env := by rfl) (hpl : (backTo pos (starEach es X.env)).any (·.1) = false := by rfl) : PE X (.Call (.Name x p) (e :: es) [] pos) (tCallLS i f sp E t) := by
  refine ⟨fun pins s σ H Q I h => ?_⟩
  obtain ⟨hs, ht⟩ := h
  refine wpAny_Call_Name_kw (thn ((pe_var (pos := p) hN hv hdb hcd).run pins s σ H (fun v H1 => v = .ref f ∧ H1 = H) I ⟨.ref f, hs, rfl, rfl⟩) fun u s1 ⟨v, H1, I1, r1, q1⟩ => ?_)
  obtain ⟨rfl, rfl⟩ := q1
  cases r1
  refine PySem.W.callWith_K (h₀ := X.base) I.ok.mod.kin hk (thn (ha.run pos pins s1 σ _ _ I1 ht) fun us s2 ⟨vs, H2, I2, r, q⟩ => ⟨I2.kIn, ?_⟩) he hpl
  exact run_fnS F hr hb (hx σ) I2 r q
/-- a call of what slot i holds, nothing let out -/
theorem vpCallL2 {X : Cx} {σ : L2.St} {H : Hp} {CX : CXT} {k j : Nat} {f : Addr} {fd : FuncData} {ps : List Str} {sp : Sp} {x : Str} {p pos : Pos} {a b : Expr} {P Pa Pb : V → Hp → Prop} (i : Nat) (F : FnOk X.prog X.w X.K X.mg X.base CX k f fd ps sp) (hk : PySem.W.keepIn X.K (.ref f) = true) (hb : Binds X.K fd ps []) (hx : Passes CX X E0) (hr : Room j X.A) (hs : σ[i]? = some (some (.ref f))) (ha : VP X a σ H Pa) (hbb : ∀ H', Same H H' → VP X b σ H' Pb) (mA : ∀ v H' H'', Same H' H'' → Pa v H' → Pa v H'')
    (h : ∀ v u H', Same H H' → Pa v H' → Pb u H' → ∀ Q : VK, (∀ r H'', Same H' H'' → P r H'' → Q r H'') → sp [v, u] H' Q E0) (hj : k ≤ j := by decide) (hN : X.N[i]? = some x := by rfl) (hv : Vis X.env.scope x := by first | exact Or.inl rfl | exact Or.inr (Or.inl rfl) | exact Or.inr (Or.inr rfl)) (hdb : (x == ("__debug__" : Str)) = false := by decide) (hcd : (x == ("__classdict__" : Str)) = false := by decide)
    (he : starEach (a :: [b]) X.env = (false, eval a X.env) :: starEach [b] X.env := by rfl) (he2 : starEach (b :: []) X.env = (false, eval b X.env) :: starEach [] X.env := by rfl) (hpl : (backTo pos (starEach [b] X.env)).any (·.1) = false := by rfl) : VP X (.Call (.Name x p) [a, b] [] pos) σ H P := fun Q q =>
  oE (pe_callL (dvs := []) (ds := []) (E := E0) F (hr.mono hj) hN hv hk hb .nil hx pA hdb hcd he hpl) ⟨hs, wACons (ha _ fun v H1 s1 h1 => wACons (hbb H1 s1 _ fun u H2 s2 h2 => wANil (h v u H2 (s1.trans s2) (mA _ _ _ s2 h1) h2 Q fun r H3 s3 h3 => q r H3 ((s1.trans s2).trans s3) h3)) he2) he⟩
theorem vpCallL3 {X : Cx} {σ : L2.St} {H : Hp} {CX : CXT} {k j : Nat} {f : Addr} {fd : FuncData} {ps : List Str} {sp : Sp} {x : Str} {p pos : Pos} {a b c : Expr} {P Pa Pb Pc : V → Hp → Prop} (i : Nat) (F : FnOk X.prog X.w X.K X.mg X.base CX k f fd ps sp) (hk : PySem.W.keepIn X.K (.ref f) = true) (hb : Binds X.K fd ps []) (hx : Passes CX X E0) (hr : Room j X.A) (hs : σ[i]? = some (some (.ref f))) (ha : VP X a σ H Pa) (hbb : ∀ H', Same H H' → VP X b σ H' Pb) (hcc : ∀ H', Same H H' → VP X c σ H' Pc) (mA : ∀ v H' H'', Same H' H'' → Pa v H' → Pa v H'') (mB : ∀ v H' H'', Same H' H'' → Pb v H' → Pb v H'')
    (h : ∀ v u y H', Same H H' → Pa v H' → Pb u H' → Pc y H' → ∀ Q : VK, (∀ r H'', Same H' H'' → P r H'' → Q r H'') → sp [v, u, y] H' Q E0) (hj : k ≤ j := by decide) (hN : X.N[i]? = some x := by rfl) (hv : Vis X.env.scope x := by first | exact Or.inl rfl | exact Or.inr (Or.inl rfl) | exact Or.inr (Or.inr rfl)) (hdb : (x == ("__debug__" : Str)) = false := by decide) (hcd : (x == ("__classdict__" : Str)) = false := by decide)
    (he : starEach (a :: [b, c]) X.env = (false, eval a X.env) :: starEach [b, c] X.env := by rfl) (he2 : starEach (b :: [c]) X.env = (false, eval b X.env) :: starEach [c] X.env := by rfl) (he3 : starEach (c :: []) X.env = (false, eval c X.env) :: starEach [] X.env := by rfl) (hpl : (backTo pos (starEach [b, c] X.env)).any (·.1) = false := by rfl) : VP X (.Call (.Name x p) [a, b, c] [] pos) σ H P := fun Q q =>
  oE (pe_callL (dvs := []) (ds := []) (E := E0) F (hr.mono hj) hN hv hk hb .nil hx pA hdb hcd he hpl) ⟨hs, wACons (ha _ fun v H1 s1 h1 => wACons (hbb H1 s1 _ fun u H2 s2 h2 => wACons (hcc H2 (s1.trans s2) _ fun y H3 s3 h3 => wANil (h v u y H3 ((s1.trans s2).trans s3) (mA _ _ _ (s2.trans s3) h1) (mB _ _ _ s3 h2) h3 Q fun r H4 s4 h4 => q r H4 (((s1.trans s2).trans s3).trans s4) h4)) he3) he2) he⟩
variable {P : Program} {w : World} {K : PySem.W.Frag} {mg : Str → Option Value} {base : Heap}
/-- a def held by a name -/
structure HeldF (P : Program) (w : World) (K : PySem.W.Frag) (mg : Str → Option Value) (base : Heap) (CX : CXT) (k : Nat) (f : Addr) (fd : FuncData) (ps : List Str) (sp : Sp) : Prop where
  ok : FnOk P w K mg base CX k f fd ps sp
  kp : PySem.W.keepIn K (.ref f) = true
  bn : Binds K fd ps []
theorem Fn.held {CX : CXT} {x : Str} {k : Nat} {sp : Sp} (F : Fn P w K mg base CX x k [] sp) : ∃ f fd ps, mg x = some (.ref f) ∧ HeldF P w K mg base CX k f fd ps sp := by
  obtain ⟨f, fd, ps, ds, h1, h2, h3, h4, h5⟩ := F.ex
  cases h5
  exact ⟨f, fd, ps, h2, h1, h3, h4⟩
def spRefused (P : Program) (w : World) (K : PySem.W.Frag) (mg : Str → Option Value) (base : Heap) (CB : Addr) : Sp := fun vs H Q _ => ∃ (f : Addr) (fd : FuncData) (ps : List Str) (B : BT) (Z : List Cell → Stand → Push → Stand) (rv sv pv : V) (rows : List Str) (st : Stand), vs = [.ref f, rv, sv, pv] ∧ HeldF P w K mg base (L2.CX P w) 7 f fd ps (spBeh CB B Z) ∧ Im H rv (rwD rows) ∧ RoomOk rows ∧ Im H sv (stD st) ∧ StandOk rows st ∧ NoMove H pv (pairsL (B (floorC rows) st.1 st.2) st.1) ∧ ∀ H', Same H H' → Q (.bl true) H'
theorem scLawRefused : FnScope ["_law_ask", "_law_room_here", "_law_here", "_law_value"] ["_law_ask", "_law_room_here", "_law_here", "_law_value"] (defScope sLawRefused) := ⟨rfl, rfl, rfl, by decide +kernel, rfl, by decide +kernel, by decide +kernel⟩
theorem ok_law_refused (T : Facts K w mg) {CB : Addr} (BP : ClsP K mg CB) : Fn P w K mg base CX0 "_law_refused" 8 [] (spRefused P w K mg base CB) := by
  refine fn_mk T.d_law_refused fun f fd F => F.ok scLawRefused (fun vs H Q E h => ?_) (fun cdv A outer s H vs Q E hr h => ⟨_, pSs, ?_⟩)
  · obtain ⟨f, fd, ps, B, Z, rv, sv, pv, rows, st, rfl, _⟩ := h
    rfl
  · obtain ⟨f, fd, ps, B, Z, rv, sv, pv, rows, st, rfl, ⟨hF, hk, hb⟩, hv, R, hs, S, hno, q⟩ := h
    refine sCons (oS (ps_try_only (x := "BadPush") (c := .ref CB) rfl rfl ⟨rfl, by decide, .inl BP.gP⟩ takes0
      (fun W pn xe tk _ => pss_one (ps_expr (pe_callLS (i := 0) (f := f) (E := WE W) hF hr rfl (Or.inl rfl) hk hb (fun σ => passAt tk σ) (pa_cons (pe_var (i := 1) rfl (Or.inl rfl)) (pa_cons (pe_var (i := 2) rfl (Or.inl rfl)) (pa_cons (pe_var (i := 3) rfl (Or.inl rfl)) pa_nil))))))
      (fun a oe cls d pn _ _ => pss_one (ps_ret pe_bl))) ?_)
    refine ⟨rfl, rv, rfl, sv, rfl, pv, rfl, ?_⟩
    exact ⟨rv, sv, pv, rows, st, rfl, hv, R, hs, S, .inr ⟨hno, fun H' s' => ⟨true, BP.te, fun _ a _ => q H' s', fun e => nomatch e⟩⟩⟩
end CR
namespace CR
open PySem PySem.Spec PyProof.Rows L2
def spLaw (K : PySem.W.Frag) : Sp := fun vs H Q _ => ∃ (a : Addr) (ns : List Int), vs = [.ref a] ∧ SqL K H a (ns.map V.int) ∧ ns.length ≤ 63 ∧ ∀ H', Q (.bl true) H'
/-- what is left to show behind the head -/
def MainP : Prop := ∀ (P : Program) (w : World) (K : PySem.W.Frag) (mg : Str → Option Value) (base : Heap) (f : Addr) (fd : FuncData), Facts K w mg → Fun K "law" "law" sLaw f fd → FnOk P w K mg base CX0 60 f fd ["_law_script"] (spLaw K)
end CR
namespace CR
open PySem PySem.Spec PyProof.Rows L2
theorem cut_mem {xs : List V} {lo hi : Option Int} {v : V} (h : v ∈ cutV xs lo hi) : v ∈ xs := by
  unfold cutV at h
  exact List.mem_of_mem_drop (List.mem_of_mem_take h)
theorem ensw_eq : ("ensw" : Str).cps.toList.map (fun c => V.str ⟨#[c]⟩) = dirs.map fun d => V.str d.str := by decide +kernel
/-- the law's rows are the program's -/
theorem law_push_eq {area cs : List Cell} {m : Cell} (p : Push) : lawPush area cs p = pushS area (cs, m) p := by
  unfold lawPush pushS behS
  rw [headL_congr (a := mvL cs p.1 (go p.1 p.2 1)) (b := sortC (mvL cs p.1 (go p.1 p.2 1))) (fun x => sortC_mem.symm)]
theorem law_pull_eq {area cs : List Cell} {m : Cell} (p : Push) : lawPull area cs p = pullS area (cs, m) p := by
  unfold lawPull pullS behS
  rw [headL_congr (a := mvL cs p.1 (go p.1 p.2 1)) (b := sortC (mvL cs p.1 (go p.1 p.2 1))) (fun x => sortC_mem.symm)]
section
variable {X : Cx} {σ : L2.St} {H : Hp} {a b c d e lo : Expr} {pos p p2 : Pos}
/-- xs[:n] -/
theorem wCut {Q : VK} {n : Int} {j : Nat} (he : VP X e σ H fun v H' => ∃ l xs, v = .ref l ∧ SqL X.K H' l xs ∧ ∀ q H'', Same H' H'' → H'' q = none → Q (.ref q) (upd H'' q (.lst (cutV xs none (some n))))) : wE X (.Subscript e (.Slice none (some (.Constant (.int n) j p)) none p2) pos) σ H Q :=
  oE (pe_slice sl_list pE po_none (po_some pE)) (he _ fun v H1 s1 h1 => by
    obtain ⟨l, xs, e1, h2, q⟩ := h1
    refine (?_ : tNoPart σ H1 _)
    refine wInt ⟨n, rfl, l, xs, e1, h2, fun q1 hq1 => q q1 H1 (Same.refl _) hq1⟩)
end
section
variable {X : Cx} {σ : L2.St} {H : Hp} {a b : Expr} {pos p : Pos} {x1 x2 j : Nat} {Pa : V → Hp → Prop}
theorem vpWNon : VP X (.Constant .none j pos) σ H (fun v H' => Weird H' v) := fun Q q => wNon (q _ H (Same.refl H) (.non rfl))
theorem vpW0 : VP X (.Tuple [] x1 pos) σ H (fun v H' => Weird H' v) := fun Q q => wTup (wANil ⟨Nat.zero_le _, fun p hp => q _ _ (Same.new hp) (.tup rfl upd_same (by simp))⟩)
theorem vpW1 (ha : VP X a σ H Pa) (hs : starEach [a] X.env = (false, eval a X.env) :: starEach [] X.env := by rfl) : VP X (.Tuple [a] x1 pos) σ H (fun v H' => Weird H' v) := fun Q q => wTup (wACons (ha _ fun v H1 s1 _ => wANil ⟨by show 1 ≤ sizeLine; decide, fun p hp => q _ _ (s1.trans (Same.new hp)) (.tup rfl upd_same (by simp))⟩) hs)
theorem vpWStr {z : Str} (hz : z = "x" ∨ z = "E") (ha : VP X a σ H Pa) (hs : starEach [a, .Constant (.str z) j p] X.env = (false, eval a X.env) :: starEach [.Constant (.str z) j p] X.env := by rfl) (hs2 : starEach [.Constant (.str z) j p] X.env = (false, eval (.Constant (.str z) j p) X.env) :: starEach [] X.env := by rfl) :
    VP X (.Tuple [a, .Constant (.str z) j p] x1 pos) σ H (fun v H' => Weird H' v) := fun Q q => wTup (wACons (ha _ fun v H1 s1 _ => wACons (wStr (wANil ⟨by show 2 ≤ sizeLine; decide, fun p hp => q _ _ (s1.trans (Same.new hp)) (.ltr rfl upd_same hz)⟩)) hs2) hs)
theorem vpWInt {i : Int} (ha : VP X a σ H Pa) (hs : starEach [a, .Constant (.int i) j p] X.env = (false, eval a X.env) :: starEach [.Constant (.int i) j p] X.env := by rfl) (hs2 : starEach [.Constant (.int i) j p] X.env = (false, eval (.Constant (.int i) j p) X.env) :: starEach [] X.env := by rfl) :
    VP X (.Tuple [a, .Constant (.int i) j p] x1 pos) σ H (fun v H' => Weird H' v) := fun Q q => wTup (wACons (ha _ fun v H1 s1 _ => wACons (wInt (wANil ⟨by show 2 ≤ sizeLine; decide, fun p hp => q _ _ (s1.trans (Same.new hp)) (.num rfl upd_same)⟩)) hs2) hs)
theorem vpWLst (ha : VP X a σ H fun v H' => ∃ l ys, v = .ref l ∧ H' l = some (.lst ys)) (hs : starEach [a, .Constant (.str "e") j p] X.env = (false, eval a X.env) :: starEach [.Constant (.str "e") j p] X.env := by rfl) (hs2 : starEach [.Constant (.str "e") j p] X.env = (false, eval (.Constant (.str "e") j p) X.env) :: starEach [] X.env := by rfl) :
    VP X (.Tuple [a, .Constant (.str "e") j p] x1 pos) σ H (fun v H' => Weird H' v) := fun Q q => wTup (wACons (ha _ fun v H1 s1 h1 => by
  obtain ⟨l, ys, e, hl⟩ := h1
  subst e
  exact wACons (wStr (wANil ⟨by show 2 ≤ sizeLine; decide, fun p hp => q _ _ (s1.trans (Same.new hp)) (.lst rfl upd_same (Same.new hp _ _ hl))⟩)) hs2) hs)
theorem vpWTru {j1 j2 : Nat} {p1 p2 p3 : Pos} (hs : starEach [.Tuple [.Constant (.bool true) j1 p1, .Constant (.int 1) j2 p2] x2 p3, .Constant (.str "e") j p] X.env = (false, eval (.Tuple [.Constant (.bool true) j1 p1, .Constant (.int 1) j2 p2] x2 p3) X.env) :: starEach [.Constant (.str "e") j p] X.env := by rfl) (hs2 : starEach [.Constant (.str "e") j p] X.env = (false, eval (.Constant (.str "e") j p) X.env) :: starEach [] X.env := by rfl)
    (hs3 : starEach [.Constant (.bool true) j1 p1, .Constant (.int 1) j2 p2] X.env = (false, eval (.Constant (.bool true) j1 p1) X.env) :: starEach [.Constant (.int 1) j2 p2] X.env := by rfl) (hs4 : starEach [.Constant (.int 1) j2 p2] X.env = (false, eval (.Constant (.int 1) j2 p2) X.env) :: starEach [] X.env := by rfl) :
    VP X (.Tuple [.Tuple [.Constant (.bool true) j1 p1, .Constant (.int 1) j2 p2] x2 p3, .Constant (.str "e") j p] x1 pos) σ H (fun v H' => Weird H' v) := fun Q q => wTup (wACons (wTup (wACons (wBl (wACons (wInt (wANil ⟨by show 2 ≤ sizeLine; decide, fun p1 hp1 => wACons (wStr (wANil ⟨by show 2 ≤ sizeLine; decide, fun p2 hp2 => q _ _ ((Same.new hp1).trans (Same.new hp2)) (.tru rfl upd_same (Same.new hp2 _ _ upd_same))⟩)) hs2⟩)) hs4)) hs3)) hs)
/-- list(cell) -/
theorem vpListC {c : Cell} (hm : X.mg "list" = none) (he : VP X a σ H fun v H' => Im H' v (cD c)) (hg : Gl X "list" := by rfl) (hst : starEach (a :: []) X.env = (false, eval a X.env) :: starEach [] X.env := by rfl) (hpl : (backTo pos (starEach [] X.env)).any (·.1) = false := by rfl) :
    VP X (.Call (.Name "list" p) [a] [] pos) σ H (fun v H' => ∃ l ys, v = .ref l ∧ H' l = some (.lst ys)) := fun Q q => wCallTy call_list_of hm (by decide +kernel) (wACons (he _ fun v H1 s1 h1 => by
  obtain ⟨t, e, g⟩ := im_cell.mp h1
  subst e
  exact wANil ⟨t, _, rfl, .inr (sqT g), fun l hl => q _ _ (s1.trans (Same.new hl)) ⟨l, _, rfl, upd_same⟩⟩) hst) hg (he := hst) (hpl := hpl)
end
variable {P : Program} {w : World} {K : PySem.W.Frag} {mg : Str → Option Value} {base : Heap}
theorem StandOk.first {rows : List Str} {s : Stand} (S : StandOk rows s) : ∃ c, s.1[0]? = some c := by
  have h := S.ne
  match hc : s.1, h with
  | c :: l, _ => exact ⟨c, rfl⟩
/-- a turn's half: who is asked, who tells what is behind, what is due -/
def Half2 (P : Program) (w : World) (K : PySem.W.Frag) (mg : Str → Option Value) (base : Heap) (CB : Addr) (rows : List Str) (st : Stand) (H : Hp) (y : V) : Prop :=
  ∃ (t fa fb : Addr) (du : V) (B : BT) (Z : List Cell → Stand → Push → Stand) (fda fdb : FuncData) (psa psb : List Str), y = .ref t ∧ H t = some (.tup [.ref fa, .ref fb, du]) ∧ HeldF P w K mg base CX0 7 fa fda psa (spList B) ∧ HeldF P w K mg base (L2.CX P w) 7 fb fdb psb (spBeh CB B Z) ∧
    (∀ p ∈ pairsL (B (floorC rows) st.1 st.2) st.1, (Z (floorC rows) st p).1.length ≤ 1000) ∧ LsE K H duD du ((pairsL (B (floorC rows) st.1 st.2) st.1).map fun p => (p, Z (floorC rows) st p))
theorem Half2.mono {CB : Addr} {rows : List Str} {st : Stand} {H H' : Hp} {y : V} (s : Same H H') (h : Half2 P w K mg base CB rows st H y) : Half2 P w K mg base CB rows st H' y := by
  obtain ⟨t, fa, fb, du, B, Z, fda, fdb, psa, psb, e, h1, h2, h3, h4, h5⟩ := h
  exact ⟨t, fa, fb, du, B, Z, fda, fdb, psa, psb, e, s _ _ h1, h2, h3, h4, h5.mono s⟩
theorem paired_all {H : Hp} {ps : List Push} : ∀ {vs : List V}, (∀ v ∈ vs, NoMove H v ps) → Paired (fun v d => v = d ∧ NoMove H v ps) vs vs
  | [], _ => .nil
  | v :: vs, h => .cons ⟨rfl, h v (List.mem_cons_self ..)⟩ (paired_all fun x hx => h x (List.mem_cons_of_mem _ hx))
theorem tup_row {H : Hp} {v : V} {b : Push × Stand} (h : Im H v (duD b)) : ∃ l x y, v = .ref l ∧ H l = some (.tup [x, y]) ∧ Im H x (pD b.1) ∧ Im H y (stD b.2) := pair_tup h
theorem scLaw : FnScope ["_law_script", "_law_row", "_law_room_here", "_law_cells_here", "_law_ends", "_law_crates", "_law_mover", "_law_turn", "_law_here", "_law_ask", "_law_behind", "_law_due", "_law_one", "_law_there", "_law_known", "_law_some_here", "_law_cell", "_law_letter"] ["_law_script"] (defScope sLaw) := ⟨rfl, rfl, rfl, by decide +kernel, rfl, by decide +kernel, by decide +kernel⟩
theorem main_ok : MainP := by
  intro P w K mg base f fd T F
  obtain ⟨CB, BP⟩ := T.badPush
  have F1 : Fn P w K mg base CX0 "_law_room" 5 [] (spRoom K) := ok_law_room T
  have F2 : Fn P w K mg base CX0 "_law_of" 2 [] (spLOf K) := ok_law_of T
  have F3 : Fn P w K mg base CX0 "_law_some" 2 [] (spSome K) := ok_law_some T
  have F4 : Fn P w K mg base CX0 "_law_pick" 2 [] (spPick K) := ok_law_pick T
  have F5 : Fn P w K mg base CX0 "_law_pushes" 4 [] (spRows K pushB lawPush) := ok_law_pushes T
  have F6 : Fn P w K mg base CX0 "_law_pull_rows" 4 [] (spRows K pullB lawPull) := ok_law_pull_rows T
  have F7 : Fn P w K mg base CX0 "_law_alike" 4 [] (spAlike 3) := ok_law_alike T 3
  have F8 : Fn P w K mg base CX0 "_law_refused" 8 [] (spRefused P w K mg base CB) := ok_law_refused T BP
  obtain ⟨fA, fdA, psA, gA, hA⟩ := (ok_pushes (P := P) (base := base) T).held
  obtain ⟨fB, fdB, psB, gB, hB⟩ := (ok_pushed (P := P) (base := base) T BP).held
  obtain ⟨fC, fdC, psC, gC, hC⟩ := (ok_pulls (P := P) (base := base) T).held
  obtain ⟨fD, fdD, psD', gD, hD⟩ := (ok_pulled (P := P) (base := base) T BP).held
  have okl : FnOk P w K mg base CX0 (59 + 1) f fd ["_law_script"] (spLaw K) := F.ok scLaw (fun vs H Q E h => ?_) (fun cdv A outer s H vs Q E hr h => ⟨_, pSs, ?_⟩)
  · exact okl
  · obtain ⟨a, ns, rfl, _⟩ := h
    rfl
  · obtain ⟨a, ns, rfl, hns, few, q⟩ := h
    refine sCons (sSet 1 (wLst (wACons (wVar 0 rfl (wACons (wInt (wACons (wInt (wACons (wInt (wANil ⟨by show 4 ≤ sizeLine; decide, fun R hR => ?_⟩))))))))) ) scLaw.nd)
    have hkeep : ∀ H1 H2 : Hp, SX R H1 H2 → SqL K H1 a (ns.map V.int) → SqL K H2 a (ns.map V.int) := by
      rcases hns with h | h
      · intro H1 H2 s hq
        refine s.sql (fun z => ?_) hq
        rcases h with h | ⟨o, h⟩ <;> rw [z, hR] at h <;> cases h
      · exact fun _ _ _ _ => .inr h
    have hR1 : Row K (upd H R (.lst [.ref a, .int 0, .int 15202, .int 0])) R a ns := ⟨0, 15202, 0, upd_same, (Same.new hR).seq hns, hkeep, by omega, by omega, by omega, few⟩
    generalize upd H R (.lst [.ref a, .int 0, .int 15202, .int 0]) = H1 at hR1 ⊢
    refine sCons (sSet 2 (wCall F1 hr (wACons (wVar 1 rfl (wACons (wInt (wACons (wInt (wANil ⟨R, a, ns, rfl, hR1, fun rv rows H2 sx2 hR2 hrv RO => ?_⟩)))))))) scLaw.nd)
    obtain ⟨m0, hm0⟩ := RO.mover0
    refine sCons (sAsg (wCall F2 hr (wACons (wVar 2 rfl (wANil ⟨rv, rows, m0, rfl, hrv, RO.rect, hm0, fun t cv ev zv yv H3 s3 ht hcv hev hzv hyv => gT4 rfl ⟨t, cv, ev, zv, yv, rfl, sqT ht, gNm 3 (gNm 4 (gNm 5 (gNm 6 ?_ scLaw.nd) scLaw.nd) scLaw.nd) scLaw.nd⟩⟩)))))
    have toR : ∀ {v : V} {cs : List Cell}, LsF K H2 H3 cD v cs → LsR K R H3 cD v cs := fun {v cs} ⟨l, vs, e, h0, h1, h2⟩ => ⟨l, vs, e, hR2.ne h0, h1, h2⟩
    have hR3 := hR2.mono s3
    have St0 : StandOk rows (cellsOf rows "cC", m0) := by
      have em : m0 ∈ cellsOf rows "mM" := List.mem_of_getElem? hm0
      obtain ⟨r, c, h1, h2, h3, e⟩ := cells_mem.mp em
      refine ⟨cells_asc _ _, fun z => ?_, Nat.le_trans RO.c4 (by decide), fun c hc => ?_, RO.ends.symm, ?_, fun hc => ?_⟩
      · have := RO.c1
        rw [show cellsOf rows "cC" = [] from z] at this
        cases this
      · obtain ⟨r, c, h1, h2, h3, e⟩ := cells_mem.mp hc
        refine cells_mem.mpr ⟨r, c, h1, h2, ?_, e⟩
        rw [tl_cC] at h3
        rw [tl_floor]
        simp only [List.mem_cons, List.not_mem_nil, or_false] at h3 ⊢
        rcases h3 with h3 | h3 <;> simp [h3]
      · refine cells_mem.mpr ⟨r, c, h1, h2, ?_, e⟩
        rw [tl_mM] at h3
        rw [tl_floor]
        simp only [List.mem_cons, List.not_mem_nil, or_false] at h3 ⊢
        rcases h3 with h3 | h3 <;> simp [h3]
      · obtain ⟨r', c', _, _, h3', e'⟩ := cells_mem.mp hc
        have e1 : ((r : Int), (c : Int)) = ((r' : Int), (c' : Int)) := e.symm.trans e'
        have e2 : (r : Int) = (r' : Int) := congrArg Prod.fst e1
        have e3 : (c : Int) = (c' : Int) := congrArg Prod.snd e1
        have e4 : r = r' := by omega
        have e5 : c = c' := by omega
        subst e4 e5
        rw [tl_cC] at h3'
        rw [tl_mM] at h3
        simp only [List.mem_cons, List.not_mem_nil, or_false] at h3 h3'
        omega
    have fcC : (goalsC rows).length + 1 ≤ (floorC rows).length := by
      have h1 : (cellsOf rows "cC").length + 1 ≤ (floorC rows).length := by
        have nd : (m0 :: cellsOf rows "cC").Nodup := List.nodup_cons.mpr ⟨St0.mN, St0.asc.nodup⟩
        have := len_sub nd (M := floorC rows) fun x hx => by
          rcases List.mem_cons.mp hx with e | hx
          · rw [e]; exact St0.mF
          · exact St0.inF x hx
        rwa [List.length_cons] at this
      have := RO.ends
      show (cellsOf rows "oCM").length + 1 ≤ _
      omega
    have g1 : 1 ≤ (goalsC rows).length := by
      have h1 := RO.ends
      have h2 := RO.c1
      show 1 ≤ (cellsOf rows "oCM").length
      omega
    have fl16 : (floorC rows).length ≤ 16 := RO.floor
    refine sCons (sForR PassesOwn.never rfl T.n_range (wACons (wInt (wANil ⟨4, rfl, by decide, fun _ σ' H' => ∃ (zv yv : V) (cs : List Cell) (m : Cell) (x7 x8 x9 x10 x11 x12 x13 x14 x15 x16 x17 : Option V), σ' = [some (.ref a), some (.ref R), some rv, some cv, some ev, some zv, some yv, x7, x8, x9, x10, x11, x12, x13, x14, x15, x16, x17] ∧ Row K H' R a ns ∧ Im H' rv (rwD rows) ∧ LsR K R H' cD cv (floorC rows) ∧ LsR K R H' cD ev (goalsC rows) ∧ LsR K R H' cD zv cs ∧ StandOk rows (cs, m) ∧ Im H' yv (cD m), ?_, ?_, ?_⟩))))
    · exact ⟨zv, yv, cellsOf rows "cC", m0, _, _, _, _, _, _, _, _, _, _, _, rfl, hR3, hrv.mono (TS.of s3), toR hcv, toR hev, toR hzv, St0, hyv⟩
    · clear hcv hev hzv hyv toR St0 hR3 ht
      intro i0 σ' H4 hi0 hP
      obtain ⟨zv, yv, cs, m, x7, x8, x9, x10, x11, x12, x13, x14, x15, x16, x17, rfl, hR4, hrv4, hcv4, hev4, hzv4, St, hyv4⟩ := hP
      have cs16 : cs.length ≤ 16 := St.few
      have mF : m ∈ floorC rows := St.mF
      have mN : m ∉ cs := St.mN
      have scs : sortC cs = cs := sortC_asc_id St.asc
      refine gNm 7 ?_ scLaw.nd
      refine sCons (sSet 8 (VP.run (vpPair (d1 := csD cs) (d2 := cD m) (vpTupOf T.n_tuple (vpVar 5 rfl hzv4.ls)) fun H5 s5 => vpVar 6 rfl (hyv4.mono (TS.of s5))) fun hv H5 s5 hh5 => ?_) scLaw.nd)
      have hh5 : Im H5 hv (stD (cs, m)) := hh5
      have hR5 := hR4.mono s5
      have hrv5 := hrv4.mono (TS.of s5)
      have hcv5 := hcv4.same s5
      have hev5 := hev4.same s5
      have hzv5 := hzv4.same s5
      have hyv5 := hyv4.mono (TS.of s5)
      refine sMid (fun σ' H' => ∃ (y9 y10 y11 y12 y13 y14 y15 y16 y17 : Option V), σ' = [some (.ref a), some (.ref R), some rv, some cv, some ev, some zv, some yv, some (.int (i0 : Nat)), some hv, y9, y10, y11, y12, y13, y14, y15, y16, y17] ∧ Same H5 H') ?_ ?_
      · refine sForL PassesOwn.never rfl ?_
        have eA : (fun p => (p, lawPush (floorC rows) cs p)) = fun p => (p, pushS (floorC rows) (cs, m) p) := funext fun p => by rw [law_push_eq]
        have eC : (fun p => (p, lawPull (floorC rows) cs p)) = fun p => (p, pullS (floorC rows) (cs, m) p) := funext fun p => by rw [law_pull_eq]
        refine wLst (wACons (wTup (wACons (wGlob (v := .ref fA) gA rfl (wACons (wGlob (v := .ref fB) gB rfl (wACons (VP.run (P := fun v H' => LsE K H' duD v ((pairsL (pushB (floorC rows) cs m) cs).map fun p => (p, pushS (floorC rows) (cs, m) p))) (vpCall3 F5 hr (vpVar 3 rfl hcv5.row) (fun H6 s6 => vpVar 5 rfl (hzv5.same s6).ls) (fun H6 s6 => vpVar 6 rfl (hyv5.mono (TS.of s6))) rowS lsS fun v u y H' s h1 h2 h3 Q q => ⟨v, u, y, floorC rows, cs, m, rfl, h1, h2, h3, by omega, by omega, cells_asc _ _, St.asc.nodup, St.inF, mF, mN, fun r H'' s' h' => q r H'' s' (by rw [scs, eA] at h'; exact h')⟩) fun dA H6 s6 hdA => wANil ⟨by show 3 ≤ sizeLine; decide, fun tA htA => ?_⟩))))))))
        have s57 : Same H5 (upd H6 tA (.tup [.ref fA, .ref fB, dA])) := s6.trans (Same.new htA)
        have hdA7 := hdA.mono (Same.new (o := .tup [.ref fA, .ref fB, dA]) htA)
        have tA7 : upd H6 tA (.tup [.ref fA, .ref fB, dA]) tA = some (.tup [.ref fA, .ref fB, dA]) := upd_same
        generalize upd H6 tA (.tup [.ref fA, .ref fB, dA]) = H7 at s57 hdA7 tA7 ⊢
        refine wACons (wTup (wACons (wGlob (v := .ref fC) gC rfl (wACons (wGlob (v := .ref fD) gD rfl (wACons (VP.run (P := fun v H' => LsE K H' duD v ((pairsL (pullB (floorC rows) cs m) cs).map fun p => (p, pullS (floorC rows) (cs, m) p))) (vpCall3 F6 hr (vpVar 3 rfl (hcv5.same s57).row) (fun H6 s6 => vpVar 5 rfl (hzv5.same (s57.trans s6)).ls) (fun H6 s6 => vpVar 6 rfl (hyv5.mono (TS.of (s57.trans s6)))) rowS lsS fun v u y H' s h1 h2 h3 Q q => ⟨v, u, y, floorC rows, cs, m, rfl, h1, h2, h3, by omega, by omega, cells_asc _ _, St.asc.nodup, St.inF, mF, mN, fun r H'' s' h' => q r H'' s' (by rw [scs, eC] at h'; exact h')⟩) fun dC H8 s8 hdC => wANil ⟨by show 3 ≤ sizeLine; decide, fun tC htC => wANil ⟨by show 2 ≤ sizeLine; decide, fun Lx hLx => ?_⟩⟩)))))))
        have s7b : Same H7 (upd (upd H8 tC (.tup [.ref fC, .ref fD, dC])) Lx (.lst [.ref tA, .ref tC])) := (s8.trans (Same.new htC)).trans (Same.new hLx)
        have hdC9 := hdC.mono ((Same.new (o := .tup [.ref fC, .ref fD, dC]) htC).trans (Same.new (o := .lst [.ref tA, .ref tC]) hLx))
        have tC9 : upd (upd H8 tC (.tup [.ref fC, .ref fD, dC])) Lx (.lst [.ref tA, .ref tC]) tC = some (.tup [.ref fC, .ref fD, dC]) := Same.new hLx _ _ upd_same
        have hLx9 : upd (upd H8 tC (.tup [.ref fC, .ref fD, dC])) Lx (.lst [.ref tA, .ref tC]) Lx = some (.lst [.ref tA, .ref tC]) := upd_same
        generalize upd (upd H8 tC (.tup [.ref fC, .ref fD, dC])) Lx (.lst [.ref tA, .ref tC]) = H9 at s7b hdC9 tC9 hLx9 ⊢
        have s59 := s57.trans s7b
        have zlen : ∀ (p : Push) (z : Cell), (behS (floorC rows) (cs, m) p z).1.length ≤ 1000 := fun p z => by
          show (sortC (mvL cs p.1 (go p.1 p.2 1))).length ≤ 1000
          rw [sortC_len, mvL_len]
          omega
        have halves : ∀ y ∈ [V.ref tA, V.ref tC], Half2 P w K mg base CB rows (cs, m) H9 y := by
          intro y hy
          rcases List.mem_cons.mp hy with e | hy
          · exact ⟨tA, fA, fB, dA, pushB, pushS, fdA, fdB, psA, psB, e, s7b _ _ tA7, hA, hB, fun p _ => zlen p _, hdA7.mono s7b⟩
          · rcases List.mem_singleton.mp hy with e
            exact ⟨tC, fC, fD, dC, pullB, pullS, fdC, fdD, psC, psD', e, tC9, hC, hD, fun p _ => zlen p _, hdC9⟩
        refine ⟨Lx, [.ref tA, .ref tC], rfl, sqL hLx9, fun _ σ' H' => ∃ (y9 y10 y11 y12 y13 y14 y15 y16 y17 : Option V), σ' = [some (.ref a), some (.ref R), some rv, some cv, some ev, some zv, some yv, some (.int (i0 : Nat)), some hv, y9, y10, y11, y12, y13, y14, y15, y16, y17] ∧ Same H9 H', ⟨_, _, _, _, _, _, _, _, _, rfl, Same.refl _⟩, ?_, ?_, ?_⟩
        · intro i σ' H' _ hP
          obtain ⟨_, _, _, _, _, _, _, _, _, _, s⟩ := hP
          exact sqL (s _ _ hLx9)
        · intro i y σ' HA hy hP
          obtain ⟨y9, y10, y11, y12, y13, y14, y15, y16, y17, rfl, sA⟩ := hP
          have s5A := s59.trans sA
          have hrvA := hrv5.mono (TS.of s5A)
          have hcvA := hcv5.same s5A
          have hzvA := hzv5.same s5A
          have hhA := hh5.mono (TS.of s5A)
          obtain ⟨t, fa, fb, du, B, Z, fda, fdb, psa, psb, rfl, ht, hAsk, hBeh, zl, hdu⟩ := (halves y (List.mem_of_getElem? hy)).mono sA
          have lps := pairsL_len (B (floorC rows) cs m) cs
          have zl : ∀ p ∈ pairsL (B (floorC rows) cs m) cs, (Z (floorC rows) (cs, m) p).1.length ≤ 1000 := zl
          have hdu : LsE K HA duD du ((pairsL (B (floorC rows) cs m) cs).map fun p => (p, Z (floorC rows) (cs, m) p)) := hdu
          obtain ⟨ps, eps⟩ : ∃ ps, ps = pairsL (B (floorC rows) cs m) cs := ⟨_, rfl⟩
          rw [← eps] at lps zl hdu
          refine gT3 rfl ⟨t, _, _, _, rfl, sqT ht, gNm 9 (gNm 10 (gNm 11 ?_ scLaw.nd) scLaw.nd) scLaw.nd⟩
          -- what is listed is what is due
          refine sCons (sIfT (k := false) (tvNot (k := true) (tvVal (vpCall2 F7 hr (vpCallL2 (P := fun v H' => Im H' v (psD ps)) 9 hAsk.ok hAsk.kp hAsk.bn pass0 hr rfl (vpVar 2 rfl hrvA) (fun HB sB => vpVar 8 rfl (hhA.mono (TS.of sB))) imS fun v u H' s h1 h2 Q q => ⟨v, u, rows, (cs, m), rfl, h1, RO, h2, St, fun r H'' s' h' => q r H'' s' (by rw [eps]; exact h')⟩) (fun HB sB => vpTupOf (enc := pD) (cs := ps) T.n_tuple (fun Q' q' => oLc0 rfl scLaw.nd (blkOk_by (own := [("_law_one", 12), ("_law_there", 13)]) (N := ["_law_script", "_law_row", "_law_room_here", "_law_cells_here", "_law_ends", "_law_crates", "_law_mover", "_law_turn", "_law_here", "_law_ask", "_law_behind", "_law_due", "_law_one", "_law_there", "_law_known", "_law_some_here", "_law_cell", "_law_letter"]) (sc := defScope sLaw) (by decide +kernel)) (lcG0 (fun H v (b : Push × Stand) => Im H v (duD b)) (fun H v (p : Push) => Im H v (pD p)) (fun H v (b : Push × Stand) σ2 => ∃ x, σ2[12]? = some (some x) ∧ Im H x (pD b.1)) (fun b => b.1) (ps.map fun p => (p, Z (floorC rows) (cs, m) p)) (fun _ _ _ _ s h => h.mono (TS.of s)) (fun _ _ _ _ s h => h.mono s)
            (by
              obtain ⟨l, ys, e, hl, hy⟩ := hdu.mono sB
              exact iL (wVar 11 rfl ⟨l, e, ⟨_, hl⟩, Same.refl _, _, srcL hl, paired_map.mp hy⟩)) (by rw [List.length_map]; omega)
            (fun v b H' s e mm => fun s0 H0 C cl fp => by
              obtain ⟨tl, xx, xy, rfl, htl, hxx, hxy⟩ := tup_row e
              exact gT2 rfl ⟨tl, xx, xy, rfl, sqT htl, gNm 12 (gNm 13 ⟨rfl, rfl, xx, rfl, hxx⟩ scLaw.nd) scLaw.nd⟩)
            (fun v b H' σ2 s e mm hT K2 k s0 H0 C cl fp => by
              obtain ⟨x, h1, h2⟩ := hT
              exact VP.run (vpVar 12 h1 h2) k)
            (fun Dl acc H' s n ha hp => q' _ _ s ⟨Dl, acc, rfl, sqL ha, paired_map.mpr (by rw [List.map_map, show ((fun b : Push × Stand => b.1) ∘ fun p => (p, Z (floorC rows) (cs, m) p)) = id from rfl, List.map_id] at hp; exact hp)⟩)))) imS fun v u H' s h1 h2 Q q => ⟨v, u, psD ps, rfl, h1, h2, aOk_pushes (by omega), fun H'' s' => q _ H'' s' rfl⟩))) (fun e => nomatch e) fun _ HB sB => sNil ?_)
          -- what is behind each is what is due
          have hduB := hdu.mono sB
          obtain ⟨dl, dvs, edu, hdl, hdi⟩ := hduB
          refine sCons (sForL PassesOwn.never rfl (wVar 11 rfl ⟨dl, dvs, edu, hdl, fun _ σ' H' => ∃ (z12 z13 : Option V), σ' = [some (.ref a), some (.ref R), some rv, some cv, some ev, some zv, some yv, some (.int (i0 : Nat)), some hv, some (.ref fa), some (.ref fb), some du, z12, z13, y14, y15, y16, y17] ∧ Same HB H', ⟨_, _, rfl, Same.refl _⟩, fun _ _ _ _ hP => by
            obtain ⟨_, _, _, s⟩ := hP
            exact s.seq hdl, ?_, ?_⟩))
          · intro jj yy σ' HC hyy hP
            obtain ⟨z12, z13, rfl, sC⟩ := hP
            obtain ⟨b, hb, imb⟩ := paired_get (paired_map.mp hdi) hyy
            rw [List.getElem?_map] at hb
            obtain ⟨pp, hpp, e⟩ := Option.map_eq_some_iff.mp hb
            subst e
            have mpp : pp ∈ ps := List.mem_of_getElem? hpp
            obtain ⟨tl, xx, xy, rfl, htl, hxx, hxy⟩ := tup_row (imb.mono (TS.of sC))
            have sBC := sB.trans sC
            refine gT2 rfl ⟨tl, _, _, rfl, sqT htl, gNm 12 (gNm 13 ?_ scLaw.nd) scLaw.nd⟩
            refine sOne (sIfT (k := false) (tvNot (k := true) (tvVal (vpCall2 F7 hr (vpCallL3 (P := fun v H' => Im H' v (stD (Z (floorC rows) (cs, m) pp))) 10 hBeh.ok hBeh.kp hBeh.bn passL hr rfl (vpVar 2 rfl (hrvA.mono (TS.of sBC))) (fun HD sD => vpVar 8 rfl (hhA.mono (TS.of (sBC.trans sD)))) (fun HD sD => vpVar 12 rfl (hxx.mono (TS.of sD))) imS imS fun v u y H' s h1 h2 h3 Q q => ⟨v, u, y, rows, (cs, m), rfl, h1, RO, h2, St, .inl ⟨pp, h3, by rw [← eps]; exact mpp, q⟩⟩) (fun HD sD => vpVar 13 rfl (hxy.mono (TS.of sD))) imS fun v u H' s h1 h2 Q q => ⟨v, u, stD (Z (floorC rows) (cs, m) pp), rfl, h1, h2, aOk_stand (zl pp mpp), fun H'' s' => q _ H'' s' rfl⟩))) (fun e => nomatch e) fun _ HD sD => sNil ⟨_, _, rfl, sC.trans sD⟩)
          · intro σ' HC hP
            obtain ⟨z12, z13, rfl, sC⟩ := hP
            have sAC := sB.trans sC
            have hrvC := hrvA.mono (TS.of sAC)
            have hcvC := hcvA.same sAC
            have hzvC := hzvA.same sAC
            have hhC := hhA.mono (TS.of sAC)
            have hduC := hdu.mono sAC
            refine sCons (sSet 14 (VP.run (P := fun v H' => LsE K H' pD v ps) (fun Q' q' => oLc0 rfl scLaw.nd (blkOk_by (own := [("_law_one", 12), ("_law_there", 13)]) (N := ["_law_script", "_law_row", "_law_room_here", "_law_cells_here", "_law_ends", "_law_crates", "_law_mover", "_law_turn", "_law_here", "_law_ask", "_law_behind", "_law_due", "_law_one", "_law_there", "_law_known", "_law_some_here", "_law_cell", "_law_letter"]) (sc := defScope sLaw) (by decide +kernel)) (lcG0 (fun H v (b : Push × Stand) => Im H v (duD b)) (fun H v (p : Push) => Im H v (pD p)) (fun H v (b : Push × Stand) σ2 => ∃ x, σ2[12]? = some (some x) ∧ Im H x (pD b.1)) (fun b => b.1) (ps.map fun p => (p, Z (floorC rows) (cs, m) p)) (fun _ _ _ _ s h => h.mono (TS.of s)) (fun _ _ _ _ s h => h.mono s)
            (by
              obtain ⟨l, ys, e, hl, hy⟩ := hduC
              exact iL (wVar 11 rfl ⟨l, e, ⟨_, hl⟩, Same.refl _, _, srcL hl, paired_map.mp hy⟩)) (by rw [List.length_map]; omega)
            (fun v b H' s e mm => fun s0 H0 C cl fp => by
              obtain ⟨tl, xx, xy, rfl, htl, hxx, hxy⟩ := tup_row e
              exact gT2 rfl ⟨tl, xx, xy, rfl, sqT htl, gNm 12 (gNm 13 ⟨rfl, rfl, xx, rfl, hxx⟩ scLaw.nd) scLaw.nd⟩)
            (fun v b H' σ2 s e mm hT K2 k s0 H0 C cl fp => by
              obtain ⟨x, h1, h2⟩ := hT
              exact VP.run (vpVar 12 h1 h2) k)
            (fun Dl acc H' s n ha hp => q' _ _ s ⟨Dl, acc, rfl, sqL ha, paired_map.mpr (by rw [List.map_map, show ((fun b : Push × Stand => b.1) ∘ fun p => (p, Z (floorC rows) (cs, m) p)) = id from rfl, List.map_id] at hp; exact hp)⟩))) fun kv HD sD hkv => ?_) scLaw.nd)
            have sCD := sD
            refine sCons (sSet 15 (wLst (wANil ⟨Nat.zero_le _, fun S0 hS0 => ?_⟩)) scLaw.nd)
            have sCE : Same HC (upd HD S0 (.lst [])) := sD.trans (Same.new hS0)
            have hkvE := hkv.mono (Same.new (o := .lst []) hS0)
            have hS0E : upd HD S0 (.lst []) S0 = some (.lst []) := upd_same
            generalize upd HD S0 (.lst []) = HE at sCE hkvE hS0E ⊢
            obtain ⟨cl, cvs, ecv, _, hcl, hci⟩ := hcvC.same sCE
            have lcv : cvs.length ≤ 16 := by
              rw [Paired.length hci, List.length_map]
              exact fl16
            refine sCons (sForL PassesOwn.never rfl (wCut (vpVar 3 rfl ⟨cl, cvs, ecv, hcl, fun q1 HF sF hq1 => ⟨q1, cutV cvs none (some 6), rfl, sqL upd_same, fun i σ' H' => ∃ (L : Addr) (acc : List V) (qs : List Push) (z16 z17 : Option V), σ' = [some (.ref a), some (.ref R), some rv, some cv, some ev, some zv, some yv, some (.int (i0 : Nat)), some hv, some (.ref fa), some (.ref fb), some du, z12, z13, some kv, some (.ref L), z16, z17] ∧ Same (upd HF q1 (.lst (cutV cvs none (some 6)))) H' ∧ H' L = some (.lst acc) ∧ Paired (fun v p => Im H' v (pD p)) acc qs ∧ (∀ q ∈ qs, q ∉ ps) ∧ acc.length ≤ 4 * i, ?_, ?_, ?_, ?_⟩⟩)))
            · exact ⟨S0, [], [], _, _, rfl, Same.refl _, (sF.trans (Same.new hq1)) _ _ hS0E, .nil, by simp, Nat.le_refl _⟩
            · intro i σ' H' _ hP
              obtain ⟨_, _, _, _, _, _, s, _⟩ := hP
              exact sqL (s _ _ upd_same)
            · intro i yy σ' HG hyy hP
              obtain ⟨L, acc, qs, z16, z17, rfl, sG, hL, hq, hqs, lacc⟩ := hP
              have sEG := (sF.trans (Same.new (o := .lst (cutV cvs none (some 6))) hq1)).trans sG
              have icut : i < (cutV cvs none (some 6)).length := by
                rcases Nat.lt_or_ge i (cutV cvs none (some 6)).length with z | z
                · exact z
                · rw [List.getElem?_eq_none z] at hyy
                  cases hyy
              have lcut := cutV_length cvs none (some 6)
              obtain ⟨c, imc⟩ := iml_mem hci (cut_mem (List.mem_of_getElem? hyy))
              have imcG := imc.mono (TS.of sEG)
              have hkvG := hkvE.mono sEG
              refine gNm 16 ?_ scLaw.nd
              refine sOne (sSet 15 (wBin op_cat (wVar 15 rfl ?_)) scLaw.nd)
              refine oLc1 rfl scLaw.nd (blkOk_by (own := [("_law_letter", 17)]) (N := ["_law_script", "_law_row", "_law_room_here", "_law_cells_here", "_law_ends", "_law_crates", "_law_mover", "_law_turn", "_law_here", "_law_ask", "_law_behind", "_law_due", "_law_one", "_law_there", "_law_known", "_law_some_here", "_law_cell", "_law_letter"]) (sc := defScope sLaw) (by decide +kernel)) (lcM1 17 (fun _ v (d : Dir) => v = .str d.str) (fun H v (p : Push) => Im H v (pD p)) (fun d => !isIn (c, d) ps) (fun d => (c, d)) dirs (fun _ _ _ _ _ => pg_name (i := 17) scLaw.nd rfl (Or.inl rfl)) (fun _ => rfl) (fun _ _ _ _ _ h => h) (fun _ _ _ _ s h => h.mono s) ?_ (by decide) ?_ ?_ ?_)
              · exact iS (wStr ⟨_, rfl, Same.refl _, _, srcS, by rw [ensw_eq]; exact paired_self⟩)
              · intro v3 d H' s e mm K2 k s0 H0 C cl fp
                subst e
                exact TV.run (tvNotInE enc_push (hu65 hr) (x := (c, d)) (cs := ps) (vpPair (d1 := cD c) (d2 := .str d.str) (vpVar 16 rfl (imcG.mono (TS.of s))) fun H2 s2 => vpVar 17 rfl (.str _)) fun H2 s2 => vpVar 14 rfl (hkvG.mono (s.trans s2)).row) k
              · intro v3 d H' s e mm hp K2 k s0 H0 C cl fp
                subst e
                exact VP.run (vpPair (d1 := cD c) (d2 := .str d.str) (vpVar 16 rfl (imcG.mono (TS.of s))) fun H2 s2 => vpVar 17 rfl (.str _)) fun z H3 s3 h => k z H3 s3 h
              · intro Dl acc2 H' s n2 ha hp
                have la2 : acc2.length ≤ 4 := by
                  rw [Paired.length hp, List.length_map]
                  exact List.length_filter_le _ dirs
                refine ⟨L, Dl, acc, acc2, rfl, rfl, s _ _ hL, ha, sz (by omega), fun p hp2 => ⟨p, acc ++ acc2, qs ++ (dirs.filter fun d => !isIn (c, d) ps).map fun d => (c, d), _, _, rfl, sG.trans (s.trans (Same.new hp2)), upd_same, ?_, ?_, by rw [List.length_append]; omega⟩⟩
                · exact paired_append (paired_mono hq fun _ _ h => h.mono ((TS.of s).trans (TS.new hp2))) (paired_mono hp fun _ _ h => h.mono (TS.new hp2))
                · intro q hq
                  rcases List.mem_append.mp hq with hq | hq
                  · exact hqs q hq
                  · obtain ⟨d, hd, e⟩ := List.mem_map.mp hq
                    have h2 := (List.mem_filter.mp hd).2
                    intro z
                    rw [← e] at z
                    rw [isIn_yes z] at h2
                    cases h2
            · intro σ' HG hP
              obtain ⟨L, acc, qs, z16, z17, rfl, sG, hL, hq, hqs, lacc⟩ := hP
              have lcut := cutV_length cvs none (some 6)
              have sEG := (sF.trans (Same.new (o := .lst (cutV cvs none (some 6))) hq1)).trans sG
              have sCG := sCE.trans sEG
              have hzvG := hzvC.same sCG
              obtain ⟨c0, hc0⟩ := St.first
              have hc0 : cs[0]? = some c0 := hc0
              refine sCons (sSet 15 (wBin op_cat (wVar 15 rfl (wLst (wACons (VP.run vpWNon fun w1 I1 i1 k1 => wACons (VP.run vpW0 fun w2 I2 i2 k2 => wACons (VP.run (vpW1 (vpIxL (i := 0) (P := fun v H' => Im H' v (cD c0)) (VP.mono (P := fun v H' => LsE K H' cD v cs) (vpVar 5 rfl (hzvG.same (i1.trans i2)).ls) fun v H' s h => h.get hc0) (fun _ _ => vpInt) imS)) fun w3 I3 i3 k3 => wACons (VP.run (vpWStr (.inl rfl) (vpIxL (i := 0) (P := fun v H' => Im H' v (cD c0)) (VP.mono (P := fun v H' => LsE K H' cD v cs) (vpVar 5 rfl (hzvG.same (i1.trans (i2.trans i3))).ls) fun v H' s h => h.get hc0) (fun _ _ => vpInt) imS)) fun w4 I4 i4 k4 => wACons (VP.run (vpWStr (.inr rfl) (vpIxL (i := 0) (P := fun v H' => Im H' v (cD c0)) (VP.mono (P := fun v H' => LsE K H' cD v cs) (vpVar 5 rfl (hzvG.same (i1.trans (i2.trans (i3.trans i4)))).ls) fun v H' s h => h.get hc0) (fun _ _ => vpInt) imS)) fun w5 I5 i5 k5 =>
                wACons (VP.run (vpWLst (vpListC T.n_list (vpIxL (i := 0) (P := fun v H' => Im H' v (cD c0)) (VP.mono (P := fun v H' => LsE K H' cD v cs) (vpVar 5 rfl (hzvG.same (i1.trans (i2.trans (i3.trans (i4.trans i5))))).ls) fun v H' s h => h.get hc0) (fun _ _ => vpInt) imS))) fun w6 I6 i6 k6 => wACons (VP.run (vpWInt (vpIxL (i := 0) (P := fun v H' => Im H' v (cD c0)) (VP.mono (P := fun v H' => LsE K H' cD v cs) (vpVar 5 rfl (hzvG.same (i1.trans (i2.trans (i3.trans (i4.trans (i5.trans i6)))))).ls) fun v H' s h => h.get hc0) (fun _ _ => vpInt) imS)) fun w7 I7 i7 k7 => wACons (VP.run vpWTru fun w8 I8 i8 k8 => wANil ⟨by show 8 ≤ sizeLine; decide, fun q2 hq2 => ?_⟩)))))))))))) scLaw.nd)
              have j8 : Same HG I8 := i1.trans (i2.trans (i3.trans (i4.trans (i5.trans (i6.trans (i7.trans i8))))))
              have j9 : Same HG (upd I8 q2 (.lst [w1, w2, w3, w4, w5, w6, w7, w8])) := j8.trans (Same.new hq2)
              refine ⟨L, q2, acc, _, rfl, rfl, j9 _ _ hL, upd_same, sz (by show acc.length + 8 ≤ 100000; omega), fun q3 hq3 => ?_⟩
              have n23 := (Same.new (o := .lst [w1, w2, w3, w4, w5, w6, w7, w8]) hq2).trans (Same.new (o := .lst (acc ++ [w1, w2, w3, w4, w5, w6, w7, w8])) hq3)
              have all : ∀ v ∈ acc ++ [w1, w2, w3, w4, w5, w6, w7, w8], NoMove (upd (upd I8 q2 (.lst [w1, w2, w3, w4, w5, w6, w7, w8])) q3 (.lst (acc ++ [w1, w2, w3, w4, w5, w6, w7, w8]))) v ps := by
                intro v hv
                rcases List.mem_append.mp hv with hv | hv
                · obtain ⟨ii, hii, e⟩ := List.mem_iff_getElem.mp hv
                  obtain ⟨p, hp, im⟩ := paired_get hq (show acc[ii]? = some v by rw [List.getElem?_eq_getElem hii, e])
                  exact .inr ⟨p, im.mono (TS.of (j8.trans n23)), hqs p (List.mem_of_getElem? hp)⟩
                · simp only [List.mem_cons, List.not_mem_nil, or_false] at hv
                  refine .inl ?_
                  rcases hv with e | e | e | e | e | e | e | e <;> subst e
                  · exact k1.mono ((i2.trans (i3.trans (i4.trans (i5.trans (i6.trans (i7.trans i8)))))).trans n23)
                  · exact k2.mono ((i3.trans (i4.trans (i5.trans (i6.trans (i7.trans i8))))).trans n23)
                  · exact k3.mono ((i4.trans (i5.trans (i6.trans (i7.trans i8)))).trans n23)
                  · exact k4.mono ((i5.trans (i6.trans (i7.trans i8))).trans n23)
                  · exact k5.mono ((i6.trans (i7.trans i8)).trans n23)
                  · exact k6.mono ((i7.trans i8).trans n23)
                  · exact k7.mono (i8.trans n23)
                  · exact k8.mono n23
              have hq3s : upd (upd I8 q2 (.lst [w1, w2, w3, w4, w5, w6, w7, w8])) q3 (.lst (acc ++ [w1, w2, w3, w4, w5, w6, w7, w8])) q3 = some (.lst (acc ++ [w1, w2, w3, w4, w5, w6, w7, w8])) := upd_same
              have sCJ := sCG.trans (j8.trans n23)
              have lall : (acc ++ [w1, w2, w3, w4, w5, w6, w7, w8]).length ≤ 1000 := by
                rw [List.length_append]
                show acc.length + 8 ≤ 1000
                omega
              generalize upd (upd I8 q2 (.lst [w1, w2, w3, w4, w5, w6, w7, w8])) q3 (.lst (acc ++ [w1, w2, w3, w4, w5, w6, w7, w8])) = HJ at all hq3s sCJ ⊢
              generalize acc ++ [w1, w2, w3, w4, w5, w6, w7, w8] = vall at all hq3s lall
              refine sOne (sIfT (k := false) (TV.to (tvNeNil (k := true) (hu65 hr) ?_) rfl) (fun e => nomatch e) fun _ HK sK => sNil ?_)
              · refine fun Q' q' => oLc1 rfl scLaw.nd (blkOk_by (own := [("_law_one", 12)]) (N := ["_law_script", "_law_row", "_law_room_here", "_law_cells_here", "_law_ends", "_law_crates", "_law_mover", "_law_turn", "_law_here", "_law_ask", "_law_behind", "_law_due", "_law_one", "_law_there", "_law_known", "_law_some_here", "_law_cell", "_law_letter"]) (sc := defScope sLaw) (by decide +kernel)) (lcM1 12 (fun H v (d : V) => v = d ∧ NoMove H v ps) (fun _ v (d : V) => v = d) (fun _ => false) (fun d => d) vall (fun _ _ _ _ _ => pg_name (i := 12) scLaw.nd rfl (Or.inl rfl)) (fun _ => rfl) (fun _ _ _ _ s h => ⟨h.1, h.2.mono s⟩) (fun _ _ _ _ _ h => h) ?_ (by omega) ?_ ?_ ?_)
                · exact iL (wVar 15 rfl ⟨q3, rfl, ⟨_, sqL hq3s⟩, Same.refl _, _, srcL (sqL hq3s), paired_all all⟩)
                · intro v3 d H' s e mm K2 kk s0 H0 C cl fp
                  obtain ⟨e, hno⟩ := e
                  have sz := sCJ.trans s
                  refine tNotT (tVal (wCall F8 hr (wACons (wVar 10 rfl (wACons (wVar 2 rfl (wACons (wVar 8 rfl (wACons (wVar 12 rfl (wANil ⟨fb, fdb, psb, B, Z, rv, hv, v3, rows, (cs, m), rfl, hBeh, hrvC.mono (TS.of sz), RO, hhC.mono (TS.of sz), St, by rw [← eps]; exact hno, fun H'' s'' => ⟨true, rfl, kk H'' s''⟩⟩)))))))))))
                · intro v3 d H' s e mm hp
                  cases hp
                · intro Dl acc3 H' s n2 ha hp
                  have e0 : vall.filter (fun _ => false) = [] := by simp
                  rw [e0] at hp
                  cases hp
                  exact q' _ _ s (nil_0 (sqL ha))
              · exact ⟨_, _, _, _, _, _, _, _, _, rfl, sA.trans (sAC.trans (sCJ.trans sK))⟩
        · intro σ' HA hP
          obtain ⟨y9, y10, y11, y12, y13, y14, y15, y16, y17, rfl, sA⟩ := hP
          exact ⟨_, _, _, _, _, _, _, _, _, rfl, s59.trans sA⟩
      · intro σ' H6 hN
        obtain ⟨y9, y10, y11, y12, y13, y14, y15, y16, y17, rfl, s6⟩ := hN
        have hR6 := hR5.mono s6
        have hrv6 := hrv5.mono (TS.of s6)
        have hcv6 := hcv5.same s6
        have hev6 := hev5.same s6
        refine sCons (sSet 5 (wCall F3 hr (wACons (wVar 1 rfl (wACons (wVar 3 rfl (wACons (VP.run (vpLen T.n_len (vpVar 4 rfl hev6.ls.sqn)) fun v7 H7 s7 e7 => wANil ⟨R, cv, floorC rows, (goalsC rows).length, a, ns, by rw [e7]; rfl, (hcv6.same s7).row, (cells_asc rows "-ocCmM").nodup, by omega, by omega, hR6.mono s7, fun zv2 cs2 H8 sx8 hR8 hzv8 asc8 len8 in8 => ?_⟩)))))) ) scLaw.nd)
        have t8 := (hR6.mono s7).ts sx8
        have hcv8 := (hcv6.same s7).mono sx8 t8
        have hev8 := (hev6.same s7).mono sx8 t8
        have hrv8 := (hrv6.mono (TS.of s7)).mono t8
        refine sOne (sSet 6 (wCall F4 hr (wACons (wVar 1 rfl (wACons ?_)))) scLaw.nd)
        refine oLc1 rfl scLaw.nd (blkOk_by (own := [("_law_cell", 16)]) (N := ["_law_script", "_law_row", "_law_room_here", "_law_cells_here", "_law_ends", "_law_crates", "_law_mover", "_law_turn", "_law_here", "_law_ask", "_law_behind", "_law_due", "_law_one", "_law_there", "_law_known", "_law_some_here", "_law_cell", "_law_letter"]) (sc := defScope sLaw) (by decide +kernel)) (lcM1 16 (fun H v (d : Cell) => Im H v (cD d)) (fun H v (d : Cell) => Im H v (cD d)) (fun c => !isIn c cs2) (fun c => c) (floorC rows) (fun _ _ _ _ _ => pg_name (i := 16) scLaw.nd rfl (Or.inl rfl)) (fun _ => rfl) (fun _ _ _ _ s h => h.mono (TS.of s)) (fun _ _ _ _ s h => h.mono s) ?_ (by omega) ?_ ?_ ?_)
        · obtain ⟨l, ys, e, _, hl, hy⟩ := hcv8
          exact iL (wVar 3 rfl ⟨l, e, ⟨_, hl⟩, Same.refl _, _, srcL hl, paired_map.mp hy⟩)
        · intro v2 d H' s e m K2 k s0 H0 C cl fp
          exact TV.run (tvNotInE enc_cell (hu65 hr) (x := d) (cs := cs2) (vpVar 16 rfl e) fun H2 s2 => vpVar 5 rfl (hzv8.same (s.trans s2)).row) k
        · intro v2 d H' s e m _ K2 k s0 H0 C cl fp
          exact VP.run (vpVar 16 rfl e) fun z H3 s3 h => k z H3 s3 h
        · intro Dl acc H9 s9 n9 ha hp
          rw [List.map_id'] at hp
          have hp : Paired (fun v (c : Cell) => Im H9 v (cD c)) acc (frL (floorC rows) cs2) := hp
          have lacc : acc.length = (frL (floorC rows) cs2).length := Paired.length hp
          have fne := frL_ne (S := cs2) (cells_asc rows "-ocCmM").nodup (by show cs2.length < (floorC rows).length; omega)
          have fle := frL_len (area := floorC rows) (cs := cs2)
          have fne : 1 ≤ (frL (floorC rows) cs2).length := fne
          refine wANil ⟨R, Dl, a, ns, acc, rfl, hR8.ne n9, sqL ha, by omega, by omega, hR8.mono s9, fun i y HA hy sxA hRA => ?_⟩
          obtain ⟨m2, hm2, imm⟩ := paired_get hp hy
          have mm := frL_mem.mp (List.mem_of_getElem? hm2)
          have tA := (hR8.mono s9).ts sxA
          exact ⟨zv2, y, cs2, m2, _, _, _, _, _, _, _, _, _, _, _, rfl, hRA, (hrv8.mono (TS.of s9)).mono tA, (hcv8.same s9).mono sxA tA, (hev8.same s9).mono sxA tA, (hzv8.same s9).mono sxA tA, ⟨asc8, fun z => by
            have z : cs2 = [] := z
            rw [z] at len8
            have : (goalsC rows).length = 0 := len8.symm
            omega, by show cs2.length ≤ 16; omega, in8, len8, mm.1, mm.2⟩, imm.mono tA⟩
    · intro σ' H5 hP
      exact sOne (sRet (wBl (q H5)))
end CR
namespace CR
open PySem PySem.Spec PyProof.Rows L2
theorem law_end {P : Program} {w : World} {K : PySem.W.Frag} {h : Heap} {mg : Str → Option Value} {fa : Addr} (hm : MainP) (X : K.In h) (G : h.Ns mainGlobals mg) (hfa : mg "law" = some (.ref fa)) (F : Facts K w mg) :
    ∃ fd : FuncData, (∀ (s : Shared) (v : Value), BindsTo s fd ⟨[v], []⟩ [("_law_script", v)]) ∧ ∀ base : Heap, K.In base → base.Ns mainGlobals mg → FnOk P w K mg base CX0 60 fa fd ["_law_script"] (spLaw K) := by
  obtain ⟨f, fd, hF, hg, hb⟩ := F.d_law
  cases (hfa.symm.trans hg)
  obtain ⟨oc, od, kV, doc, pm, an, cdv, ct, osl, efd, lk, hcd⟩ := hF.ex
  refine ⟨fd, fun s v => ?_, fun base _ _ => hm P w K mg base _ fd F hF⟩
  rw [efd]
  exact .of_eq rfl
end CR
open PySem PySem.Spec PySem.W PyProof.Rows L2
set_option pp.maxSteps 200 in
set_option pp.deepTerms false in
set_option maxHeartbeats 0 in
theorem PySem.Challenge.cw_craterooms_k02_whole_pushes_holds : PySem.Challenge.rw_craterooms_k02_whole_pushes.Holds := by
  w_on; o_law; k_head; (case hw => w_witness2)
  k_fill
  refine L2.walk_of (l := PySem.Challenge.rw_craterooms_k02_whole_pushes) (n := 63) (k := 60) (x := "_law_script") (CX := fun _ => L2.CX0) (sp := fun w => CR.spLaw _) rfl (by decide) rfl ⟨rfl, by decide, by decide⟩ (fun w h Y => PySem.W.kIn_of Y) ?F (fun _ _ a ns hl _ hS => ⟨a, ns, rfl, hS, hl, fun _ => rfl⟩) (fun _ _ _ _ _ h => h)
  case F =>
    intro w mg fa h KX G hmg
    refine' CR.law_end (w := w) CR.main_ok KX G hmg ?FF
    refine' CR.facts_mk KX G ?a0 ?l0 ?c0 ?k0 ?a1 ?l1 ?c1 ?k1 ?a2 ?l2 ?c2 ?k2 ?a3 ?l3 ?c3 ?k3 ?a4 ?l4 ?c4 ?k4 ?a5 ?l5 ?c5 ?k5 ?a6 ?l6 ?c6 ?k6 ?a7 ?l7 ?c7 ?k7 ?a8 ?l8 ?c8 ?k8 ?a9 ?l9 ?c9 ?k9 ?a10 ?l10 ?c10 ?k10 ?a11 ?l11 ?c11 ?k11 ?a12 ?l12 ?c12 ?k12 ?a13 ?l13 ?c13 ?k13 ?a14 ?l14 ?c14 ?k14 ?a15 ?l15 ?c15 ?k15 ?a16 ?l16 ?c16 ?k16 ?a17 ?l17 ?c17 ?k17 ?a18 ?l18 ?c18 ?k18 ?a19 ?l19 ?c19 ?k19 ?a20 ?l20 ?c20 ?k20 ?a21 ?l21 ?c21 ?k21 ?a22 ?l22 ?c22 ?k22 ?a23 ?l23 ?c23 ?k23 ?a24 ?l24 ?c24 ?k24 ?a25 ?l25 ?c25 ?k25 ?a26 ?l26 ?c26 ?k26 ?a27 ?l27 ?c27 ?k27 ?a28 ?l28 ?c28 ?k28 ?a29 ?l29 ?c29 ?k29 ?a30 ?l30 ?c30 ?k30 ?a31 ?l31 ?c31 ?k31 ?a32 ?l32 ?c32 ?k32 ?a33 ?l33 ?c33 ?k33 ?a34 ?l34 ?c34 ?k34 ?a35 ?l35 ?c35 ?k35 ?a36 ?l36 ?c36 ?k36 ?a37 ?l37 ?c37 ?k37 ?a38 ?l38 ?c38 ?k38 ?a39 ?l39 ?c39 ?k39 ?a40 ?l40 ?c40 ?k40 ?a41 ?l41 ?c41 ?k41 ?aB ?lB ?cB ?kB ?lT ?aC ?aI ?iI ?lI ?cI ?kI ?aF ?iF ?lF ?cF ?kF ?pgC ?hdC ?poC ?saC ?mkC ?kC ?nC1 ?nC2 ?nC3 ?nC4 ?nC5 ?aP ?xP ?kP ?bP ?tP ?iP ?sP ?gS ?lS ?yS ?wS ?mS ?xS ?ES ?gK ?lK ?yK ?wK ?mK ?xK ?EK ?Se ?Te ?Sn ?Tn ?Ss ?Ts ?Sw ?Tw ?Be ?Bn ?Bs ?Bw ?gs ?gf ?gc ?z_len ?z_isinstance ?z_all ?z_tuple ?z_list ?z_str ?z_int ?z_bool ?z_range ?z_sorted ?z_min
    (case a0 => k_is)
    (case l0 => k_is)
    (case c0 => k_is)
    (case k0 => k_is)
    (case a1 => k_is)
    (case l1 => k_is)
    (case c1 => k_is)
    (case k1 => k_is)
    (case a2 => k_is)
    (case l2 => k_is)
    (case c2 => k_is)
    (case k2 => k_is)
    (case a3 => k_is)
    (case l3 => k_is)
    (case c3 => k_is)
    (case k3 => k_is)
    (case a4 => k_is)
    (case l4 => k_is)
    (case c4 => k_is)
    (case k4 => k_is)
    (case a5 => k_is)
    (case l5 => k_is)
    (case c5 => k_is)
    (case k5 => k_is)
    (case a6 => k_is)
    (case l6 => k_is)
    (case c6 => k_is)
    (case k6 => k_is)
    (case a7 => k_is)
    (case l7 => k_is)
    (case c7 => k_is)
    (case k7 => k_is)
    (case a8 => k_is)
    (case l8 => k_is)
    (case c8 => k_is)
    (case k8 => k_is)
    (case a9 => k_is)
    (case l9 => k_is)
    (case c9 => k_is)
    (case k9 => k_is)
    (case a10 => k_is)
    (case l10 => k_is)
    (case c10 => k_is)
    (case k10 => k_is)
    (case a11 => k_is)
    (case l11 => k_is)
    (case c11 => k_is)
    (case k11 => k_is)
    (case a12 => k_is)
    (case l12 => k_is)
    (case c12 => k_is)
    (case k12 => k_is)
    (case a13 => k_is)
    (case l13 => k_is)
    (case c13 => k_is)
    (case k13 => k_is)
    (case a14 => k_is)
    (case l14 => k_is)
    (case c14 => k_is)
    (case k14 => k_is)
    (case a15 => k_is)
    (case l15 => k_is)
    (case c15 => k_is)
    (case k15 => k_is)
    (case a16 => k_is)
    (case l16 => k_is)
    (case c16 => k_is)
    (case k16 => k_is)
    (case a17 => k_is)
    (case l17 => k_is)
    (case c17 => k_is)
    (case k17 => k_is)
    (case a18 => k_is)
    (case l18 => k_is)
    (case c18 => k_is)
    (case k18 => k_is)
    (case a19 => k_is)
    (case l19 => k_is)
    (case c19 => k_is)
    (case k19 => k_is)
    (case a20 => k_is)
    (case l20 => k_is)
    (case c20 => k_is)
    (case k20 => k_is)
    (case a21 => k_is)
    (case l21 => k_is)
    (case c21 => k_is)
    (case k21 => k_is)
    (case a22 => k_is)
    (case l22 => k_is)
    (case c22 => k_is)
    (case k22 => k_is)
    (case a23 => k_is)
    (case l23 => k_is)
    (case c23 => k_is)
    (case k23 => k_is)
    (case a24 => k_is)
    (case l24 => k_is)
    (case c24 => k_is)
    (case k24 => k_is)
    (case a25 => k_is)
    (case l25 => k_is)
    (case c25 => k_is)
    (case k25 => k_is)
    (case a26 => k_is)
    (case l26 => k_is)
    (case c26 => k_is)
    (case k26 => k_is)
    (case a27 => k_is)
    (case l27 => k_is)
    (case c27 => k_is)
    (case k27 => k_is)
    (case a28 => k_is)
    (case l28 => k_is)
    (case c28 => k_is)
    (case k28 => k_is)
    (case a29 => k_is)
    (case l29 => k_is)
    (case c29 => k_is)
    (case k29 => k_is)
    (case a30 => k_is)
    (case l30 => k_is)
    (case c30 => k_is)
    (case k30 => k_is)
    (case a31 => k_is)
    (case l31 => k_is)
    (case c31 => k_is)
    (case k31 => k_is)
    (case a32 => k_is)
    (case l32 => k_is)
    (case c32 => k_is)
    (case k32 => k_is)
    (case a33 => k_is)
    (case l33 => k_is)
    (case c33 => k_is)
    (case k33 => k_is)
    (case a34 => k_is)
    (case l34 => k_is)
    (case c34 => k_is)
    (case k34 => k_is)
    (case a35 => k_is)
    (case l35 => k_is)
    (case c35 => k_is)
    (case k35 => k_is)
    (case a36 => k_is)
    (case l36 => k_is)
    (case c36 => k_is)
    (case k36 => k_is)
    (case a37 => k_is)
    (case l37 => k_is)
    (case c37 => k_is)
    (case k37 => k_is)
    (case a38 => k_is)
    (case l38 => k_is)
    (case c38 => k_is)
    (case k38 => k_is)
    (case a39 => k_is)
    (case l39 => k_is)
    (case c39 => k_is)
    (case k39 => k_is)
    (case a40 => k_is)
    (case l40 => k_is)
    (case c40 => k_is)
    (case k40 => k_is)
    (case a41 => k_is)
    (case l41 => k_is)
    (case c41 => k_is)
    (case k41 => k_is)
    (case aB => k_is)
    (case lB => k_is)
    (case cB => k_is)
    (case kB => k_is)
    (case lT => k_is)
    (case aC => k_is)
    (case aI => k_is)
    (case iI => k_is)
    (case lI => k_is)
    (case cI => k_is)
    (case kI => k_is)
    (case aF => k_is)
    (case iF => k_is)
    (case lF => k_is)
    (case cF => k_is)
    (case kF => k_is)
    (case pgC => k_is)
    (case hdC => k_is)
    (case poC => k_is)
    (case saC => k_is)
    (case mkC => k_is)
    (case kC => k_is)
    (case nC1 => k_is)
    (case nC2 => k_is)
    (case nC3 => k_is)
    (case nC4 => k_is)
    (case nC5 => k_is)
    (case aP => k_is)
    (case xP => k_exc)
    (case kP => k_is)
    (case bP => k_is)
    (case tP => k_is)
    (case iP => k_is)
    (case sP => k_is)
    (case gS => k_is)
    (case lS => k_is)
    (case yS => k_keys)
    (case wS => first | rfl | decide)
    (case mS => exact ⟨_, _, _, _, rfl⟩)
    (case xS => k_is)
    (case ES => k_is)
    (case gK => k_is)
    (case lK => k_is)
    (case yK => k_keys)
    (case wK => first | rfl | decide)
    (case mK => exact ⟨_, _, _, _, rfl⟩)
    (case xK => k_is)
    (case EK => k_is)
    (case Se => k_is)
    (case Te => k_is)
    (case Sn => k_is)
    (case Tn => k_is)
    (case Ss => k_is)
    (case Ts => k_is)
    (case Sw => k_is)
    (case Tw => k_is)
    (case Be => k_is)
    (case Bn => k_is)
    (case Bs => k_is)
    (case Bw => k_is)
    (case gs => k_is)
    (case gf => k_is)
    (case gc => k_is)
    (case z_len => k_is)
    (case z_isinstance => k_is)
    (case z_all => k_is)
    (case z_tuple => k_is)
    (case z_list => k_is)
    (case z_str => k_is)
    (case z_int => k_is)
    (case z_bool => k_is)
    (case z_range => k_is)
    (case z_sorted => k_is)
    (case z_min => k_is)
