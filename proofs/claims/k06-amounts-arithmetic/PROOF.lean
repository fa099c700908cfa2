import PyProof.Rows.All
import Wide.All
import OpenK.AllK
import Wide.FinOn
import HandS.Base
import HandS.Call
import HandS.List
import HandS.Exc
import HandS.ExcOwn
import HandS.CallSlots
import HandS.Defaults
import HandS.MakeKw
import HandS.OwnEq
import HandS.IsInst
import HandS.Words
import HandS.HeadHook2
import HandS.ExcIs
import HandS.Head3
import HandS.HeadNt
import HandS.Wide
import HandS.Gcd
import HandS.HeadEnd
import PyProof.FactsAll.int_1
import PyProof.FactsAll.int_2
import PyProof.FactsAll.int_3
import PyProof.FactsAll.int_5
import PyProof.InstNe
import HandS.Comp
import HandS.Star
import OpenK.KMeth
import KE.KOpsOwn
import KE.KOwnIter
import HandS.IterVal
import HandS.ClsMeth
import HandS.Walk
import HandS.Flow
import PySem.Challenge.RW_neveridle_k06_amounts_arithmetic
set_option Elab.async false
set_option linter.all false
set_option maxRecDepth 100000
set_option maxHeartbeats 4000000
/-! WL: one weakest precondition for each kind of syntax, so that a body is walked in one pass. -/
namespace Ni
open PySem PySem.Spec PyProof.Rows L2

/-! ### the wishes -/
def XW (X : Cx) : WX := fun cls d σ H => ∀ u s', XE X (fun c' d' σ' H' => c' = cls ∧ d' = d ∧ σ' = σ ∧ H' = H) u s' → X.xe u s'
theorem xw_takes (X : Cx) : Takes X (XW X) := by
  intro u s' x
  obtain ⟨a, B, sI, pins, σ, H, cls, d, h1, h2, h3, h4, h5, h6, h7, h8, w⟩ := x
  exact w u s' ⟨a, B, sI, pins, σ, H, cls, d, h1, h2, h3, h4, h5, h6, h7, h8, rfl, rfl, rfl, rfl⟩
theorem xw_of {X : Cx} {W : WX} (tk : Takes X W) {cls : Value} {d : Option Addr} {σ : L2.St} {H : Hp} (h : W cls d σ H) : XW X cls d σ H := by
  intro u s' x
  refine tk u s' ?_
  obtain ⟨a, B, sI, pins, σ', H', cls', d', h1, h2, h3, h4, h5, h6, h7, h8, e1, e2, e3, e4⟩ := x
  subst e1 e2 e3 e4
  exact ⟨a, B, sI, pins, _, _, _, _, h1, h2, h3, h4, h5, h6, h7, h8, h⟩
abbrev xk (X : Cx) (σ : L2.St) : XK := fun cls d H => XW X cls d σ H

/-! ### the weakest preconditions -/
def We (X : Cx) (e : Expr) : TE := fun σ H Q => ∀ pins s, Inv X pins σ H s → wpAny (model X.prog X.w) X.A (eval e X.env) (EP X pins σ Q) X.xe s
def Wt (X : Cx) (e : Expr) : TT := fun σ H Q => ∀ pins s, Inv X pins σ H s → wpAny (model X.prog X.w) X.A (isTrue e X.env (eval e X.env)) (TP X pins σ Q) X.xe s
def Ww (X : Cx) (e : Expr) : TT := fun σ H Q => ∀ whole pins s, Inv X pins σ H s → wpAny (model X.prog X.w) X.A (isTrue e X.env whole) (TP X pins σ Q) X.xe s
def Wa (X : Cx) (es : List Expr) : TA := fun σ H Q => ∀ pos pins s, Inv X pins σ H s → wpAny (model X.prog X.w) X.A (spliced (backTo pos (starEach es X.env))) (AP X pins σ Q) X.xe s
def Wk (X : Cx) (ks : List Keyword) : TA := fun σ H Q => ∀ pos pins s, Inv X pins σ H s → wpAny (model X.prog X.w) X.A (evalAll ((backToKw pos (keywordEach ks X.env)).map (·.2))) (AP X pins σ Q) X.xe s
def Ws (X : Cx) (st : Stmt) : TS := fun D σ H => ∀ pins s, Inv X pins σ H s → wpAny (model X.prog X.w) X.A (exec st X.env) (SP X pins D) X.xe s
def Wb (X : Cx) (b : List Stmt) : TS := fun D σ H => ∀ pins s, Inv X pins σ H s → wpAny (model X.prog X.w) X.A (execs b X.env) (SP X pins D) X.xe s
def Wg (X : Cx) (tg : Expr) : TG := fun v σ H Q => ∀ pins s u, Inv X pins σ H s → RelV v u → wpAny (model X.prog X.w) X.A (assign tg X.env u) (fun _ s' => ∃ σ' H', Inv X pins σ' H' s' ∧ Q σ' H') X.xe s
def Wgs (X : Cx) (ts : List Expr) : TGs := fun vs σ H Q => ∀ pins s us, Inv X pins σ H s → Vals vs us →
    wpAny (model X.prog X.w) X.A (assignInOrder ((assignEach ts X.env).map (·.2)) us) (fun _ s' => ∃ σ' H', Inv X pins σ' H' s' ∧ Q σ' H') X.xe s
def Wo (X : Cx) (f : Value → Value → Sem Value) (x y : V) (σ : L2.St) (H : Hp) (Q : VK) : Prop := ∀ pins s v u, Inv X pins σ H s → RelV x v → RelV y u → wpAny (model X.prog X.w) X.A (f v u) (EP X pins σ Q) X.xe s
def Wu (X : Cx) (f : Value → Sem Value) (x : V) (σ : L2.St) (H : Hp) (Q : VK) : Prop := ∀ pins s v, Inv X pins σ H s → RelV x v → wpAny (model X.prog X.w) X.A (f v) (EP X pins σ Q) X.xe s
def Wf (X : Cx) (f : Value) (vs : List V) (σ : L2.St) (H : Hp) (Q : VK) : Prop := ∀ pins s us, Inv X pins σ H s → Vals vs us → wpAny (model X.prog X.w) X.A (call f us) (EP X pins σ Q) X.xe s
def Wset (X : Cx) (o i v : V) (σ : L2.St) (H : Hp) (Q : Hp → Prop) : Prop := ∀ pins s ov iv u, Inv X pins σ H s → RelV o ov → RelV i iv → RelV v u → wpAny (model X.prog X.w) X.A (setItem ov iv u) (fun _ s' => ∃ H', Inv X pins σ H' s' ∧ Q H') X.xe s

section
variable {X : Cx}
theorem We.pe {e : Expr} : PE X e (We X e) := ⟨fun pins s σ H Q I h => h pins s I⟩
theorem Wt.pt {e : Expr} : PT X e (Wt X e) := ⟨fun pins s σ H Q I h => h pins s I⟩
theorem Ww.pw {e : Expr} : PW X e (Ww X e) := ⟨fun wh pins s σ H Q I h => h wh pins s I⟩
theorem Wa.pa {es : List Expr} : PA X es (Wa X es) := ⟨fun pos pins s σ H Q I h => h pos pins s I⟩
theorem Wk.pk {es : List Keyword} : PK X es (Wk X es) := ⟨fun pos pins s σ H Q I h => h pos pins s I⟩
theorem Ws.ps {st : Stmt} : PS X st (Ws X st) := ⟨fun pins s σ H Q I h => h pins s I⟩
theorem Wb.pss {b : List Stmt} : PSs X b (Wb X b) := ⟨fun pins s σ H Q I h => h pins s I⟩
theorem Wg.pg {tg : Expr} : PG X tg (Wg X tg) := ⟨fun pins s σ H v u Q I r h => h pins s u I r⟩
theorem Wgs.pgs {tg : List Expr} : PGs X tg (Wgs X tg) := ⟨fun pins s σ H v u Q I r h => h pins s u I r⟩

variable {σ : L2.St} {H : Hp} {Q : VK} {e a b c o : Expr} {es : List Expr} {pos pos' : Pos}
theorem we_of {t : TE} (h : PE X e t) (q : t σ H Q) : We X e σ H Q := fun pins s I => h.run pins s σ H Q I q
theorem wt_of {t : TT} {Q : Bool → Hp → Prop} (h : PT X e t) (q : t σ H Q) : Wt X e σ H Q := fun pins s I => h.run pins s σ H Q I q
theorem ww_of {t : TT} {Q : Bool → Hp → Prop} (h : PW X e t) (q : t σ H Q) : Ww X e σ H Q := fun wh pins s I => h.run wh pins s σ H Q I q
theorem wa_of {t : TA} {Q : List V → Hp → Prop} (h : PA X es t) (q : t σ H Q) : Wa X es σ H Q := fun pos pins s I => h.run pos pins s σ H Q I q
theorem ws_of {st : Stmt} {t : TS} {D : Ends} (h : PS X st t) (q : t D σ H) : Ws X st D σ H := fun pins s I => h.run pins s σ H D I q
theorem wb_of {st : List Stmt} {t : TS} {D : Ends} (h : PSs X st t) (q : t D σ H) : Wb X st D σ H := fun pins s I => h.run pins s σ H D I q
theorem wg_of {t : TG} {v : V} {Q : L2.St → Hp → Prop} (h : PG X e t) (q : t v σ H Q) : Wg X e v σ H Q := fun pins s u I r => h.run pins s σ H v u Q I r q
theorem wo_of {f : Value → Value → Sem Value} {r : R2} {x y : V} (h : OpR X f r) (q : r x y H Q) : Wo X f x y σ H Q := fun pins s v u I rx ry => h pins s σ H x y v u Q I rx ry q
theorem wu_of {f : Value → Sem Value} {r : V → Hp → VK → Prop} {x : V} (h : UnR X f r) (q : r x H Q) : Wu X f x σ H Q := fun pins s v I rx => h pins s σ H x v Q I rx q
theorem wf_of {f : Value} {r : List V → Hp → VK → Prop} {vs : List V} (h : CallR X f r) (q : r vs H Q) : Wf X f vs σ H Q := fun pins s us I r' => h pins s σ H vs us Q I r' q
theorem wset_of {t : TSet} {x i v : V} {Q : Hp → Prop} (h : PSet X t) (q : t x i v H Q) : Wset X x i v σ H Q := fun pins s ov iv u I r1 r2 r3 => h pins s σ H x i v ov iv u Q I r1 r2 r3 q
theorem EP.imp {pins : List (Addr × Obj)} {Q' : VK} {u : Value} {s : Shared} (k : ∀ v H', Q v H' → Q' v H') (h : EP X pins σ Q u s) : EP X pins σ Q' u s :=
  let ⟨v, H', I, r, q⟩ := h
  ⟨v, H', I, r, k v H' q⟩
theorem We.imp {Q' : VK} (k : ∀ v H', Q v H' → Q' v H') (h : We X e σ H Q) : We X e σ H Q' := fun pins s I => thn (h pins s I) fun _ _ q => EP.imp k q
theorem Wo.imp {f : Value → Value → Sem Value} {x y : V} {Q' : VK} (k : ∀ v H', Q v H' → Q' v H') (h : Wo X f x y σ H Q) : Wo X f x y σ H Q' := fun pins s v u I rx ry => thn (h pins s v u I rx ry) fun _ _ q => EP.imp k q
theorem Wf.imp {f : Value} {vs : List V} {Q' : VK} (k : ∀ v H', Q v H' → Q' v H') (h : Wf X f vs σ H Q) : Wf X f vs σ H Q' := fun pins s us I r => thn (h pins s us I r) fun _ _ q => EP.imp k q

/-! ### expressions -/
theorem we_name {i : Nat} {x : Str} {v : V} (hN : X.N[i]? = some x) (hv : Vis X.env.scope x) (hd : (x == ("__debug__" : Str)) = false) (hcd : (x == ("__classdict__" : Str)) = false)
    (e : σ[i]? = some (some v)) (q : Q v H) : We X (.Name x pos) σ H Q := we_of (pe_var hN hv hd hcd) ⟨v, e, q⟩
theorem we_int {i : Int} {j : Nat} (q : Q (.int i) H) : We X (.Constant (.int i) j pos) σ H Q := we_of pe_int q
theorem we_bl {b : Bool} {j : Nat} (q : Q (.bl b) H) : We X (.Constant (.bool b) j pos) σ H Q := we_of pe_bl q
theorem we_non {j : Nat} (q : Q .non H) : We X (.Constant .none j pos) σ H Q := we_of pe_non q
theorem we_str {x : Str} {j : Nat} (q : Q (.str x) H) : We X (.Constant (.str x) j pos) σ H Q := we_of pe_str q
theorem we_bin {op : Operator} (h : We X a σ H fun x H1 => We X b σ H1 fun y H2 => Wo X (binaryOp op) x y σ H2 Q) : We X (.BinOp a op b pos) σ H Q := fun pins s I =>
  wpAny_BinOp (bin We.pe We.pe I h fun v u s2 x y H2 I2 rx ry q => q pins s2 v u I2 rx ry)
theorem we_un {op : UnaryOp} (h : We X a σ H fun x H1 => Wu X (unaryOp op) x σ H1 Q) (hn : op ≠ .Not) : We X (.UnaryOp op a pos) σ H Q := fun pins s I => by
  cases op <;> first | exact absurd rfl hn | skip
  all_goals exact wpAny_UnaryOp (thn (h pins s I) fun v s1 ⟨x, H1, I1, r1, q1⟩ => q1 pins s1 v I1 r1)
theorem we_not (h : We X a σ H fun x H1 => ∃ k, x = .bl k ∧ Q (.bl (!k)) H1) : We X (.UnaryOp .Not a pos) σ H Q := we_of (pe_not We.pe) h
theorem we_ite {c : Expr} (h : Wt X c σ H fun k H1 => if k = true then We X a σ H1 Q else We X b σ H1 Q) : We X (.IfExp c a b pos) σ H Q := we_of (pe_ifExp Wt.pt We.pe We.pe) h
theorem we_cmp {op : CmpOp} (hm : behindInMarks op b = false) (h : We X a σ H fun x H1 => We X b σ H1 fun y H2 => Wo X (compareOp op) x y σ H2 Q) : We X (.Compare a [op] [b] pos) σ H Q :=
  we_of (pe_cmp (op := op) (t := fun σ H Q => We X a σ H fun x H1 => We X b σ H1 fun y H2 => Wo X (compareOp op) x y σ H2 Q)
    ⟨fun pins s σ H Q I h => bin We.pe We.pe I h fun v u s2 x y H2 I2 rx ry q => q pins s2 v u I2 rx ry⟩ hm) h
theorem we_and1 (h : We X a σ H Q) : We X (.BoolOp .And [a] pos) σ H Q := we_of (pe_one We.pe) h
theorem we_or1 (h : We X a σ H Q) : We X (.BoolOp .Or [a] pos) σ H Q := we_of (pe_one We.pe) h
theorem we_and (h : We X a σ H fun x H1 => ∃ k, x = .bl k ∧ if k = true then We X (.BoolOp .And (b :: es) pos) σ H1 Q else Q (.bl false) H1) : We X (.BoolOp .And (a :: b :: es) pos) σ H Q := we_of (pe_and We.pe We.pe) h
theorem we_or (h : We X a σ H fun x H1 => ∃ k, x = .bl k ∧ if k = true then Q (.bl true) H1 else We X (.BoolOp .Or (b :: es) pos) σ H1 Q) : We X (.BoolOp .Or (a :: b :: es) pos) σ H Q := we_of (pe_or We.pe We.pe) h
theorem we_lst (h : Wa X es σ H fun vs H1 => vs.length ≤ sizeLine ∧ ∀ p, H1 p = none → Q (.ref p) (upd H1 p (.lst vs))) : We X (.List es pos) σ H Q := we_of (pe_lst Wa.pa) h

/-! ### arguments -/
theorem wa_nil {Q : List V → Hp → Prop} (q : Q [] H) : Wa X [] σ H Q := wa_of pa_nil q

/-! ### tests -/
variable {P : Bool → Hp → Prop}
theorem wt_cmp {op : CmpOp} (hm : behindInMarks op b = false) (h : We X a σ H fun x H1 => We X b σ H1 fun y H2 => Wo X (compareOp op) x y σ H2 fun z H3 => ∃ k, z = .bl k ∧ P k H3) : Wt X (.Compare a [op] [b] pos) σ H P :=
  wt_of (pt_cmp (op := op) (t := fun σ H Q => We X a σ H fun x H1 => We X b σ H1 fun y H2 => Wo X (compareOp op) x y σ H2 Q)
    ⟨fun pins s σ H Q I h => bin We.pe We.pe I h fun v u s2 x y H2 I2 rx ry q => q pins s2 v u I2 rx ry⟩ hm) h
theorem wt_not (h : Wt X a σ H fun k H1 => P (!k) H1) : Wt X (.UnaryOp .Not a pos) σ H P := wt_of (pt_not Wt.pt) h
theorem wt_ww (h : Ww X e σ H P) : Wt X e σ H P := fun pins s I => h _ pins s I
theorem ww_and1 (h : Wt X a σ H P) : Ww X (.BoolOp .And [a] pos) σ H P := ww_of (pw_and1 Wt.pt) h
theorem ww_or1 (h : Wt X a σ H P) : Ww X (.BoolOp .Or [a] pos) σ H P := ww_of (pw_or1 Wt.pt) h
theorem ww_and (h : Wt X a σ H fun k H1 => if k = true then Ww X (.BoolOp .And (b :: es) pos) σ H1 P else P false H1) : Ww X (.BoolOp .And (a :: b :: es) pos) σ H P := ww_of (pw_and Wt.pt Ww.pw) h
theorem ww_or (h : Wt X a σ H fun k H1 => if k = true then P true H1 else Ww X (.BoolOp .Or (b :: es) pos) σ H1 P) : Ww X (.BoolOp .Or (a :: b :: es) pos) σ H P := ww_of (pw_or Wt.pt Ww.pw) h
theorem wt_val (he : ∀ whole, isTrue e X.env whole = (do let v ← whole; standAt e.pos; holding [v] (truthy v))) (h : We X e σ H fun x H1 => ∃ k, x = .bl k ∧ P k H1) : Wt X e σ H P := wt_of (pt_val We.pe he) h

/-! ### statements -/
variable {D : Ends} {st : Stmt} {sts sts' : List Stmt}
theorem wb_nil (q : D.nx σ H) : Wb X [] D σ H := wb_of pss_nil q
theorem wb_cons (h : Ws X st { D with nx := Wb X sts D } σ H) : Wb X (st :: sts) D σ H := wb_of (pss_cons Ws.ps Wb.pss) h
theorem ws_expr (hs : swapsWith e none pos.line X.env = pure false) (h : We X e σ H fun _ H1 => D.nx σ H1) : Ws X (.Expr e pos) D σ H := ws_of (ps_expr We.pe hs) h
theorem ws_ret (h : We X e σ H D.rt) : Ws X (.Return (some e) pos) D σ H := ws_of (ps_ret We.pe) h
theorem ws_retN (q : D.rt .non H) : Ws X (.Return none pos) D σ H := ws_of ps_retN q
theorem ws_pass (q : D.nx σ H) : Ws X (.Pass pos) D σ H := ws_of ps_pass q
theorem ws_break (q : D.bk σ H) : Ws X (.Break pos) D σ H := ws_of ps_break q
theorem ws_continue (q : D.ct σ H) : Ws X (.Continue pos) D σ H := ws_of ps_continue q
theorem ws_doc {x : Str} {j : Nat} (q : D.nx σ H) : Ws X (.Expr (.Constant (.str x) j pos) pos') D σ H := ws_of ps_doc q
theorem ws_if (h : Wt X c σ H fun k H1 => if k = true then Wb X sts D σ H1 else Wb X sts' D σ H1) : Ws X (.If c sts sts' pos) D σ H := ws_of (ps_if Wt.pt Wb.pss Wb.pss) h
theorem ws_set {i : Nat} {x : Str} (hN : X.N.Nodup) (hi : X.N[i]? = some x) (hx : Loc X.env.scope x) (hs : swapsWith e (some (.Name x pos')) pos.line X.env = pure false) (hf : X.fn x = true ∨ X.env.scope.names.lookup x = some .local)
    (h : We X e σ H fun v H1 => D.nx (σ.set i (some v)) H1) : Ws X (.Assign [.Name x pos'] e pos) D σ H := ws_of (ps_set hN hi hx We.pe hs hf) h
theorem ws_asg {tg : Expr} (hs : swapsWithSole [tg] e pos.line X.env = pure false) (hw : swappedStores [tg] e X.env = pure none) (h1 : (assignEach [tg] X.env).map (·.2) = [assign tg X.env])
    (h : We X e σ H fun v H1 => Wg X tg v σ H1 D.nx) : Ws X (.Assign [tg] e pos) D σ H := ws_of (ps_asg We.pe Wg.pg hs hw h1) h
theorem ws_raise {t : L2.St → Hp → XK → Prop} (hc : X.calm = true) (he : PMk X e t) (q : t σ H (xk X σ)) : Ws X (.Raise (some e) none pos) D σ H := ws_of (ps_raise hc (xw_takes X) he) q
theorem wg_name {i : Nat} {x : Str} {v : V} {Q : L2.St → Hp → Prop} (hN : X.N.Nodup) (hi : X.N[i]? = some x) (hx : Loc X.env.scope x) (hf : X.fn x = true ∨ X.env.scope.names.lookup x = some .local) (q : Q (σ.set i (some v)) H) : Wg X (.Name x pos) v σ H Q :=
  wg_of (pg_name hN hi hx hf) q
end
end Ni

/-! WM: calls, attributes, items, loops, try. -/
namespace Ni
open PySem PySem.Spec PyProof.Rows L2

section
variable {X : Cx} {σ : L2.St} {H : Hp} {Q : VK} {e a b c o : Expr} {es : List Expr} {kws : List Keyword} {p pos pos' apos : Pos} {x m : Str} {D : Ends}

theorem wa_cons {QA : List V → Hp → Prop} (hs : starEach (e :: es) X.env = (false, eval e X.env) :: starEach es X.env) (h : We X e σ H fun v H1 => Wa X es σ H1 fun vs H2 => QA (v :: vs) H2) : Wa X (e :: es) σ H QA := by
  refine wa_of (pa_cons We.pe Wa.pa hs) ?_
  exact h

/-! ### what a call of a value does -/
theorem wf_fn {k : Nat} {f : Addr} {fd : FuncData} {ps : List Str} {sp : Sp} {vs dvs : List V} {ds : List Value} (F : FnOk X.prog X.w X.K X.mg X.base (L2.CX X.prog X.w) k f fd ps sp) (hr : Room k X.A) (hb : Binds X.K fd ps ds) (hd : Vals dvs ds)
    (h : sp (vs ++ dvs) H Q (xk X σ)) : Wf X (.ref f) vs σ H Q := by
  intro pins s us I r
  exact run_fnSD (E := fun σ => xk X σ) F hr hb hd (passAt (xw_takes X) σ) I r h

theorem wf_make {k : Nat} {f C : Addr} {fd : FuncData} {ps : List Str} {sp : Sp} {vs dvs : List V} {ds : List Value} (M : Mk X.K C f) (F : FnOk X.prog X.w X.K X.mg X.base (L2.CX X.prog X.w) k f fd ps sp) (hr : Room (k + 1) X.A)
    (hb : Binds X.K fd ps ds) (hd : Vals dvs ds)
    (h : ∀ x dx, H x = none → H dx = none → dx ≠ x → sp (.ref x :: (vs ++ dvs)) (upd (upd H dx (.own x)) x (.ins C dx [])) (fun v H2 => v = .non ∧ Q (.ref x) H2) (xk X σ)) : Wf X (.ref C) vs σ H Q := by
  intro pins s us I r
  let n := s.heap.objs.size
  have f1 : H (n + 1) = none := I.hok.fresh (Nat.le_succ _)
  have f0 : H n = none := I.hok.fresh (Nat.le_refl _)
  have hq := h (n + 1) n f1 f0 (Nat.ne_of_lt (Nat.lt_succ_self _))
  have J := Inv.made (C := C) I
  have rr : Vals (V.ref (n + 1) :: (vs ++ dvs)) (Value.ref (n + 1) :: (us ++ ds)) := .cons rfl (r.append hd)
  have ll : (Value.ref (n + 1) :: us ++ ds).length = ps.length := (rr.length.symm.trans (F.len _ _ _ _ hq))
  have bd := hb _ (Value.ref (n + 1) :: us) J.kIn ll
  have run := F.run _ X.stack _ _ ⟨Value.ref (n + 1) :: us, []⟩ (Value.ref (n + 1) :: (us ++ ds)) _ _ (xk X σ) (hr.make C us []) (J.env0.make C us []) bd rr hq
  refine wpAny_call (make_map (f := f) I.kIn M.makes M.init (beq_iff_eq.mp M.fn) (codeAny_mono run fun r s' z => ?_))
  match r, z with
  | .error e, z => exact passAt (xw_takes X) σ pins _ _ e s' J z
  | .ok (.ret u), z =>
    obtain ⟨v, H', I3, rv, ev, q3⟩ := J.after z
    cases ev
    exact ⟨rv, V.ref (n + 1), H', I3, rfl, q3⟩
  | .ok .next, z => exact z.elim
  | .ok .brk, z => exact z.elim
  | .ok .cont, z => exact z.elim

/-! ### calls by a global name -/
theorem we_call {f : Addr} (hg : Gl X x) (hm : X.mg x = some (.ref f)) (hk : PySem.W.keepIn X.K (.ref f) = true) (hdb : (x == ("__debug__" : Str)) = false)
    (he : starEach (e :: es) X.env = (false, eval e X.env) :: starEach es X.env) (hpl : (backTo pos (starEach es X.env)).any (·.1) = false)
    (h : Wa X (e :: es) σ H fun vs H1 => Wf X (.ref f) vs σ H1 Q) : We X (.Call (.Name x p) (e :: es) [] pos) σ H Q := by
  intro pins s I
  refine wpAny_Call_Name_kw (ld_glob I hg hm ?_ hdb)
  refine PySem.W.callWith_K (h₀ := X.base) I.ok.mod.kin hk (thn (h pos pins s I) ?_) he hpl
  rintro us s1 ⟨vs, H1, I1, r, q⟩
  exact ⟨I1.kIn, q pins s1 us I1 r⟩
theorem we_call0 {f : Addr} (hg : Gl X x) (hm : X.mg x = some (.ref f)) (hk : PySem.W.keepIn X.K (.ref f) = true) (hdb : (x == ("__debug__" : Str)) = false)
    (h : Wf X (.ref f) [] σ H Q) : We X (.Call (.Name x p) [] [] pos) σ H Q := by
  intro pins s I
  refine wpAny_Call_Name_kw (ld_glob I hg hm ?_ hdb)
  exact PySem.W.callWith_K0 I.kIn hk (h pins s [] I .nil)
/-- a built-in function, type by its name -/
def Wcb (X : Cx) (f : Value) : List V → Hp → VK → Prop := fun vs H Q => ∃ r, CallR X f r ∧ r vs H Q
theorem Wcb.ok (X : Cx) (f : Value) : CallR X f (Wcb X f) := by
  intro pins s σ H vs us Q I r h
  obtain ⟨t, ht, q⟩ := h
  exact ht pins s σ H vs us Q I r q
theorem we_callB {id : String} (hg : Gl X x) (hm : X.mg x = none) (hv : bootBuiltins x = some (.builtin id)) (hn : x ≠ "__name__") (hdb : (x == ("__debug__" : Str)) = false)
    (he : starEach (e :: es) X.env = (false, eval e X.env) :: starEach es X.env) (hpl : (backTo pos (starEach es X.env)).any (·.1) = false)
    (h : Wa X (e :: es) σ H fun vs H1 => Wcb X (.builtin id) vs H1 Q) : We X (.Call (.Name x p) (e :: es) [] pos) σ H Q :=
  we_of (pe_callB (Wcb.ok X _) hg hm hv Wa.pa hn hdb he hpl) h
theorem we_callTy {T : String} (hg : Gl X x) (hm : X.mg x = none) (hv : bootBuiltins x = some (.type T)) (hn : x ≠ "__name__") (hdb : (x == ("__debug__" : Str)) = false)
    (he : starEach (e :: es) X.env = (false, eval e X.env) :: starEach es X.env) (hpl : (backTo pos (starEach es X.env)).any (·.1) = false)
    (h : Wa X (e :: es) σ H fun vs H1 => Wcb X (.type T) vs H1 Q) : We X (.Call (.Name x p) (e :: es) [] pos) σ H Q :=
  we_of (pe_callTy (Wcb.ok X _) hg hm hv Wa.pa hn hdb he hpl) h

/-! ### attributes -/
def Fl (X : Cx) (x : V) (f : Str) (H : Hp) (Q : VK) : Prop := ∃ a C dx fs v, x = .ref a ∧ H a = some (.ins C dx fs) ∧ Cls X.K C ∧ NoAttr X.K C f ∧ fs.lookup f = some v ∧ Q v H
theorem we_fld {f : Str} (hb : attributeBase e f X.env (eval e X.env) = eval e X.env) (h : We X e σ H fun x H1 => Fl X x f H1 Q) : We X (.Attribute e f pos) σ H Q := we_of (pe_fld We.pe hb) h
def Sf (X : Cx) (x : V) (f : Str) (y : V) (H : Hp) (Q : Hp → Prop) : Prop := ∃ a C dx fs, x = .ref a ∧ H a = some (.ins C dx fs) ∧ Cls X.K C ∧ NoAttr X.K C f ∧ fs.length < 1000 ∧ Q (upd H a (.ins C dx (putF f y fs)))
theorem ws_fld {f : Str} (hs : swapsWith e (some (.Attribute o f pos')) pos.line X.env = pure false) (h : We X e σ H fun y H1 => We X o σ H1 fun x H2 => Sf X x f y H2 fun H3 => D.nx σ H3) : Ws X (.Assign [.Attribute o f pos'] e pos) D σ H :=
  ws_of (ps_fld We.pe We.pe hs) h

/-! ### slots by names -/
inductive Var : List Str → L2.St → Str → V → Prop
  | here {x : Str} {N : List Str} {v : V} {σ : L2.St} : Var (x :: N) (some v :: σ) x v
  | next {x y : Str} {N : List Str} {u : Option V} {σ : L2.St} {v : V} : Var N σ x v → Var (y :: N) (u :: σ) x v
inductive Put : List Str → L2.St → Str → V → L2.St → Prop
  | here {x : Str} {N : List Str} {u : Option V} {v : V} {σ : L2.St} : Put (x :: N) (u :: σ) x v (some v :: σ)
  | next {x y : Str} {N : List Str} {u : Option V} {σ σ' : L2.St} {v : V} : Put N σ x v σ' → Put (y :: N) (u :: σ) x v (u :: σ')
theorem Var.at {N : List Str} {x : Str} {v : V} (h : Var N σ x v) : ∃ i : Nat, N[i]? = some x ∧ σ[i]? = some (some v) := by
  induction h with
  | here => exact ⟨0, rfl, rfl⟩
  | next _ ih =>
    obtain ⟨i, h1, h2⟩ := ih
    exact ⟨i + 1, by simpa using h1, by simpa using h2⟩
theorem Put.at {N : List Str} {x : Str} {v : V} {σ' : L2.St} (h : Put N σ x v σ') : ∃ i : Nat, N[i]? = some x ∧ σ' = σ.set i (some v) := by
  induction h with
  | here => exact ⟨0, rfl, rfl⟩
  | next _ ih =>
    obtain ⟨i, h1, h2⟩ := ih
    exact ⟨i + 1, by simpa using h1, by rw [h2]; rfl⟩
/-- the def's names: what its scope says of them -/
structure Names1 (X : Cx) (N G : List Str) : Prop where
  eq : X.N = N
  nd : N.Nodup
  vis : ∀ x ∈ N, Loc X.env.scope x
  dbg : ∀ x ∈ N, (x == ("__debug__" : Str)) = false ∧ (x == ("__classdict__" : Str)) = false
  fn : ∀ x, X.fn x = true
  glb : ∀ x ∈ G, Gl X x ∧ (x == ("__debug__" : Str)) = false
/-- the global names that a body uses -/
def Gs (X : Cx) (G : List Str) : Prop := ∀ x ∈ G, Gl X x ∧ (x == ("__debug__" : Str)) = false
theorem Names1.gs {N G : List Str} (S : Names1 X N G) : Gs X G := S.glb
def visB (sc : Scope) (x : Str) : Bool := match sc.names.lookup x with
  | some .local => true
  | some .cell => true
  | some .free => true
  | _ => false
theorem visB_ok {sc : Scope} {x : Str} (h : visB sc x = true) : Vis sc x := by
  unfold visB at h
  unfold Vis
  cases e : sc.names.lookup x with
  | none => rw [e] at h; cases h
  | some k => rw [e] at h; cases k <;> simp_all
/-- the names of a comprehension's block: sc is its scope -/
structure NamesB (X : Cx) (N : List Str) (sc : Scope) (G : List Str) : Prop where
  eq : X.N = N
  nd : N.Nodup
  vis : ∀ x, visB sc x = true → Vis X.env.scope x
  loc : ∀ x, sc.names.lookup x = some .local → X.env.scope.names.lookup x = some .local
  dbg : ∀ x ∈ N, (x == ("__debug__" : Str)) = false ∧ (x == ("__classdict__" : Str)) = false
  glb : Gs X G
theorem we_varB {N G : List Str} {sc : Scope} {v : V} (S : NamesB X N sc G) (h : Var N σ x v) (hv : visB sc x = true) (q : Q v H) : We X (.Name x pos) σ H Q := by
  obtain ⟨i, h1, h2⟩ := h.at
  have hm : x ∈ N := List.mem_of_getElem? h1
  exact we_name (by rw [S.eq]; exact h1) (S.vis x hv) (S.dbg x hm).1 (S.dbg x hm).2 h2 q
theorem wg_varB {N G : List Str} {sc : Scope} {v : V} {σ' : L2.St} {QG : L2.St → Hp → Prop} (S : NamesB X N sc G) (h : Put N σ x v σ') (hv : sc.names.lookup x = some .local) (q : QG σ' H) : Wg X (.Name x pos) v σ H QG := by
  obtain ⟨i, h1, h2⟩ := h.at
  rw [h2] at q
  have hl : X.env.scope.names.lookup x = some .local := S.loc x hv
  exact wg_name (by rw [S.eq]; exact S.nd) (by rw [S.eq]; exact h1) (.inl hl) (.inr hl) q
theorem we_var {N G : List Str} {v : V} (S : Names1 X N G) (h : Var N σ x v) (q : Q v H) : We X (.Name x pos) σ H Q := by
  obtain ⟨i, h1, h2⟩ := h.at
  have hm : x ∈ N := List.mem_of_getElem? h1
  exact we_name (by rw [S.eq]; exact h1) ((S.vis x hm).elim .inl fun q => .inr (.inl q)) (S.dbg x hm).1 (S.dbg x hm).2 h2 q
theorem wg_var {N G : List Str} {v : V} {σ' : L2.St} {QG : L2.St → Hp → Prop} (S : Names1 X N G) (h : Put N σ x v σ') (q : QG σ' H) : Wg X (.Name x pos) v σ H QG := by
  obtain ⟨i, h1, h2⟩ := h.at
  have hm : x ∈ N := List.mem_of_getElem? h1
  rw [h2] at q
  exact wg_name (by rw [S.eq]; exact S.nd) (by rw [S.eq]; exact h1) (S.vis x hm) (.inl (S.fn x)) q
end
end Ni

/-! WN: a def entered, loops, try, raise. -/
namespace Ni
open PySem PySem.Spec PyProof.Rows L2

/-- what a body's context says besides its names -/
structure Env1 (X : Cx) : Prop where
  calm : X.calm = true
  stk : X.stack = X.env :: X.outer
  fr : X.env.frame = some X.env.locals
  pass : PassesOwn (model X.prog X.w) X.A X.env X.xe
/-- what the scope says of the def's names -/
structure Names0 (N G : List Str) (sc : Scope) : Prop where
  nd : N.Nodup
  vis : ∀ x ∈ N, Loc sc x
  dbg : ∀ x ∈ N, (x == ("__debug__" : Str)) = false ∧ (x == ("__classdict__" : Str)) = false
  glb : ∀ x ∈ G, sc.names.lookup x = some .globalImplicit ∧ (x == ("__debug__" : Str)) = false
section
variable {P : Program} {w : World} {K : PySem.W.Frag} {mg : Str → Option Value} {base : Heap}
theorem fn_go {x qual : Str} {params : Arguments} {body : List Stmt} {scope : Scope} {dvs : List V} {kws : List (Str × V)} {f : Addr} {fd : FuncData} {N G ps : List Str} {k : Nat} {sp : Sp}
    (F : FunD K x qual params body scope dvs kws f fd) (S : FnScope N ps scope) (T : Names0 N G scope) (len : ∀ vs H Q E, sp vs H Q E → vs.length = ps.length)
    (hb : ∀ (X : Cx), X.prog = P → X.w = w → X.K = K → X.mg = mg → X.base = base → Names1 X N G → Env1 X → Room k X.A → ∀ (vs : List V) (H : Hp) (Q : VK) (E : XK),
      (∀ cls d σ H', E cls d H' → XW X cls d σ H') → sp vs H Q E → Wb X body { nx := fun _ H' => Q .non H', rt := Q } (start N vs) H) :
    FnOk P w K mg base (L2.CX P w) (k + 1) f fd ps sp := by
  refine F.ok S len fun cdv A outer s H vs Q E hr h => ?_
  refine ⟨_, Wb.pss, hb (cxOf (L2.CX P w) P w K mg base N qual scope f cdv A outer s H E) rfl rfl rfl rfl rfl ⟨rfl, T.nd, T.vis, T.dbg, fun _ => rfl, T.glb⟩ ⟨rfl, rfl, rfl, passes_of rfl⟩ hr vs H Q E (fun cls d σ H' q => ?_) h⟩
  exact xw_of (takes_of (E := E) rfl rfl rfl rfl) q
end

section
variable {X : Cx} {σ : L2.St} {H : Hp} {Q : VK} {D : Ends} {tg iter c a e : Expr} {body sts sts' : List Stmt} {pos pos' p : Pos}
/-! ### loops -/
theorem ws_forL (V1 : Env1 X) (hs : ∀ x, foldedSetIterable iter X.env x = pure x)
    (h : We X iter σ H fun x H1 => ∃ (l : Addr) (xs : List V) (Pv : Nat → L2.St → Hp → Prop), x = .ref l ∧ SqL X.K H1 l xs ∧ Pv 0 σ H1 ∧ (∀ i σ' H', i ≤ xs.length → Pv i σ' H' → SqL X.K H' l xs) ∧
      (∀ i y σ' H', xs[i]? = some y → Pv i σ' H' → Wg X tg y σ' H' fun σ2 H2 => Wb X body { D with nx := Pv (i + 1), ct := Pv (i + 1), bk := D.nx } σ2 H2) ∧ (∀ σ' H', Pv xs.length σ' H' → D.nx σ' H')) :
    Ws X (.For tg iter body [] pos) D σ H := by
  refine ws_of (ps_for V1.pass V1.calm (pi_list We.pe) Wg.pg Wb.pss hs) (We.imp ?_ h)
  rintro x H1 ⟨l, xs, Pv, e, h1, h2, h3, h4, h5⟩
  exact ⟨l, e, ⟨xs, h1⟩, for_list Pv h2 h3 h4 h5⟩
theorem ws_forT (V1 : Env1 X) (hs : ∀ x, foldedSetIterable iter X.env x = pure x)
    (h : We X iter σ H fun x H1 => ∃ (l : Addr) (xs : List V) (Pv : Nat → L2.St → Hp → Prop), x = .ref l ∧ SqT X.K H1 l xs ∧ Pv 0 σ H1 ∧ (∀ i σ' H', i ≤ xs.length → Pv i σ' H' → SqT X.K H' l xs) ∧
      (∀ i y σ' H', xs[i]? = some y → Pv i σ' H' → Wg X tg y σ' H' fun σ2 H2 => Wb X body { D with nx := Pv (i + 1), ct := Pv (i + 1), bk := D.nx } σ2 H2) ∧ (∀ σ' H', Pv xs.length σ' H' → D.nx σ' H')) :
    Ws X (.For tg iter body [] pos) D σ H := by
  refine ws_of (ps_for V1.pass V1.calm (pi_tup We.pe) Wg.pg Wb.pss hs) (We.imp ?_ h)
  rintro x H1 ⟨l, xs, Pv, e, h1, h2, h3, h4, h5⟩
  exact ⟨l, e, ⟨xs, h1⟩, for_tup Pv h2 h3 h4 h5⟩
theorem Wa.imp {es : List Expr} {Q Q' : List V → Hp → Prop} (k : ∀ v H', Q v H' → Q' v H') (h : Wa X es σ H Q) : Wa X es σ H Q' := fun pos pins s I => thn (h pos pins s I) fun _ _ ⟨vs, H', J, r, q⟩ => ⟨vs, H', J, r, k vs H' q⟩
theorem Wt.imp {Q Q' : Bool → Hp → Prop} (k : ∀ v H', Q v H' → Q' v H') (h : Wt X e σ H Q) : Wt X e σ H Q' := fun pins s I => thn (h pins s I) fun _ _ ⟨H', J, q⟩ => ⟨H', J, k _ H' q⟩
theorem ws_forR1 (V1 : Env1 X) (hg : Gl X "range") (hm : X.mg "range" = none) (hs : starEach [a] X.env = [(false, eval a X.env)]) (hf : ∀ x, foldedSetIterable (.Call (.Name "range" p) [a] [] pos') X.env x = pure x)
    (h : Wa X [a] σ H fun vs H1 => ∃ (j : Int) (Pv : Nat → L2.St → Hp → Prop), vs = [.int j] ∧ -(2 ^ 62) ≤ j ∧ j < 2 ^ 62 ∧ Pv 0 σ H1 ∧
      (∀ i σ' H', i < j.toNat → Pv i σ' H' → Wg X tg (.int (0 + i)) σ' H' fun σ2 H2 => Wb X body { D with nx := Pv (i + 1), ct := Pv (i + 1), bk := D.nx } σ2 H2) ∧ (∀ σ' H', Pv j.toNat σ' H' → D.nx σ' H')) :
    Ws X (.For tg (.Call (.Name "range" p) [a] [] pos') body [] pos) D σ H := by
  refine ws_of (ps_for V1.pass V1.calm (pi_range1 hg hm Wa.pa hs) Wg.pg Wb.pss hf) (Wa.imp ?_ h)
  rintro x H1 ⟨j, Pv, e, l1, l2, h2, h4, h5⟩
  exact ⟨j, e, l1, l2, for_range Pv h2 h4 h5⟩
theorem ws_while (V1 : Env1 X) (W : Nat → L2.St → Hp → Prop) (m0 : Nat) (h0 : W m0 σ H)
    (h : ∀ m σ' H', W m σ' H' → Wt X c σ' H' fun k H1 => if k = true then Wb X body { D with nx := fun σ2 H2 => ∃ m', m' < m ∧ W m' σ2 H2, ct := fun σ2 H2 => ∃ m', m' < m ∧ W m' σ2 H2, bk := D.nx } σ' H1 else D.nx σ' H1) :
    Ws X (.While c body [] pos) D σ H := by
  refine ws_of (ps_while V1.pass Wt.pt Wb.pss) ⟨W, ⟨m0, h0⟩, fun m σ' H' hw => Wt.imp ?_ (h m σ' H' hw)⟩
  intro k H1 q
  cases k with
  | true => exact ⟨_, fun _ _ z => z, q⟩
  | false => exact q
/-! ### raise, try -/
theorem ws_raiseT {x m : Str} {j : Nat} {p2 p3 : Pos} {C : Addr} {bmB : List Value} {B newId initId : String} (V1 : Env1 X) (F : ExcBaseFacts B newId initId bmB) (q : PySem.W.excIn X.K C bmB newId = true) (gC : X.mg x = some (.ref C))
    (kC : PySem.W.keepIn X.K (.ref C) = true) (r : Raises X (.ref C)) (hg : Gl X x) (hdb : (x == ("__debug__" : Str)) = false) (h : XW X (.ref C) none σ H) :
    Ws X (.Raise (some (.Call (.Name x p) [.Constant (.str m) j p2] [] p3)) none pos) D σ H := ws_raise V1.calm (pmk_own F q gC kC r hg hdb) h
/-- what the suite of `except x as n` does -/
def tSuite (X : Cx) (suite : List Stmt) : Addr → Value → Option Addr → TS := fun a cls d D σ H => ∀ oe pn, Zc cls d oe → (∃ vs, oe.data = .fields vs) → Wb (X.suite a ((a, oe) :: pn)) suite D σ H
theorem ws_try {x n : Str} {i : Nat} {cv : Value} {b0 : Stmt} {np : Pos} {body suite : List Stmt} (V1 : Env1 X) (hN : X.N.Nodup) (hi : X.N[i]? = some n) (hln : X.env.kindOf n = some .local) (hc : Names X x cv)
    (h : ∀ pn xe, (∀ cls d σ' H', wAs X.K cv i (tSuite X (b0 :: suite)) (XW X) D cls d σ' H' → XW (X.tr pn xe) cls d σ' H') → PassesOwn (model X.prog X.w) X.A X.env xe → Wb (X.tr pn xe) body D σ H) :
    Ws X (.Try body [.ExceptHandler (some (.Name x np)) (some n) (b0 :: suite) pos'] [] [] pos) D σ H := by
  refine ws_of (ps_try_as V1.stk V1.fr hN hi hln hc (xw_takes X) (tb := fun W D σ H => ∀ pn xe, Takes (X.tr pn xe) W → PassesOwn (model X.prog X.w) X.A X.env xe → Wb (X.tr pn xe) body D σ H) (ts := tSuite X (b0 :: suite))
    (fun W pn xe tk ho => ⟨fun pins s σ H D I h => h pn xe tk ho pins s I⟩) (fun a oe cls d pn hz hf => ⟨fun pins s σ H D I h => h oe pn hz hf pins s I⟩)) ?_
  intro pn xe tk ho
  exact h pn xe (fun cls d σ' H' q => xw_of tk q) ho
end
end Ni
namespace Ni
open PySem PySem.Spec PyProof.Rows L2
section
variable {P : Program} {w : World} {K : PySem.W.Frag} {mg : Str → Option Value} {base : Heap}
/-- fn_go, the scope told too -/
theorem fn_goS {x qual : Str} {params : Arguments} {body : List Stmt} {scope : Scope} {dvs : List V} {kws : List (Str × V)} {f : Addr} {fd : FuncData} {N G ps : List Str} {k : Nat} {sp : Sp}
    (F : FunD K x qual params body scope dvs kws f fd) (S : FnScope N ps scope) (T : Names0 N G scope) (len : ∀ vs H Q E, sp vs H Q E → vs.length = ps.length)
    (hb : ∀ (X : Cx), X.prog = P → X.w = w → X.K = K → X.mg = mg → X.base = base → X.env.scope = scope → Names1 X N G → Env1 X → Room k X.A → ∀ (vs : List V) (H : Hp) (Q : VK) (E : XK),
      (∀ cls d σ H', E cls d H' → XW X cls d σ H') → sp vs H Q E → Wb X body { nx := fun _ H' => Q .non H', rt := Q } (start N vs) H) :
    FnOk P w K mg base (L2.CX P w) (k + 1) f fd ps sp := by
  refine F.ok S len fun cdv A outer s H vs Q E hr h => ?_
  refine ⟨_, Wb.pss, hb (cxOf (L2.CX P w) P w K mg base N qual scope f cdv A outer s H E) rfl rfl rfl rfl rfl rfl ⟨rfl, T.nd, T.vis, T.dbg, fun _ => rfl, T.glb⟩ ⟨rfl, rfl, rfl, passes_of rfl⟩ hr vs H Q E (fun cls d σ H' q => ?_) h⟩
  exact xw_of (takes_of (E := E) rfl rfl rfl rfl) q
end
section
variable {X : Cx} {σ : L2.St} {H : Hp} {D : Ends} {N G : List Str}
theorem Names1.tr (S : Names1 X N G) (pn : List (Addr × Obj)) (xe : Value → Shared → Prop) : Names1 (X.tr pn xe) N G := ⟨S.eq, S.nd, S.vis, S.dbg, S.fn, S.glb⟩
theorem Names1.suite (S : Names1 X N G) (a : Addr) (pn : List (Addr × Obj)) : Names1 (X.suite a pn) N G := ⟨S.eq, S.nd, S.vis, S.dbg, S.fn, S.glb⟩
theorem ws_tryS {x n : Str} {i : Nat} {C : Addr} {b0 : Stmt} {np pos pos' : Pos} {body suite : List Stmt} (V1 : Env1 X) (S : Names1 X N G) (hi : N[i]? = some n) (hln : X.env.scope.names.lookup n = some .local) (hx : x ∈ G) (hm : X.mg x = some (.ref C))
    (h : ∀ pn xe, Names1 (X.tr pn xe) N G → PassesOwn (model X.prog X.w) X.A X.env xe →
      (∀ cls d σ' H', wAs X.K (.ref C) i (tSuite X (b0 :: suite)) (XW X) D cls d σ' H' → XW (X.tr pn xe) cls d σ' H') → Wb (X.tr pn xe) body D σ H) :
    Ws X (.Try body [.ExceptHandler (some (.Name x np)) (some n) (b0 :: suite) pos'] [] [] pos) D σ H :=
  ws_try V1 (by rw [S.eq]; exact S.nd) (by rw [S.eq]; exact hi) hln ⟨(S.glb x hx).1, (S.glb x hx).2, .inl hm⟩ fun pn xe hq ho => h pn xe (S.tr pn xe) ho fun cls d σ' H' z => hq cls d σ' H' z
end
end Ni

/-! WO: the signs of own classes. -/
namespace Ni
open PySem PySem.Spec PyProof.Rows L2
theorem rel_told {v : V} {u : Value} (r : RelV v u) : u ≠ .notImplemented := by
  intro z
  subst z
  cases v <;> first | (obtain ⟨t, e⟩ := r; cases e) | cases r
section
variable {X : Cx} {σ : L2.St} {H : Hp} {Q : VK} {op : Operator} {cop : CmpOp} {C f a b dx dy : Addr} {fs gs : List (Str × V)}
theorem told_of {pins : List (Addr × Obj)} {u : Value} {s : Shared} (h : EP X pins σ Q u s) : PySem.W.CmpBack (EP X pins σ Q) u s := by
  obtain ⟨v, H', I, r, q⟩ := id h
  have ne := rel_told r
  cases u <;> first | exact absurd rfl ne | exact h
/-- the class's own method of a sign -/
structure Sg (K : PySem.W.Frag) (C : Addr) (m : Str) (f : Addr) : Prop where
  hs : PySem.W.findIn K (.ref C) m = some (some (.ref f))
  hf : PySem.W.isFn K (.ref f) = true
theorem inst_at {pins : List (Addr × Obj)} {s : Shared} (I : Inv X pins σ H s) (ha : H a = some (.ins C dx fs)) : ∃ od, PySem.W.InstAt s.heap a (PySem.W.instObj C dx) C (some od) := by
  obtain ⟨mA, J, _⟩ := ins_get I.hok ha
  obtain ⟨od, J, _⟩ := J.look
  exact ⟨od, J⟩
theorem wo_two (ha : H a = some (.ins C dx fs)) (hb : H b = some (.ins C dy gs)) (hc : PySem.W.selfFirst X.K C = true) (g : Sg X.K C (PySem.dunder op.info.2) f) (h : Wf X (.ref f) [.ref a, .ref b] σ H Q) : Wo X (binaryOp op) (.ref a) (.ref b) σ H Q := by
  intro pins s v u I rx ry
  cases rx
  cases ry
  obtain ⟨od, J⟩ := inst_at I ha
  obtain ⟨od', J'⟩ := inst_at I hb
  obtain ⟨m, hF⟩ := I.fr
  refine PySem.W.binop_K hF I.ok.mod.kin J J'.type hc g.hs g.hf ?_
  exact thn (h pins s [.ref a, .ref b] I (.cons rfl (.cons rfl .nil))) fun _ _ q => told_of q
/-- an instance, and a value of a built-in type T -/
theorem wo_left {T : String} {y : V} {fo ro rc : Option Value} (ha : H a = some (.ins C dx fs)) (hT : ∀ u, RelV y u → typeOf u = pure (.type T)) (hc : PySem.W.selfFirst X.K C = true) (g : Sg X.K C (PySem.dunder op.info.2) f)
    (hr : PySem.W.findIn X.K (.ref C) (dunderR op.info.2) = some rc) (hp : rc = none ∨ ∃ g : Addr, rc = some (.ref g))
    (h1 : PySem.W.findIn X.K (.type T) (PySem.dunder op.info.2) = some fo) (h2 : PySem.W.findIn X.K (.type T) (dunderR op.info.2) = some ro) (hsub : PySem.W.subIn X.K (.type T) (.ref C) = some false)
    (h : Wf X (.ref f) [.ref a, y] σ H Q) : Wo X (binaryOp op) (.ref a) y σ H Q := by
  intro pins s v u I rx ry
  cases rx
  obtain ⟨od, J⟩ := inst_at I ha
  obtain ⟨m, hF⟩ := I.fr
  refine PySem.W.ksp_binT hF I.ok.mod.kin J (hT u ry) hc g.hs g.hf hr hp h1 h2 hsub ?_
  exact thn (h pins s [.ref a, u] I (.cons rfl (.cons ry .nil))) fun _ _ q => told_of q
theorem wu_neg (ha : H a = some (.ins C dx fs)) (g : Sg X.K C "__neg__" f) (h : Wf X (.ref f) [.ref a] σ H Q) : Wu X (unaryOp .USub) (.ref a) σ H Q := by
  intro pins s v I rx
  cases rx
  obtain ⟨od, J⟩ := inst_at I ha
  obtain ⟨m, hF⟩ := I.fr
  refine PySem.W.ksp_neg hF I.ok.mod.kin J g.hs g.hf ?_
  exact h pins s [.ref a] I (.cons rfl .nil)
/-- a comparison, an instance on the left -/
theorem wo_cmp {k : Nat} {tb : Value} {y : V} (hr : Room k X.A) (ha : H a = some (.ins C dx fs)) (hT : ∀ (pins : List (Addr × Obj)) (s : Shared) (u : Value), Inv X pins σ H s → RelV y u → PySem.W.Looks (model X.prog X.w) s.heap (typeOf u) tb)
    (hn : PySem.W.notFirst X.K C tb = true) (g : Sg X.K C (cmpInfo cop).2.1 f) (h : Wf X (.ref f) [.ref a, y] σ H Q) : Wo X (richCompare cop) (.ref a) y σ H Q := by
  intro pins s v u I rx ry
  cases rx
  obtain ⟨od, J⟩ := inst_at I ha
  obtain ⟨m, hF⟩ := I.fr
  refine PySem.W.cmp_K hr.units0 hF I.ok.mod.kin J (hT pins s u I ry) hn g.hs g.hf ?_
  exact thn (h pins s [.ref a, u] I (.cons rfl (.cons ry .nil))) fun _ _ q => told_of q
end
end Ni
namespace Ni
open PySem PySem.Spec PyProof.Rows L2
/-- a def at f keeps its promise; dvs: the defaults that fill up where fewer values are written -/
structure OkD (P : Program) (w : World) (K : PySem.W.Frag) (mg : Str → Option Value) (base : Heap) (k : Nat) (f : Addr) (ps : List Str) (dvs : List V) (sp : Sp) : Prop where
  ex : ∃ fd ds, FnOk P w K mg base (L2.CX P w) k f fd ps sp ∧ Vals dvs ds ∧ Binds K fd ps ds
  kp : PySem.W.keepIn K (.ref f) = true
section
variable {X : Cx} {σ : L2.St} {H : Hp} {Q : VK} {k : Nat} {f C : Addr} {ps : List Str} {sp : Sp} {vs dvs : List V}
theorem wf_ok (O : OkD X.prog X.w X.K X.mg X.base k f ps dvs sp) (hr : Room k X.A) (h : sp (vs ++ dvs) H Q (xk X σ)) : Wf X (.ref f) vs σ H Q := by
  obtain ⟨fd, ds, F, hd, hb⟩ := O.ex
  exact wf_fn F hr hb hd h
theorem wf_new (M : Mk X.K C f) (O : OkD X.prog X.w X.K X.mg X.base k f ps dvs sp) (hr : Room (k + 1) X.A)
    (h : ∀ x dx, H x = none → H dx = none → dx ≠ x → sp (.ref x :: (vs ++ dvs)) (upd (upd H dx (.own x)) x (.ins C dx [])) (fun v H2 => v = .non ∧ Q (.ref x) H2) (xk X σ)) : Wf X (.ref C) vs σ H Q := by
  obtain ⟨fd, ds, F, hd, hb⟩ := O.ex
  exact wf_make M F hr hb hd h
end
end Ni

/-! HM: a Hook that reads the kit's facts and one more Bool. -/
namespace Ni
open PySem PySem.Spec PyProof.Rows L2
/-- the kit's facts, and a list of own ones -/
structure Says (fa : List He.Fa) (fn : List He.DefD) (ex : List (PySem.W.Frag → Bool)) (K : PySem.W.Frag) : Prop where
  d : He.SaysD fa fn K
  m : (ex.all fun f => f K) = true
def hookM (n : Nat) (fa : List He.Fa) (fn : List He.DefD) (ex : List (PySem.W.Frag → Bool)) : PySem.W.Hook where
  α := He.AlD × Bool
  obs := fun s => (He.obsDG n fa fn s.heap.get?, ex.all fun f => f (He.frG s.heap.get? (He.asD s.heap.get? n)))
  val := fun _ => (He.valD fn, true)
  says := fun _ h => ∃ K : PySem.W.Frag, K.In h ∧ Says fa fn ex K
  of := by
    intro w s e
    exact ⟨_, He.frG_in, ⟨congrArg Prod.fst e, congrArg Prod.snd e⟩⟩
  keeps := by
    intro w h h' z k
    obtain ⟨K, hK, c⟩ := z
    exact ⟨K, PySem.W.Frag.In.keeps hK k, c⟩
def obM (n : Nat) (fa : List He.Fa) (fn : List He.DefD) (ex : List (PySem.W.Frag → Bool)) (g : Addr → Option Obj) : He.AlD × Bool := (He.obsDG n fa fn g, ex.all fun f => f (He.frG g (He.asD g n)))
theorem obM_eq {n : Nat} {fa : List He.Fa} {fn : List He.DefD} {ex : List (PySem.W.Frag → Bool)} {g : Addr → Option Obj} {s : Shared} (h : ∀ a, g a = s.heap.get? a) : obM n fa fn ex g = (hookM n fa fn ex).obs s := by
  have e : g = s.heap.get? := funext h
  rw [e]
  rfl
theorem Says.x {fa : List He.Fa} {fn : List He.DefD} {ex : List (PySem.W.Frag → Bool)} {K : PySem.W.Frag} (c : Says fa fn ex K) (i : Nat) {f : PySem.W.Frag → Bool} (h : ex[i]? = some f) : f K = true :=
  List.all_eq_true.mp c.m f (List.mem_of_getElem? h)
end Ni

/-! HF: facts of the head, as Bools, and what they say. -/
namespace Ni
open PySem PySem.Spec PyProof.Rows L2
section
variable {K : PySem.W.Frag} {C : Addr}
theorem and2 {a b : Bool} (h : (a && b) = true) : a = true ∧ b = true := Bool.and_eq_true_iff.mp h
def tyxB (K : PySem.W.Frag) (C : Addr) : Bool := decide (PySem.W.findIn K (.ref C) "__class__" = some (some (.builtin "object.__class__"))) && (decide (PySem.W.specialIn K (.builtin "object.__class__") "__get__" = some (some (.builtin "getset_descriptor.__get__"))) &&
  (decide (PySem.W.takesIn K (.builtin "object.__class__") = some true) && decide (PySem.W.mroIn K C (.type "object") = some true)))
theorem tyx_of {H : Hp} {a dx : Addr} {fs : List (Str × V)} (h : tyxB K C = true) (c : Cls K C) (e : H a = some (.ins C dx fs)) : TyX K H (.ref a) (.ref C) := by
  obtain ⟨h1, h⟩ := and2 h
  obtain ⟨h2, h⟩ := and2 h
  obtain ⟨h3, h4⟩ := and2 h
  exact .base (.ins e c (of_decide_eq_true h1) (of_decide_eq_true h2) (of_decide_eq_true h3) (of_decide_eq_true h4))
def exccB (K : PySem.W.Frag) (D : Addr) : Bool := decide (PySem.W.findIn K (.ref D) "__getattribute__" = some (some (.builtin "BaseException.__getattribute__"))) && (decide (PySem.W.findIn K (.ref D) "__getattr__" = some none) &&
  (decide (PySem.W.subIn K (.ref D) (.type "BaseException") = some true) && (PySem.W.hasDictIn K D && tyxB K D)))
theorem excc_of (h : exccB K C = true) : ExcC K C := by
  obtain ⟨h1, h⟩ := and2 h
  obtain ⟨h2, h⟩ := and2 h
  obtain ⟨h3, h⟩ := and2 h
  obtain ⟨h4, h⟩ := and2 h
  obtain ⟨h5, h⟩ := and2 h
  obtain ⟨h6, h⟩ := and2 h
  obtain ⟨h7, h8⟩ := and2 h
  exact ⟨of_decide_eq_true h1, of_decide_eq_true h2, of_decide_eq_true h3, h4, of_decide_eq_true h5, of_decide_eq_true h6, of_decide_eq_true h7, of_decide_eq_true h8⟩
def conB (K : PySem.W.Frag) (C : Addr) (f : Str) (v : V) : Bool := match PySem.W.findIn K (.ref C) f with
  | some (some u) => He.relB v u && (decide (PySem.W.specialIn K u "__get__" = some none) && !PySem.W.copiedNames.contains f)
  | _ => false
theorem con_of {f : Str} {v : V} (h : conB K C f v = true) : ∃ u, Con K C f v u := by
  unfold conB at h
  match e : PySem.W.findIn K (.ref C) f, h with
  | some (some u), h =>
    obtain ⟨h1, h⟩ := and2 h
    obtain ⟨h2, h3⟩ := and2 h
    exact ⟨u, e, He.relB_ok h1, of_decide_eq_true h2, by simpa using h3⟩
  | some none, h => cases h
  | none, h => cases h
def intB (K : PySem.W.Frag) (x : Str) (i : Int) : Bool := match PySem.W.nsIn K mainGlobals x with
  | some (some (.int j _)) => decide (j = i)
  | _ => false
theorem intIn {x : Str} {i : Int} (h : intB K x i = true) : ∃ t, PySem.W.nsIn K mainGlobals x = some (some (.int i t)) := by
  unfold intB at h
  split at h
  · rename_i j t e
    rw [of_decide_eq_true h] at e
    exact ⟨t, e⟩
  · cases h
def strB (K : PySem.W.Frag) (x z : Str) : Bool := match PySem.W.nsIn K mainGlobals x with
  | some (some (.str j _)) => decide (j = z)
  | _ => false
theorem strIn {x z : Str} (h : strB K x z = true) : ∃ t, PySem.W.nsIn K mainGlobals x = some (some (.str z t)) := by
  unfold strB at h
  split at h
  · rename_i j t e
    rw [of_decide_eq_true h] at e
    exact ⟨t, e⟩
  · cases h
end
end Ni

/-! HM2: a Hook over a written list of places; the run's equation by parts. -/
namespace Ni
open PySem PySem.Spec PyProof.Rows L2
def hookL (as : List Addr) (fa : List He.Fa) (fn : List He.DefD) (ex : List (PySem.W.Frag → Bool)) : PySem.W.Hook where
  α := He.AlD × Bool
  obs := fun s => (He.obsD fa fn (He.frG s.heap.get? as), ex.all fun f => f (He.frG s.heap.get? as))
  val := fun _ => (He.valD fn, true)
  says := fun _ h => ∃ K : PySem.W.Frag, K.In h ∧ Says fa fn ex K
  of := by
    intro w s e
    exact ⟨_, He.frG_in, ⟨congrArg Prod.fst e, congrArg Prod.snd e⟩⟩
  keeps := by
    intro w h h' z k
    obtain ⟨K, hK, c⟩ := z
    exact ⟨K, PySem.W.Frag.In.keeps hK k, c⟩
def obL (as : List Addr) (fa : List He.Fa) (fn : List He.DefD) (ex : List (PySem.W.Frag → Bool)) (g : Addr → Option Obj) : He.AlD × Bool := (He.obsD fa fn (He.frG g as), ex.all fun f => f (He.frG g as))
theorem obL_eq {as : List Addr} {fa : List He.Fa} {fn : List He.DefD} {ex : List (PySem.W.Frag → Bool)} {g : Addr → Option Obj} {s : Shared} (h : ∀ a, g a = s.heap.get? a) : obL as fa fn ex g = (hookL as fa fn ex).obs s := by
  have e : g = s.heap.get? := funext h
  rw [e]
  rfl
theorem map3 {α β γ δ : Type} {o : Option α} {f : α → β} {g : α → γ} {h : α → δ} {a : β} {b : γ} {c : δ} (h1 : o.map f = some a) (h2 : o.map g = some b) (h3 : o.map h = some c) : o.map (fun x => (f x, g x, h x)) = some (a, b, c) := by
  cases o with
  | none => cases h1
  | some x =>
    cases h1
    cases h2
    cases h3
    rfl
theorem map2 {α β γ : Type} {o : Option α} {f : α → β} {g : α → γ} {a : β} {b : γ} (h1 : o.map f = some a) (h2 : o.map g = some b) : o.map (fun x => (f x, g x)) = some (a, b) := by
  cases o with
  | none => cases h1
  | some x =>
    cases h1
    cases h2
    rfl
/-- the facts, apart -/
theorem obs4 {α : Type} {o : Option α} {as : List Addr} {fa : List He.Fa} {fn : List He.DefD} {ex : List (PySem.W.Frag → Bool)} {g : α → Addr → Option Obj} (h1 : o.map (fun x => fa.all fun f => f.ok (He.frG (g x) as)) = some true) (h2 : o.map (fun x => fn.all fun d => d.ok (He.frG (g x) as)) = some true)
    (h3 : o.map (fun x => fn.map fun d => He.fnW (He.frG (g x) as) d.at_) = some (fn.map He.DefD.val)) (h4 : o.map (fun x => ex.all fun f => f (He.frG (g x) as)) = some true) : o.map (fun x => obL as fa fn ex (g x)) = some (He.valD fn, true) := by
  cases o with
  | none => cases h1
  | some x =>
    have e1 : (fa.all fun f => f.ok (He.frG (g x) as)) = true := Option.some.inj h1
    have e2 : (fn.all fun d => d.ok (He.frG (g x) as)) = true := Option.some.inj h2
    have e3 : (fn.map fun d => He.fnW (He.frG (g x) as) d.at_) = fn.map He.DefD.val := Option.some.inj h3
    have e4 : (ex.all fun f => f (He.frG (g x) as)) = true := Option.some.inj h4
    show some (((fa.all fun f => f.ok (He.frG (g x) as)) && fn.all fun d => d.ok (He.frG (g x) as), fn.map fun d => He.fnW (He.frG (g x) as) d.at_), ex.all fun f => f (He.frG (g x) as)) = _
    rw [e1, e2, e3, e4]
    rfl
end Ni

/-! HM3: a Hook that also reads defs behind staticmethod, classmethod and property objects. -/
namespace Ni
open PySem PySem.Spec PyProof.Rows L2
def fnAt (K : PySem.W.Frag) (f : Addr) : He.FnW := match K.lookup f with
  | some ⟨_, _, .func fd, _⟩ => some (fd.name, fd.qualname, fd.params, fd.body, fd.scope, fd.globals, fd.closure, fd.builtins)
  | _ => none
/-- a def, and where it stands -/
structure DefX where
  ad : PySem.W.Frag → Addr
  d : He.DefD
def DefX.ok (K : PySem.W.Frag) (x : DefX) : Bool := PySem.W.keepIn K (.ref (x.ad K)) && (match K.lookup (x.ad K) with
  | some ⟨_, _, .func fd, _⟩ => PySem.W.codeIn K fd.code x.d.qual && (He.dflB K fd.defaults (x.d.dvs K) && He.kwdB K fd.kwdefaults (x.d.kws K))
  | _ => false)
theorem DefX.funD {K : PySem.W.Frag} {x : DefX} (e : fnAt K (x.ad K) = x.d.val) (c : x.ok K = true) : ∃ fd, FunD K x.d.name x.d.qual x.d.params x.d.body x.d.scope (x.d.dvs K) (x.d.kws K) (x.ad K) fd := by
  obtain ⟨kp, c2⟩ := He.ba c
  unfold fnAt at e
  cases q : K.lookup (x.ad K) with
  | none =>
    rw [q] at c2
    cases c2
  | some o =>
    obtain ⟨oc, od, dt, osl⟩ := o
    rw [q] at c2 e
    cases dt with
    | func fd =>
      obtain ⟨n1, n2, n3, n4, n5, n6, n7, n8, n9, n10, n11, n12, n13, n14, n15⟩ := fd
      have e2 : (some (n1, n2, n3, n4, n5, n6, n7, n15) : He.FnW) = some (x.d.name, x.d.qual, x.d.params, .stmts x.d.body, x.d.scope, mainGlobals, [], builtinsNs) := e
      simp only [Option.some.injEq, Prod.mk.injEq] at e2
      obtain ⟨h1, h2, h3, h4, h5, h6, h7, h8⟩ := e2
      subst h1 h2 h3 h4 h5 h6 h7 h8
      have c3 : (PySem.W.codeIn K n13 x.d.qual && (He.dflB K n8 (x.d.dvs K) && He.kwdB K n9 (x.d.kws K))) = true := c2
      obtain ⟨k1, k2⟩ := He.ba c3
      obtain ⟨k3, k4⟩ := He.ba k2
      exact ⟨_, ⟨oc, od, n8, n9, n10, n11, n12, n13, n14, osl, rfl, q, k1, He.dflB_ok k3, He.kwdB_ok k4⟩, kp⟩
    | _ => cases c2
/-- the kit's facts, a list of own ones, defs at own places -/
structure SaysS (fa : List He.Fa) (fn : List He.DefD) (ex : List (PySem.W.Frag → Bool)) (fs : List DefX) (K : PySem.W.Frag) : Prop where
  d : He.SaysD fa fn K
  m : (ex.all fun f => f K) = true
  s : (fs.map fun x => fnAt K (x.ad K)) = fs.map fun x => x.d.val
abbrev AlS : Type := He.AlD × Bool × List He.FnW
def hookS (as : List Addr) (fa : List He.Fa) (fn : List He.DefD) (ex : List (PySem.W.Frag → Bool)) (fs : List DefX) : PySem.W.Hook where
  α := AlS
  obs := fun s => (He.obsD fa fn (He.frG s.heap.get? as), ex.all fun f => f (He.frG s.heap.get? as), fs.map fun x => fnAt (He.frG s.heap.get? as) (x.ad (He.frG s.heap.get? as)))
  val := fun _ => (He.valD fn, true, fs.map fun x => x.d.val)
  says := fun _ h => ∃ K : PySem.W.Frag, K.In h ∧ SaysS fa fn ex fs K
  of := by
    intro w s e
    exact ⟨_, He.frG_in, ⟨congrArg Prod.fst e, congrArg (fun z => z.2.1) e, congrArg (fun z => z.2.2) e⟩⟩
  keeps := by
    intro w h h' z k
    obtain ⟨K, hK, c⟩ := z
    exact ⟨K, PySem.W.Frag.In.keeps hK k, c⟩
def obS (as : List Addr) (fa : List He.Fa) (fn : List He.DefD) (ex : List (PySem.W.Frag → Bool)) (fs : List DefX) (g : Addr → Option Obj) : AlS := (He.obsD fa fn (He.frG g as), ex.all fun f => f (He.frG g as), fs.map fun x => fnAt (He.frG g as) (x.ad (He.frG g as)))
theorem obS_eq {as : List Addr} {fa : List He.Fa} {fn : List He.DefD} {ex : List (PySem.W.Frag → Bool)} {fs : List DefX} {g : Addr → Option Obj} {s : Shared} (h : ∀ a, g a = s.heap.get? a) : obS as fa fn ex fs g = (hookS as fa fn ex fs).obs s := by
  have e : g = s.heap.get? := funext h
  rw [e]
  rfl
section
variable {fa : List He.Fa} {fn : List He.DefD} {ex : List (PySem.W.Frag → Bool)} {fs : List DefX} {K : PySem.W.Frag}
theorem SaysS.x (c : SaysS fa fn ex fs K) (i : Nat) {f : PySem.W.Frag → Bool} (h : ex[i]? = some f) : f K = true :=
  List.all_eq_true.mp c.m f (List.mem_of_getElem? h)
theorem SaysS.def_ (c : SaysS fa fn ex fs K) (i : Nat) {x : DefX} (h : fs[i]? = some x) (k : x.ok K = true) : ∃ fd, FunD K x.d.name x.d.qual x.d.params x.d.body x.d.scope (x.d.dvs K) (x.d.kws K) (x.ad K) fd := by
  refine DefX.funD ?_ k
  have e := congrArg (fun l : List He.FnW => l[i]?) c.s
  simp only [List.getElem?_map, h, Option.map_some, Option.some.injEq] at e
  exact e
end
/-! ### what stands behind such objects -/
def adSt (C m : Str) (K : PySem.W.Frag) : Addr := He5.wf K (He.ga K C) "staticmethod" m
def adCm (C m : Str) (K : PySem.W.Frag) : Addr := He5.wf K (He.ga K C) "classmethod" m
def adPg (C m : Str) (K : PySem.W.Frag) : Addr := match PySem.W.recIn K (He.ma K (He.ga K C) m) "property" with
  | some (.ref f :: _) => f
  | _ => 0
def adPs (C m : Str) (K : PySem.W.Frag) : Addr := match PySem.W.recIn K (He.ma K (He.ga K C) m) "property" with
  | some (_ :: .ref f :: _) => f
  | _ => 0
/-- C.m is a staticmethod that is read off the class -/
structure Sta (K : PySem.W.Frag) (C : Addr) (m : Str) (f : Addr) : Prop where
  rd : ClX.CRead K C (.type "type")
  at_ : ∃ p, PySem.W.findCls K (.ref C) (.type "type") m = some (.get (.builtin "staticmethod.__get__") (.ref p) .none (.ref C)) ∧ ∃ rest, PySem.W.recIn K p "staticmethod" = some (.ref f :: rest)
  kp : PySem.W.keepIn K (.ref f) = true
def staB (K : PySem.W.Frag) (C : Addr) (m : Str) : Bool := He5.wrapB K C "staticmethod" "staticmethod.__get__" m && (PySem.W.readsIn K C (.type "type") && (decide (PySem.W.specialIn K (.ref C) "__getattribute__" = some (some (.builtin "type.__getattribute__"))) && PySem.W.keepIn K (.ref (He5.wf K C "staticmethod" m))))
theorem sta_ok {K : PySem.W.Frag} {C : Addr} {m : Str} (h : staB K C m = true) : Sta K C m (He5.wf K C "staticmethod" m) := by
  obtain ⟨h1, h⟩ := He.ba h
  obtain ⟨h2, h⟩ := He.ba h
  obtain ⟨h3, h4⟩ := He.ba h
  obtain ⟨a, b⟩ := He5.wrapB_ok h1
  exact ⟨⟨h2, of_decide_eq_true h3⟩, ⟨_, a, b⟩, h4⟩
end Ni

/-! WP: rules by values, in the form that the tactics take. -/
namespace Ni
open PySem PySem.Spec PyProof.Rows L2
/-- a size in bits -/
def Bd (n : Int) (k : Nat) : Prop := n.natAbs < 2 ^ k
theorem Bd.mono {n : Int} {k m : Nat} (h : Bd n k) (l : k ≤ m) : Bd n m := Nat.lt_of_lt_of_le h (Nat.pow_le_pow_right (by decide) l)
theorem Bd.add {a b : Int} {k m : Nat} (h : Bd a k) (h' : Bd b m) : Bd (a + b) (max k m + 1) := by
  have h1 := h.mono (Nat.le_max_left k m)
  have h2 := h'.mono (Nat.le_max_right k m)
  unfold Bd at *
  rw [Nat.pow_succ]
  omega
theorem Bd.neg {a : Int} {k : Nat} (h : Bd a k) : Bd (-a) k := by unfold Bd at *; rw [Int.natAbs_neg]; exact h
theorem Bd.sub {a b : Int} {k m : Nat} (h : Bd a k) (h' : Bd b m) : Bd (a - b) (max k m + 1) := by rw [Int.sub_eq_add_neg]; exact h.add h'.neg
theorem Bd.mul {a b : Int} {k m : Nat} (h : Bd a k) (h' : Bd b m) : Bd (a * b) (k + m) := wide_lt h h'
theorem Bd.of_abs {a b : Int} {k : Nat} (h : Bd b k) (l : a.natAbs ≤ b.natAbs) : Bd a k := Nat.lt_of_le_of_lt l h
theorem bd_log {n : Int} {k : Nat} (h : Bd n k) (h0 : 0 < k) : n.natAbs.log2 < k := PySem.Flt.log2_lt_of h0 h
theorem bd_mulW {i j : Int} {k m : Nat} (h : Bd i k) (h' : Bd j m) (l : k + m < 999990) : CMulW i j := wide_mul (a := k + 1) (b := m + 1) (h.mono (Nat.le_succ _)) (h'.mono (Nat.le_succ _)) (Nat.succ_pos _) (Nat.succ_pos _) (by omega)
section
variable {X : Cx} {σ : L2.St} {H : Hp} {Q : VK}
theorem wo_add {i j : Int} (q : Q (.int (i + j)) H) : Wo X (binaryOp .Add) (.int i) (.int j) σ H Q := wo_of op_add ⟨i, j, rfl, rfl, q⟩
theorem wo_sub {i j : Int} (q : Q (.int (i - j)) H) : Wo X (binaryOp .Sub) (.int i) (.int j) σ H Q := wo_of op_sub ⟨i, j, rfl, rfl, q⟩
theorem wo_mul {i j : Int} (c : CMulW i j) (q : Q (.int (i * j)) H) : Wo X (binaryOp .Mult) (.int i) (.int j) σ H Q := wo_of op_mulW ⟨i, j, rfl, rfl, c, q⟩
theorem wo_mulR {i j : Int} (c : -(2 ^ 64) < j ∧ j < 2 ^ 64) (q : Q (.int (i * j)) H) : Wo X (binaryOp .Mult) (.int i) (.int j) σ H Q := wo_of op_mul ⟨i, j, rfl, rfl, .inr c, q⟩
theorem wo_mod {i j : Int} (c : 0 < j) (q : Q (.int (i % j)) H) : Wo X (binaryOp .Mod) (.int i) (.int j) σ H Q := wo_of op_mod ⟨i, j, rfl, rfl, c, q⟩
theorem wo_div {i j : Int} {k : Nat} (c : 0 < j) (b : Bd j k) (l : 0 < k ∧ k ≤ 9000) (q : Q (.int (i / j)) H) : Wo X (binaryOp .FloorDiv) (.int i) (.int j) σ H Q := wo_of op_fdivW ⟨i, j, rfl, rfl, ⟨c, Nat.lt_of_lt_of_le (bd_log b l.1) l.2⟩, q⟩
/-- // by any number but 0 -/
theorem op_fdivZ : OpR X (binaryOp .FloorDiv) (rI (fun _ j => j ≠ 0 ∧ j.natAbs.log2 < 9000) fun i j => .int (i.fdiv j)) := opI fun i j _ _ _ _ _ hc q => floordiv_int hc.1 q (.inl (PyProof.noPylong_of_log2 hc.2))
theorem wo_fdiv {i j : Int} {k : Nat} (c : j ≠ 0) (b : Bd j k) (l : 0 < k ∧ k ≤ 9000) (q : Q (.int (i.fdiv j)) H) : Wo X (binaryOp .FloorDiv) (.int i) (.int j) σ H Q := wo_of op_fdivZ ⟨i, j, rfl, rfl, ⟨c, Nat.lt_of_lt_of_le (bd_log b l.1) l.2⟩, q⟩
theorem wo_lt {i j : Int} (q : Q (.bl (decide (i < j))) H) : Wo X (compareOp .Lt) (.int i) (.int j) σ H Q := wo_of op_lt ⟨i, j, rfl, rfl, q⟩
theorem wo_le {i j : Int} (q : Q (.bl (decide (i ≤ j))) H) : Wo X (compareOp .LtE) (.int i) (.int j) σ H Q := wo_of op_le ⟨i, j, rfl, rfl, q⟩
theorem wo_gt {i j : Int} (q : Q (.bl (decide (j < i))) H) : Wo X (compareOp .Gt) (.int i) (.int j) σ H Q := wo_of op_gt ⟨i, j, rfl, rfl, q⟩
theorem wo_ge {i j : Int} (q : Q (.bl (decide (j ≤ i))) H) : Wo X (compareOp .GtE) (.int i) (.int j) σ H Q := wo_of op_ge ⟨i, j, rfl, rfl, q⟩
theorem dec_v {i j : Int} : decide (V.int i = V.int j) = decide (i = j) := by
  by_cases h : i = j
  · rw [decide_eq_true h, decide_eq_true (congrArg V.int h)]
  · rw [decide_eq_false h, decide_eq_false (fun z => h (V.int.inj z))]
theorem wo_eqI {i j : Int} (q : Q (.bl (decide (i = j))) H) : Wo X (compareOp .Eq) (.int i) (.int j) σ H Q := wo_of op_eq ⟨rfl, by rw [dec_v]; exact q⟩
theorem wo_neI {i j : Int} (q : Q (.bl (!decide (i = j))) H) : Wo X (compareOp .NotEq) (.int i) (.int j) σ H Q := wo_of op_ne ⟨rfl, by rw [dec_v]; exact q⟩
theorem wu_negI {i : Int} (q : Q (.int (-i)) H) : Wu X (unaryOp .USub) (.int i) σ H Q := wu_of un_neg ⟨i, rfl, q⟩
theorem wo_isN {x : V} (q : Q (.bl (decide (x = .non))) H) : Wo X (compareOp .Is) x .non σ H Q := wo_of op_isN ⟨rfl, q⟩
theorem wo_notN {x : V} (q : Q (.bl (!decide (x = .non))) H) : Wo X (compareOp .IsNot) x .non σ H Q := wo_of op_notN ⟨rfl, q⟩
/-! ### tests whose outcome is open, known -/
theorem if_d {c : Prop} [Decidable c] {A B : Prop} (h1 : c → A) (h2 : ¬ c → B) : if decide c = true then A else B := by
  by_cases h : c
  · rw [decide_eq_true h, if_pos rfl]; exact h1 h
  · rw [decide_eq_false h, if_neg Bool.false_ne_true]; exact h2 h
theorem if_nd {c : Prop} [Decidable c] {A B : Prop} (h1 : ¬ c → A) (h2 : c → B) : if (!decide c) = true then A else B := by
  by_cases h : c
  · rw [decide_eq_true h, Bool.not_true, if_neg Bool.false_ne_true]; exact h2 h
  · rw [decide_eq_false h, Bool.not_false, if_pos rfl]; exact h1 h
theorem if_b {c : Bool} {A B : Prop} (h1 : c = true → A) (h2 : c = false → B) : if c = true then A else B := by
  cases c
  · exact h2 rfl
  · exact h1 rfl
theorem if_t {A B : Prop} (h : A) : if true = true then A else B := h
theorem if_f {A B : Prop} (h : B) : if false = true then A else B := h
theorem if_nt {A B : Prop} (h : B) : if (!true) = true then A else B := h
theorem if_nf {A B : Prop} (h : A) : if (!false) = true then A else B := h
theorem if_dt {c : Prop} [Decidable c] {A B : Prop} (hc : c) (h : A) : if decide c = true then A else B := by rw [decide_eq_true hc]; exact h
theorem if_df {c : Prop} [Decidable c] {A B : Prop} (hc : ¬ c) (h : B) : if decide c = true then A else B := by rw [decide_eq_false hc]; exact h
/-! ### built-ins by their rule -/
theorem wcb_gcd {t b : Int} (q : Q (.int ((Nat.gcd t.natAbs b.natAbs : Nat) : Int)) H) : Wcb X (.builtin "math.gcd") [.int t, .int b] H Q := ⟨_, cr_gcd, t, b, rfl, q⟩
theorem we_callGB {e : Expr} {es : List Expr} {x : Str} {id : String} {p pos : Pos} (hg : Gl X x) (hm : X.mg x = some (.builtin id)) (hdb : (x == ("__debug__" : Str)) = false)
    (he : starEach (e :: es) X.env = (false, eval e X.env) :: starEach es X.env) (hpl : (backTo pos (starEach es X.env)).any (·.1) = false)
    (h : Wa X (e :: es) σ H fun vs H1 => Wcb X (.builtin id) vs H1 Q) : We X (.Call (.Name x p) (e :: es) [] pos) σ H Q :=
  we_of (pe_callBfun (Wcb.ok X _) hg hm Wa.pa hdb he hpl) h
theorem wcb_abs {n : Int} (q : Q (.int (if n < 0 then -n else n)) H) : Wcb X (.builtin "abs") [.int n] H Q := ⟨_, call_abs, n, rfl, q⟩
theorem wcb_intI {n : Int} (q : Q (.int n) H) : Wcb X (.type "int") [.int n] H Q := ⟨_, call_int1, .inl ⟨n, rfl, q⟩⟩
theorem wcb_isi {x c : V} {t u : Value} {b : Bool} (k : ClsV c u) (ty : TyX X.K H x t) (e : PySem.W.kitOne X.K t u = some b) (q : Q (.bl b) H) : Wcb X (.builtin "isinstance") [x, c] H Q := ⟨_, call_isi, x, c, t, u, b, rfl, k, ty, e, q⟩
theorem wcb_len {x : V} {n : Nat} (h : LenV X.K x H n) (q : Q (.int (n : Int)) H) : Wcb X (.builtin "len") [x] H Q := ⟨_, call_len, x, n, rfl, h, q⟩
end
end Ni
namespace Ni
open PySem PySem.Spec PyProof.Rows L2
section
variable {X : Cx} {σ : L2.St} {H : Hp} {Q : VK} {N G : List Str} {e : Expr} {es : List Expr} {x : Str} {p pos : Pos}
theorem we_callS {f : Addr} (S : Gs X G) (hx : x ∈ G) (hm : X.mg x = some (.ref f)) (hk : PySem.W.keepIn X.K (.ref f) = true)
    (he : starEach (e :: es) X.env = (false, eval e X.env) :: starEach es X.env) (hpl : (backTo pos (starEach es X.env)).any (·.1) = false)
    (h : Wa X (e :: es) σ H fun vs H1 => Wf X (.ref f) vs σ H1 Q) : We X (.Call (.Name x p) (e :: es) [] pos) σ H Q := we_call (S x hx).1 hm hk (S x hx).2 he hpl h
theorem we_callS0 {f : Addr} (S : Gs X G) (hx : x ∈ G) (hm : X.mg x = some (.ref f)) (hk : PySem.W.keepIn X.K (.ref f) = true)
    (h : Wf X (.ref f) [] σ H Q) : We X (.Call (.Name x p) [] [] pos) σ H Q := we_call0 (S x hx).1 hm hk (S x hx).2 h
theorem we_callBS {id : String} (S : Gs X G) (hx : x ∈ G) (hm : X.mg x = none) (hv : bootBuiltins x = some (.builtin id)) (hn : x ≠ "__name__")
    (he : starEach (e :: es) X.env = (false, eval e X.env) :: starEach es X.env) (hpl : (backTo pos (starEach es X.env)).any (·.1) = false)
    (h : Wa X (e :: es) σ H fun vs H1 => Wcb X (.builtin id) vs H1 Q) : We X (.Call (.Name x p) (e :: es) [] pos) σ H Q := we_callB (S x hx).1 hm hv hn (S x hx).2 he hpl h
theorem we_callTS {id : String} (S : Gs X G) (hx : x ∈ G) (hm : X.mg x = none) (hv : bootBuiltins x = some (.type id)) (hn : x ≠ "__name__")
    (he : starEach (e :: es) X.env = (false, eval e X.env) :: starEach es X.env) (hpl : (backTo pos (starEach es X.env)).any (·.1) = false)
    (h : Wa X (e :: es) σ H fun vs H1 => Wcb X (.type id) vs H1 Q) : We X (.Call (.Name x p) (e :: es) [] pos) σ H Q := we_callTy (S x hx).1 hm hv hn (S x hx).2 he hpl h
theorem we_callGS {id : String} (S : Gs X G) (hx : x ∈ G) (hm : X.mg x = some (.builtin id))
    (he : starEach (e :: es) X.env = (false, eval e X.env) :: starEach es X.env) (hpl : (backTo pos (starEach es X.env)).any (·.1) = false)
    (h : Wa X (e :: es) σ H fun vs H1 => Wcb X (.builtin id) vs H1 Q) : We X (.Call (.Name x p) (e :: es) [] pos) σ H Q := we_callGB (S x hx).1 hm (S x hx).2 he hpl h
/-- a class, a def as a value -/
theorem we_gref {f : Addr} (S : Gs X G) (hx : x ∈ G) (hm : X.mg x = some (.ref f)) (q : Q (.ref f) H) : We X (.Name x pos) σ H Q := we_of (pe_glob (S x hx).1 hm (v := .ref f) rfl (S x hx).2) q
theorem we_gty {n : String} (S : Gs X G) (hx : x ∈ G) (hm : X.mg x = none) (hv : bootBuiltins x = some (.type n)) (hn : x ≠ "__name__") (q : Q (.ty n) H) : We X (.Name x pos) σ H Q := we_of (pe_bltn (S x hx).1 hm hv (v := .ty n) rfl hn (S x hx).2) q
theorem ws_raiseS {D : Ends} {m : Str} {j : Nat} {p2 p3 : Pos} {C : Addr} (V1 : Env1 X) (S : Names1 X N G) (hx : x ∈ G) (gC : X.mg x = some (.ref C))
    (q : PySem.W.excIn X.K C He.veBase "ValueError.__new__" = true ∧ PySem.W.keepIn X.K (.ref C) = true ∧ PySem.W.subIn X.K (.ref C) (.type "BaseException") = some true ∧ PySem.W.typeIn X.K (.ref C) = some (.type "type"))
    (h : XW X (.ref C) none σ H) : Ws X (.Raise (some (.Call (.Name x p) [.Constant (.str m) j p2] [] p3)) none pos) D σ H :=
  ws_raiseT V1 PySem.F.excBase_ValueError q.1 gC q.2.1 (raises_own q.2.2.1 q.2.2.2) (S.glb x hx).1 (S.glb x hx).2 h
end
/-! ### what stands stays -/
theorem same_new {H : Hp} {p : Addr} {o : HO} (h : H p = none) : Same H (upd H p o) := fun b u e => by
  rw [upd_ne (ne_of_none e h)]
  exact e
theorem same_mut {H H' : Hp} {p : Addr} {o : HO} (s : Same H H') (h : H p = none) : Same H (upd H' p o) := fun b u e => by
  rw [upd_ne (ne_of_none e h)]
  exact s b u e
theorem at_mono {H H' : Hp} {p : Addr} {o : HO} (s : Same H H') (h : H p = some o) : H' p = some o := s p o h
end Ni
namespace Ni
open PySem PySem.Spec PyProof.Rows L2
theorem wcb_isE {X : Cx} {H : Hp} {Q : VK} {a D : Addr} {oe : Obj} {pn : List (Addr × Obj)} {c : V} {cv : Value} {b : Bool} (C : exccB X.K D = true) (hz : Zc (.ref D) none oe) (hf : ∃ vs, oe.data = .fields vs)
    (hc : ClsV c cv) (e : PySem.W.kitOne X.K (.ref D) cv = some b) (q : Q (.bl b) H) : Wcb (X.suite a ((a, oe) :: pn)) (.builtin "isinstance") [.ref a, c] H Q :=
  ⟨_, call_isE (excc_of C) hz hf, c, cv, b, rfl, fun u r => hc.eq r, e, q⟩
end Ni

/-! WQ: items, tuples, equality of data. -/
namespace Ni
open PySem PySem.Spec PyProof.Rows L2
def Ix (X : Cx) (x y : V) (H : Hp) (Q : VK) : Prop := ∃ r, IxR X r ∧ r x y H Q
theorem Ix.ok (X : Cx) : IxR X (fun x y H Q => Ix X x y H Q) := by
  intro value slice pins s σ H x y v u Q I rx ry h hs
  obtain ⟨r, hr, q⟩ := h
  exact hr value slice pins s σ H x y v u Q I rx ry q hs
def St (X : Cx) (o i v : V) (H : Hp) (Q : Hp → Prop) : Prop := ∃ t, PSet X t ∧ t o i v H Q
theorem St.ok (X : Cx) : PSet X (fun o i v H Q => St X o i v H Q) := by
  intro pins s σ H o i v ov iv u Q I r1 r2 r3 h
  obtain ⟨t, ht, q⟩ := h
  exact ht pins s σ H o i v ov iv u Q I r1 r2 r3 q
section
variable {X : Cx} {σ : L2.St} {H : Hp} {Q : VK} {a b o i : Expr} {es : List Expr} {pos : Pos} {p q : Addr} {xs ys : List V} {n : Int} {v : V}
theorem we_ix (hs : PlainIx b) (h : We X a σ H fun x H1 => We X b σ H1 fun y H2 => Ix X x y H2 Q) : We X (.Subscript a b pos) σ H Q := we_of (pe_ix (Ix.ok X) We.pe We.pe hs) h
theorem ix_l (h : SqL X.K H p xs) (e : atI xs n = some v) (k : Q v H) : Ix X (.ref p) (.int n) H Q := ⟨_, ix_list, p, xs, n, v, rfl, rfl, h, e, k⟩
theorem ix_t (h : SqT X.K H p xs) (e : atI xs n = some v) (k : Q v H) : Ix X (.ref p) (.int n) H Q := ⟨_, ix_tup, p, xs, n, v, rfl, rfl, h, e, k⟩
theorem ix_lh (h : H p = some (.lst xs)) (e : atI xs n = some v) (k : Q v H) : Ix X (.ref p) (.int n) H Q := ix_l (.of h) e k
theorem ix_th (h : H p = some (.tup xs)) (e : atI xs n = some v) (k : Q v H) : Ix X (.ref p) (.int n) H Q := ix_t (.of h) e k
theorem wg_sub {QG : L2.St → Hp → Prop} (ha : ∀ v, assign (.Subscript o i pos) X.env v = (do
      let ov ← holding [v] (eval o X.env)
      let iv ← holding [v, ov] (eval i X.env)
      standAt pos
      holding [v, ov, iv] (setItem ov iv v)
      release [v, ov, iv] []))
    (h : We X o σ H fun x H1 => We X i σ H1 fun y H2 => St X x y v H2 fun H3 => QG σ H3) : Wg X (.Subscript o i pos) v σ H QG := wg_of (pg_sub We.pe We.pe (St.ok X) ha) h
theorem st_l {j : Nat} {QH : Hp → Prop} (h : H p = some (.lst xs)) (e : ixN xs.length n = some j) (k : QH (upd H p (.lst (xs.set j v)))) : St X (.ref p) (.int n) v H QH := ⟨_, set_list, p, xs, n, j, rfl, rfl, h, e, k⟩
theorem we_tup {x1 : Nat} (h : Wa X es σ H fun vs H1 => vs.length ≤ sizeLine ∧ ∀ p, H1 p = none → Q (.ref p) (upd H1 p (.tup vs))) : We X (.Tuple es x1 pos) σ H Q := we_of (pe_tup Wa.pa) h
theorem size_ok {n : Nat} (h : n ≤ 100000) : n ≤ sizeLine := Nat.le_trans h (by decide)
/-- == of data -/
theorem wo_eqD {k : Nat} {x y : V} {d e : PyData} {c : Bool} (hr : Room k X.A) (hd : Dp X.K H x d) (he : Dp X.K H y e) (sd : SeqAt.shaped d = true) (se : SeqAt.shaped e = true) (hc : PyData.eqv d e = c) (q : Q (.bl c) H) : Wo X (compareOp .Eq) x y σ H Q :=
  wo_of (op_eqD hr.units) ⟨d, e, hd, he, sd, se, by rw [hc]; exact q⟩
theorem wo_neD {k : Nat} {x y : V} {d e : PyData} {c : Bool} (hr : Room k X.A) (hd : Dp X.K H x d) (he : Dp X.K H y e) (sd : SeqAt.shaped d = true) (se : SeqAt.shaped e = true) (hc : PyData.eqv d e = c) (q : Q (.bl (!c)) H) : Wo X (compareOp .NotEq) x y σ H Q :=
  wo_of (op_neD hr.units) ⟨d, e, hd, he, sd, se, by rw [hc]; exact q⟩
theorem dp_ints {K : PySem.W.Frag} : ∀ ns : List Int, DpAll K H (ns.map V.int) (ns.map PyData.int)
  | [] => .nil
  | n :: r => .cons (.int n) (dp_ints r)
theorem wo_eq_nil {k : Nat} {ns : List Int} (hr : Room k X.A) (hp : SqL X.K H p (ns.map V.int)) (hq : H q = some (.lst [])) (c : Q (.bl (decide (ns = []))) H) : Wo X (compareOp .Eq) (.ref p) (.ref q) σ H Q := by
  refine wo_eqD hr (.lst hp (dp_ints ns)) (.lst (.of hq) .nil) (PySem.W.shaped_ints ns) (by decide) ?_ c
  cases ns with
  | nil => rfl
  | cons a r => rfl
/-- two pairs of ints -/
theorem eqv_t2 (a b c d : Int) : PyData.eqv (.tuple [.int a, .int b]) (.tuple [.int c, .int d]) = decide (a = c ∧ b = d) := by
  simp only [PyData.eqv, PyData.eqvAll, Bool.and_true]
  by_cases h : a = c <;> by_cases h2 : b = d <;> simp [h, h2]
theorem sh_t2 (a b : Int) : SeqAt.shaped (.tuple [.int a, .int b]) = true := by
  simp [SeqAt.shaped, PyData.canLay0, PyData.canLayAll0, PyData.depth, PyData.depthAll]
theorem wo_eq_t2 {k : Nat} {a b c d : Int} (hr : Room k X.A) (hp : H p = some (.tup [.int a, .int b])) (hq : H q = some (.tup [.int c, .int d])) (z : Q (.bl (decide (a = c ∧ b = d))) H) : Wo X (compareOp .Eq) (.ref p) (.ref q) σ H Q :=
  wo_eqD hr (.tup (.of hp) (.cons (.int a) (.cons (.int b) .nil))) (.tup (.of hq) (.cons (.int c) (.cons (.int d) .nil))) (sh_t2 a b) (sh_t2 c d) (eqv_t2 a b c d) z
theorem wo_ne_t2 {k : Nat} {a b c d : Int} (hr : Room k X.A) (hp : H p = some (.tup [.int a, .int b])) (hq : H q = some (.tup [.int c, .int d])) (z : Q (.bl (!decide (a = c ∧ b = d))) H) : Wo X (compareOp .NotEq) (.ref p) (.ref q) σ H Q :=
  wo_neD hr (.tup (.of hp) (.cons (.int a) (.cons (.int b) .nil))) (.tup (.of hq) (.cons (.int c) (.cons (.int d) .nil))) (sh_t2 a b) (sh_t2 c d) (eqv_t2 a b c d) z
theorem wo_divS {i j : Int} (c : 0 < j ∧ j < 1073741824) (q : Q (.int (i / j)) H) : Wo X (binaryOp .FloorDiv) (.int i) (.int j) σ H Q := wo_of op_fdiv ⟨i, j, rfl, rfl, c, q⟩
theorem wo_mulL {i j : Int} (c : -(2 ^ 64) < i ∧ i < 2 ^ 64) (q : Q (.int (i * j)) H) : Wo X (binaryOp .Mult) (.int i) (.int j) σ H Q := wo_of op_mul ⟨i, j, rfl, rfl, .inl c, q⟩
theorem wo_pow {i j : Int} (c : 0 ≤ j ∧ j ≤ 1000000 ∧ i.natAbs < 2 ^ 64) (q : Q (.int (i ^ j.toNat)) H) : Wo X (binaryOp .Pow) (.int i) (.int j) σ H Q := wo_of op_pow ⟨i, j, rfl, rfl, c, q⟩
theorem wcb_lenL (h : SqL X.K H p xs) (k : Q (.int (xs.length : Int)) H) : Wcb X (.builtin "len") [.ref p] H Q := ⟨_, call_len_seq, p, xs, rfl, .inl h, k⟩
theorem wcb_lenT (h : SqT X.K H p xs) (k : Q (.int (xs.length : Int)) H) : Wcb X (.builtin "len") [.ref p] H Q := ⟨_, call_len_seq, p, xs, rfl, .inr h, k⟩
theorem wcb_listL (h : SqL X.K H p xs) (k : ∀ l, H l = none → Q (.ref l) (upd H l (.lst xs))) : Wcb X (.type "list") [.ref p] H Q := ⟨_, call_list_of, p, xs, rfl, .inl h, k⟩
end
end Ni

/-! WR: keywords. -/
namespace Ni
open PySem PySem.Spec PyProof.Rows L2
structure OkK (P : Program) (w : World) (K : PySem.W.Frag) (mg : Str → Option Value) (base : Heap) (k : Nat) (f : Addr) (ps : List Str) (n : Nat) (ks : List Str) (gV : List V → List V → List V) (sp : Sp) : Prop where
  ex : ∃ fd g, FnOk P w K mg base (L2.CX P w) k f fd ps sp ∧ KBn K fd ps n ks g gV
  kp : PySem.W.keepIn K (.ref f) = true
section
variable {X : Cx} {σ : L2.St} {H : Hp} {Q : VK} {k n : Nat} {f C : Addr} {ps ks : List Str} {sp : Sp} {vs zs : List V} {gV : List V → List V → List V} {e : Expr} {es : List Expr} {kws : List Keyword} {x : Str} {p pos kpos : Pos} {N G : List Str} {nm : Option Str}
theorem wk_nil {QA : List V → Hp → Prop} (q : QA [] H) : Wk X [] σ H QA := fun pos pins s I => pk_nil.run pos pins s σ H _ I q
theorem wk_cons {QA : List V → Hp → Prop} (h : We X e σ H fun v H1 => Wk X kws σ H1 fun vs H2 => QA (v :: vs) H2) : Wk X (⟨nm, e, kpos⟩ :: kws) σ H QA := fun pos pins s I => (pk_cons We.pe Wk.pk).run pos pins s σ H QA I h
theorem we_newK (S : Gs X G) (hx : x ∈ G) (hm : X.mg x = some (.ref C)) (M : Mk X.K C f) (O : OkK X.prog X.w X.K X.mg X.base k f ps (n + 1) ks gV sp) (hr : Room (k + 1) X.A)
    (hall : (backToKw pos (keywordEach kws X.env)).all (·.1.isSome) = true) (hks : (backToKw pos (keywordEach kws X.env)).filterMap (·.1) = ks)
    (he : starEach (e :: es) X.env = (false, eval e X.env) :: starEach es X.env)
    (hpl : ((backTo pos (starEach (e :: es) X.env)).any (·.1) || (backToKw pos (keywordEach kws X.env)).any (·.1.isNone)) = false)
    (h : Wa X (e :: es) σ H fun vs H1 => Wk X kws σ H1 fun zs H2 => vs.length = n ∧ zs.length = ks.length ∧
      ∀ a dx, H2 a = none → H2 dx = none → dx ≠ a → sp (gV (.ref a :: vs) zs) (upd (upd H2 dx (.own a)) a (.ins C dx [])) (fun v H3 => v = .non ∧ Q (.ref a) H3) (xk X σ)) : We X (.Call (.Name x p) (e :: es) kws pos) σ H Q := by
  obtain ⟨fd, g, F, hb⟩ := O.ex
  intro pins s I
  refine wpAny_Call_Name_kw (ld_glob I (S x hx).1 hm ?_ (S x hx).2)
  refine PySem.W.callWith_KW (h₀ := X.base) I.ok.mod.kin M.kp hall (thn (h pos pins s I) fun us s1 ⟨vs, H1, I1, r, q⟩ => ?_) hpl he
  refine thn (q pos pins s1 I1) fun ws s2 ⟨zs, H2, I2, rz, l1, l2, q2⟩ => ⟨I2.kIn, ?_⟩
  rw [hks]
  have hq := q2 (s2.heap.objs.size + 1) s2.heap.objs.size (I2.hok.fresh (Nat.le_succ _)) (I2.hok.fresh (Nat.le_refl _)) (Nat.ne_of_lt (Nat.lt_succ_self _))
  have I3 := Inv.made (C := C) I2
  have r1 : Vals (V.ref (s2.heap.objs.size + 1) :: vs) (Value.ref (s2.heap.objs.size + 1) :: us) := .cons rfl r
  have r2 := hb.rel r1 rz
  have e1 : (Value.ref (s2.heap.objs.size + 1) :: us).length = n + 1 := r1.length.symm.trans (congrArg Nat.succ l1)
  have e2 : ws.length = ks.length := rz.length.symm.trans l2
  refine wpAny_call (make_map (f := f) I2.kIn M.makes M.init (beq_iff_eq.mp M.fn) (codeAny_mono (F.run _ X.stack _ _ ⟨Value.ref (s2.heap.objs.size + 1) :: us, ks.zip ws⟩ (g (Value.ref (s2.heap.objs.size + 1) :: us) ws) _ _ (xk X σ) (hr.make C us (ks.zip ws))
    (I3.env0.make C us (ks.zip ws)) (hb.to _ (Value.ref (s2.heap.objs.size + 1) :: us) ws I3.kIn e1 e2) r2 hq) fun rr s' hq' => ?_))
  cases rr with
  | error ee => exact passAt (xw_takes X) σ pins _ _ ee s' I3 hq'
  | ok fl =>
    cases fl with
    | ret u =>
      obtain ⟨v, H', I4, rv, ev, q3⟩ := I3.after hq'
      subst ev
      exact ⟨rv, ⟨V.ref (s2.heap.objs.size + 1), H', I4, rfl, q3⟩⟩
    | next => exact False.elim hq'
    | brk => exact False.elim hq'
    | cont => exact False.elim hq'
end
end Ni
namespace Ni
open PySem PySem.Spec PyProof.Rows L2
/-- a goal to stop at -/
def Jn (p : Prop) : Prop := p
section
variable {X : Cx} {σ : L2.St} {H : Hp} {b sts sts' rest : List Stmt} {D D' : Ends}
theorem SP.imp {pins : List (Addr × Obj)} {r : Flow} {s : Shared} (h1 : ∀ σ H, D.nx σ H → D'.nx σ H) (h2 : ∀ v H, D.rt v H → D'.rt v H) (h3 : ∀ σ H, D.bk σ H → D'.bk σ H) (h4 : ∀ σ H, D.ct σ H → D'.ct σ H) (h : SP X pins D r s) : SP X pins D' r s := by
  cases r with
  | next => obtain ⟨σ, H, I, q⟩ := h; exact ⟨σ, H, I, h1 _ _ q⟩
  | ret u => obtain ⟨v, σ, H, I, r, q⟩ := h; exact ⟨v, σ, H, I, r, h2 _ _ q⟩
  | brk => obtain ⟨σ, H, I, q⟩ := h; exact ⟨σ, H, I, h3 _ _ q⟩
  | cont => obtain ⟨σ, H, I, q⟩ := h; exact ⟨σ, H, I, h4 _ _ q⟩
theorem Wb.imp (k : ∀ σ H, D.nx σ H → D'.nx σ H) (k2 : ∀ v H, D.rt v H → D'.rt v H) (k3 : ∀ σ H, D.bk σ H → D'.bk σ H) (k4 : ∀ σ H, D.ct σ H → D'.ct σ H) (h : Wb X b D σ H) : Wb X b D' σ H := fun pins s I => thn (h pins s I) fun _ _ q => SP.imp k k2 k3 k4 q
/-- both branches of an if meet at J -/
theorem if_join {c : Prop} [Decidable c] (J : L2.St → Hp → Prop) (h1 : c → Wb X sts { D with nx := fun σ' H' => Jn (J σ' H') } σ H) (h2 : ¬ c → Wb X sts' { D with nx := fun σ' H' => Jn (J σ' H') } σ H) (h : ∀ σ' H', J σ' H' → Wb X rest D σ' H') :
    if decide c = true then Wb X sts { D with nx := Wb X rest D } σ H else Wb X sts' { D with nx := Wb X rest D } σ H :=
  if_d (fun z => Wb.imp (D := { D with nx := fun σ' H' => Jn (J σ' H') }) (fun σ' H' q => h σ' H' q) (fun _ _ q => q) (fun _ _ q => q) (fun _ _ q => q) (h1 z)) (fun z => Wb.imp (D := { D with nx := fun σ' H' => Jn (J σ' H') }) (fun σ' H' q => h σ' H' q) (fun _ _ q => q) (fun _ _ q => q) (fun _ _ q => q) (h2 z))
end
/-- a law, its context by the world -/
theorem walk_w {l : PySem.W.OpenLaw} {n k : Nat} {q : Program} {loose : List Str} {XP : (Str → Option Value) → Heap → Prop} {YP : World → Heap → Prop} {d : DefRec} {CX : World → CXT} {x : Str}
    (hn : l.most = some n) (hn2 : n ≤ sizeLine) (hdf : d.params.defaults = []) (hr : Room k callerA)
    (F : ∀ (w : World) (mg : Str → Option Value) (fa : Addr) (h : Heap), YP w h → h.Ns mainGlobals mg → mg d.name = some (.ref fa) →
      ∃ (K : PySem.W.Frag) (fd : FuncData) (sp : Sp), K.In h ∧ (∀ (s : Shared) (u : Value), BindsTo s fd ⟨[u], []⟩ [(x, u)]) ∧
        (∀ (H : Hp) (a : Addr) (ns : List Int), ns.length ≤ n → Only H → SqL K H a (ns.map V.int) → sp [.ref a] H (fun v _ => v = .bl true) fun _ _ _ => False) ∧
        ∀ base : Heap, K.In base → base.Ns mainGlobals mg → FnOk l.prog w K mg base (CX w) k fa fd [x] sp)
    (hCX : ∀ (w : World) (H : Hp) (s : Shared) (e : Value) (s' : Shared), CX w [] H s (fun _ _ _ => False) e s' → False) :
    PySem.W.WalkO q loose XP YP l.row.toRowW d [] (fun f vs => PySem.call f vs) := by
  refine Att.attach_call hn hdf fun w s0 s1 mg mb fa o pm cd doc a vs ns G Y ho hd hcd hmg hobj hints hlen hg => ?_
  obtain ⟨K, fd, sp, KX, hb, hsp, hF⟩ := F w mg fa _ Y G.T.g hmg
  exact law_call KX G.T.g G.T.b G.T.builtins G.T.nolimit hg hobj hints (Nat.le_trans hlen hn2) hr hF hb (fun H hO hS => hsp H a ns hlen hO hS) fun H e s' => hCX w H s1 e s'
end Ni

/-! WS: a number on the left, an instance on the right. -/
namespace Ni
open PySem PySem.Spec PyProof.Rows PySem.W
section
variable {prog : Program} {w : World} {A : Around} {E : Value → Shared → Prop} {s : Shared} {K : Frag} {x C L f f0 : Addr} {h0 : Heap} {m : Str → Option Value} {ox : Obj} {od : Option Obj} {n : Int} {t : Tok}
/-- a built-in method gives up -/
def GivesUp (id : String) : Prop := ∀ {prog : Program} {w : World} {A : Around} {E : Value → Shared → Prop} {s : Shared} {Q : Value → Shared → Prop} (n : Int) (t : Tok) (x : Addr) (o : Obj), s.heap.get? x = some o → o.data = .plain → Q .notImplemented s →
  wpAny (model prog w) A (call (.builtin id) [.int n t, .ref x]) Q E s
theorem up_bin {name : String} {g : Int → Int → Sem Fin} {s : Shared} {A : Around} {M : Model} {Q : Fin → Shared → Prop} {E : Value → Shared → Prop} (n : Int) (t : Tok) (x : Addr) (o : Obj) (h1 : s.heap.get? x = some o) (h2 : o.data = .plain)
    (q : Q (.done (.ret .notImplemented)) s) : wpAny M A (PySem.Builtin.Int.intBinary name g false ⟨[.int n t, .ref x], []⟩) Q E s := by
  unfold PySem.Builtin.Int.intBinary
  refine wpAny_bind (m := slotArgs name 1 _) (wpAny_pure ?_)
  refine wpAny_bind (m := PySem.Builtin.Int.intOfSelf (.int n t)) (wpAny_pure ?_)
  refine wpAny_bind (m := asInt? (.ref x)) ?_
  unfold asInt?
  refine wpAny_bind (wpAny_load h1 ?_)
  rw [h2]
  show wpAny M A (pure none) _ _ _
  refine wpAny_pure ?_
  exact wpAny_bind (wpAny_rule (wpAny_pure q))
theorem gives_up {id : String} {b : Builtin} {name : Str} {nm : String} {g : Int → Int → Sem Fin} (slot : Slot "int" name id) (entry : entryFor table id = some b) (args : ∀ a b : Value, argsOk id ⟨[a, b], []⟩) (e : b = PySem.Builtin.Int.intBinary nm g false) : GivesUp id := by
  intro prog w A E s Q n t x o h1 h2 q
  refine wpAny_call_entry slot (typeIs_int s n t) entry ?_ (args _ _)
  rw [e]
  exact up_bin n t x o h1 h2 ⟨_, rfl, q⟩
theorem up_add : GivesUp "int.__add__" := gives_up F.slot_int_add F.entry_int_add F.args_int_add_2 rfl
theorem up_sub : GivesUp "int.__sub__" := gives_up F.slot_int_sub F.entry_int_sub F.args_int_sub_2 rfl
theorem up_mul : GivesUp "int.__mul__" := gives_up F.slot_int_mul F.entry_int_mul F.args_int_mul_2 rfl
theorem up_mod : GivesUp "int.__mod__" := gives_up F.slot_int_mod F.entry_int_mod F.args_int_mod_2 rfl
theorem up_floordiv : GivesUp "int.__floordiv__" := by
  intro prog w A E s Q n t x o h1 h2 q
  refine wpAny_call_entry F.slot_int_floordiv (typeIs_int s n t) F.entry_int_floordiv ?_ (F.args_int_floordiv_2 _ _)
  unfold PySem.Builtin.«int.__floordiv__»
  refine wpAny_bind ?_
  have as1 : ∀ {R : Option Int → Shared → Prop}, R none s → wpAny (model prog w) A.in1 (asInt? (.ref x)) R (fun _ _ => False) s := fun {R} r => by
    unfold asInt?
    refine wpAny_bind (wpAny_load h1 ?_)
    rw [h2]
    exact wpAny_pure r
  have ex : wpAny (model prog w) A.in1 (PySem.Builtin.exactOperandsForPylong false ⟨[.int n t, .ref x], []⟩) (fun _ s' => s' = s) (fun _ _ => False) s := by
    unfold PySem.Builtin.exactOperandsForPylong
    rw [if_pos (show ([Value.int n t, Value.ref x].any Value.onHeap) = true by rfl)]
    refine wpAny_bind (m := asInt? (.int n t)) (wpAny_pure ?_)
    refine wpAny_bind (as1 ?_)
    exact wpAny_pure rfl
  refine wpAny_mono ex (fun _ s' e => ?_) fun _ _ e => False.elim e
  subst e
  exact up_bin n t x o h1 h2 ⟨_, rfl, q⟩
theorem up_lt : GivesUp "int.__lt__" := gives_up F.slot_int_lt F.entry_int_lt F.args_int_lt_2 rfl
theorem up_le : GivesUp "int.__le__" := gives_up F.slot_int_le F.entry_int_le F.args_int_le_2 rfl
theorem up_gt : GivesUp "int.__gt__" := gives_up F.slot_int_gt F.entry_int_gt F.args_int_gt_2 rfl
theorem up_ge : GivesUp "int.__ge__" := gives_up F.slot_int_ge F.entry_int_ge F.args_int_ge_2 rfl
theorem up_eq : GivesUp "int.__eq__" := gives_up F.slot_int_eq F.entry_int_eq F.args_int_eq_2 rfl
theorem up_ne : GivesUp "int.__ne__" := gives_up F.slot_int_ne F.entry_int_ne F.args_int_ne_2 rfl
theorem bin_right {op : Operator} {idl : String} {Q : Value → Shared → Prop} (F : Fr h0 L s.heap m) (X0 : K.In h0) (I : InstAt s.heap x ox C od) (hd : ox.data = .plain) (hc : selfFirst K C = true)
    (hs : findIn K (.ref C) (PySem.dunder op.info.2) = some (some (.ref f0))) (hr : findIn K (.ref C) (dunderR op.info.2) = some (some (.ref f))) (hf : isFn K (.ref f) = true)
    (hT : fillsNumberSlot (.type "int") op.info.2 = pure true) (hsub : subIn K (.ref C) (.type "int") = some false) (hl : Slot "int" (PySem.dunder op.info.2) idl) (up : GivesUp idl)
    (h : wpAny (model prog w) A (call (.ref f) [.ref x, .int n t]) (PySem.W.CmpBack Q) E s) : wpAny (model prog w) A (binaryOp op (.int n t) (.ref x)) Q E s := by
  have X := X0.keeps F.keep
  obtain ⟨cd, rest, hcd, hm⟩ := ksp_first hc
  rcases hi : op.info with ⟨sym, nm⟩
  rw [hi] at hs hr hT hl
  dsimp only at hs hr hT hl
  have one := ksp_try X I hr hf h
  have hne : (Value.type "int" == Value.ref C) = false := Bool.eq_false_iff.mpr fun q => by cases beq_iff_eq.mp q
  simp only [binaryOp, hi]
  refine wpAny_holding (wpAny_bind ?_)
  unfold binaryOp1
  refine wpAny_bind (wpAny_typeOf (typeIs_int s n t) (wpAny_bind (I.type.here (wpAny_bind (wpAny_of_eq hT ?_)))))
  simp only [hne, Bool.false_eq_true, if_false]
  refine wpAny_bind ((fills_K X hcd hm hs).here ?_)
  simp only [Bool.and_self, if_true]
  refine wpAny_bind ((looks_subIn X hsub).here ?_)
  have hpy : numberSlotInPython (.type "int") nm = pure false := rfl
  simp only [Bool.false_eq_true, if_false, pure_bind, Bool.not_false, Bool.and_self, if_true, hpy]
  refine wpAny_bind (m := tryMethod (.int n t) _ (.ref x)) ?_
  have lft : wpAny (model prog w) A (tryMethod (.int n t) (PySem.dunder nm) (.ref x)) (fun r s' => r = none ∧ s' = s) E s := by
    unfold tryMethod
    exact wpAny_bind (wpAny_callSpecial?_slot (typeIs_int s n t) hl (up n t x ox I.at_ hd (wpAny_pure ⟨rfl, rfl⟩)))
  refine wpAny_mono lft (fun r s' z => ?_) fun _ _ e => e
  obtain ⟨rfl, rfl⟩ := z
  dsimp only
  refine wpAny_bind (wpAny_mono one (fun r s' z => ?_) fun _ _ e => e)
  obtain ⟨v, rfl, hq⟩ := z
  exact wpAny_bind (wpAny_rule (wpAny_pure (wpAny_pure hq)))
theorem cmp_right {op : CmpOp} {idl : String} {Q : Value → Shared → Prop} (hu : A.units < cLine) (F : Fr h0 L s.heap m) (X0 : K.In h0) (I : InstAt s.heap x ox C od) (hd : ox.data = .plain)
    (hr : findIn K (.ref C) (cmpInfo op).2.2 = some (some (.ref f))) (hf : isFn K (.ref f) = true) (hsub : subIn K (.ref C) (.type "int") = some false) (hl : Slot "int" (cmpInfo op).2.1 idl) (up : GivesUp idl)
    (h : wpAny (model prog w) A (call (.ref f) [.ref x, .int n t]) (PySem.W.CmpBack Q) E s) : wpAny (model prog w) A (richCompare op (.int n t) (.ref x)) Q E s := by
  have X := X0.keeps F.keep
  have one : wpAny (model prog w) A (tryCompare (.ref x) (cmpInfo op).2.2 (.int n t)) (fun r s' => ∃ v, r = some v ∧ Q v s') E s := by
    unfold tryCompare
    refine wpAny_bind (ifBound_K X I hr hf (wpAny_mono h (fun v s' hv => ?_) fun _ _ e => e))
    cases v <;> first | exact hv.elim | exact wpAny_pure ⟨_, rfl, hv⟩
  have lft : wpAny (model prog w) A (tryCompare (.int n t) (cmpInfo op).2.1 (.ref x)) (fun r s' => r = none ∧ s' = s) E s := by
    unfold tryCompare
    exact wpAny_bind (wpAny_callSpecialIfBound?_slot (typeIs_int s n t) hl (up n t x ox I.at_ hd (wpAny_pure ⟨rfl, rfl⟩)))
  have hne : (Value.type "int" != Value.ref C) = true := by
    show (!(Value.type "int" == Value.ref C)) = true
    have z : (Value.type "int" == Value.ref C) = false := Bool.eq_false_iff.mpr fun q => by cases beq_iff_eq.mp q
    rw [z]
    rfl
  unfold richCompare
  simp only [(typeIs_int s n t).oneThing_none op]
  refine wpAny_holding (wpAny_bind (wpAny_cRoomFor hu ?_))
  refine wpAny_bind (wpAny_typeOf (typeIs_int s n t) (wpAny_bind (I.type.here ?_)))
  simp only [hne, if_true]
  refine wpAny_bind ((looks_subIn X hsub).here ?_)
  simp only [Bool.false_eq_true, if_false]
  refine wpAny_bind (wpAny_mono lft (fun r s' z => ?_) fun _ _ e => e)
  obtain ⟨rfl, rfl⟩ := z
  simp only [Bool.not_false, if_true]
  refine wpAny_bind (wpAny_mono one (fun r s' z => ?_) fun _ _ e => e)
  obtain ⟨v, rfl, hq⟩ := z
  exact wpAny_pure hq
end
end Ni

/-! WT: in-place signs over own classes, abs. -/
namespace Ni
open PySem PySem.Spec PyProof.Rows PySem.W PySem.Calls
/-- no in-place method of that sign -/
def noiB (K : Frag) (C : Addr) (nm : String) : Bool := (match clsIn K C with
  | some cd => decide (cd.mro = [.ref C, .type "object"])
  | none => false) && decide (findIn K (.ref C) (dunderI nm) = some none)
section
variable {prog : Program} {w : World} {M : Model} {A : Around} {E : Value → Shared → Prop} {s : Shared} {K : Frag} {x C L f f0 : Addr} {h0 : Heap} {m : Str → Option Value} {ox : Obj} {od : Option Obj} {n : Int} {t : Tok}
theorem noi_of {nm : String} {add : Bool} {h : Heap} (X : K.In h) (hn : noiB K C nm = true) (ho : typeLookup (.type "object") (dunderI nm) = pure none) : Looks M h (fillsInplaceSlot (.ref C) nm add) false := by
  intro A Q E s k q
  obtain ⟨c1, c2⟩ := Bool.and_eq_true_iff.mp hn
  cases hc : clsIn K C with
  | none => rw [hc] at c1; cases c1
  | some cd =>
    rw [hc] at c1
    have hm := of_decide_eq_true c1
    have X' := X.keeps k
    have lm : Looks M s.heap (mroOf (.ref C)) cd.mro := (looks_clsIn X' hc).andThen (f := fun cd => pure cd.mro) .now
    have li : Looks M s.heap (typeLookup (.ref C) (dunderI nm)) none := looks_findIn X' (of_decide_eq_true c2)
    unfold fillsInplaceSlot
    refine wpAny_bind (lm.here ?_)
    rw [hm, List.anyM_cons]
    refine wpAny_bind ?_
    refine wpAny_bind (li.here (wpAny_pure ?_))
    rw [if_neg Bool.false_ne_true, List.anyM_cons]
    refine wpAny_bind ?_
    refine wpAny_bind (wpAny_of_eq ho (wpAny_pure ?_))
    rw [if_neg Bool.false_ne_true]
    exact wpAny_pure q
theorem bin1_two {nm : String} {b : Value} {Q : Value → Shared → Prop} (X : K.In s.heap) (I : InstAt s.heap x ox C od) (tb : Looks M s.heap (typeOf b) (.ref C)) (hc : selfFirst K C = true)
    (hs : findIn K (.ref C) (PySem.dunder nm) = some (some (.ref f))) (one : wpAny M A (tryMethod (.ref x) (PySem.dunder nm) b) (fun r s' => ∃ v, r = some v ∧ Q v s') E s) :
    wpAny M A (binaryOp1 nm (.ref x) b) (fun r s' => ∃ v, r = some v ∧ Q v s') E s := by
  obtain ⟨cd, rest, c1, c2⟩ := ksp_first hc
  unfold binaryOp1
  refine wpAny_bind (I.type.here ?_)
  refine wpAny_bind (tb.here ?_)
  refine wpAny_bind ((fills_K X c1 c2 hs).here ?_)
  rw [if_pos (beq_self_eq_true _)]
  refine wpAny_bind (wpAny_pure ?_)
  simp only [Bool.and_false, Bool.false_and, Bool.false_eq_true, if_false, if_true, pure_bind]
  refine wpAny_bind (wpAny_mono one (fun r s' z => ?_) fun _ _ e => e)
  obtain ⟨v, rfl, q⟩ := z
  exact wpAny_pure ⟨_, rfl, q⟩
theorem bin1_int {nm : String} {b : Value} {ro rc : Option Value} {Q : Value → Shared → Prop} (X : K.In s.heap) (I : InstAt s.heap x ox C od) (tb : typeOf b = pure (.type "int")) (hc : selfFirst K C = true)
    (hs : findIn K (.ref C) (PySem.dunder nm) = some (some (.ref f))) (hr : findIn K (.ref C) (dunderR nm) = some rc) (hp : rc = none ∨ ∃ g : Addr, rc = some (.ref g)) (hT : fillsNumberSlot (.type "int") nm = pure true)
    (h2 : findIn K (.type "int") (dunderR nm) = some ro) (hsub : subIn K (.type "int") (.ref C) = some false) (one : wpAny M A (tryMethod (.ref x) (PySem.dunder nm) b) (fun r s' => ∃ v, r = some v ∧ Q v s') E s) :
    wpAny M A (binaryOp1 nm (.ref x) b) (fun r s' => ∃ v, r = some v ∧ Q v s') E s := by
  obtain ⟨cd, rest, c1, c2⟩ := ksp_first hc
  have ne : (Value.ref C == Value.type "int") = false := Bool.eq_false_iff.mpr fun q => by cases beq_iff_eq.mp q
  have hpy : numberSlotInPython (.type "int") nm = pure false := rfl
  unfold binaryOp1
  refine wpAny_bind (I.type.here ?_)
  refine wpAny_bind (wpAny_of_eq tb ?_)
  refine wpAny_bind ((fills_K X c1 c2 hs).here ?_)
  rw [if_neg (by rw [ne]; exact Bool.false_ne_true)]
  refine wpAny_bind (wpAny_of_eq hT ?_)
  simp only [Bool.and_self, if_true]
  refine wpAny_bind ((looks_subIn X hsub).here ?_)
  simp only [Bool.false_eq_true, if_false, pure_bind, Bool.not_false, Bool.and_self, if_true, hpy]
  refine wpAny_bind ((ksp_inPy X hs hr hp).here ?_)
  simp only [if_true, pure_bind, hpy, Bool.not_false]
  refine wpAny_bind ((looks_findIn X h2).here ?_)
  refine wpAny_bind (wpAny_mono one (fun r s' z => ?_) fun _ _ e => e)
  obtain ⟨v, rfl, q⟩ := z
  exact wpAny_pure ⟨_, rfl, q⟩
theorem iop_of {op : Operator} {b : Value} {Q : Value → Shared → Prop} (X : K.In s.heap) (I : InstAt s.heap x ox C od) (hn : noiB K C op.info.2 = true) (ho : typeLookup (.type "object") (dunderI op.info.2) = pure none)
    (h : wpAny M A (binaryOp1 op.info.2 (.ref x) b) (fun r s' => ∃ v, r = some v ∧ Q v s') E s) : wpAny M A (inplaceOp op (.ref x) b) Q E s := by
  unfold inplaceOp
  refine wpAny_holding ?_
  refine wpAny_bind (I.type.here ?_)
  refine wpAny_bind ((noi_of X hn ho).here ?_)
  simp only [Bool.false_eq_true, if_false, pure_bind]
  refine wpAny_bind (wpAny_mono h (fun r s' z => ?_) fun _ _ e => e)
  obtain ⟨v, rfl, q⟩ := z
  exact wpAny_pure q
theorem abs_own {Q : Value → Shared → Prop} (X : K.In s.heap) (I : InstAt s.heap x ox C od) (hs : findIn K (.ref C) "__abs__" = some (some (.ref f))) (hf : isFn K (.ref f) = true)
    (h : wpAny (model prog w) A.in1 (call (.ref f) [.ref x]) Q E s) : wpAny (model prog w) A (call (.builtin "abs") [.ref x]) Q E s := by
  refine call_function_entry kind_abs plain_abs entry_abs (args_abs _) ?_
  unfold Builtin.«abs»
  refine wpAny_bind (m := oneArg "abs" _) (wpAny_pure ?_)
  refine wpAny_bind (special_fn X I hs (beq_iff_eq.mp hf) (wpAny_mono h (fun v s' q => ?_) fun _ _ e => e))
  exact wpAny_pure ⟨_, rfl, q⟩
end
theorem no_iadd : typeLookup (.type "object") (dunderI "add") = pure none := by rw [typeLookup_type, builtinLookup_eq_fast]; kernel_rfl
theorem no_imul : typeLookup (.type "object") (dunderI "mul") = pure none := by rw [typeLookup_type, builtinLookup_eq_fast]; kernel_rfl
theorem no_isub : typeLookup (.type "object") (dunderI "sub") = pure none := by rw [typeLookup_type, builtinLookup_eq_fast]; kernel_rfl
end Ni

namespace Ni
open PySem PySem.Spec PyProof.Rows L2
section
variable {X : Cx} {σ : L2.St} {H : Hp} {Q : VK} {op : Operator} {cop : CmpOp} {C f f0 a b dx dy : Addr} {fs gs : List (Str × V)} {n : Int} {k : Nat}
/-- an int on the left, an instance on the right -/
theorem wo_right {idl : String} (ha : H a = some (.ins C dx fs)) (hc : PySem.W.selfFirst X.K C = true) (g0 : Sg X.K C (PySem.dunder op.info.2) f0) (g : Sg X.K C (dunderR op.info.2) f) (hT : fillsNumberSlot (.type "int") op.info.2 = pure true)
    (hsub : PySem.W.subIn X.K (.ref C) (.type "int") = some false) (hl : Slot "int" (PySem.dunder op.info.2) idl) (up : GivesUp idl) (h : Wf X (.ref f) [.ref a, .int n] σ H Q) : Wo X (binaryOp op) (.int n) (.ref a) σ H Q := by
  intro pins s v u I rx ry
  obtain ⟨t, rfl⟩ := rx
  cases ry
  obtain ⟨od, J⟩ := inst_at I ha
  obtain ⟨m, hF⟩ := I.fr
  refine bin_right hF I.ok.mod.kin J rfl hc g0.hs g.hs g.hf hT hsub hl up ?_
  exact thn (h pins s [.ref a, .int n t] I (.cons rfl (.cons ⟨t, rfl⟩ .nil))) fun _ _ q => told_of q
theorem wo_cmpR {idl : String} (hr : Room k X.A) (ha : H a = some (.ins C dx fs)) (g : Sg X.K C (cmpInfo cop).2.2 f) (hsub : PySem.W.subIn X.K (.ref C) (.type "int") = some false) (hl : Slot "int" (cmpInfo cop).2.1 idl) (up : GivesUp idl)
    (h : Wf X (.ref f) [.ref a, .int n] σ H Q) : Wo X (richCompare cop) (.int n) (.ref a) σ H Q := by
  intro pins s v u I rx ry
  obtain ⟨t, rfl⟩ := rx
  cases ry
  obtain ⟨od, J⟩ := inst_at I ha
  obtain ⟨m, hF⟩ := I.fr
  refine cmp_right hr.units0 hF I.ok.mod.kin J rfl g.hs g.hf hsub hl up ?_
  exact thn (h pins s [.ref a, .int n t] I (.cons rfl (.cons ⟨t, rfl⟩ .nil))) fun _ _ q => told_of q
theorem try_of {pins : List (Addr × Obj)} {s : Shared} {A : Around} {m : Str} {E : Value → Shared → Prop} {v : Value} (I : Inv X pins σ H s) (ha : H a = some (.ins C dx fs)) (g : Sg X.K C m f)
    (h : wpAny (model X.prog X.w) A (call (.ref f) [.ref a, v]) (EP X pins σ Q) E s) : wpAny (model X.prog X.w) A (tryMethod (.ref a) m v) (fun r s' => ∃ v, r = some v ∧ EP X pins σ Q v s') E s := by
  obtain ⟨od, J⟩ := inst_at I ha
  obtain ⟨m, hF⟩ := I.fr
  exact PySem.W.ksp_try (I.ok.mod.kin.keeps hF.keep) J g.hs g.hf (thn h fun _ _ q => told_of q)
theorem wi_two (ha : H a = some (.ins C dx fs)) (hb : H b = some (.ins C dy gs)) (hc : PySem.W.selfFirst X.K C = true) (g : Sg X.K C (PySem.dunder op.info.2) f) (hn : noiB X.K C op.info.2 = true) (ho : typeLookup (.type "object") (dunderI op.info.2) = pure none)
    (h : Wf X (.ref f) [.ref a, .ref b] σ H Q) : Wo X (inplaceOp op) (.ref a) (.ref b) σ H Q := by
  intro pins s v u I rx ry
  cases rx
  cases ry
  obtain ⟨od, J⟩ := inst_at I ha
  obtain ⟨od', J'⟩ := inst_at I hb
  obtain ⟨m, hF⟩ := I.fr
  have X' := I.ok.mod.kin.keeps hF.keep
  exact iop_of X' J hn ho (bin1_two X' J J'.type hc g.hs (try_of I ha g (h pins s [.ref a, .ref b] I (.cons rfl (.cons rfl .nil)))))
theorem wi_int {ro rc : Option Value} (ha : H a = some (.ins C dx fs)) (hc : PySem.W.selfFirst X.K C = true) (g : Sg X.K C (PySem.dunder op.info.2) f) (hn : noiB X.K C op.info.2 = true) (ho : typeLookup (.type "object") (dunderI op.info.2) = pure none)
    (hr : PySem.W.findIn X.K (.ref C) (dunderR op.info.2) = some rc) (hp : rc = none ∨ ∃ g : Addr, rc = some (.ref g)) (hT : fillsNumberSlot (.type "int") op.info.2 = pure true)
    (h2 : PySem.W.findIn X.K (.type "int") (dunderR op.info.2) = some ro) (hsub : PySem.W.subIn X.K (.type "int") (.ref C) = some false)
    (h : Wf X (.ref f) [.ref a, .int n] σ H Q) : Wo X (inplaceOp op) (.ref a) (.int n) σ H Q := by
  intro pins s v u I rx ry
  cases rx
  obtain ⟨t, rfl⟩ := ry
  obtain ⟨od, J⟩ := inst_at I ha
  obtain ⟨m, hF⟩ := I.fr
  have X' := I.ok.mod.kin.keeps hF.keep
  exact iop_of X' J hn ho (bin1_int X' J rfl hc g.hs hr hp hT h2 hsub (try_of I ha g (h pins s [.ref a, .int n t] I (.cons rfl (.cons ⟨t, rfl⟩ .nil)))))
/-- abs of an instance -/
theorem we_aug {e : Expr} {x : Str} {pos pos' : Pos} {D : Ends} {N G : List Str} {v : V} {σ' : V → L2.St} (S : Names1 X N G) (h0 : Var N σ x v) (h1 : ∀ u, Put N σ x u (σ' u))
    (h : We X e σ H fun y H1 => Wo X (inplaceOp op) v y σ H1 fun z H2 => D.nx (σ' z) H2) : Ws X (.AugAssign (.Name x pos') op e pos) D σ H := by
  obtain ⟨i, e1, e2⟩ := h0.at
  intro pins s I
  have hxm : x ∈ N := List.mem_of_getElem? e1
  have hloc := S.vis x hxm
  obtain ⟨m, fr, sl⟩ := I.loc
  obtain ⟨uv, ru, ld⟩ := sl i x v (by rw [S.eq]; exact e1) e2 (hloc.elim .inl fun z => .inr (.inl z))
  refine wpAny_AugAssign_Name ?_
  have body : wpAny (model X.prog X.w) X.A (eval e X.env) (fun y s2 => wpAny (model X.prog X.w) X.A (inplaceOp op uv y) (fun z s3 => wpAny (model X.prog X.w) X.A (storeName X.env x z) (fun _ => SP X pins D .next) X.xe s3) X.xe s2) X.xe s := by
    refine thn (h pins s I) fun y s2 hy => ?_
    obtain ⟨yv, H1, J1, ry, q1⟩ := hy
    refine thn (q1 pins s2 uv y J1 ru ry) fun z s3 hz => ?_
    obtain ⟨zv, H2, J2, rz, q2⟩ := hz
    obtain ⟨j, f1, f2⟩ := (h1 zv).at
    rw [f2] at q2
    exact store_ok J2 (by rw [S.eq]; exact S.nd) (by rw [S.eq]; exact f1) hloc rz (fun s4 J3 => ⟨_, H2, J3, q2⟩) (.inl (S.fn x))
  rcases ld with ⟨k1, k2⟩ | ⟨k1, c, k2, k3⟩
  · exact wpAny_loadName_local I.ok.kind k1 fr k2 body
  · rcases k1 with k1 | k1
    · exact wpAny_loadName_cell I.ok.kind k1 k2 k3 body
    · rcases hloc with z | z
      · exact absurd (z.symm.trans k1) (by decide)
      · exact absurd (z.symm.trans k1) (by decide)
/-- a call somewhere below the running body -/
def WfA (X : Cx) (A : Around) (f : Value) (vs : List V) (σ : L2.St) (H : Hp) (Q : VK) : Prop := ∀ pins s us, Inv X pins σ H s → Vals vs us → wpAny (model X.prog X.w) A (call f us) (EP X pins σ Q) X.xe s
theorem wfA_ok {A : Around} {ps : List Str} {dvs vs : List V} {sp : Sp} (O : OkD X.prog X.w X.K X.mg X.base k f ps dvs sp) (hr : Room k A) (hA : A.frames = X.A.frames) (h : sp (vs ++ dvs) H Q (xk X σ)) : WfA X A (.ref f) vs σ H Q := by
  obtain ⟨fd, ds, F, hd, hb⟩ := O.ex
  intro pins s us I r
  have r2 : Vals (vs ++ dvs) (us ++ ds) := r.append hd
  have len := r2.length.symm.trans (F.len _ _ _ _ h)
  have e0 : Env0 X.prog X.w X.K X.mg X.base A X.stack s H := by
    have e := I.env0
    exact ⟨hA.trans e.frames, e.mod, e.bs, e.bsz, e.funs, e.frf, e.hok, e.bare⟩
  refine wpAny_call (codeAny_mono (F.run A X.stack s H ⟨us, []⟩ (us ++ ds) (vs ++ dvs) Q (xk X σ) hr e0 (hb s us I.kIn len) r2 h) fun fl s2 z => ?_)
  match fl, z with
  | .error e, z => exact passAt (xw_takes X) σ pins _ _ e s2 I z
  | .ok (.ret u), z => exact I.after z
  | .ok .next, z => exact z.elim
  | .ok .brk, z => exact z.elim
  | .ok .cont, z => exact z.elim
theorem wcb_absO (ha : H a = some (.ins C dx fs)) (g : Sg X.K C "__abs__" f) (h : ∀ σ', WfA X X.A.in1 (.ref f) [.ref a] σ' H Q) : Wcb X (.builtin "abs") [.ref a] H Q := by
  refine ⟨fun vs H' Q' => vs = [.ref a] ∧ H' = H ∧ ∀ v H2, Q v H2 → Q' v H2, ?_, rfl, rfl, fun _ _ q => q⟩
  rintro pins s σ' H' vs us Q' I r ⟨rfl, rfl, k⟩
  obtain ⟨u, rfl, ru⟩ := vals1 r
  cases ru
  obtain ⟨od, J⟩ := inst_at I ha
  obtain ⟨m, hF⟩ := I.fr
  exact abs_own (I.ok.mod.kin.keeps hF.keep) J g.hs g.hf (thn (h σ' pins s _ I r) fun _ _ q => EP.imp k q)
end
end Ni

namespace Ni
open PySem PySem.Spec PyProof.Rows L2
theorem d_add : PySem.dunder (Operator.info .Add).2 = "__add__" := by decide +kernel
theorem r_add : dunderR (Operator.info .Add).2 = "__radd__" := by decide +kernel
theorem d_sub : PySem.dunder (Operator.info .Sub).2 = "__sub__" := by decide +kernel
theorem r_sub : dunderR (Operator.info .Sub).2 = "__rsub__" := by decide +kernel
theorem d_mul : PySem.dunder (Operator.info .Mult).2 = "__mul__" := by decide +kernel
theorem r_mul : dunderR (Operator.info .Mult).2 = "__rmul__" := by decide +kernel
theorem d_floordiv : PySem.dunder (Operator.info .FloorDiv).2 = "__floordiv__" := by decide +kernel
theorem r_floordiv : dunderR (Operator.info .FloorDiv).2 = "__rfloordiv__" := by decide +kernel
theorem d_mod : PySem.dunder (Operator.info .Mod).2 = "__mod__" := by decide +kernel
theorem r_mod : dunderR (Operator.info .Mod).2 = "__rmod__" := by decide +kernel
theorem d_pow : PySem.dunder (Operator.info .Pow).2 = "__pow__" := by decide +kernel
theorem r_pow : dunderR (Operator.info .Pow).2 = "__rpow__" := by decide +kernel
theorem Sg.of_eq {K : PySem.W.Frag} {C f : Addr} {m m' : Str} (e : m' = m) (g : Sg K C m f) : Sg K C m' f := e ▸ g
theorem find_eq {K : PySem.W.Frag} {c : Value} {m m' : Str} (e : m' = m) (h : ∃ fo, PySem.W.findIn K c m = some fo) : ∃ fo, PySem.W.findIn K c m' = some fo := e ▸ h
end Ni

/-! WU: != by object's own method, bool of an instance. -/
namespace Ni
open PySem PySem.Spec PyProof.Rows PySem.W PySem.Calls
/-- a class that has object's own != -/
def neB (K : Frag) (C : Addr) : Bool := decide (findIn K (.ref C) "__ne__" = some (some (.builtin "object.__ne__"))) && decide (subIn K (.ref C) (.type "object") = some true)
section
variable {prog : Program} {w : World} {M : Model} {A : Around} {E : Value → Shared → Prop} {s : Shared} {K : Frag} {x C L f f0 : Addr} {h0 : Heap} {m : Str → Option Value} {ox : Obj} {od : Option Obj} {n : Int} {t : Tok}
theorem chk_obj {id : String} {n : String} {rest : List Value} {Q : Unit → Shared → Prop} (X : K.In s.heap) (I : InstAt s.heap x ox C od) (hs : subIn K (.ref C) (.type "object") = some true) (hk : builtinKind id = some .slot) (hp : splitId id = some ("object", n))
    (ha : argsOk id ⟨.ref x :: rest, []⟩) (q : Q () s) : wpAny M A (checkBuiltinCall id ⟨.ref x :: rest, []⟩) Q E s := by
  simp only [checkBuiltinCall, hk, hp]
  refine wpAny_bind ?_
  have li : Looks M s.heap (isInstance (.ref x) (.type "object")) true := I.type.andThen (looks_subIn X hs)
  refine li.here ?_
  simp only [Bool.not_true, Bool.false_eq_true, if_false]
  cases hsig : Manifest.signature? id with
  | none => exact wpAny_pure q
  | some sig =>
    simp only [argsOk, hsig] at ha
    have h2 : Bind.checkArgs id sig ⟨.ref x :: rest, []⟩ = pure () := ha
    show wpAny M A (Bind.checkArgs id sig ⟨.ref x :: rest, []⟩) Q E s
    rw [h2]
    exact wpAny_pure q
theorem ne_try {b : Value} {Q : Option Value → Shared → Prop} (hu : A.in1.units < cLine) (X : K.In s.heap) (I : InstAt s.heap x ox C od) (hn : neB K C = true) (hs : findIn K (.ref C) "__eq__" = some (some (.ref f))) (hf : isFn K (.ref f) = true)
    (h : wpAny (model prog w) A.in1 (call (.ref f) [.ref x, b]) (fun v s' => ∃ c, v = .bool c ∧ Q (some (.bool (!c))) s') E s) : wpAny (model prog w) A (tryCompare (.ref x) "__ne__" b) Q E s := by
  obtain ⟨n1, n2⟩ := Bool.and_eq_true_iff.mp hn
  have S := F.cmp_object.ne
  unfold tryCompare
  simp only [callSpecialIfBound?, bindSpecialIfBound?]
  refine wpAny_bind ?_
  refine wpAny_holding (wpAny_bind (wpAny_bind (wpAny_bind (I.type.here ((looks_findIn X (of_decide_eq_true n1)).here ?_)))))
  refine wpAny_bind (wpAny_askSetting (wpAny_ite ?_))
  have run : wpAny (model prog w) A (call (.builtin "object.__ne__") [.ref x, b]) (fun v s' => ∃ c, v = .bool c ∧ Q (some (.bool c)) s') E s := by
    refine wpAny_call (codeAny_call_builtin S.plain F.cmpEntry_ne (chk_obj X I (of_decide_eq_true n2) F.cmpKind_ne F.cmpSplit_ne (F.cmpArgs_ne _ _) ?_))
    unfold Builtin.«object.__ne__»
    refine wpAny_bind (m := slotArgs "__ne__" 1 _) (wpAny_pure ?_)
    refine wpAny_bind (wpAny_cRoomFor hu ?_)
    refine wpAny_bind (m := callSpecialIfBound? (.ref x) "__eq__" [b]) (ifBound_K X I hs hf (wpAny_mono h (fun v s' z => ?_) fun _ _ e => e))
    obtain ⟨c, rfl, q⟩ := z
    refine wpAny_bind (m := truthy (.bool c)) (wpAny_truthy_bool ?_)
    exact wpAny_pure ⟨_, rfl, q⟩
  have fin : wpAny (model prog w) A (call (.builtin "object.__ne__") ([.ref x] ++ [b]) >>= fun v => pure (some v)) (fun v s' => ∃ c, v = some (.bool c) ∧ Q (some (.bool c)) s') E s := wpAny_bind (wpAny_mono run (fun v s' z => by
    obtain ⟨c, rfl, q⟩ := z
    exact wpAny_pure ⟨c, rfl, q⟩) fun _ _ e => e)
  simp only [S.bind]
  have fin2 : wpAny (model prog w) A (call (.builtin "object.__ne__") ([.ref x] ++ [b]) >>= fun v => pure (some v)) (fun v s' => wpAny (model prog w) A (match v with | some .notImplemented => pure none | none => pure none | some v => pure (some v)) Q E s') E s := wpAny_mono fin (fun v s' z => by
    obtain ⟨c, rfl, q⟩ := z
    exact wpAny_pure q) fun _ _ e => e
  split
  · exact wpAny_bind (wpAny_pure (wpAny_pure fin2))
  · exact wpAny_tryCatch (wpAny_bind (wpAny_pure (wpAny_pure fin2)))
/-- a != b, an instance on the left -/
theorem ne_left {b : Value} {tb : Value} {Q : Value → Shared → Prop} (hu : A.units < cLine) (hu1 : A.in1.units < cLine) (X : K.In s.heap) (I : InstAt s.heap x ox C od) (hb : Looks (model prog w) s.heap (typeOf b) tb) (nf : notFirst K C tb = true) (hn : neB K C = true)
    (hs : findIn K (.ref C) "__eq__" = some (some (.ref f))) (hf : isFn K (.ref f) = true) (h : wpAny (model prog w) A.in1 (call (.ref f) [.ref x, b]) (fun v s' => ∃ c, v = .bool c ∧ Q (.bool (!c)) s') E s) :
    wpAny (model prog w) A (richCompare .NotEq (.ref x) b) Q E s := by
  have one : wpAny (model prog w) A (tryCompare (.ref x) "__ne__" b) (fun r s' => ∃ v, r = some v ∧ Q v s') E s := ne_try hu1 X I hn hs hf (wpAny_mono h (fun v s' z => by
    obtain ⟨c, rfl, q⟩ := z
    exact ⟨c, rfl, _, rfl, q⟩) fun _ _ e => e)
  have e1 : (cmpInfo .NotEq).2.1 = "__ne__" := by decide +kernel
  unfold richCompare
  simp only [oneThing_ref]
  refine wpAny_holding (wpAny_bind (wpAny_cRoomFor hu ?_))
  refine wpAny_bind (I.type.here ?_)
  refine wpAny_bind (hb.here ?_)
  rw [cmpInfo_NotEq]
  dsimp only
  split
  · rename_i z
    have e : subIn K tb (.ref C) = some false := by
      rcases Bool.or_eq_true_iff.mp nf with y | y
      · rw [beq_iff_eq.mp y] at z
        simp at z
      · exact beq_iff_eq.mp y
    refine wpAny_bind ((looks_subIn X e).here ?_)
    rw [if_neg Bool.false_ne_true]
    refine wpAny_bind (wpAny_mono one (fun r s' z => ?_) fun _ _ e => e)
    obtain ⟨v, rfl, q⟩ := z
    exact wpAny_pure q
  · refine wpAny_bind (wpAny_pure ?_)
    rw [if_neg Bool.false_ne_true]
    refine wpAny_bind (wpAny_mono one (fun r s' z => ?_) fun _ _ e => e)
    obtain ⟨v, rfl, q⟩ := z
    exact wpAny_pure q
/-- n != b, an instance on the right -/
theorem ne_right {Q : Value → Shared → Prop} (hu : A.units < cLine) (hu1 : A.in1.units < cLine) (X : K.In s.heap) (I : InstAt s.heap x ox C od) (hd : ox.data = .plain) (hn : neB K C = true)
    (hs : findIn K (.ref C) "__eq__" = some (some (.ref f))) (hf : isFn K (.ref f) = true) (hsub : subIn K (.ref C) (.type "int") = some false) (h : wpAny (model prog w) A.in1 (call (.ref f) [.ref x, .int n t]) (fun v s' => ∃ c, v = .bool c ∧ Q (.bool (!c)) s') E s) :
    wpAny (model prog w) A (richCompare .NotEq (.int n t) (.ref x)) Q E s := by
  have one : wpAny (model prog w) A (tryCompare (.ref x) "__ne__" (.int n t)) (fun r s' => ∃ v, r = some v ∧ Q v s') E s := ne_try hu1 X I hn hs hf (wpAny_mono h (fun v s' z => by
    obtain ⟨c, rfl, q⟩ := z
    exact ⟨c, rfl, _, rfl, q⟩) fun _ _ e => e)
  have lft : wpAny (model prog w) A (tryCompare (.int n t) "__ne__" (.ref x)) (fun r s' => r = none ∧ s' = s) E s := by
    unfold tryCompare
    exact wpAny_bind (wpAny_callSpecialIfBound?_slot (typeIs_int s n t) F.slot_int_ne (up_ne n t x ox I.at_ hd (wpAny_pure ⟨rfl, rfl⟩)))
  have hne : (Value.type "int" != Value.ref C) = true := by
    show (!(Value.type "int" == Value.ref C)) = true
    have z : (Value.type "int" == Value.ref C) = false := Bool.eq_false_iff.mpr fun q => by cases beq_iff_eq.mp q
    rw [z]
    rfl
  unfold richCompare
  simp only [(typeIs_int s n t).oneThing_none .NotEq]
  refine wpAny_holding (wpAny_bind (wpAny_cRoomFor hu ?_))
  refine wpAny_bind (wpAny_typeOf (typeIs_int s n t) ?_)
  refine wpAny_bind (I.type.here ?_)
  rw [cmpInfo_NotEq]
  simp only [hne, if_true]
  refine wpAny_bind ((looks_subIn X hsub).here ?_)
  simp only [Bool.false_eq_true, if_false]
  refine wpAny_bind (wpAny_mono lft (fun r s' z => ?_) fun _ _ e => e)
  obtain ⟨rfl, rfl⟩ := z
  simp only [Bool.not_false, if_true]
  refine wpAny_bind (wpAny_mono one (fun r s' z => ?_) fun _ _ e => e)
  obtain ⟨v, rfl, q⟩ := z
  exact wpAny_pure q
end
end Ni
namespace Ni
open PySem PySem.Spec PyProof.Rows L2
section
variable {X : Cx} {σ : L2.St} {H : Hp} {Q : VK} {C f a dx : Addr} {fs : List (Str × V)} {n : Int} {k : Nat} {y : V} {tb : Value}
theorem not_bl {pins : List (Addr × Obj)} {v : Value} {s : Shared} (h : EP X pins σ (fun v H' => ∃ c, v = .bl c ∧ Q (.bl (!c)) H') v s) : ∃ c, v = .bool c ∧ EP X pins σ Q (.bool (!c)) s := by
  obtain ⟨z, H', I, r, c, rfl, q⟩ := h
  cases r
  exact ⟨c, rfl, .bl (!c), H', I, rfl, q⟩
theorem wo_neL (hr : Room (k + 1) X.A) (ha : H a = some (.ins C dx fs)) (hT : ∀ (pins : List (Addr × Obj)) (s : Shared) (u : Value), Inv X pins σ H s → RelV y u → PySem.W.Looks (model X.prog X.w) s.heap (typeOf u) tb)
    (nf : PySem.W.notFirst X.K C tb = true) (hn : neB X.K C = true) (g : Sg X.K C "__eq__" f) (h : WfA X X.A.in1 (.ref f) [.ref a, y] σ H fun v H' => ∃ c, v = .bl c ∧ Q (.bl (!c)) H') : Wo X (richCompare .NotEq) (.ref a) y σ H Q := by
  intro pins s v u I rx ry
  cases rx
  obtain ⟨od, J⟩ := inst_at I ha
  obtain ⟨m, hF⟩ := I.fr
  exact ne_left hr.units0 hr.in1.units0 (I.ok.mod.kin.keeps hF.keep) J (hT pins s u I ry) nf hn g.hs g.hf (thn (h pins s [.ref a, u] I (.cons rfl (.cons ry .nil))) fun _ _ q => not_bl q)
theorem wo_neR (hr : Room (k + 1) X.A) (ha : H a = some (.ins C dx fs)) (hn : neB X.K C = true) (g : Sg X.K C "__eq__" f) (hsub : PySem.W.subIn X.K (.ref C) (.type "int") = some false)
    (h : WfA X X.A.in1 (.ref f) [.ref a, .int n] σ H fun v H' => ∃ c, v = .bl c ∧ Q (.bl (!c)) H') : Wo X (richCompare .NotEq) (.int n) (.ref a) σ H Q := by
  intro pins s v u I rx ry
  obtain ⟨t, rfl⟩ := rx
  cases ry
  obtain ⟨od, J⟩ := inst_at I ha
  obtain ⟨m, hF⟩ := I.fr
  exact ne_right hr.units0 hr.in1.units0 (I.ok.mod.kin.keeps hF.keep) J rfl hn g.hs g.hf hsub (thn (h pins s [.ref a, .int n t] I (.cons rfl (.cons ⟨t, rfl⟩ .nil))) fun _ _ q => not_bl q)
end
end Ni

/-! WV: comprehensions, methods of lists, defs with *args. -/
namespace Ni
open PySem PySem.Spec PyProof.Rows L2
theorem rel_free {sc : Scope} : ∀ {names : List (Str × NameKind)} {x : Str}, names.lookup x = some .free →
    (names.map fun (n, k) => if (k == NameKind.free && sc.kind == .function && sc.names.lookup n == some .cell) then (n, NameKind.cell) else (n, k)).lookup x = some .free ∨
    (names.map fun (n, k) => if (k == NameKind.free && sc.kind == .function && sc.names.lookup n == some .cell) then (n, NameKind.cell) else (n, k)).lookup x = some .cell
  | [], _, h => by cases h
  | (n, k0) :: r, x, h => by
    have ih := @rel_free sc r x
    rw [List.map_cons]
    cases hx : x == n with
    | true =>
      rw [List.lookup_cons, hx] at h
      cases h
      dsimp only
      split
      · right
        rw [List.lookup_cons, hx]
      · left
        rw [List.lookup_cons, hx]
    | false =>
      rw [List.lookup_cons, hx] at h
      dsimp only
      split
      · rw [List.lookup_cons, hx]
        exact ih h
      · rw [List.lookup_cons, hx]
        exact ih h
/-- a comprehension's block stands in X' -/
def Blk (X : Cx) (scope : Scope) (X' : Cx) : Prop := ∃ s H C cl fp, X' = X.blk s H scope (compEnvC scope cl C X.env) fp
theorem Blk.names {X X' : Cx} {scope : Scope} {N G : List Str} (b : Blk X scope X') (eq : X.N = N) (nd : N.Nodup) (dbg : ∀ x ∈ N, (x == ("__debug__" : Str)) = false ∧ (x == ("__classdict__" : Str)) = false)
    (glb : ∀ x ∈ G, scope.names.lookup x = some .globalImplicit ∧ (x == ("__debug__" : Str)) = false) : NamesB X' N scope G := by
  obtain ⟨s, H, C, cl, fp, rfl⟩ := b
  refine ⟨eq, nd, fun x hx => ?_, fun x hx => lookup_relS_keep (sc := X.env.scope) (by decide) hx, dbg, fun x hx => ⟨lookup_relS_keep (sc := X.env.scope) (by decide) (glb x hx).1, (glb x hx).2⟩⟩
  unfold visB at hx
  cases e : scope.names.lookup x with
  | none => rw [e] at hx; cases hx
  | some k =>
    rw [e] at hx
    cases k <;> first | cases hx | skip
    all_goals first
      | exact .inl (lookup_relS_keep (sc := X.env.scope) (by decide) e)
      | exact .inr (.inl (lookup_relS_keep (sc := X.env.scope) (by decide) e))
      | exact (rel_free (sc := X.env.scope) e).elim (fun z => .inr (.inr z)) (fun z => .inr (.inl z))
section
variable {X : Cx} {σ : L2.St} {H : Hp} {Q : VK} {elt tg iter c o e a : Expr} {es : List Expr} {scope : Scope} {own : List (Str × Nat)} {pos p apos : Pos} {N G : List Str}
def gB (X : Cx) (scope : Scope) (tg : Expr) : TG := fun v σ H Q => ∀ X', Blk X scope X' → Wg X' tg v σ H Q
def eB (X : Cx) (scope : Scope) (elt : Expr) : TE := fun σ H Q => ∀ X', Blk X scope X' → We X' elt σ H Q
def tB (X : Cx) (scope : Scope) (c : Expr) : TT := fun σ H Q => ∀ X', Blk X scope X' → Wt X' c σ H Q
theorem gB.pg {s : Shared} {H : Hp} {C : Addr} {cl : List (Str × Addr)} {fp : List Addr} : PG (X.blk s H scope (compEnvC scope cl C X.env) fp) tg (gB X scope tg) := ⟨fun pins s2 σ H2 v u Q I r h => h _ ⟨_, _, _, _, _, rfl⟩ pins s2 u I r⟩
theorem eB.pe {s : Shared} {H : Hp} {C : Addr} {cl : List (Str × Addr)} {fp : List Addr} : PE (X.blk s H scope (compEnvC scope cl C X.env) fp) elt (eB X scope elt) := ⟨fun pins s2 σ H2 Q I h => h _ ⟨_, _, _, _, _, rfl⟩ pins s2 I⟩
theorem tB.pt {s : Shared} {H : Hp} {C : Addr} {cl : List (Str × Addr)} {fp : List Addr} : PT (X.blk s H scope (compEnvC scope cl C X.env) fp) c (tB X scope c) := ⟨fun pins s2 σ H2 Q I h => h _ ⟨_, _, _, _, _, rfl⟩ pins s2 I⟩
/-- one turn of a comprehension -/
def Turn1 (X : Cx) (scope : Scope) (own : List (Str × Nat)) (σ : L2.St) (tg elt : Expr) (x : V) (H : Hp) (D : Addr) (Nx : Hp → Prop) : Prop :=
  gB X scope tg x (wipe σ (own.map (·.2))) H fun σ2 H2 => wipe σ2 (own.map (·.2)) = wipe σ (own.map (·.2)) ∧ eB X scope elt σ2 H2 fun y H4 => ∃ acc, H4 D = some (.lst acc) ∧ acc.length < sizeLine ∧ Nx (upd H4 D (.lst (acc ++ [y])))
theorem we_lcL (V1 : Env1 X) (nd : X.N.Nodup) (ok : BlkOk X.N X.env.scope scope own) (hs : ∀ x, foldedSetIterable iter X.env x = pure x)
    (h : We X iter σ H fun x H1 => ∃ a xs, x = .ref a ∧ SqL X.K H1 a xs ∧ ∀ D, H1 D = none → ∃ Pv : Nat → Hp → Prop, Pv 0 (upd H1 D (.lst [])) ∧ (∀ i H, i ≤ xs.length → Pv i H → SqL X.K H a xs) ∧
      (∀ i x H, xs[i]? = some x → Pv i H → Turn1 X scope own σ tg elt x H D (Pv (i + 1))) ∧ (∀ H, Pv xs.length H → Q (.ref D) H)) : We X (.ListComp elt [⟨tg, iter, [], 0⟩] scope pos) σ H Q := by
  refine we_of (pe_lc V1.calm nd (pi_list We.pe) ok (fun _ _ _ _ _ => gB.pg) (fun _ _ _ _ _ => pts_nil) (fun _ _ _ _ _ => eB.pe) hs) ?_
  refine We.imp ?_ h
  rintro x H1 ⟨a, xs, rfl, h1, h2⟩
  refine ⟨a, rfl, ⟨xs, h1⟩, fun D hD => ?_⟩
  obtain ⟨Pv, p0, p1, p2, p3⟩ := h2 D hD
  exact lc_list Pv p0 p1 p2 p3
theorem we_lcT (V1 : Env1 X) (nd : X.N.Nodup) (ok : BlkOk X.N X.env.scope scope own) (hs : ∀ x, foldedSetIterable iter X.env x = pure x)
    (h : We X iter σ H fun x H1 => ∃ a xs, x = .ref a ∧ SqT X.K H1 a xs ∧ ∀ D, H1 D = none → ∃ Pv : Nat → Hp → Prop, Pv 0 (upd H1 D (.lst [])) ∧ (∀ i H, i ≤ xs.length → Pv i H → SqT X.K H a xs) ∧
      (∀ i x H, xs[i]? = some x → Pv i H → Turn1 X scope own σ tg elt x H D (Pv (i + 1))) ∧ (∀ H, Pv xs.length H → Q (.ref D) H)) : We X (.ListComp elt [⟨tg, iter, [], 0⟩] scope pos) σ H Q := by
  refine we_of (pe_lc V1.calm nd (pi_tup We.pe) ok (fun _ _ _ _ _ => gB.pg) (fun _ _ _ _ _ => pts_nil) (fun _ _ _ _ _ => eB.pe) hs) ?_
  refine We.imp ?_ h
  rintro x H1 ⟨a, xs, rfl, h1, h2⟩
  refine ⟨a, rfl, ⟨xs, h1⟩, fun D hD => ?_⟩
  obtain ⟨Pv, p0, p1, p2, p3⟩ := h2 D hD
  exact lc_tup Pv p0 p1 p2 p3
theorem we_lcR (V1 : Env1 X) (nd : X.N.Nodup) (ok : BlkOk X.N X.env.scope scope own) (hg : Gl X "range") (hm : X.mg "range" = none) (hst : starEach [a] X.env = [(false, eval a X.env)]) (hs : ∀ x, foldedSetIterable (.Call (.Name "range" p) [a] [] apos) X.env x = pure x)
    (h : Wa X [a] σ H fun vs H1 => ∃ j : Int, vs = [.int j] ∧ -(2 ^ 62) ≤ j ∧ j < 2 ^ 62 ∧ ∀ D, H1 D = none → ∃ Pv : Nat → Hp → Prop, Pv 0 (upd H1 D (.lst [])) ∧
      (∀ i H, i < j.toNat → Pv i H → Turn1 X scope own σ tg elt (.int (0 + i)) H D (Pv (i + 1))) ∧ (∀ H, Pv j.toNat H → Q (.ref D) H)) : We X (.ListComp elt [⟨tg, .Call (.Name "range" p) [a] [] apos, [], 0⟩] scope pos) σ H Q := by
  refine we_of (pe_lc V1.calm nd (pi_range1 hg hm Wa.pa hst) ok (fun _ _ _ _ _ => gB.pg) (fun _ _ _ _ _ => pts_nil) (fun _ _ _ _ _ => eB.pe) hs) ?_
  refine Wa.imp ?_ h
  rintro vs H1 ⟨j, rfl, j1, j2, h2⟩
  refine ⟨j, rfl, j1, j2, fun D hD => ?_⟩
  obtain ⟨Pv, p0, p2, p3⟩ := h2 D hD
  exact lc_range Pv p0 p2 p3
/-- o.append(e) -/
theorem we_append (hbase : attributeBase o "append" X.env (eval o X.env) = eval o X.env) (hfew : ((backTo pos (starEach [e] X.env)).all (fun x => !x.1) && (backToKw pos (keywordEach [] X.env)).all (fun x => x.1.isSome) && decide ([e].length + ([] : List Keyword).length + (if ([] : List Keyword).isEmpty then 0 else 1) < 30)) = true)
    (hline : (apos.endLine == pos.line) = true) (hs : starEach [e] X.env = (false, eval e X.env) :: starEach [] X.env) (hpl : (backTo pos (starEach [] X.env)).any (·.1) = false)
    (h : We X o σ H fun x H1 => ∃ l xs, x = .ref l ∧ H1 l = some (.lst xs) ∧ We X e σ H1 fun y H2 => ∃ ys, H2 l = some (.lst ys) ∧ ys.length < sizeLine ∧ Q .non (upd H2 l (.lst (ys ++ [y])))) : We X (.Call (.Attribute o "append" apos) [e] [] pos) σ H Q := by
  refine we_of (pe_bm (t := Wa X [e]) F.plainAttrs_list F.slot_list_append F.type_list_append mt_append We.pe Wa.pa hbase hfew hline hs hpl) ?_
  refine We.imp ?_ h
  rintro x H1 ⟨l, xs, rfl, h1, h2⟩
  refine ⟨.inl ⟨rfl, _, .of h1⟩, wa_cons hs (We.imp ?_ h2)⟩
  rintro y H2 ⟨ys, h3, h4, q⟩
  exact wa_nil ⟨l, ys, y, rfl, rfl, h3, h4, q⟩
end
section
open PySem.W PySem.Calls
variable {prog : Program} {w : World} {A : Around} {E : Value → Shared → Prop} {s : Shared} {K : Frag} {x C L f : Addr} {ox : Obj} {od : Option Obj}
theorem meets_bool_own (x : Addr) : MeetsIn prog w (Builtin.«bool.__new__» ⟨[.type "bool", .ref x], []⟩) (fun A R s => wpAny (model prog w) A.in1 (truthy (.ref x)) (fun b s' => R (.ok (.ret (.bool b))) s') (fun e s' => R (.error e) s') s) :=
  .of_wp fun A R s hs => by
    have f1 := F.conv_sub_bool
    unfold Builtin.«bool.__new__»
    obtain ⟨hp, g, d, tk, os⟩ := s
    repeat (any_goals (first | assumption | (with_reducible refine wpAny_mono hs (fun b s' q => wpAny_pure ⟨_, rfl, q⟩) fun _ _ e => e) | wp_step))
    all_goals exact wpAny_mono hs (fun b s' q => wpAny_pure ⟨_, rfl, q⟩) fun _ _ e => e
theorem call_bool_own {L : Addr} {h0 : Heap} {m : Str → Option Value} {Q : Value → Shared → Prop} (F0 : Fr h0 L s.heap m) (X0 : K.In h0) (I : InstAt s.heap x ox C od) (hs : findIn K (.ref C) "__bool__" = some (some (.ref f))) (hf : isFn K (.ref f) = true)
    (h : wpAny (model prog w) A.in1.in1 (call (.ref f) [.ref x]) (PySem.W.BoolBack fun b s' => Q (.bool b) s') E s) : wpAny (model prog w) A (call (.type "bool") [.ref x]) Q E s :=
  callType_newIn F.called_bool F.newNe_bool (F.typeCall_bool_1 _) (F.newCall_bool_1 _) (fun obj => F.args_object_init_2 obj _) F.entry_bool_new (meets_bool_own x)
    (wpAny_mono (truthy_K F0 X0 I hs hf h) (fun b s' q => ⟨rfl, q⟩) fun _ _ e => e)
end
section
variable {X : Cx} {σ : L2.St} {H : Hp} {Q : VK} {C f a dx : Addr} {fs : List (Str × V)}
theorem wcb_boolO (ha : H a = some (.ins C dx fs)) (g : Sg X.K C "__bool__" f) (h : ∀ σ', WfA X X.A.in1.in1 (.ref f) [.ref a] σ' H fun v H' => ∃ b, v = .bl b ∧ Q (.bl b) H') : Wcb X (.type "bool") [.ref a] H Q := by
  refine ⟨fun vs H' Q' => vs = [.ref a] ∧ H' = H ∧ ∀ v H2, Q v H2 → Q' v H2, ?_, rfl, rfl, fun _ _ q => q⟩
  rintro pins s σ' H' vs us Q' I r ⟨rfl, rfl, k⟩
  obtain ⟨u, rfl, ru⟩ := vals1 r
  cases ru
  obtain ⟨od, J⟩ := inst_at I ha
  obtain ⟨m, hF⟩ := I.fr
  refine call_bool_own hF I.ok.mod.kin J g.hs g.hf (thn (h σ' pins s _ I r) fun v s' q => ?_)
  obtain ⟨z, H2, I2, rz, b, rfl, q⟩ := q
  cases rz
  exact ⟨.bl b, H2, I2, rfl, k _ _ q⟩
theorem wcb_boolB {b : Bool} (q : Q (.bl b) H) : Wcb X (.type "bool") [.bl b] H Q := ⟨_, call_bool1, .inr ⟨b, rfl, q⟩⟩
theorem wcb_str {n : Int} {k : Nat} (hb : Bd n k) (l : 0 < k ∧ k ≤ 1920) (q : Q (.str (toString n)) H) : Wcb X (.type "str") [.int n] H Q := ⟨_, call_str_int, n, rfl, Nat.lt_of_lt_of_le (bd_log hb l.1) l.2, q⟩
end
/-- a def that takes *args -/
structure OkS (P : Program) (w : World) (K : PySem.W.Frag) (mg : Str → Option Value) (base : Heap) (k : Nat) (f : Addr) (sp : Sp) : Prop where
  run : FnR P w K mg base (L2.CX P w) k f sp
  kp : PySem.W.keepIn K (.ref f) = true
section
variable {X : Cx} {σ : L2.St} {H : Hp} {Q : VK} {k : Nat} {f : Addr} {sp : Sp} {vs : List V}
theorem wf_s (O : OkS X.prog X.w X.K X.mg X.base k f sp) (hr : Room k X.A) (h : sp vs H Q (xk X σ)) : Wf X (.ref f) vs σ H Q := by
  intro pins s us I r
  refine wpAny_call (codeAny_mono (O.run X.A X.stack s H us vs Q (xk X σ) hr I.env0 r h) fun fl s2 z => ?_)
  match fl, z with
  | .error e, z => exact passAt (xw_takes X) σ pins _ _ e s2 I z
  | .ok (.ret u), z => exact I.after z
  | .ok .next, z => exact z.elim
  | .ok .brk, z => exact z.elim
  | .ok .cont, z => exact z.elim
end
section
variable {P : Program} {w : World} {K : PySem.W.Frag} {mg : Str → Option Value} {base : Heap}
theorem ok_star {x qual pv : Str} {params : Arguments} {body : List Stmt} {scope : Scope} {f : Addr} {fd : FuncData} {N G ps : List Str} {k : Nat} {sp : Sp}
    (F : FunD K x qual params body scope [] [] f fd) (S : FnScope N (ps ++ [pv]) scope) (T : Names0 N G scope)
    (bnd : ∀ (kV doc pm : Value) (an : Option Addr) (cdv ct : Value) (us rest : List Value), us.length = ps.length → bindArgs (PySem.W.fnOf x qual params body scope .none kV doc pm an cdv ct) ⟨us ++ rest, []⟩ = (newTuple rest >>= fun t => pure (ps.zip us ++ [(pv, t)])))
    (hb : ∀ (X : Cx), X.prog = P → X.w = w → X.K = K → X.mg = mg → X.base = base → X.env.scope = scope → Names1 X N G → Env1 X → Room k X.A → ∀ (vs : List V) (H : Hp) (Q : VK) (E : XK),
      (∀ cls d σ H', E cls d H' → XW X cls d σ H') → sp vs H Q E → Wb X body { nx := fun _ H' => Q .non H', rt := Q } (start N vs) H) :
    OkS P w K mg base (k + 1) f (fun vs H Q E => ∃ ws rest, vs = ws ++ rest ∧ ws.length = ps.length ∧ rest.length ≤ sizeLine ∧ ∀ p, H p = none → sp (ws ++ [V.ref p]) (upd H p (.tup rest)) Q E) := by
  refine ⟨?_, F.kp⟩
  obtain ⟨oc, od, dV, kV, doc, pm, an, cdv, ct, osl, rfl, lk, hcd, hD, hK⟩ := F.ex
  rcases hD with ⟨_, rfl⟩ | ⟨e, _⟩
  · refine StX.fn_star lk hcd S StX.cxUp (fun us rest l => bnd _ _ _ _ _ _ us rest l) fun A outer s H vs Q E hr h => ?_
    refine ⟨_, Wb.pss, hb (cxOf (L2.CX P w) P w K mg base N qual scope f cdv A outer s H E) rfl rfl rfl rfl rfl rfl ⟨rfl, T.nd, T.vis, T.dbg, fun _ => rfl, T.glb⟩ ⟨rfl, rfl, rfl, passes_of rfl⟩ hr vs H Q E (fun cls d σ H' q => ?_) h⟩
    exact xw_of (takes_of (E := E) rfl rfl rfl rfl) q
  · exact absurd rfl e
end
end Ni

/-! WX: items, lengths, walks and in-place signs of instances of one's own classes. -/
namespace Ni
open PySem PySem.Spec PyProof.Rows L2
/-- no slice stands there -/
def noSliceE : Expr → Bool
  | .Slice _ _ _ _ => false
  | _ => true
theorem sub_true {e : Expr} (h : noSliceE e = true) (o i : Value) : subscripted e true o i = runValue (.builtin "lifetime.subscript" ⟨[o, i], []⟩) := by
  cases e <;> first | rfl | (with_unfolding_all rfl) | cases h
theorem sub_false {e : Expr} (h : noSliceE e = true) (o i : Value) : subscripted e false o i = operate [o, i] (getItem o i) := by
  cases e <;> first | rfl | (with_unfolding_all rfl) | cases h
/-- x[y], y no slice -/
def Ixn (X : Cx) (x y : V) (σ : L2.St) (H : Hp) (Q : VK) : Prop := ∀ value slice, noSliceE slice = true → ∀ pins s v u, Inv X pins σ H s → RelV x v → RelV y u → wpAny (model X.prog X.w) X.A (subscriptTail value slice v u) (EP X pins σ Q) X.xe s
section
variable {X : Cx} {σ : L2.St} {H : Hp} {Q Q' : VK} {a b o i e : Expr} {pos pos' : Pos} {p f C dx : Addr} {fs : List (Str × V)} {x y v : V}
theorem Ixn.imp (k : ∀ v H', Q v H' → Q' v H') (h : Ixn X x y σ H Q) : Ixn X x y σ H Q' := fun value slice hs pins s v u I rx ry => thn (h value slice hs pins s v u I rx ry) fun _ _ q => EP.imp k q
theorem Ixn.of (h : Ix X x y H Q) : Ixn X x y σ H Q := fun value slice hs pins s v u I rx ry => Ix.ok X value slice pins s σ H x y v u Q I rx ry h (sub_false hs _ _)
theorem we_ixn (hs : noSliceE b = true) (h : We X a σ H fun x H1 => We X b σ H1 fun y H2 => Ixn X x y σ H2 Q) : We X (.Subscript a b pos) σ H Q := fun pins s I =>
  Subscript_ (binT We.pe We.pe I h fun v u s2 x y H2 I2 rx ry q => q a b hs pins s2 v u I2 rx ry)
theorem ixn_own (ha : H p = some (.ins C dx fs)) (hs : PySem.W.findIn X.K (.ref C) "__getitem__" = some (some (.ref f))) (hf : PySem.W.isFn X.K (.ref f) = true) (hn : PySem.W.fnIn X.K f = true) (h : WfA X X.A.in1 (.ref f) [.ref p, y] σ H Q) : Ixn X (.ref p) y σ H Q := by
  intro value slice hsl pins s v u I rx ry
  cases rx
  obtain ⟨od, J⟩ := inst_at I ha
  obtain ⟨m, hF⟩ := I.fr
  exact PySem.W.sub_K hF I.ok.mod.kin J hs hn hf (h pins s [.ref p, u] I (.cons rfl (.cons ry .nil))) (sub_true hsl _ _)
/-- o[i] = v, at the slots -/
theorem wg_subS {QG : L2.St → Hp → Prop} (ha : ∀ v, assign (.Subscript o i pos) X.env v = (do
      let ov ← holding [v] (eval o X.env)
      let iv ← holding [v, ov] (eval i X.env)
      standAt pos
      holding [v, ov, iv] (setItem ov iv v)
      release [v, ov, iv] []))
    (h : We X o σ H fun x H1 => We X i σ H1 fun y H2 => Wset X x y v σ H2 fun H3 => QG σ H3) : Wg X (.Subscript o i pos) v σ H QG := by
  intro pins s u I r
  rw [ha]
  refine wpAny_bind (wpAny_holding (thn (h pins s I) fun ov s1 ⟨x, H1, I1, r1, q1⟩ => ?_))
  refine wpAny_bind (wpAny_holding (thn (q1 pins s1 I1) fun iv s2 ⟨y, H2, I2, r2, q2⟩ => ?_))
  refine wpAny_bind (wpAny_standAt (wpAny_bind (wpAny_holding (thn (q2 pins s2 ov iv u I2 r1 r2 r) fun _ s3 ⟨H3, I3, q3⟩ => ?_))))
  exact wpAny_release ⟨σ, H3, I3, q3⟩
theorem wset_own {Q : Hp → Prop} (ha : H p = some (.ins C dx fs)) (hq : PySem.W.noSeq X.K C = true) (hs : PySem.W.findIn X.K (.ref C) "__setitem__" = some (some (.ref f))) (hf : PySem.W.isFn X.K (.ref f) = true) (h : WfA X X.A (.ref f) [.ref p, y, v] σ H fun _ H' => Q H') : Wset X (.ref p) y v σ H Q := by
  intro pins s ov iv u I r1 r2 r3
  cases r1
  obtain ⟨od, J⟩ := inst_at I ha
  obtain ⟨m, hF⟩ := I.fr
  refine PySem.W.ksp_setItem hF I.ok.mod.kin J hq hs hf (thn (h pins s [.ref p, iv, u] I (.cons rfl (.cons r2 (.cons r3 .nil)))) fun _ s2 q => ?_)
  obtain ⟨z, H2, I2, _, q⟩ := q
  exact ⟨H2, I2, q⟩
theorem wu_negO (ha : H p = some (.ins C dx fs)) (hs : PySem.W.findIn X.K (.ref C) "__neg__" = some (some (.ref f))) (hf : PySem.W.isFn X.K (.ref f) = true) (h : Wf X (.ref f) [.ref p] σ H Q) : Wu X (unaryOp .USub) (.ref p) σ H Q := by
  intro pins s v I rx
  cases rx
  obtain ⟨od, J⟩ := inst_at I ha
  obtain ⟨m, hF⟩ := I.fr
  exact PySem.W.ksp_neg hF I.ok.mod.kin J hs hf (h pins s [.ref p] I (.cons rfl .nil))
theorem wi_own {op : Operator} (ha : H p = some (.ins C dx fs)) (hc : PySem.W.selfFirst X.K C = true) (hs : PySem.W.findIn X.K (.ref C) (dunderI op.info.2) = some (some (.ref f))) (hf : PySem.W.isFn X.K (.ref f) = true) (h : Wf X (.ref f) [.ref p, y] σ H Q) : Wo X (inplaceOp op) (.ref p) y σ H Q := by
  intro pins s v u I rx ry
  cases rx
  obtain ⟨od, J⟩ := inst_at I ha
  obtain ⟨m, hF⟩ := I.fr
  exact PySem.W.ksp_inplace hF I.ok.mod.kin J hc hs hf (thn (h pins s [.ref p, u] I (.cons rfl (.cons ry .nil))) fun _ _ q => told_of q)
end
end Ni

/-! WY: lengths of, and walks over, instances of one's own classes. -/
namespace Ni
open PySem PySem.Spec PyProof.Rows L2 ItX
section
variable {prog : Program} {w : World} {A : Around} {E : Value → Shared → Prop} {s : Shared} {K : PySem.W.Frag} {x C f : Addr} {ox : Obj} {od : Option Obj}
theorem len_own {Q : Value → Shared → Prop} (X : K.In s.heap) (I : PySem.W.InstAt s.heap x ox C od) (hs : PySem.W.findIn K (.ref C) "__len__" = some (some (.ref f))) (hf : PySem.W.isFn K (.ref f) = true)
    (h : wpAny (model prog w) A (call (.ref f) [.ref x]) (fun r s' => ∃ (n : Nat) (t : Tok), r = .int n t ∧ n ≤ sizeLine ∧ ∀ t tk, Q (.int n t) { s' with toks := tk }) E s) :
    wpAny (model prog w) A (PySem.Builtin.«len» ⟨[.ref x], []⟩) (fun fin s' => ∃ r, fin = .done (.ret r) ∧ Q r s') E s := by
  unfold PySem.Builtin.«len»
  refine wpAny_bind (m := oneArg "len" _) (wpAny_pure ?_)
  refine wpAny_bind (m := callSpecial? (.ref x) (Str.ofString "__len__")) (PySem.W.special_fn X I hs (beq_iff_eq.mp hf) (wpAny_mono h (fun r s' z => ?_) fun _ _ z => z))
  obtain ⟨n, t, rfl, hz, q⟩ := z
  rw [sizeLine_eq] at hz
  refine wpAny_bind (wpAny_holding (wpAny_pure ?_))
  refine wpAny_bind (wpAny_letGo ?_)
  show wpAny _ _ (if ((n : Nat) : Int) < 0 then _ else _) _ _ _
  rw [if_neg (by omega)]
  show wpAny _ _ (if ((n : Nat) : Int) ≥ 2 ^ 63 then _ else _) _ _ _
  rw [if_neg (by omega)]
  exact wpAny_bind (wpAny_mkInt (wpAny_pure ⟨_, rfl, q _ _⟩))
end
section
variable {X : Cx} {σ : L2.St} {H : Hp} {Q : VK} {C f a dx : Addr} {fs : List (Str × V)}
theorem wcb_lenO (ha : H a = some (.ins C dx fs)) (hs : PySem.W.findIn X.K (.ref C) "__len__" = some (some (.ref f))) (hf : PySem.W.isFn X.K (.ref f) = true) (h : ∀ σ', WfA X X.A.in1 (.ref f) [.ref a] σ' H fun v H' => ∃ n : Nat, v = .int n ∧ n ≤ sizeLine ∧ Q (.int n) H') : Wcb X (.builtin "len") [.ref a] H Q := by
  refine ⟨fun vs H' Q' => vs = [.ref a] ∧ H' = H ∧ ∀ v H2, Q v H2 → Q' v H2, ?_, rfl, rfl, fun _ _ q => q⟩
  rintro pins s σ' H' vs us Q' I r ⟨rfl, rfl, k⟩
  obtain ⟨u, rfl, ru⟩ := vals1 r
  cases ru
  obtain ⟨od, J⟩ := inst_at I ha
  refine PySem.Calls.call_function_entry kind_len plain_len entry_len (args_len1 _) ?_
  refine wpAny_mono (len_own (Q := fun r s' => EP X pins σ' Q' r s') I.kIn J hs hf (thn (h σ' pins s _ I r) fun v s' q => ?_)) (fun fin s' h' => h') fun _ _ e => e
  obtain ⟨z, H2, I2, rz, n, rfl, hn, q⟩ := q
  obtain ⟨t, rfl⟩ := rz
  exact ⟨n, t, rfl, hn, fun t tk => ⟨.int n, H2, I2.kept (t' := tk) fun _ _ z => z, ⟨t, rfl⟩, k _ _ q⟩⟩
end
/-! ### a base that reaches farther -/
def padH (h : Heap) (n : Nat) : Heap := ⟨h.objs ++ Array.replicate (n - h.objs.size) { (default : Obj) with data := .freed }, h.life⟩
theorem pad_size {h : Heap} {n : Nat} (l : h.objs.size ≤ n) : (padH h n).objs.size = n := by
  unfold padH
  simp
  omega
theorem get_eq {h k : Heap} {a : Addr} (e : h.objs[a]? = k.objs[a]?) : h.get? a = k.get? a := by
  unfold Heap.get?
  rw [e]
theorem get_non {h : Heap} {a : Addr} (e : h.objs[a]? = none) : h.get? a = none := by
  unfold Heap.get?
  rw [e]
theorem get_frd {h : Heap} {a : Addr} {c : Value} {d : Option Addr} {sl : _} (e : h.objs[a]? = some ⟨c, d, .freed, sl⟩) : h.get? a = none := by
  unfold Heap.get?
  rw [e]
theorem pad_get {h : Heap} {n : Nat} (a : Addr) : (padH h n).get? a = h.get? a := by
  by_cases l : a < h.objs.size
  · exact get_eq (Array.getElem?_append_left l)
  · have l := Nat.le_of_not_lt l
    rw [get_non (h := h) (Array.getElem?_eq_none l)]
    have e1 : (padH h n).objs[a]? = (Array.replicate (n - h.objs.size) ({ (default : Obj) with data := .freed } : Obj))[a - h.objs.size]? := Array.getElem?_append_right l
    by_cases l2 : a - h.objs.size < n - h.objs.size
    · rw [Array.getElem?_replicate, if_pos l2] at e1
      exact get_frd e1
    · rw [Array.getElem?_replicate, if_neg l2] at e1
      exact get_non e1
section
variable {X : Cx} {σ : L2.St} {H : Hp} {Q : VK} {k : Nat} {f : Addr}
theorem Mod.pad {K : PySem.W.Frag} {mg : Str → Option Value} {base : Heap} (m : Mod K mg base) (n : Nat) : Mod K mg (padH base n) := by
  have k : ∀ b o, base.get? b = some o → (padH base n).get? b = some o := fun b o e => by rw [pad_get]; exact e
  obtain ⟨mb, b1, b2⟩ := m.blt
  obtain ⟨mc, c1, c2⟩ := m.nolimit
  exact ⟨m.kin.keeps k, m.glob.keeps k, ⟨mb, b1.keeps k, b2⟩, ⟨mc, c1.keeps k, c2⟩⟩
theorem FunFrames.pad {h base : Heap} {n : Nat} : ∀ {l : List Env}, h.FunFrames base l → h.FunFrames (padH base n) l
  | [], _ => trivial
  | env :: r, z => by
    obtain ⟨hk, ⟨L, o, hf, hn, ho, hd⟩, hr⟩ := z
    exact ⟨hk, ⟨L, o, hf, by rw [pad_get]; exact hn, ho, hd⟩, FunFrames.pad hr⟩
/-- a call, told how young what it makes is -/
theorem wfN_ok {A : Around} {ps : List Str} {dvs vs : List V} {sp : Nat → Sp} (O : ∀ base, OkD X.prog X.w X.K X.mg base k f ps dvs (sp base.objs.size)) (hr : Room k A) (hA : A.frames = X.A.frames) (h : sp X.s_0.heap.objs.size (vs ++ dvs) H Q (xk X σ)) : WfA X A (.ref f) vs σ H Q := by
  intro pins s us I r
  have sz : (padH X.base X.s_0.heap.objs.size).objs.size = X.s_0.heap.objs.size := pad_size I.ok.bsz
  have O1 := O (padH X.base X.s_0.heap.objs.size)
  rw [sz] at O1
  obtain ⟨fd, ds, F, hd, hb⟩ := O1.ex
  have r2 : Vals (vs ++ dvs) (us ++ ds) := r.append hd
  have len := r2.length.symm.trans (F.len _ _ _ _ h)
  have e0 : Env0 X.prog X.w X.K X.mg (padH X.base X.s_0.heap.objs.size) A X.stack s H := by
    have e := I.env0
    exact ⟨hA.trans e.frames, Ni.Mod.pad e.mod _, fun b o z => e.bs b o (by rw [pad_get] at z; exact z), by rw [sz]; exact I.sz, FunFrames.pad e.funs, e.frf, e.hok, e.bare⟩
  refine wpAny_call (codeAny_mono (F.run A X.stack s H ⟨us, []⟩ (us ++ ds) (vs ++ dvs) Q (xk X σ) hr e0 (hb s us I.kIn len) r2 h) fun fl s2 z => ?_)
  match fl, z with
  | .error e, z => exact passAt (xw_takes X) σ pins _ _ e s2 I z
  | .ok (.ret u), z => exact I.after z
  | .ok .next, z => exact z.elim
  | .ok .brk, z => exact z.elim
  | .ok .cont, z => exact z.elim
/-- iter(l), told how young it is -/
theorem call_iterB : CallR X (.builtin "iter") (rIterN X.K X.base.objs.size) := by
  intro pins s σ H xs us Q I r h
  obtain ⟨l, zs, rfl, hq, q⟩ := h
  exact call_iterN pins s σ H [.ref l] us Q I r ⟨l, zs, rfl, hq, fun it h1 h2 => q it h1 (Nat.le_trans I.ok.bsz h2)⟩
/-- what __iter__ of a class gives: a list's iterator -/
def spIter (l : V → Hp → Addr → Prop) (n : Nat) : Sp := fun vs H Q _ => ∃ (x : V) (a : Addr), vs = [x] ∧ l x H a ∧ ∀ it, H it = none → n ≤ it → Q (.ref it) (upd H it (ItO a it 0))
theorem iter_next {M : Model} {A : Around} {E : Value → Shared → Prop} {s : Shared} {l it : Addr} {i : Nat} {Q : Value → Shared → Prop} (h : s.heap.IsListIter it l i) (q : Q (.ref it) s) : PySem.W.OwitIt M A Q E (.ref it) s := by
  unfold PySem.W.OwitIt
  exact wpAny_specialOf h.typeIs slot_listiter_next.lookup q
/-- for .. in an instance -/
def iOwn (X : Cx) (te : TE) : TI := fun σ H R => te σ H fun v H1 => ∃ (p C dx f k : Addr) (fs : List (Str × V)) (ps : List Str) (l : V → Hp → Addr → Prop) (a : Addr), v = .ref p ∧ H1 p = some (.ins C dx fs) ∧ PySem.W.findIn X.K (.ref C) "__iter__" = some (some (.ref f)) ∧ PySem.W.isFn X.K (.ref f) = true ∧
  (∀ base, OkD X.prog X.w X.K X.mg base k f ps [] (spIter l base.objs.size)) ∧ Room k X.A ∧ l v H1 a ∧ R (Itl X.K a) H1
theorem pi_own {tg e : Expr} {te : TE} (he : PE X e te) : PI X tg e (iOwn X te) := by
  refine ⟨fun pins s σ H R I h => ?_⟩
  refine thn (he.run pins s σ H _ I h) fun u s1 ⟨v, H1, I1, r1, p, C, dx, f, k, fs, ps, l, a, ev, ha, hs, hf, O, hr, hl, q⟩ => ?_
  subst ev
  cases r1
  obtain ⟨od, J⟩ := inst_at I1 ha
  obtain ⟨m, hF⟩ := I1.fr
  have run := wfN_ok (σ := σ) (vs := [.ref p]) (Q := fun v2 H2 => ∃ it, v2 = .ref it ∧ H1 it = none ∧ X.s_0.heap.objs.size ≤ it ∧ H2 = upd H1 it (ItO a it 0)) (fun base => O base) hr rfl ⟨.ref p, a, rfl, hl, fun it h1 h2 => ⟨it, rfl, h1, h2, rfl⟩⟩
  refine PySem.W.owit_iter hF I1.ok.mod.kin J hs hf (thn (run pins s1 [.ref p] I1 (.cons rfl .nil)) fun v s2 z => ?_)
  obtain ⟨x, H2, I2, rx, it, rfl, h1, h2, rfl⟩ := z
  cases rx
  have hi : upd H1 it (ItO a it 0) it = some (ItO a it 0) := upd_same
  have eo := itO_get I2 hi
  have st : s2.heap.IsListIter it a 0 := ⟨_, eo, rfl, rfl⟩
  refine iter_next st ?_
  have hd : dropH (upd H1 it (ItO a it 0)) it = H1 := dropH_upd h1
  have hi' := hi
  unfold ItO at hi'
  have I3 := inv_drop I2 hi'
  have fp := inv_fp I2 hi h2
  rw [hd] at I3
  rw [hd] at fp
  exact ⟨it, [it], _, _, H1, rfl, I3, turn_list a it, st, fun b hb => by
    have e : b = it := by simpa using hb
    rw [e]; exact fp, q⟩
end
end Ni

/-! WZ: signs between instances of two classes; a method that gives up; == of lists of instances. -/
namespace Ni
open PySem PySem.Spec PyProof.Rows PySem.W
section
variable {prog : Program} {w : World} {A : Around} {E : Value → Shared → Prop} {s : Shared} {K : Frag} {x y C D L f g : Addr} {h0 : Heap} {m : Str → Option Value} {ox oy : Obj} {od od2 : Option Obj}
/-- what is known of two classes and a sign between their instances -/
structure Two (K : Frag) (C D : Addr) (op : Operator) (f g : Addr) : Prop where
  c1 : selfFirst K C = true
  c2 : selfFirst K D = true
  hs : findIn K (.ref C) (PySem.dunder op.info.2) = some (some (.ref f))
  hf : isFn K (.ref f) = true
  hr : ∃ rc, findIn K (.ref C) (dunderR op.info.2) = some rc ∧ (rc = none ∨ ∃ a : Addr, rc = some (.ref a))
  ds : ∃ df, findIn K (.ref D) (PySem.dunder op.info.2) = some (some (.ref df)) ∧ isFn K (.ref df) = true
  dr : ∃ rc, findIn K (.ref D) (dunderR op.info.2) = some rc ∧ (rc = none ∨ ∃ a : Addr, rc = some (.ref a))
  ne : C ≠ D
  sub : subIn K (.ref D) (.ref C) = some false
theorem bin_pre {op : Operator} {Q : Value → Shared → Prop} (F : Fr h0 L s.heap m) (X0 : K.In h0) (I : InstAt s.heap x ox C od) (J : InstAt s.heap y oy D od2) (T : Two K C D op f g)
    (h : wpAny (model prog w) A (tryMethod (.ref x) (PySem.dunder op.info.2) (.ref y)) (fun r s' => match r with
      | some v => Q v s'
      | none => K.In s'.heap ∧ (∃ ox od, InstAt s'.heap x ox C od) ∧ (∃ oy od2, InstAt s'.heap y oy D od2) ∧ wpAny (model prog w) A (tryMethod (.ref y) (dunderR op.info.2) (.ref x)) (fun r s' => ∃ v, r = some v ∧ Q v s') E s') E s) : wpAny (model prog w) A (binaryOp op (.ref x) (.ref y)) Q E s := by
  have X := X0.keeps F.keep
  obtain ⟨cd, rest, hcd, hm⟩ := ksp_first T.c1
  obtain ⟨cd2, rest2, hcd2, hm2⟩ := ksp_first T.c2
  obtain ⟨hs, hf, ⟨rc, hr, hp⟩, ⟨df, ds, dff⟩, ⟨rd, dr, dp⟩, ne, hsub⟩ := id (⟨T.hs, T.hf, T.hr, T.ds, T.dr, T.ne, T.sub⟩ : _ ∧ _ ∧ _ ∧ _ ∧ _ ∧ _ ∧ _)
  rcases hi : op.info with ⟨sym, nm⟩
  rw [hi] at hs hr ds dr h
  dsimp only at hs hr ds dr h
  have hne : (Value.ref C == Value.ref D) = false := Bool.eq_false_iff.mpr fun q => ne (by have := eq_of_beq q; injection this)
  have L6 : Looks (model prog w) s.heap (numberSlotInPython (.ref C) nm) true := ksp_inPy X hs hr hp
  have L7 : Looks (model prog w) s.heap (numberSlotInPython (.ref D) nm) true := ksp_inPy X ds dr dp
  simp only [binaryOp, hi]
  refine wpAny_holding (wpAny_bind ?_)
  unfold binaryOp1
  refine wpAny_bind (I.type.here (wpAny_bind (J.type.here ?_)))
  simp only [hne, Bool.false_eq_true, if_false]
  refine wpAny_bind ((fills_K X hcd hm hs).here ?_)
  refine wpAny_bind ((fills_K X hcd2 hm2 ds).here ?_)
  simp only [Bool.and_self, if_true]
  refine wpAny_bind ((looks_subIn X hsub).here ?_)
  simp only [Bool.false_eq_true, if_false, pure_bind, Bool.not_false, Bool.and_self, if_true]
  refine wpAny_bind (L6.here ?_)
  simp only [if_true]
  refine wpAny_bind (L7.here ?_)
  simp only [Bool.not_true, Bool.false_eq_true, if_false, pure_bind]
  refine wpAny_bind (wpAny_mono h (fun r s' z => ?_) fun _ _ e => e)
  cases r with
  | some v => exact wpAny_pure (wpAny_pure z)
  | none =>
    obtain ⟨X', ⟨_, _, I'⟩, ⟨_, _, J'⟩, z⟩ := z
    dsimp only
    refine wpAny_bind (I'.type.here (wpAny_bind (J'.type.here ?_)))
    simp only [hne, Bool.false_eq_true, if_false, pure_bind]
    refine wpAny_bind (wpAny_mono z (fun r s' z => ?_) fun _ _ e => e)
    obtain ⟨v, rfl, q⟩ := z
    exact wpAny_bind (wpAny_rule (wpAny_pure (wpAny_pure q)))
/-- the left one's method gives an answer -/
theorem bin_clsA {op : Operator} {Q : Value → Shared → Prop} (F : Fr h0 L s.heap m) (X0 : K.In h0) (I : InstAt s.heap x ox C od) (J : InstAt s.heap y oy D od2) (T : Two K C D op f g)
    (h : wpAny (model prog w) A (call (.ref f) [.ref x, .ref y]) (PySem.W.CmpBack Q) E s) : wpAny (model prog w) A (binaryOp op (.ref x) (.ref y)) Q E s := by
  refine bin_pre F X0 I J T (wpAny_mono (ksp_try (X0.keeps F.keep) I T.hs T.hf h) (fun r s' z => ?_) fun _ _ e => e)
  obtain ⟨v, rfl, q⟩ := z
  exact q
/-- .. gives up, the right one's reflected method answers -/
theorem bin_clsB {op : Operator} {Q : Value → Shared → Prop} (F : Fr h0 L s.heap m) (X0 : K.In h0) (I : InstAt s.heap x ox C od) (J : InstAt s.heap y oy D od2) (T : Two K C D op f g) (hg : findIn K (.ref D) (dunderR op.info.2) = some (some (.ref g))) (hgf : isFn K (.ref g) = true)
    (h : wpAny (model prog w) A (call (.ref f) [.ref x, .ref y]) (fun v s' => v = .notImplemented ∧ K.In s'.heap ∧ (∃ ox od, InstAt s'.heap x ox C od) ∧ (∃ oy od2, InstAt s'.heap y oy D od2) ∧ wpAny (model prog w) A (call (.ref g) [.ref y, .ref x]) (PySem.W.CmpBack Q) E s') E s) : wpAny (model prog w) A (binaryOp op (.ref x) (.ref y)) Q E s := by
  refine bin_pre F X0 I J T ?_
  unfold tryMethod
  refine wpAny_bind (special_fn (X0.keeps F.keep) I T.hs (beq_iff_eq.mp T.hf) (wpAny_mono h (fun v s' z => ?_) fun _ _ e => e))
  obtain ⟨rfl, X', I', J', z⟩ := z
  refine wpAny_pure ⟨X', I', J', ?_⟩
  obtain ⟨_, _, J'⟩ := J'
  exact ksp_try X' J' hg hgf z
end
end Ni

namespace Ni
open PySem PySem.Spec PyProof.Rows L2
section
variable {X : Cx} {σ : L2.St} {H : Hp} {Q : VK} {op : Operator} {C D f g a b dx dy : Addr} {fs gs : List (Str × V)}
/-- a call that gives NotImplemented -/
def Wni (X : Cx) (f : Value) (vs : List V) (σ : L2.St) (H : Hp) (P : Hp → Prop) : Prop := ∀ pins s us, Inv X pins σ H s → Vals vs us → wpAny (model X.prog X.w) X.A (call f us) (fun v s' => v = .notImplemented ∧ ∃ H', Inv X pins σ H' s' ∧ P H') X.xe s
theorem wo_cls (ha : H a = some (.ins C dx fs)) (hb : H b = some (.ins D dy gs)) (T : Two X.K C D op f g) (h : Wf X (.ref f) [.ref a, .ref b] σ H Q) : Wo X (binaryOp op) (.ref a) (.ref b) σ H Q := by
  intro pins s v u I rx ry
  cases rx
  cases ry
  obtain ⟨od, J⟩ := inst_at I ha
  obtain ⟨od2, J2⟩ := inst_at I hb
  obtain ⟨m, hF⟩ := I.fr
  refine bin_clsA hF I.ok.mod.kin J J2 T ?_
  exact thn (h pins s [.ref a, .ref b] I (.cons rfl (.cons rfl .nil))) fun _ _ q => told_of q
theorem wo_refl (ha : H a = some (.ins C dx fs)) (hb : H b = some (.ins D dy gs)) (T : Two X.K C D op f g) (hg : PySem.W.findIn X.K (.ref D) (dunderR op.info.2) = some (some (.ref g))) (hgf : PySem.W.isFn X.K (.ref g) = true)
    (h : Wni X (.ref f) [.ref a, .ref b] σ H fun H' => H' a = some (.ins C dx fs) ∧ H' b = some (.ins D dy gs) ∧ Wf X (.ref g) [.ref b, .ref a] σ H' Q) : Wo X (binaryOp op) (.ref a) (.ref b) σ H Q := by
  intro pins s v u I rx ry
  cases rx
  cases ry
  obtain ⟨od, J⟩ := inst_at I ha
  obtain ⟨od2, J2⟩ := inst_at I hb
  obtain ⟨m, hF⟩ := I.fr
  refine bin_clsB hF I.ok.mod.kin J J2 T hg hgf (thn (h pins s [.ref a, .ref b] I (.cons rfl (.cons rfl .nil))) fun v s' z => ?_)
  obtain ⟨e, H', I', h1, h2, z⟩ := z
  obtain ⟨od', J'⟩ := inst_at I' h1
  obtain ⟨od2', J2'⟩ := inst_at I' h2
  exact ⟨e, I'.kIn, ⟨_, _, J'⟩, ⟨_, _, J2'⟩, thn (z pins s' [.ref b, .ref a] I' (.cons rfl (.cons rfl .nil))) fun _ _ q => told_of q⟩
end
/-! ### a def that gives up -/
/-- the def at f gives NotImplemented where sp holds -/
def NiOk (P : Program) (w : World) (K : PySem.W.Frag) (mg : Str → Option Value) (base : Heap) (k : Nat) (f : Addr) (ps : List Str) (sp : List V → Hp → (Hp → Prop) → Prop) : Prop := ∀ (A : Around) (outer : List Env) (s : Shared) (H : Hp) (us : List Value) (vs : List V) (Q : Hp → Prop), Room k A → Env0 P w K mg base A outer s H → Vals vs us → sp vs H Q →
  codeAny (model P w) A (.call (.ref f) ⟨us, []⟩) (fun r s' => r = .ok (.ret .notImplemented) ∧ CE outer P w H s (fun v H' => Q H') .none s') s
section
variable {P : Program} {w : World} {K : PySem.W.Frag} {mg : Str → Option Value} {base : Heap}
theorem ni_of {x qual : Str} {params : Arguments} {body : List Stmt} {scope : Scope} {dvs : List V} {kws : List (Str × V)} {f : Addr} {fd : FuncData} {N ps : List Str} {k : Nat} {sp : List V → Hp → (Hp → Prop) → Prop} {t : Expr} {els rest : List Stmt} {rp np ip : Pos}
    (F : FunD K x qual params body scope dvs kws f fd) (S : FnScope N ps scope) (hB : Binds K fd ps []) (len : ∀ vs H Q, sp vs H Q → vs.length = ps.length) (hb : body = .If t [.Return (some (.Name "NotImplemented" np)) rp] els ip :: rest)
    (hg : scope.names.lookup ("NotImplemented" : Str) = some .globalImplicit) (hm : mg ("NotImplemented" : Str) = none)
    (h : ∀ (X : Cx), X.prog = P → X.w = w → X.K = K → X.mg = mg → X.base = base → X.env.scope = scope → X.N = N → (∀ y, X.fn y = true) → Env1 X → Room k X.A → ∀ (vs : List V) (H : Hp) (Q : Hp → Prop), sp vs H Q → Wt X t (L2.start N vs) H fun b H' => b = true ∧ Q H') :
    NiOk P w K mg base (k + 1) f ps sp := by
  intro A outer s H us vs Q hr e0 r hsp
  obtain ⟨oc, od, dV, kV, doc, pm, an, cdv, ct, osl, rfl, lk, hcd, _, _⟩ := F.ex
  have hl := len _ _ _ hsp
  have KX : K.In s.heap := e0.mod.kin.keeps fun b o e => (e0.bs b o e).1
  have lim : s.heap.NoLimit := e0.mod.nolimit.keeps fun b o e => (e0.bs b o e).1
  have hb' : BindsTo s (PySem.W.fnOf x qual params body scope dV kV doc pm an cdv ct) ⟨us, []⟩ (ps.zip us) := by
    have z := hB s us KX (by rw [List.append_nil, ← r.length]; exact hl)
    rw [List.append_nil] at z
    exact z
  have hkind : ∀ y ∈ ps.zip us, scope.names.lookup y.1 = some .local ∨ (scope.names.lookup y.1 = some .cell ∧ ((cellsFrom (s.heap.objs.size + 1) scope.names []).lookup y.1).isSome = true) := fun ⟨n, v⟩ hy => by
    rcases S.par n (List.of_mem_zip hy).1 with q | q
    · exact .inl q
    · exact .inr ⟨q, PySem.W.cellsFrom_some _ _ _ (.inl q)⟩
  refine codeAny_call_function hr.depth (KX _ _ lk) rfl S.co S.gen rfl (PySem.W.codeRec_of KX hcd) (hb' _ _ _ _ ?_)
  refine wpAny_newFunctionEnv_cells S.kind hkind fun env he s1 xx => ?_
  subst he
  refine ⟨lim.keeps xx.toInCall.keep, codeAny_func ?_⟩
  have I : Inv (cxOf (L2.CX P w) P w K mg base N qual scope f cdv A outer s H (fun _ _ _ => False)) [] (start N vs) H s1 := inv_start S hr.hd e0 hl r xx
  have run := h (cxOf (L2.CX P w) P w K mg base N qual scope f cdv A outer s H (fun _ _ _ => False)) rfl rfl rfl rfl rfl rfl rfl (fun _ => rfl) ⟨rfl, rfl, rfl, passes_of rfl⟩ (hr.deeper _) vs H Q hsp [] s1 I
  rw [hb]
  refine wpAny_mono (wpAny_execs_cons (Q := fun fl s' => fl = .ret .notImplemented ∧ CE outer P w H s (fun v H' => Q H') .none s') (wpAny_If (thn run fun b s2 z => ?_))) (fun fl s' hs => ?_) fun e s' hs => ?_
  · obtain ⟨H', I2, rfl, q⟩ := z
    refine wpAny_execs_cons (wpAny_Return_some (ld_blt I2 hg hm (u := .notImplemented) (by kernel_rfl) ?_))
    exact ⟨rfl, .non, H', I2.os, I2.bare, I2.base, I2.hok, rfl, q⟩
  · obtain ⟨rfl, q⟩ := hs
    exact ⟨rfl, q⟩
  · refine wpAny_mono hs (fun _ _ z => ?_) fun _ _ z => ?_
    · obtain ⟨_, _, _, _, _, _, _, _, _, _, _, _, z⟩ := z
      exact z.elim
    · obtain ⟨_, _, _, _, _, _, _, _, _, _, _, _, z⟩ := z
      exact z.elim
end
section
variable {X : Cx} {σ : L2.St} {H : Hp} {k : Nat} {f : Addr} {ps : List Str} {sp : List V → Hp → (Hp → Prop) → Prop} {vs : List V} {P : Hp → Prop}
theorem wni_ok (O : NiOk X.prog X.w X.K X.mg X.base k f ps sp) (hr : Room k X.A) (h : sp vs H P) : Wni X (.ref f) vs σ H P := by
  intro pins s us I r
  refine wpAny_call (codeAny_mono (O X.A X.stack s H us vs P hr I.env0 r h) fun r s' z => ?_)
  obtain ⟨rfl, z⟩ := z
  obtain ⟨v, H', I', _, q⟩ := I.after z
  exact ⟨rfl, H', I', q⟩
end
end Ni
namespace GQ
open PySem PySem.SeqAt
open AutoSeq1 (wpAny_loadPart')
open MeetsSeq MeetsSeq2 MeetsSeq3 SeqRoads2
section
variable {prog : Program} {w : World} {A : Around} {R : Result → Shared → Prop}
/-- at each turn the two lists are read anew: N items each, the i-th two are equal or not, as e says -/
def ListX (prog : Program) (w : World) (A : Around) (E : Value → Shared → Prop) (l b : Addr) (N : Nat) (e : Nat → Bool) (I : Shared → Prop) : Prop :=
  ∀ s, I s → ∃ (items items2 : Array Value) (n n2 : Nat), s.heap.get? l = some { cls := .type "list", data := .seq items n } ∧ s.heap.get? b = some { cls := .type "list", data := .seq items2 n2 } ∧ items.size = N ∧ items2.size = N ∧
    ∀ i (h1 : i < items.size) (h2 : i < items2.size), wpAny (model prog w) A.in1 (eqBool items[i] items2[i]) (fun r s' => r = e i ∧ I s') E s
theorem eq_loopX (l b : Addr) (N : Nat) (e : Nat → Bool) (I : Shared → Prop) (hl : ListX prog w A (fun e s' => R (.error e) s') l b N e I)
    (fin : ∀ s, I s → R (.ok (.ret (.bool ((List.range N).all e)))) s) (k : Nat) :
    ∀ i : Nat, N - i = k → i ≤ N → (∀ j, j < i → e j = true) → ∀ s, I s →
      wpAny (model prog w) A.in1 (Builtin.«list.__eq__.loop» ⟨[.ref l, .ref b, rawInt i, rawInt 2], []⟩) (FinOf prog w A R) (fun e s' => R (.error e) s') s := by
  induction k with
  | zero =>
    intro i hk hi hp s h
    obtain ⟨items, items2, n, n2, hl1, hb1, hs1, hs2, _⟩ := hl _ h
    have hi' : i = N := by omega
    have all : (List.range N).all e = true := List.all_eq_true.mpr fun j hj => hp j (by rw [hi']; exact List.mem_range.mp hj)
    have hR : R (.ok (.ret (.bool true))) s := by have := fin s h; rw [all] at this; exact this
    obtain ⟨hp, g, d, tk, os⟩ := s
    wp_walk using wpAny_loadPart' hl1, wpAny_loadPart' hb1
    have hi1 : items[((i : Nat) : Int).toNat]? = none := by simp; omega
    have hi2 : items2[((i : Nat) : Int).toNat]? = none := by simp; omega
    rw [hi1, hi2]
    wp_walk using wpAny_loadPart' hl1, wpAny_loadPart' hb1
    show R (.ok (.ret (.bool (items.size == items2.size)))) _
    rw [hs1, hs2]
    simpa using hR
  | succ k ih =>
    intro i hk hi hp s h
    obtain ⟨items, items2, n, n2, hl1, hb1, hs1, hs2, turn⟩ := hl _ h
    have hlt : i < items.size := by omega
    have hlt2 : i < items2.size := by omega
    have ht := turn i hlt hlt2
    obtain ⟨hp0, g, d, tk, os⟩ := s
    wp_walk using wpAny_loadPart' hl1, wpAny_loadPart' hb1
    have hi1 : items[((i : Nat) : Int).toNat]? = some items[i] := by simp [hlt]
    have hi2 : items2[((i : Nat) : Int).toNat]? = some items2[i] := by simp [hlt2]
    have hc : ((i : Int) + 1) = ((i + 1 : Nat) : Int) := by omega
    rw [hi1, hi2]
    refine wpAny_bind (wpAny_mono ht (fun r s2 h2 => ?_) fun _ _ x => x)
    obtain ⟨hr, h2⟩ := h2
    subst hr
    cases he : e i with
    | true =>
      have hrec := ih (i + 1) (by omega) (by omega) (fun j hj => by
        rcases Nat.lt_succ_iff_lt_or_eq.mp hj with z | z
        · exact hp j z
        · rw [z]; exact he) s2 h2
      obtain ⟨hp2, g2, d2, tk2, os2⟩ := s2
      wp_walk
      rw [hc]
      exact ⟨plainId_quiet plain_eq_loop _, codeAny_builtin entry_eq_loop (by
        rw [Around.under_plainId plain_eq_loop _]
        exact hrec)⟩
    | false =>
      have all : (List.range N).all e = false := by
        rw [List.all_eq_false]
        exact ⟨i, List.mem_range.mpr (by omega), by rw [he]; decide⟩
      have hR : R (.ok (.ret (.bool false))) s2 := by have := fin s2 h2; rw [all] at this; exact this
      obtain ⟨jt, jt2, m, m2, hl3, hb3, hs3, hs4, _⟩ := hl _ h2
      have hj1 : jt[((i : Nat) : Int).toNat]? = some (jt[i]'(by omega)) := by
        rw [Int.toNat_natCast]; exact Array.getElem?_eq_getElem (by omega)
      have hj2 : jt2[((i : Nat) : Int).toNat]? = some (jt2[i]'(by omega)) := by
        rw [Int.toNat_natCast]; exact Array.getElem?_eq_getElem (by omega)
      obtain ⟨hp2, g2, d2, tk2, os2⟩ := s2
      wp_walk using wpAny_loadPart' hl3, wpAny_loadPart' hb3
      rw [hj1, hj2]
      wp_walk
      exact hR
theorem list_eqX (l b : Addr) (N : Nat) (e : Nat → Bool) (I : Shared → Prop) (hl : ListX prog w A (fun e s' => R (.error e) s') l b N e I)
    (fin : ∀ s, I s → R (.ok (.ret (.bool ((List.range N).all e)))) s) {s : Shared} (h : I s) :
    wpAny (model prog w) A.in1 (Builtin.«list.__eq__» ⟨[.ref l, .ref b], []⟩) (FinOf prog w A R) (fun e s' => R (.error e) s') s := by
  obtain ⟨items, items2, n, n2, hl1, hb1, hs1, hs2, _⟩ := hl _ h
  have hrec := eq_loopX (A := A) (R := R) l b N e I hl fin _ 0 rfl (Nat.zero_le _) nofun s h
  obtain ⟨hp, g, d, tk, os⟩ := s
  have f3 := AutoSeq1.sub_list_list
  have hne : ¬ (items.size != items2.size) = true := by simp [hs1, hs2]
  wp_walk using wpAny_loadPart' hl1, wpAny_loadPart' hb1
  exact ⟨plainId_quiet plain_eq_loop _, codeAny_builtin entry_eq_loop (by
    rw [Around.under_plainId plain_eq_loop _]
    exact hrec)⟩
theorem list_eqNe (l b : Addr) {items items2 : Array Value} {n n2 : Nat} {s : Shared} (hl1 : s.heap.get? l = some { cls := .type "list", data := .seq items n }) (hb1 : s.heap.get? b = some { cls := .type "list", data := .seq items2 n2 }) (hs : items.size ≠ items2.size)
    (fin : R (.ok (.ret (.bool false))) s) :
    wpAny (model prog w) A.in1 (Builtin.«list.__eq__» ⟨[.ref l, .ref b], []⟩) (FinOf prog w A R) (fun e s' => R (.error e) s') s := by
  obtain ⟨hp, g, d, tk, os⟩ := s
  have f3 := AutoSeq1.sub_list_list
  have hne : (items.size != items2.size) = true := by simpa using hs
  wp_walk using wpAny_loadPart' hl1, wpAny_loadPart' hb1
  exact fin
end
section
variable {prog : Program} {w : World} {A : Around} {E : Value → Shared → Prop} {s : Shared}
theorem rc_listX {l b : Addr} {N : Nat} {e : Nat → Bool} {Q : Value → Shared → Prop} (hu : A.units < cLine) (I : Shared → Prop) (hl : ListX prog w A E l b N e I)
    (fin : ∀ s, I s → Q (.bool ((List.range N).all e)) s) (h : I s) : wpAny (model prog w) A (richCompare .Eq (.ref l) (.ref b)) Q E s := by
  obtain ⟨items, items2, n, n2, hl1, hb1, _, _, _⟩ := hl _ h
  refine wpAny_richCompare_same_room (op := .Eq) ⟨_, hl1, rfl⟩ ⟨_, hb1, rfl⟩ F.slot_list_eq (call_here F.slot_list_eq ⟨_, hl1, rfl⟩ F.entry_list_eq (F.args_list_eq_2 _ _) ?_) hu
  exact list_eqX (R := wants (fun v s' => v ≠ .notImplemented ∧ Q v s') E) l b N e I hl (fun s' q => ⟨(fun x => nomatch x), fin s' q⟩) h
theorem rc_listNe {l b : Addr} {items items2 : Array Value} {n n2 : Nat} {Q : Value → Shared → Prop} (hu : A.units < cLine) (hl1 : s.heap.get? l = some { cls := .type "list", data := .seq items n }) (hb1 : s.heap.get? b = some { cls := .type "list", data := .seq items2 n2 }) (hs : items.size ≠ items2.size)
    (fin : Q (.bool false) s) : wpAny (model prog w) A (richCompare .Eq (.ref l) (.ref b)) Q E s := by
  refine wpAny_richCompare_same_room (op := .Eq) ⟨_, hl1, rfl⟩ ⟨_, hb1, rfl⟩ F.slot_list_eq (call_here F.slot_list_eq ⟨_, hl1, rfl⟩ F.entry_list_eq (F.args_list_eq_2 _ _) ?_) hu
  exact list_eqNe (R := wants (fun v s' => v ≠ .notImplemented ∧ Q v s') E) l b hl1 hb1 hs ⟨(fun x => nomatch x), fin⟩
end
end GQ

namespace Ni
open PySem PySem.Spec PyProof.Rows L2
section
variable {X : Cx} {σ : L2.St} {H : Hp} {Q : VK} {p q : Addr} {vs ws : List V} {k : Nat}
/-- == of two values inside a list -/
def EqI (X : Cx) (x y : V) (σ : L2.St) (H : Hp) (b : Bool) : Prop := ∀ pins s u v, Inv X pins σ H s → RelV x u → RelV y v → wpAny (model X.prog X.w) X.A.in1 (eqBool u v) (fun r s' => r = b ∧ ∃ H', Inv X pins σ H' s' ∧ Same H H') X.xe s
/-- of two instances of a class with an own __eq__ -/
theorem eqI_own {C f a b dx dy : Addr} {fs gs : List (Str × V)} {r : Bool} (hr : Room k X.A.in1) (ha : H a = some (.ins C dx fs)) (hb : H b = some (.ins C dy gs)) (g : Sg X.K C "__eq__" f) (he : a = b → r = true)
    (h : WfA X X.A.in1 (.ref f) [.ref a, .ref b] σ H fun v H' => v = .bl r ∧ Same H H') : EqI X (.ref a) (.ref b) σ H r := by
  intro pins s u v I rx ry
  cases rx
  cases ry
  obtain ⟨od, J⟩ := inst_at I ha
  obtain ⟨od', J'⟩ := inst_at I hb
  obtain ⟨m, hF⟩ := I.fr
  by_cases hab : a = b
  · subst hab
    rw [he rfl]
    exact SeqAt.EqAt.same (A := X.A.in1) (s := s) (.ref a) X.prog X.w X.xe _ ⟨rfl, H, I, fun _ _ z => z⟩
  · refine GQ.eqBool_refG hab (PySem.W.cmp_K (op := .Eq) (tb := .ref C) hr.units0 hF I.ok.mod.kin J J'.type (by simp [PySem.W.notFirst]) g.hs g.hf (thn (h pins s [.ref a, .ref b] I (.cons rfl (.cons rfl .nil))) fun w s' z => ?_))
    obtain ⟨v', H', I', rv, rfl, s2⟩ := z
    cases rv
    exact ⟨r, rfl, rfl, H', I', s2⟩
theorem vals_at {its : List Value} (r : Vals vs its) {i : Nat} (h : i < its.toArray.size) : ∃ x, vs[i]? = some x ∧ RelV x its.toArray[i] := by
  have k1 : i < vs.length := by rw [r.length]; simpa using h
  obtain ⟨u, hu, ru⟩ := r.get (List.getElem?_eq_getElem k1)
  have g1 : its[i]? = some its.toArray[i] := by
    have h1' : i < its.length := by simpa using h
    rw [List.getElem?_eq_getElem h1'] <;> simp
  rw [g1] at hu
  cases hu
  exact ⟨_, List.getElem?_eq_getElem k1, ru⟩
theorem wo_eqLX {e : Nat → Bool} (hr : Room k X.A) (ha : H p = some (.lst vs)) (hb : H q = some (.lst ws)) (hl : vs.length = ws.length) (h : ∀ i x y H1, vs[i]? = some x → ws[i]? = some y → Same H H1 → EqI X x y σ H1 (e i))
    (z : ∀ H', Same H H' → Q (.bl ((List.range vs.length).all e)) H') : Wo X (compareOp .Eq) (.ref p) (.ref q) σ H Q := by
  intro pins s v u I rx ry
  cases rx
  cases ry
  show wpAny (model X.prog X.w) X.A (richCompare .Eq (.ref p) (.ref q)) (EP X pins σ Q) X.xe s
  refine GQ.rc_listX (N := vs.length) (e := e) hr.units0 (fun s' => ∃ H', Inv X pins σ H' s' ∧ Same H H') (fun s' q => ?_) (fun s' q => ?_) ⟨H, I, fun _ _ z => z⟩
  · obtain ⟨H1, I1, e1⟩ := q
    obtain ⟨z1, its, k1, r, g1⟩ := I1.hok p _ (e1 _ _ ha)
    obtain ⟨z2, its2, k2, r2, g2⟩ := I1.hok _ _ (e1 _ _ hb)
    refine ⟨its.toArray, its2.toArray, k1, k2, g1, g2, by rw [List.size_toArray, ← r.length], by rw [List.size_toArray, ← r2.length, ← hl], fun i h1 h2 => ?_⟩
    obtain ⟨x, x1, x2⟩ := vals_at r h1
    obtain ⟨y, y1, y2⟩ := vals_at r2 h2
    refine thn (h i x y H1 x1 y1 e1 pins s' _ _ I1 x2 y2) fun r s2 ⟨e2, H2, I2, e3⟩ => ⟨e2, H2, I2, fun a o w => e3 a o (e1 a o w)⟩
  · obtain ⟨H1, I1, e1⟩ := q
    exact ⟨.bl _, H1, I1, rfl, z H1 e1⟩
theorem wo_eqLN (hr : Room k X.A) (ha : H p = some (.lst vs)) (hb : H q = some (.lst ws)) (hl : vs.length ≠ ws.length) (z : Q (.bl false) H) : Wo X (compareOp .Eq) (.ref p) (.ref q) σ H Q := by
  intro pins s v u I rx ry
  cases rx
  cases ry
  show wpAny (model X.prog X.w) X.A (richCompare .Eq (.ref p) (.ref q)) (EP X pins σ Q) X.xe s
  obtain ⟨z1, its, k1, r, g1⟩ := I.hok p _ ha
  obtain ⟨z2, its2, k2, r2, g2⟩ := I.hok q _ hb
  exact GQ.rc_listNe hr.units0 g1 g2 (by rw [List.size_toArray, List.size_toArray, ← r.length, ← r2.length]; exact hl) ⟨.bl false, H, I, rfl, z⟩
end
end Ni

/-! WZ2: in-place signs between instances of two classes, without a method of their own. -/
namespace Ni
open PySem PySem.Spec PyProof.Rows PySem.W
section
variable {prog : Program} {w : World} {A : Around} {E : Value → Shared → Prop} {s : Shared} {K : Frag} {x y C D L f g : Addr} {h0 : Heap} {m : Str → Option Value} {ox oy : Obj} {od od2 : Option Obj}
theorem bin1_cls {op : Operator} {Q : Value → Shared → Prop} (F : Fr h0 L s.heap m) (X0 : K.In h0) (I : InstAt s.heap x ox C od) (J : InstAt s.heap y oy D od2) (T : Two K C D op f g)
    (h : wpAny (model prog w) A (tryMethod (.ref x) (PySem.dunder op.info.2) (.ref y)) (fun r s' => ∃ v, r = some v ∧ Q v s') E s) : wpAny (model prog w) A (binaryOp1 op.info.2 (.ref x) (.ref y)) (fun r s' => ∃ v, r = some v ∧ Q v s') E s := by
  have X := X0.keeps F.keep
  obtain ⟨cd, rest, hcd, hm⟩ := ksp_first T.c1
  obtain ⟨cd2, rest2, hcd2, hm2⟩ := ksp_first T.c2
  obtain ⟨hs, hf, ⟨rc, hr, hp⟩, ⟨df, ds, dff⟩, ⟨rd, dr, dp⟩, ne, hsub⟩ := id (⟨T.hs, T.hf, T.hr, T.ds, T.dr, T.ne, T.sub⟩ : _ ∧ _ ∧ _ ∧ _ ∧ _ ∧ _ ∧ _)
  rcases hi : op.info with ⟨sym, nm⟩
  rw [hi] at hs hr ds dr h
  dsimp only at hs hr ds dr h
  have hne : (Value.ref C == Value.ref D) = false := Bool.eq_false_iff.mpr fun q => ne (by have := eq_of_beq q; injection this)
  have L6 : Looks (model prog w) s.heap (numberSlotInPython (.ref C) nm) true := ksp_inPy X hs hr hp
  have L7 : Looks (model prog w) s.heap (numberSlotInPython (.ref D) nm) true := ksp_inPy X ds dr dp
  dsimp only
  unfold binaryOp1
  refine wpAny_bind (I.type.here (wpAny_bind (J.type.here ?_)))
  simp only [hne, Bool.false_eq_true, if_false]
  refine wpAny_bind ((fills_K X hcd hm hs).here ?_)
  refine wpAny_bind ((fills_K X hcd2 hm2 ds).here ?_)
  simp only [Bool.and_self, if_true]
  refine wpAny_bind ((looks_subIn X hsub).here ?_)
  simp only [Bool.false_eq_true, if_false, pure_bind, Bool.not_false, Bool.and_self, if_true]
  refine wpAny_bind (L6.here ?_)
  simp only [if_true]
  refine wpAny_bind (L7.here ?_)
  simp only [Bool.not_true, Bool.false_eq_true, if_false, pure_bind]
  refine wpAny_bind (wpAny_mono h (fun r s' z => ?_) fun _ _ e => e)
  obtain ⟨v, rfl, z⟩ := z
  exact wpAny_pure ⟨v, rfl, z⟩
end
section
open L2
variable {X : Cx} {σ : L2.St} {H : Hp} {Q : VK} {op : Operator} {C D f g a b dx dy : Addr} {fs gs : List (Str × V)}
theorem wi_cls (ha : H a = some (.ins C dx fs)) (hb : H b = some (.ins D dy gs)) (T : Two X.K C D op f g) (gg : Sg X.K C (PySem.dunder op.info.2) f) (hn : noiB X.K C op.info.2 = true) (ho : typeLookup (.type "object") (dunderI op.info.2) = pure none) (h : Wf X (.ref f) [.ref a, .ref b] σ H Q) : Wo X (inplaceOp op) (.ref a) (.ref b) σ H Q := by
  intro pins s v u I rx ry
  cases rx
  cases ry
  obtain ⟨od, J⟩ := inst_at I ha
  obtain ⟨od2, J2⟩ := inst_at I hb
  obtain ⟨m, hF⟩ := I.fr
  exact iop_of I.kIn J hn ho (bin1_cls hF I.ok.mod.kin J J2 T (try_of I ha gg (h pins s [.ref a, .ref b] I (.cons rfl (.cons rfl .nil)))))
end
end Ni

/-! RM: fractions as Lean's own Rat. -/
namespace Ni
/-- what gcd gives, with the sign of the bottom -/
def com (t b : Int) : Int := if b < 0 then -((Nat.gcd t.natAbs b.natAbs : Nat) : Int) else ((Nat.gcd t.natAbs b.natAbs : Nat) : Int)
theorem com_dvd_top (t b : Int) : com t b ∣ t := by
  have h : ((Nat.gcd t.natAbs b.natAbs : Nat) : Int) ∣ t := Int.ofNat_dvd_left.mpr (Nat.gcd_dvd_left _ _)
  unfold com
  split
  · exact Int.neg_dvd.mpr h
  · exact h
theorem com_dvd_bot (t b : Int) : com t b ∣ b := by
  have h : ((Nat.gcd t.natAbs b.natAbs : Nat) : Int) ∣ b := Int.ofNat_dvd_left.mpr (Nat.gcd_dvd_right _ _)
  unfold com
  split
  · exact Int.neg_dvd.mpr h
  · exact h
theorem com_ne {t b : Int} (h : b ≠ 0) : com t b ≠ 0 := by
  have : 0 < Nat.gcd t.natAbs b.natAbs := Nat.gcd_pos_of_pos_right _ (by omega)
  unfold com
  split <;> omega
theorem gcd_comm' (t b : Int) : (b.gcd t : Nat) = Nat.gcd t.natAbs b.natAbs := by
  rw [Int.gcd_eq_natAbs_gcd_natAbs, Nat.gcd_comm]
theorem com_top {t b : Int} (h : b ≠ 0) : t.fdiv (com t b) = (Rat.divInt t b).num := by
  rw [Int.fdiv_eq_ediv_of_dvd (com_dvd_top t b), Rat.num_divInt, gcd_comm']
  unfold com
  split
  · rename_i h1
    rw [Int.sign_eq_neg_one_of_neg h1, Int.ediv_neg, Int.neg_one_mul, Int.neg_ediv_of_dvd]
    exact Int.ofNat_dvd_left.mpr (Nat.gcd_dvd_left _ _)
  · rename_i h1
    rw [Int.sign_eq_one_of_pos (by omega), Int.one_mul]
theorem com_bot {t b : Int} (h : b ≠ 0) : b.fdiv (com t b) = ((Rat.divInt t b).den : Int) := by
  rw [Int.fdiv_eq_ediv_of_dvd (com_dvd_bot t b), Rat.den_divInt, if_neg h, gcd_comm']
  unfold com
  split
  · rename_i h1
    have e : ((b.natAbs : Nat) : Int) = -b := by omega
    have d : ((Nat.gcd t.natAbs b.natAbs : Nat) : Int) ∣ b := Int.ofNat_dvd_left.mpr (Nat.gcd_dvd_right _ _)
    rw [Int.ediv_neg, Int.natCast_ediv, e, Int.neg_ediv_of_dvd d]
  · rename_i h1
    have e : ((b.natAbs : Nat) : Int) = b := by omega
    rw [Int.natCast_ediv, e]
end Ni

namespace Ni
theorem q_add (q r : Rat) : Rat.divInt (q.num * (r.den : Int) + r.num * (q.den : Int)) ((q.den : Int) * (r.den : Int)) = q + r := by
  have h1 : (q.den : Int) ≠ 0 := by have := q.den_nz; omega
  have h2 : (r.den : Int) ≠ 0 := by have := r.den_nz; omega
  have e := Rat.divInt_add_divInt q.num r.num h1 h2
  rw [Rat.num_divInt_den, Rat.num_divInt_den] at e
  exact e.symm
theorem q_neg (q : Rat) : Rat.divInt (-q.num) (q.den : Int) = -q := by
  have e := Rat.neg_divInt q.num (q.den : Int)
  rw [Rat.num_divInt_den] at e
  exact e.symm
theorem q_sub (q r : Rat) : Rat.divInt (q.num * (r.den : Int) - r.num * (q.den : Int)) ((q.den : Int) * (r.den : Int)) = q - r := by
  have e := q_add q (-r)
  rw [Rat.neg_num, Rat.neg_den] at e
  rw [Rat.sub_eq_add_neg, ← e, Int.neg_mul, Int.sub_eq_add_neg]
theorem q_mul (q r : Rat) : Rat.divInt (q.num * r.num) ((q.den : Int) * (r.den : Int)) = q * r := by
  have e := Rat.divInt_mul_divInt q.num r.num (d₁ := (q.den : Int)) (d₂ := (r.den : Int))
  rw [Rat.num_divInt_den, Rat.num_divInt_den] at e
  exact e.symm
theorem den_ne (q : Rat) : (q.den : Int) ≠ 0 := by have := q.den_nz; omega
theorem den_pos (q : Rat) : (0 : Int) < (q.den : Int) := by have := q.den_nz; omega
theorem den_mul_ne (q r : Rat) : (q.den : Int) * (r.den : Int) ≠ 0 := Int.mul_ne_zero (den_ne q) (den_ne r)
end Ni
namespace Ni
theorem sz_div {t c : Int} (hc : c ≠ 0) (h : c ∣ t) : (t.fdiv c).natAbs ≤ t.natAbs := by
  rw [Int.fdiv_eq_ediv_of_dvd h]
  obtain ⟨k, rfl⟩ := h
  rw [Int.mul_ediv_cancel_left _ hc, Int.natAbs_mul]
  exact Nat.le_mul_of_pos_left _ (by omega)
theorem sz_top {t b : Int} (h : b ≠ 0) : (Rat.divInt t b).num.natAbs ≤ t.natAbs := by
  rw [← com_top h]
  exact sz_div (com_ne h) (com_dvd_top t b)
theorem sz_bot {t b : Int} (h : b ≠ 0) : ((Rat.divInt t b).den : Int).natAbs ≤ b.natAbs := by
  rw [← com_bot h]
  exact sz_div (com_ne h) (com_dvd_bot t b)
end Ni
namespace Ni
theorem q_abs (q : Rat) : Rat.divInt (if q.num < 0 then -q.num else q.num) (q.den : Int) = q.abs := by
  have hq : (q.num < 0) ↔ ¬ (0 ≤ q) := by
    rw [← Rat.num_nonneg]
    omega
  unfold Rat.abs
  by_cases h : 0 ≤ q
  · rw [if_pos h, if_neg (by rw [hq]; exact fun z => z h), Rat.num_divInt_den]
  · rw [if_neg h, if_pos (hq.mpr h), q_neg]
end Ni
namespace Ni
/-- a quotient by its equation -/
theorem div_mul {t b : Int} (h : b ≠ 0) : Rat.divInt t b * (b : Rat) = (t : Rat) := by
  have hb : (b : Rat) ≠ 0 := fun z => h (Rat.intCast_inj.mp z)
  rw [Rat.divInt_eq_div]
  exact Rat.div_mul_cancel hb
theorem is_div {x : Rat} {t b : Int} (h : b ≠ 0) (e : x * (b : Rat) = (t : Rat)) : x = Rat.divInt t b := by
  have hb : (b : Rat) ≠ 0 := fun z => h (Rat.intCast_inj.mp z)
  have e2 := div_mul (t := t) h
  grind
end Ni
namespace Ni
theorem abs_div {A B : Int} (h : 0 < B) : (Rat.divInt A B).abs = Rat.divInt (if A < 0 then -A else A) B := by
  have n : 0 ≤ Rat.divInt A B ↔ 0 ≤ A := Rat.divInt_nonneg_iff_of_pos_right h
  unfold Rat.abs
  by_cases z : 0 ≤ A
  · rw [if_pos (n.mpr z), if_neg (by omega)]
  · rw [if_neg (fun y => z (n.mp y)), if_pos (by omega), Rat.neg_divInt]
end Ni

/-! PA: values without a heap, and what of the heap shows them. -/
namespace Pu
open PySem PySem.Spec PyProof.Rows L2 Ni
inductive Cl where
  | ratio | amounts | net | trial | answer | plan | weighed | refuted | endless | best | table | piece | sort | steady | ranks | fate | paper | prices | phases | ring | bound
  | neverIdle | badNumber | zeroBottom | badValue | badLength | badKind | badHeaps | badPiece | badText | badNet | overfull | notCalm
  deriving DecidableEq
def Cl.nm : Cl → Str
  | .ratio => "Ratio" | .amounts => "Amounts" | .net => "Net" | .trial => "Trial" | .answer => "Answer" | .plan => "Plan" | .weighed => "Weighed" | .refuted => "Refuted" | .endless => "Endless" | .best => "Best" | .table => "Table"
  | .piece => "Piece" | .sort => "Sort" | .steady => "Steady" | .ranks => "Ranks" | .fate => "Fate" | .paper => "Paper" | .prices => "Prices" | .phases => "Phases" | .ring => "Ring" | .bound => "Bound"
  | .neverIdle => "NeverIdleError" | .badNumber => "BadNumber" | .zeroBottom => "ZeroBottom" | .badValue => "BadValue" | .badLength => "BadLength" | .badKind => "BadKind" | .badHeaps => "BadHeaps" | .badPiece => "BadPiece" | .badText => "BadText" | .badNet => "BadNet" | .overfull => "Overfull" | .notCalm => "NotCalm"
/-- the attributes of an instance, in the order in which they are made -/
def Cl.fs : Cl → List Str
  | .ratio => ["top", "bottom"] | .amounts => ["numbers"] | .net => ["rows", "_load"] | .trial => ["net", "kept_rows", "kept_load"] | .answer => [] | .plan => ["plan"] | .weighed => ["weights"] | .refuted => ["weights"] | .endless => ["plan", "ray"] | .best => ["plan", "weights"]
  | .table => ["width", "signs", "lines", "basis", "costs"] | .piece => ["start", "efforts", "minutes", "desks", "end"] | .sort => ["first", "last"] | .steady => ["fractions"] | .ranks => ["order", "desks"] | .fate => ["ending", "joints", "earlier", "ratio", "minutes"]
  | .paper => [] | .prices => ["lists"] | .phases => ["efforts", "stock"] | .ring => ["efforts", "stock"] | .bound => ["lists", "efforts", "stock", "portions", "start", "minutes"]
  | .badText => ["line"] | .badNet => ["row"] | .overfull => ["desk"] | .notCalm => ["ring"] | _ => []
inductive Bi where
  | len | abs | int | bool | str | isi | gcd | tuple
  deriving DecidableEq
def Bi.nm : Bi → Str
  | .len => "len" | .abs => "abs" | .int => "int" | .bool => "bool" | .str => "str" | .isi => "isinstance" | .gcd => "gcd" | .tuple => "tuple"
def Bi.val : Bi → Value
  | .len => .builtin "len" | .abs => .builtin "abs" | .int => .type "int" | .bool => .type "bool" | .str => .type "str" | .isi => .builtin "isinstance" | .gcd => .builtin "math.gcd" | .tuple => .type "tuple"
inductive PV where
  | non | bl (b : Bool) | int (n : Int) | str (s : Str) | ty (b : Bi) | cls (c : Cl) | pool
  | rat (q : Rat) | lst (xs : List PV) | tup (xs : List PV) | obj (c : Cl) (xs : List PV)
structure Kx where
  K : PySem.W.Frag
  pl : Option (Addr × Addr)
def ratF (q : Rat) : List (Str × V) := [("top", V.int q.num), ("bottom", V.int (q.den : Int))]
mutual
def Rep (k : Kx) (F : Hp) : PV → V → Prop
  | .non, v => v = .non
  | .bl b, v => v = .bl b
  | .int n, v => v = .int n
  | .str s, v => v = .str s
  | .ty b, v => ∃ n, b.val = .type n ∧ v = .ty n
  | .cls c, v => v = .ref (He.ga k.K c.nm)
  | .pool, v => ∃ P s, k.pl = some (P, s) ∧ v = .ref P
  | .rat q, v => ∃ a dx, v = .ref a ∧ F a = some (.ins (He.ga k.K "Ratio") dx (ratF q))
  | .lst xs, v => ∃ a vs, v = .ref a ∧ F a = some (.lst vs) ∧ Reps k F xs vs
  | .tup xs, v => ∃ a vs, v = .ref a ∧ F a = some (.tup vs) ∧ Reps k F xs vs
  | .obj c xs, v => ∃ a dx vs, v = .ref a ∧ F a = some (.ins (He.ga k.K c.nm) dx (c.fs.zip vs)) ∧ (xs.length ≤ c.fs.length ∧ c ≠ .ratio) ∧ Reps k F xs vs
def Reps (k : Kx) (F : Hp) : List PV → List V → Prop
  | [], vs => vs = []
  | x :: xs, vs => ∃ v ws, vs = v :: ws ∧ Rep k F x v ∧ Reps k F xs ws
end
section
variable {k : Kx} {F F' : Hp}
mutual
theorem Rep.mono (s : Same F F') : ∀ {x : PV} {v : V}, Rep k F x v → Rep k F' x v
  | .non, _, h => h
  | .bl _, _, h => h
  | .int _, _, h => h
  | .str _, _, h => h
  | .ty _, _, h => h
  | .cls _, _, h => h
  | .pool, _, h => h
  | .rat q, _, h => by
    unfold Rep at h ⊢
    obtain ⟨a, dx, e, h⟩ := h
    exact ⟨a, dx, e, s _ _ h⟩
  | .lst xs, _, h => by
    unfold Rep at h ⊢
    obtain ⟨a, vs, e, h, r⟩ := h
    exact ⟨a, vs, e, s _ _ h, Reps.mono s r⟩
  | .tup xs, _, h => by
    unfold Rep at h ⊢
    obtain ⟨a, vs, e, h, r⟩ := h
    exact ⟨a, vs, e, s _ _ h, Reps.mono s r⟩
  | .obj c xs, _, h => by
    unfold Rep at h ⊢
    obtain ⟨a, dx, vs, e, h, l, r⟩ := h
    exact ⟨a, dx, vs, e, s _ _ h, l, Reps.mono s r⟩
theorem Reps.mono (s : Same F F') : ∀ {xs : List PV} {vs : List V}, Reps k F xs vs → Reps k F' xs vs
  | [], _, h => h
  | x :: xs, _, h => by
    unfold Reps at h ⊢
    obtain ⟨v, ws, e, h, r⟩ := h
    exact ⟨v, ws, e, Rep.mono s h, Reps.mono s r⟩
end
theorem Reps.nil : Reps k F [] [] := rfl
theorem Reps.cons {x : PV} {v : V} {xs : List PV} {vs : List V} (h : Rep k F x v) (r : Reps k F xs vs) : Reps k F (x :: xs) (v :: vs) := ⟨v, vs, rfl, h, r⟩
theorem Reps.len : ∀ {xs : List PV} {vs : List V}, Reps k F xs vs → xs.length = vs.length
  | [], _, h => by cases h; rfl
  | x :: xs, _, h => by
    obtain ⟨v, ws, rfl, h, r⟩ := h
    simp [Reps.len r]
theorem Reps.append : ∀ {xs ys : List PV} {vs ws : List V}, Reps k F xs vs → Reps k F ys ws → Reps k F (xs ++ ys) (vs ++ ws)
  | [], _, _, _, h, r => by cases h; exact r
  | x :: xs, _, _, _, h, r => by
    obtain ⟨v, ws, rfl, h, r1⟩ := h
    exact Reps.cons h (Reps.append r1 r)
theorem Reps.get : ∀ {xs : List PV} {vs : List V} {i : Nat} {x : PV}, Reps k F xs vs → xs[i]? = some x → ∃ v, vs[i]? = some v ∧ Rep k F x v
  | [], _, _, _, h, e => by simp at e
  | x :: xs, _, 0, _, h, e => by
    obtain ⟨v, ws, rfl, h, r1⟩ := h
    simp at e
    subst e
    exact ⟨v, rfl, h⟩
  | x :: xs, _, i + 1, _, h, e => by
    obtain ⟨v, ws, rfl, h, r1⟩ := h
    simp at e
    obtain ⟨u, h1, h2⟩ := Reps.get r1 e
    exact ⟨u, by simpa using h1, h2⟩
theorem Reps.got : ∀ {xs : List PV} {vs : List V} {i : Nat} {v : V}, Reps k F xs vs → vs[i]? = some v → ∃ x, xs[i]? = some x ∧ Rep k F x v
  | [], _, _, _, h, e => by cases h; simp at e
  | x :: xs, _, 0, _, h, e => by
    obtain ⟨v, ws, rfl, h, r1⟩ := h
    simp at e
    subst e
    exact ⟨x, rfl, h⟩
  | x :: xs, _, i + 1, _, h, e => by
    obtain ⟨v, ws, rfl, h, r1⟩ := h
    simp at e
    obtain ⟨u, h1, h2⟩ := Reps.got r1 e
    exact ⟨u, by simpa using h1, h2⟩
theorem Reps.set {y : PV} {w : V} (hy : Rep k F y w) : ∀ {xs : List PV} {vs : List V} (i : Nat), Reps k F xs vs → Reps k F (xs.set i y) (vs.set i w)
  | [], _, _, h => by cases h; exact Reps.nil
  | x :: xs, _, 0, h => by
    obtain ⟨v, ws, rfl, h, r1⟩ := h
    exact Reps.cons hy r1
  | x :: xs, _, i + 1, h => by
    obtain ⟨v, ws, rfl, h, r1⟩ := h
    exact Reps.cons h (Reps.set hy i r1)
theorem Reps.one {x : PV} {vs : List V} (h : Reps k F [x] vs) : ∃ v, vs = [v] ∧ Rep k F x v := by
  obtain ⟨v, ws, rfl, h, r⟩ := h
  cases r
  exact ⟨v, rfl, h⟩
theorem Reps.two {x y : PV} {vs : List V} (h : Reps k F [x, y] vs) : ∃ v w, vs = [v, w] ∧ Rep k F x v ∧ Rep k F y w := by
  obtain ⟨v, ws, rfl, h, r⟩ := h
  obtain ⟨w, rfl, h2⟩ := Reps.one r
  exact ⟨v, w, rfl, h, h2⟩
end

/-! ### the state -/
/-- the law's pool: the script's copy, a place, a rest, a turn -/
def PoolS (H : Hp) (P s : Addr) : Prop := ∃ (ns : List Int) (i c t : Int), H P = some (.lst [.ref s, .int i, .int c, .int t]) ∧ H s = some (.lst (ns.map V.int)) ∧ s ≠ P ∧ 0 ≤ i ∧ 0 ≤ c
theorem PoolS.keep {H H' : Hp} {P s : Addr} (h : PoolS H P s) (k1 : H' P = H P) (k2 : H' s = H s) : PoolS H' P s := by
  obtain ⟨ns, i, c, t, h1, h2, ne, i0, c0⟩ := h
  exact ⟨ns, i, c, t, k1.trans h1, k2.trans h2, ne, i0, c0⟩
theorem PoolS.at1 {H : Hp} {P s : Addr} (h : PoolS H P s) : ∃ o, H P = some o := let ⟨_, _, _, _, h1, _⟩ := h; ⟨_, h1⟩
theorem PoolS.at2 {H : Hp} {P s : Addr} (h : PoolS H P s) : ∃ o, H s = some o := let ⟨_, _, _, _, _, h1, _⟩ := h; ⟨_, h1⟩
theorem PoolS.same {H H' : Hp} {P s : Addr} (h : PoolS H P s) (e : Same H H') : PoolS H' P s := by
  obtain ⟨o1, e1⟩ := h.at1
  obtain ⟨o2, e2⟩ := h.at2
  exact h.keep ((e _ _ e1).trans e1.symm) ((e _ _ e2).trans e2.symm)
/-- a fraction: it is never changed -/
def RatO (o : HO) : Prop := ∃ C dx q, o = .ins C dx (ratF q)
/-- what is never changed -/
def ImmO (o : HO) : Prop := RatO o ∨ ∃ vs, o = .tup vs
theorem imm_lst {vs : List V} : ¬ ImmO (.lst vs) := fun h => by
  rcases h with ⟨_, _, _, z⟩ | ⟨_, z⟩ <;> cases z
theorem pool_nimm {H : Hp} {P s : Addr} {o : HO} (h : PoolS H P s) (e : H P = some o) : ¬ ImmO o := by
  obtain ⟨ns, i, c, t, h1, _⟩ := h
  rw [h1] at e
  cases e
  exact imm_lst
/-- what may change: the pool, and what is lent -/
def Exm (pl : Option (Addr × Addr)) (mu : List Addr) (a : Addr) : Prop := (∃ s, pl = some (a, s)) ∨ a ∈ mu
structure Gua (pl : Option (Addr × Addr)) (mu : List Addr) (H H' : Hp) : Prop where
  keep : ∀ a o, H a = some o → ¬ Exm pl mu a → H' a = some o
  pool : ∀ P s, pl = some (P, s) → PoolS H' P s
  live : ∀ a ∈ mu, (∃ o, H a = some o ∧ ¬ ImmO o) → ∃ o, H' a = some o ∧ ¬ ImmO o
theorem Gua.back {pl : Option (Addr × Addr)} {mu : List Addr} {H H' : Hp} {a : Addr} (g : Gua pl mu H H') (m : ∀ a ∈ mu, ∃ o, H a = some o ∧ ¬ ImmO o) (h : H' a = none) : H a = none := by
  cases e : H a with
  | none => rfl
  | some o =>
    by_cases z : Exm pl mu a
    · rcases z with ⟨s, z⟩ | z
      · obtain ⟨o2, e2⟩ := (g.pool a s z).at1
        rw [e2] at h; cases h
      · obtain ⟨o2, e2, _⟩ := g.live a z (m a z)
        rw [e2] at h; cases h
    · rw [g.keep a o e z] at h; cases h
theorem no_mu {H : Hp} : ∀ a ∈ ([] : List Addr), ∃ o, H a = some o ∧ ¬ ImmO o := nofun
theorem Gua.trans {pl : Option (Addr × Addr)} {mu : List Addr} {H H1 H2 : Hp} (g : Gua pl mu H H1) (g2 : Gua pl mu H1 H2) : Gua pl mu H H2 :=
  ⟨fun a o h n => g2.keep a o (g.keep a o h n) n, g2.pool, fun a m h => g2.live a m (g.live a m h)⟩
theorem Gua.more {pl : Option (Addr × Addr)} {mu : List Addr} {H H1 : Hp} (g : Gua pl [] H H1) (n : ∀ P s, pl = some (P, s) → P ∉ mu) : Gua pl mu H H1 :=
  ⟨fun a o h z => g.keep a o h fun y => z (by
    rcases y with y | y
    · exact .inl y
    · cases y), g.pool, fun a m ⟨o, h, i⟩ => ⟨o, g.keep a o h (fun y => by
    rcases y with ⟨s, y⟩ | y
    · exact n a s y m
    · cases y), i⟩⟩
theorem Gua.same {pl : Option (Addr × Addr)} {mu : List Addr} {H H1 H2 : Hp} (g : Gua pl mu H H1) (g2 : Same H1 H2) : Gua pl mu H H2 :=
  ⟨fun a o h n => g2 a o (g.keep a o h n), fun P s e => (g.pool P s e).same g2, fun a m h => let ⟨o, e, i⟩ := g.live a m h; ⟨o, g2 a o e, i⟩⟩
/-- frozen: what F tells stays -/
structure Grow (F H F' : Hp) : Prop where
  s : Same F F'
  n : ∀ a o, F' a = some o → F a = some o ∨ H a = none ∨ (H a = some o ∧ ImmO o)
theorem Grow.refl {F H : Hp} : Grow F H F := ⟨fun _ _ h => h, fun _ _ h => .inl h⟩
theorem Gua.imm {pl : Option (Addr × Addr)} {mu : List Addr} {H H1 : Hp} {a : Addr} {o : HO} (u : Gua pl mu H H1) (m : ∀ a ∈ mu, ∃ o, H a = some o ∧ ¬ ImmO o) (z : H1 a = some o) (r : ImmO o) : H a = none ∨ H a = some o := by
  cases e : H a with
  | none => exact .inl rfl
  | some o2 =>
    by_cases y : Exm pl mu a
    · rcases y with ⟨s, y⟩ | y
      · exact absurd r (pool_nimm (u.pool a s y) z)
      · obtain ⟨o3, e3, n⟩ := u.live a y (m a y)
        rw [z] at e3; cases e3
        exact absurd r n
    · have := u.keep a o2 e y
      rw [z] at this
      cases this
      exact .inr rfl
theorem Grow.trans {pl : Option (Addr × Addr)} {mu : List Addr} {F H F' H' F2 : Hp} (g : Grow F H F') (u : Gua pl mu H H') (m : ∀ a ∈ mu, ∃ o, H a = some o ∧ ¬ ImmO o) (g2 : Grow F' H' F2) : Grow F H F2 := by
  refine ⟨fun a o h => g2.s a o (g.s a o h), fun a o h => ?_⟩
  rcases g2.n a o h with z | z | ⟨z, r⟩
  · exact g.n a o z
  · exact .inr (.inl (u.back m z))
  · rcases u.imm m z r with y | y
    · exact .inr (.inl y)
    · exact .inr (.inr ⟨y, r⟩)
structure Exc where
  c : Cl
  d : List PV
/-- a field of an instance of one's own: a value, or a list of one's own -/
inductive FV where
  | fr (x : PV) | nw (x : PV) | ow (xs : List PV)
/-- a value of new things, and of things that are never changed -/
def NewR (k : Kx) (F H0 : Hp) (x : PV) (v : V) : Prop := ∃ Fn, Same Fn F ∧ (∀ a o, Fn a = some o → H0 a = none ∨ ImmO o) ∧ Rep k Fn x v
theorem NewR.mono {k : Kx} {F F' H0 : Hp} {x : PV} {v : V} (h : NewR k F H0 x v) (s : Same F F') : NewR k F' H0 x v := let ⟨Fn, s1, n, r⟩ := h; ⟨Fn, fun a o e => s a o (s1 a o e), n, r⟩
theorem NewR.rep {k : Kx} {F H0 : Hp} {x : PV} {v : V} (h : NewR k F H0 x v) : Rep k F x v := let ⟨_, s1, _, r⟩ := h; r.mono s1
theorem NewR.back {k : Kx} {F H0 H1 : Hp} {x : PV} {v : V} (h : NewR k F H1 x v) (b : ∀ a, H1 a = none → H0 a = none) : NewR k F H0 x v := let ⟨Fn, s1, n, r⟩ := h; ⟨Fn, s1, fun a o e => (n a o e).imp (b a) id, r⟩
/-- one's own; lent; one's own, at a known place -/
inductive Md where
  | own | lent | held (a : Addr)
def Md.lentB : Md → Bool
  | .lent => true
  | _ => false
inductive SV where
  | val (x : PV) | own (xs : List PV) | obj (m : Md) (c : Cl) (fs : List FV) | exc (e : Exc) | ali (p : Addr)
abbrev Env := List (Option SV)
def FV.pv : FV → PV
  | .fr x => x
  | .nw x => x
  | .ow xs => .lst xs
inductive FVs (k : Kx) (F H H0 : Hp) : List FV → List V → List Addr → Prop
  | nil : FVs k F H H0 [] [] []
  | nw {fs : List FV} {vs : List V} {os : List Addr} {x : PV} {v : V} : NewR k F H0 x v → FVs k F H H0 fs vs os → FVs k F H H0 (.nw x :: fs) (v :: vs) os
  | fr {fs : List FV} {vs : List V} {os : List Addr} {x : PV} {v : V} : Rep k F x v → FVs k F H H0 fs vs os → FVs k F H H0 (.fr x :: fs) (v :: vs) os
  | ow {fs : List FV} {vs : List V} {os : List Addr} {xs : List PV} {ws : List V} {q : Addr} : H q = some (.lst ws) → Reps k F xs ws → FVs k F H H0 fs vs os → FVs k F H H0 (.ow xs :: fs) (.ref q :: vs) (q :: os)
/-- whose a place is: one's own (new), or lent -/
def Whose (H0 : Hp) (mu : List Addr) (m : Md) (a : Addr) : Prop := match m with
  | .own => H0 a = none
  | .held _ => H0 a = none
  | .lent => H0 a = none ∨ a ∈ mu
theorem Whose.new {H0 : Hp} {mu : List Addr} {m : Md} {a : Addr} (h : H0 a = none) : Whose H0 mu m a := by
  cases m
  · exact h
  · exact .inl h
  · exact h
theorem Whose.or {H0 : Hp} {mu : List Addr} {m : Md} {a : Addr} (h : Whose H0 mu m a) : H0 a = none ∨ a ∈ mu := by
  cases m
  · exact .inl h
  · exact h
  · exact .inl h
theorem Whose.own {H0 : Hp} {mu : List Addr} {m : Md} {a : Addr} (l : m.lentB = false) (h : Whose H0 mu m a) : H0 a = none := by
  cases m
  · exact h
  · cases l
  · exact h
/-- where it stands -/
def HdOk (mu : List Addr) (m : Md) (p : Addr) : Prop := match m with
  | .own => True
  | .lent => mu.head? = some p
  | .held a => a = p
structure Ct where
  pl : Option (Addr × Addr)
  mu : List Addr
  ex : Option (Addr × Exc)
  H0 : Hp
  F0 : Hp
/-- slots: some hold values, some a list or an instance of the def's own -/
inductive Slots (k : Kx) (F H H0 : Hp) (mu : List Addr) (ex : Option (Addr × Exc)) : Env → L2.St → List Addr → Prop
  | nil : Slots k F H H0 mu ex [] [] []
  | free {ρ : Env} {σ : L2.St} {os : List Addr} {v : Option V} : Slots k F H H0 mu ex ρ σ os → Slots k F H H0 mu ex (none :: ρ) (v :: σ) os
  | val {ρ : Env} {σ : L2.St} {os : List Addr} {x : PV} {v : V} : Rep k F x v → Slots k F H H0 mu ex ρ σ os → Slots k F H H0 mu ex (some (.val x) :: ρ) (some v :: σ) os
  | exc {ρ : Env} {σ : L2.St} {os : List Addr} {e : Exc} {a : Addr} : ex = some (a, e) → Slots k F H H0 mu ex ρ σ os → Slots k F H H0 mu ex (some (.exc e) :: ρ) (some (.ref a) :: σ) os
  | own {ρ : Env} {σ : L2.St} {os : List Addr} {xs : List PV} {vs : List V} {p : Addr} : H p = some (.lst vs) → Reps k F xs vs → H0 p = none → Slots k F H H0 mu ex ρ σ os →
      Slots k F H H0 mu ex (some (.own xs) :: ρ) (some (.ref p) :: σ) (p :: os)
  | obj {ρ : Env} {σ : L2.St} {os qs : List Addr} {m : Md} {c : Cl} {fs : List FV} {vs : List V} {p dx : Addr} : H p = some (.ins (He.ga k.K c.nm) dx (c.fs.zip vs)) → FVs k F H H0 fs vs qs → fs.length ≤ c.fs.length → c ≠ .ratio → (∀ a ∈ p :: qs, Whose H0 mu m a) → HdOk mu m p → Slots k F H H0 mu ex ρ σ os →
      Slots k F H H0 mu ex (some (.obj m c fs) :: ρ) (some (.ref p) :: σ) (p :: (qs ++ os))
  | ali {ρ : Env} {σ : L2.St} {os : List Addr} {p : Addr} : Slots k F H H0 mu ex ρ σ os → Slots k F H H0 mu ex (some (.ali p) :: ρ) (some (.ref p) :: σ) os
structure Stt (X : Cx) (c : Ct) (F : Hp) (ρ : Env) (σ : L2.St) (H : Hp) : Prop where
  sub : Same F H
  gr : Grow c.F0 c.H0 F
  gua : Gua c.pl c.mu c.H0 H
  p0 : ∀ P s, c.pl = some (P, s) → F P = none ∧ c.H0 P ≠ none ∧ PoolS H P s
  p1 : ∀ P s, c.pl = some (P, s) → c.H0 s ≠ none ∧ P ∉ c.mu ∧ s ∉ c.mu
  m0 : ∀ a ∈ c.mu, ∃ o, c.H0 a = some o ∧ ¬ ImmO o
  slots : ∃ os, Slots ⟨X.K, c.pl⟩ F H c.H0 c.mu c.ex ρ σ os ∧ os.Nodup ∧ ∀ a ∈ os, F a = none
section
variable {k : Kx} {F F' H H' H0 : Hp} {mu : List Addr} {ex : Option (Addr × Exc)} {ρ : Env} {σ : L2.St} {os : List Addr}
theorem fs_rat {c : Cl} {vs : List V} {q : Rat} (h : c.fs.zip vs = ratF q) : c = .ratio := by
  have e : (c.fs.zip vs).map (·.1) = [("top" : Str), "bottom"] := by rw [h]; rfl
  have l : ∀ {as : List Str} {vs : List V} {x y : Str}, (as.zip vs).map (·.1) = [x, y] → as.head? = some x := by
    intro as vs x y h
    cases as with
    | nil => simp at h
    | cons a as => cases vs with
      | nil => simp at h
      | cons v vs => simp at h; simp [h.1]
  have l3 : c.fs.head? = some ("top" : Str) := l e
  cases c <;> first | rfl | (exact absurd l3 (by decide +kernel))
theorem ins_nimm {C dx : Addr} {c : Cl} {vs : List V} (h : c ≠ .ratio) : ¬ ImmO (.ins C dx (c.fs.zip vs)) := fun z => by
  rcases z with ⟨_, _, _, z⟩ | ⟨_, z⟩
  · injection z with _ _ z
    exact h (fs_rat z)
  · cases z
theorem FVs.at_ {fs : List FV} {vs : List V} {qs : List Addr} (h : FVs k F H H0 fs vs qs) : ∀ p ∈ qs, ∃ ws, H p = some (.lst ws) := by
  induction h with
  | nil => intro p hp; cases hp
  | fr _ _ ih => exact ih
  | nw _ _ ih => exact ih
  | ow h1 _ _ ih =>
    intro p hp
    cases hp with
    | head => exact ⟨_, h1⟩
    | tail _ hp => exact ih p hp
theorem FVs.keep {fs : List FV} {vs : List V} {qs : List Addr} (h : FVs k F H H0 fs vs qs) (s : Same F F') (hk : ∀ p ∈ qs, H' p = H p) : FVs k F' H' H0 fs vs qs := by
  induction h with
  | nil => exact .nil
  | fr h1 _ ih => exact .fr (h1.mono s) (ih hk)
  | nw h1 _ ih => exact .nw (h1.mono s) (ih hk)
  | ow h1 h2 _ ih => exact .ow ((hk _ (.head _)).trans h1) (h2.mono s) (ih fun p hp => hk p (.tail _ hp))
theorem FVs.len {fs : List FV} {vs : List V} {qs : List Addr} (h : FVs k F H H0 fs vs qs) : fs.length = vs.length := by
  induction h with
  | nil => rfl
  | fr _ _ ih => simp [ih]
  | nw _ _ ih => simp [ih]
  | ow _ _ _ ih => simp [ih]
/-- frozen -/
theorem FVs.reps {fs : List FV} {vs : List V} {qs : List Addr} {FS : Hp} (h : FVs k F H H0 fs vs qs) (s : Same F FS) (hq : ∀ p ∈ qs, FS p = H p) : Reps k FS (fs.map FV.pv) vs := by
  induction h with
  | nil => exact .nil
  | fr h1 _ ih => exact .cons (h1.mono s) (ih hq)
  | nw h1 _ ih => exact .cons (h1.rep.mono s) (ih hq)
  | ow h1 h2 _ ih => exact .cons ⟨_, _, rfl, (hq _ (.head _)).trans h1, h2.mono s⟩ (ih fun p hp => hq p (.tail _ hp))
theorem Slots.own_at (h : Slots k F H H0 mu ex ρ σ os) : ∀ p ∈ os, (H0 p = none ∨ p ∈ mu) ∧ ∃ o, H p = some o ∧ ¬ ImmO o := by
  induction h with
  | nil => intro p hp; cases hp
  | free _ ih => exact ih
  | val _ _ ih => exact ih
  | exc _ _ ih => exact ih
  | ali _ ih => exact ih
  | own h1 h2 h3 _ ih =>
    intro p hp
    cases hp with
    | head => exact ⟨.inl h3, _, h1, imm_lst⟩
    | tail _ hp => exact ih p hp
  | @obj ρ σ os qs m c fs vs p0 dx h1 h2 h3 h4 h5 h6 _ ih =>
    intro p hp
    have w : p ∈ p0 :: qs → (H0 p = none ∨ p ∈ mu) := fun hp => (h5 p hp).or
    cases hp with
    | head => exact ⟨w (.head _), _, h1, ins_nimm h4⟩
    | tail _ hp =>
      rcases List.mem_append.mp hp with hp | hp
      · obtain ⟨ws, e⟩ := h2.at_ p hp
        exact ⟨w (.tail _ hp), _, e, imm_lst⟩
      · exact ih p hp
/-- the heap changes elsewhere, more is frozen -/
theorem Slots.keep (h : Slots k F H H0 mu ex ρ σ os) (s : Same F F') (hk : ∀ p ∈ os, H' p = H p) : Slots k F' H' H0 mu ex ρ σ os := by
  induction h with
  | nil => exact .nil
  | free _ ih => exact .free (ih hk)
  | val h1 _ ih => exact .val (h1.mono s) (ih hk)
  | exc h1 _ ih => exact .exc h1 (ih hk)
  | ali _ ih => exact .ali (ih hk)
  | own h1 h2 h3 _ ih => exact .own ((hk _ (.head _)).trans h1) (h2.mono s) h3 (ih fun p hp => hk p (.tail _ hp))
  | obj h1 h2 h3 h4 h5 h6 _ ih => exact .obj ((hk _ (.head _)).trans h1) (h2.keep s fun p hp => hk p (.tail _ (List.mem_append_left _ hp))) h3 h4 h5 h6 (ih fun p hp => hk p (.tail _ (List.mem_append_right _ hp)))
theorem Slots.len (h : Slots k F H H0 mu ex ρ σ os) : ρ.length = σ.length := by
  induction h with
  | nil => rfl
  | free _ ih => simp [ih]
  | val _ _ ih => simp [ih]
  | exc _ _ ih => simp [ih]
  | ali _ ih => simp [ih]
  | own _ _ _ _ ih => simp [ih]
  | obj _ _ _ _ _ _ _ ih => simp [ih]
/-- one slot apart: what stands there, and how it is put back -/
def Slot1 (k : Kx) (F H H0 : Hp) (mu : List Addr) (ex : Option (Addr × Exc)) (o : Option SV) (v : Option V) (qs : List Addr) : Prop := Slots k F H H0 mu ex [o] [v] qs
theorem Slots.cons1 {o : Option SV} {v : Option V} {qs : List Addr} (h1 : Slot1 k F H H0 mu ex o v qs) (h : Slots k F H H0 mu ex ρ σ os) : Slots k F H H0 mu ex (o :: ρ) (v :: σ) (qs ++ os) := by
  unfold Slot1 at h1
  cases h1 with
  | free h1 => cases h1; exact .free h
  | val a h1 => cases h1; exact .val a h
  | exc a h1 => cases h1; exact .exc a h
  | ali h1 => cases h1; exact .ali h
  | own a b c h1 => cases h1; exact .own a b c h
  | obj a b c d e f h1 =>
    cases h1
    rw [List.append_nil]
    exact .obj a b c d e f h
theorem Slots.uncons {o : Option SV} {v : Option V} (h : Slots k F H H0 mu ex (o :: ρ) (v :: σ) os) : ∃ q1 q2, os = q1 ++ q2 ∧ Slot1 k F H H0 mu ex o v q1 ∧ Slots k F H H0 mu ex ρ σ q2 := by
  cases h with
  | free h => exact ⟨[], _, rfl, .free .nil, h⟩
  | val a h => exact ⟨[], _, rfl, .val a .nil, h⟩
  | exc a h => exact ⟨[], _, rfl, .exc a .nil, h⟩
  | ali h => exact ⟨[], _, rfl, .ali .nil, h⟩
  | own a b c h => exact ⟨[_], _, rfl, .own a b c .nil, h⟩
  | obj a b c d e f h => exact ⟨_ :: _, _, rfl, by
      have := Slots.obj a b c d e f (Slots.nil (k := k) (F := F) (H := H) (H0 := H0) (mu := mu) (ex := ex))
      rw [List.append_nil] at this
      exact this, h⟩
/-- a slot taken out: the rest and the one -/
theorem Slots.split : ∀ {ρ : Env} {σ : L2.St} {os : List Addr} {i : Nat} {o : Option SV}, Slots k F H H0 mu ex ρ σ os → ρ[i]? = some o →
    ∃ v q1 q2 q3, σ[i]? = some v ∧ os = q1 ++ (q2 ++ q3) ∧ Slot1 k F H H0 mu ex o v q2 ∧ ∀ {F' H' : Hp} {o' : Option SV} {v' : Option V} {q' : List Addr}, Same F F' → (∀ p ∈ q1 ++ q3, H' p = H p) → Slot1 k F' H' H0 mu ex o' v' q' → Slots k F' H' H0 mu ex (ρ.set i o') (σ.set i v') (q1 ++ (q' ++ q3))
  | [], _, _, _, _, _, e => by simp at e
  | a :: ρ, [], _, _, _, h, _ => by cases h
  | a :: ρ, v :: σ, os, 0, o, h, e => by
    simp at e
    subst e
    obtain ⟨q1, q2, rfl, h1, h2⟩ := h.uncons
    exact ⟨v, [], q1, q2, rfl, rfl, h1, fun {F' H' o' v' q'} s hk h3 => (Slots.cons1 h3 (h2.keep s hk) : Slots k F' H' H0 mu ex (o' :: ρ) (v' :: σ) (q' ++ q2))⟩
  | a :: ρ, v :: σ, os, i + 1, o, h, e => by
    obtain ⟨q1, q2, rfl, h1, h2⟩ := h.uncons
    obtain ⟨u, r1, r2, r3, e1, rfl, h3, h4⟩ := Slots.split h2 (by simpa using e)
    refine ⟨u, q1 ++ r1, r2, r3, by simpa using e1, by simp, h3, fun s hk h5 => ?_⟩
    have z := h4 s (fun p hp => hk p (by
      rcases List.mem_append.mp hp with hp | hp
      · exact List.mem_append_left _ (List.mem_append_right _ hp)
      · exact List.mem_append_right _ hp)) h5
    rw [List.append_assoc]
    exact .cons1 (Slots.keep h1 s fun p hp => hk p (List.mem_append_left _ (List.mem_append_left _ hp))) z
theorem Slots.get (h : Slots k F H H0 mu ex ρ σ os) {i : Nat} {x : PV} (e : ρ[i]? = some (some (.val x))) : ∃ v, σ[i]? = some (some v) ∧ Rep k F x v := by
  obtain ⟨v, q1, q2, q3, e1, _, h1, _⟩ := h.split e
  cases h1 with
  | val a _ => exact ⟨_, e1, a⟩
theorem Slots.getO (h : Slots k F H H0 mu ex ρ σ os) {i : Nat} {xs : List PV} (e : ρ[i]? = some (some (.own xs))) : ∃ p vs, σ[i]? = some (some (.ref p)) ∧ H p = some (.lst vs) ∧ Reps k F xs vs ∧ p ∈ os := by
  obtain ⟨v, q1, q2, q3, e1, rfl, h1, _⟩ := h.split e
  cases h1 with
  | own a b c h1 =>
    cases h1
    exact ⟨_, _, e1, a, b, by simp⟩
theorem imm_part (F : Hp) : ∃ Fi : Hp, ∀ a o, Fi a = some o ↔ (F a = some o ∧ ImmO o) := by
  classical
  refine ⟨fun a => if ∃ o, F a = some o ∧ ImmO o then F a else none, fun a o => ?_⟩
  dsimp only
  constructor
  · intro h
    split at h
    · rename_i z
      obtain ⟨o2, e2, i2⟩ := z
      rw [e2] at h
      cases h
      exact ⟨e2, i2⟩
    · cases h
  · rintro ⟨h1, h2⟩
    rw [if_pos ⟨o, h1, h2⟩]
    exact h1
def unionH (A B : Hp) : Hp := fun a => match A a with
  | some o => some o
  | none => B a
theorem unionH_l {A B : Hp} : Same A (unionH A B) := fun a o e => by
  unfold unionH
  rw [e]
theorem unionH_r {A B C : Hp} (h1 : Same A C) (h2 : Same B C) : Same B (unionH A B) := fun a o e => by
  unfold unionH
  cases h : A a with
  | none => exact e
  | some o2 =>
    have := h1 a o2 h
    rw [h2 a o e] at this
    cases this
    rfl
theorem unionH_or {A B : Hp} {a : Addr} {o : HO} (h : unionH A B a = some o) : A a = some o ∨ B a = some o := by
  unfold unionH at h
  cases e : A a with
  | none => rw [e] at h; exact .inr h
  | some o2 => rw [e] at h; exact .inl h
end
section
variable {X : Cx} {c : Ct} {F F' H H' : Hp} {ρ : Env} {σ : L2.St}
theorem Stt.len (S : Stt X c F ρ σ H) : ρ.length = σ.length := let ⟨_, h, _⟩ := S.slots; h.len
theorem Stt.live (S : Stt X c F ρ σ H) : ∀ a ∈ c.mu, ∃ o, H a = some o ∧ ¬ ImmO o := fun a m => S.gua.live a m (S.m0 a m)
theorem Stt.pmu (S : Stt X c F ρ σ H) : ∀ P s, c.pl = some (P, s) → P ∉ c.mu := fun P s e => (S.p1 P s e).2.1
theorem Stt.nexm (S : Stt X c F ρ σ H) {a : Addr} {os : List Addr} (h : Slots ⟨X.K, c.pl⟩ F H c.H0 c.mu c.ex ρ σ os) (m : a ∈ os) : ¬ Exm c.pl [] a := fun z => by
  rcases z with ⟨s, z⟩ | z
  · rcases (h.own_at a m).1 with y | y
    · exact (S.p0 a s z).2.1 y
    · exact (S.p1 a s z).2.1 y
  · cases z
theorem Gua.keepS {H H' : Hp} (g : Gua c.pl [] H H') {os : List Addr} (S : Stt X c F ρ σ H) (h : Slots ⟨X.K, c.pl⟩ F H c.H0 c.mu c.ex ρ σ os) : ∀ p ∈ os, H' p = H p := fun p hp => by
  obtain ⟨_, o, e, _⟩ := h.own_at p hp
  rw [e]
  exact g.keep p o e (S.nexm h hp)
/-- after a call that keeps its promise -/
theorem Stt.called (S : Stt X c F ρ σ H) (g : Gua c.pl [] H H') (gr : Grow F H F') (sub : Same F' H') : Stt X c F' ρ σ H' := by
  refine ⟨sub, S.gr.trans S.gua S.m0 gr, S.gua.trans (g.more S.pmu), fun P s e => ?_, S.p1, S.m0, ?_⟩
  · obtain ⟨h1, h2, h3⟩ := S.p0 P s e
    refine ⟨?_, h2, g.pool P s e⟩
    cases z : F' P with
    | none => rfl
    | some o =>
      rcases gr.n P o z with z2 | z2 | ⟨z2, r⟩
      · rw [h1] at z2; cases z2
      · obtain ⟨o2, e2⟩ := h3.at1
        rw [e2] at z2; cases z2
      · exact absurd r (pool_nimm h3 z2)
  · obtain ⟨os, hs, nd, hf⟩ := S.slots
    refine ⟨os, hs.keep gr.s (g.keepS S hs), nd, fun p hp => ?_⟩
    obtain ⟨_, o, a3, nr⟩ := hs.own_at p hp
    cases z : F' p with
    | none => rfl
    | some o2 =>
      rcases gr.n p o2 z with z2 | z2 | ⟨z2, r⟩
      · rw [hf p hp] at z2; cases z2
      · rw [a3] at z2; cases z2
      · rw [a3] at z2; cases z2; exact absurd r nr
theorem gua_refl {pl : Option (Addr × Addr)} {H : Hp} (h : ∀ P s, pl = some (P, s) → PoolS H P s) : Gua pl [] H H := ⟨fun _ _ z _ => z, h, nofun⟩
theorem Stt.gself (S : Stt X c F ρ σ H) : Gua c.pl [] H H := gua_refl fun P s e => (S.p0 P s e).2.2
/-- more in the heap -/
theorem Stt.same (S : Stt X c F ρ σ H) (g : Same H H') : Stt X c F ρ σ H' := S.called (S.gself.same g) .refl (fun a o h => g a o (S.sub a o h))
theorem Stt.fnone (S : Stt X c F ρ σ H) {p : Addr} (h : H p = none) : F p = none := by
  cases z : F p with
  | none => rfl
  | some o2 => rw [S.sub p o2 z] at h; cases h
theorem Stt.h0 (S : Stt X c F ρ σ H) {p : Addr} (h : H p = none) : c.H0 p = none := S.gua.back S.m0 h
/-- a new object, frozen at once -/
theorem Stt.new (S : Stt X c F ρ σ H) {p : Addr} {o : HO} (h : H p = none) : Stt X c (upd F p o) ρ σ (upd H p o) ∧ Same F (upd F p o) := by
  have sm : Same F (upd F p o) := same_new (S.fnone h)
  refine ⟨S.called (S.gself.same (same_new h)) ⟨sm, fun a o2 e => ?_⟩ (fun a o2 e => ?_), sm⟩
  · by_cases z : a = p
    · subst z; exact .inr (.inl h)
    · rw [upd_ne z] at e; exact .inl e
  · by_cases z : a = p
    · subst z; rw [upd_same] at e ⊢; exact e
    · rw [upd_ne z] at e ⊢; exact S.sub a o2 e
theorem Stt.get (S : Stt X c F ρ σ H) {i : Nat} {x : PV} (e : ρ[i]? = some (some (.val x))) : ∃ v, σ[i]? = some (some v) ∧ Rep ⟨X.K, c.pl⟩ F x v := let ⟨_, hs, _⟩ := S.slots; hs.get e
/-- a slot gets something that is no one's own -/
theorem Stt.put0 (S : Stt X c F ρ σ H) {o : Option SV} {v : Option V} (r : Slot1 ⟨X.K, c.pl⟩ F H c.H0 c.mu c.ex o v []) (i : Nat) : Stt X c F (ρ.set i o) (σ.set i v) H := by
  obtain ⟨os, hs, nd, hf⟩ := S.slots
  cases e : ρ[i]? with
  | none =>
    have l : ρ.length ≤ i := by simpa using e
    rw [List.set_eq_of_length_le l, List.set_eq_of_length_le (by rw [← S.len]; exact l)]
    exact S
  | some o2 =>
    obtain ⟨_, q1, q2, q3, _, rfl, _, h2⟩ := hs.split e
    refine ⟨S.sub, S.gr, S.gua, S.p0, S.p1, S.m0, _, h2 (fun _ _ z => z) (fun _ _ => rfl) r, ?_, fun a m => hf a ?_⟩
    · rw [List.nil_append]
      rw [List.nodup_append] at nd ⊢
      obtain ⟨n1, n2, n3⟩ := nd
      rw [List.nodup_append] at n2
      exact ⟨n1, n2.2.1, fun a ha b hb => n3 a ha b (List.mem_append_right _ hb)⟩
    · rw [List.nil_append] at m
      rcases List.mem_append.mp m with m | m
      · exact List.mem_append_left _ m
      · exact List.mem_append_right _ (List.mem_append_right _ m)
theorem Stt.set (S : Stt X c F ρ σ H) {x : PV} {v : V} (r : Rep ⟨X.K, c.pl⟩ F x v) (i : Nat) : Stt X c F (ρ.set i (some (.val x))) (σ.set i (some v)) H := S.put0 (.val r .nil) i
theorem Stt.wipe1 (S : Stt X c F ρ σ H) (u : Option V) (i : Nat) : Stt X c F (ρ.set i none) (σ.set i u) H := S.put0 (.free .nil) i
end
end Pu

/-! PB: codes, what they mean over values without a heap, and which syntax they stand for. -/
namespace Pu
open PySem PySem.Spec PyProof.Rows L2 Ni
/-- a promise over values; fresh: what it gives is new, or never changed -/
structure PSpec where
  fresh : Bool := false
  run : List PV → (PV → Prop) → (Exc → Prop) → Prop
  mono : ∀ {xs : List PV} {Q Q' : PV → Prop} {E E' : Exc → Prop}, (∀ x, Q x → Q' x) → (∀ e, E e → E' e) → run xs Q E → run xs Q' E'
inductive OpK where
  | bin (op : Operator) | ipl (op : Operator) | cmp (op : CmpOp) | neg | bi (b : Bi) | ix | fld (c : Cl) (j : Nat) | sti
/-- a form of expressions: its parts, which are evaluated in turn, and what is done with them -/
structure Frm where
  m : Scope → Expr → Option (List Expr)
  R : Cx → List V → L2.St → Hp → VK → Prop
  imp : ∀ {X : Cx} {vs : List V} {σ : L2.St} {H : Hp} {Q Q' : VK}, (∀ v H', Q v H' → Q' v H') → R X vs σ H Q → R X vs σ H Q'
inductive GK where
  | glo (x : Str) | met (c : Cl) (m : Str) | sta (c : Cl) (m : Str) | frm (f : Frm)
inductive MK where
  | met (c : Cl) (m : Str) | set (c : Cl) | iop (c : Cl) (op : Operator) | prp (c : Cl) (m : Str) | ini (c : Cl)
/-- a promise of what changes its first argument: the fields ahead, the others; the value and the fields behind -/
structure MSpec where
  run : Cl → List FV → List PV → (PV → List FV → Prop) → (Exc → List FV → Prop) → Prop
  mono : ∀ {c : Cl} {fs : List FV} {xs : List PV} {Q Q' : PV → List FV → Prop} {E E' : Exc → List FV → Prop}, (∀ x gs, Q x gs → Q' x gs) → (∀ e gs, E e gs → E' e gs) → run c fs xs Q E → run c fs xs Q' E'
structure Lang where
  G : List (GK × PSpec)
  op : OpK → PSpec
  M : List (MK × MSpec) := []
  X : List (Cl × Cl) := []
  I : List (Cl × Cl) := []
  S : List (Cl × Nat) := []
  T : List (Cl × Nat) := []
mutual
inductive CE where
  | var (i : Nat) | int (n : Int) | bl (b : Bool) | non | str (s : Str) | ty (n : Bi) | cls (c : Cl)
  | tup (es : CEs) | fr (o : CO)
  | bin (op : Operator) (a b : CE) | neg (a : CE) | inot (a : CE)
  | cmp (op : CmpOp) (a b : CE) | cmp2 (o1 o2 : CmpOp) (a b c : CE)
  | and (es : CEs) | or (es : CEs) | ite (c a b : CE)
  | call (i : Nat) (es : CEs) | meth (i : Nat) (a : CE) (es : CEs) | bi (b : Bi) (es : CEs)
  | fld (c : Cl) (j : Nat) (a : CE) | ix (a b : CE) | ixo (i : Nat) (b : CE) | leno (i : Nat)
  | snap (e : CE) | snapF (e : CE) | isX (i : Nat) (c : Cl) | sta (i : Nat) (es : CEs) | ext (i : Nat) (es : CEs)
inductive CEs where
  | nil | cons (e : CE) (es : CEs)
inductive CO where
  | lst (es : CEs) | comp (t : Tgt) (it : CIt) (cs : CEs) (e : CE) (own : List (Str × Nat)) | ofL (a : CE) | ofT (a : CE) | cat (a b : CE) | rep (a b : CE) | sl (a lo hi : CE) | snapO (o : CO)
inductive CIt where
  | seqV (i : Nat) | seqL (a : CE) | seqT (a : CE) | range (a : CE) | range2 (a b : CE) | zip (a b : CE) | enum (a : CE)
inductive Tgt where
  | nm (i : Nat) | tup (ts : Tgts)
inductive Tgts where
  | nil | cons (t : Tgt) (ts : Tgts)
end
mutual
inductive CS where
  | asg (t : Tgt) (e : CE) | own (i : Nat) (o : CO) | frz (i : Nat) | seto (i : Nat) (k v : CE) | app (i : Nat) (e : CE) | setf (i : Nat) (c : Cl) (j : Nat) (e : CE) | setfO (i : Nat) (c : Cl) (j : Nat) (o : CO)
  | ownE (i : Nat) (e : CE) | retI (e : CE) | retO (i : Nat) | seti (i : Nat) (c : Cl) (j : Nat) (k v : CE)
  | ownC (i : Nat) (o : CO) | par (i j : Nat) (a b : CE) | aug (i : Nat) (op : Operator) (e : CE)
  | ret (e : CE) | retN | pass | brk | cont | doc | expr (e : CE)
  | ite (c : CE) (a b : CSs) | for_ (t : Tgt) (it : CIt) (b : CSs) | while_ (c : CE) (b : CSs)
  | raise_ (c : Cl) | raiseE (c : Cl) (e : CE) | tryX (b : CSs) (c : Cl) (i : Nat) (h : CSs)
  | mut (t : Option Nat) (i m : Nat) (es : CEs) | setv (i : Nat) (k v : CE) | muts (i m : Nat) (k v : CE) | muti (i m : Nat) (op : Operator) (e : CE) | retM | never | forO (t g : Nat) (es : CEs) (b : CSs)
inductive CSs where
  | nil | cons (s : CS) (b : CSs)
end

/-! ### what codes mean -/
def nth {α : Type} : List α → Nat → Option α
  | [], _ => none
  | x :: _, 0 => some x
  | _ :: xs, n + 1 => nth xs n
theorem nth_eq {α : Type} : ∀ (l : List α) (n : Nat), nth l n = l[n]?
  | [], _ => by simp [nth]
  | _ :: _, 0 => by simp [nth]
  | _ :: xs, n + 1 => by simp [nth, nth_eq xs n]
def put {α : Type} (v : α) : List α → Nat → List α
  | [], _ => []
  | _ :: xs, 0 => v :: xs
  | x :: xs, n + 1 => x :: put v xs n
theorem put_eq {α : Type} (v : α) : ∀ (l : List α) (n : Nat), put v l n = l.set n v
  | [], _ => by simp [put]
  | _ :: _, 0 => by simp [put]
  | _ :: xs, n + 1 => by simp [put, put_eq v xs n]
abbrev KE := Exc → Prop
def getV (ρ : Env) (i : Nat) (Q : PV → Prop) : Prop := match nth ρ i with
  | some (some (.val x)) => Q x
  | _ => False
def getO (ρ : Env) (i : Nat) (Q : List PV → Prop) : Prop := match nth ρ i with
  | some (some (.own xs)) => Q xs
  | _ => False
def asB (x : PV) (Q : Bool → Prop) : Prop := match x with
  | .bl b => Q b
  | _ => False
def asI (x : PV) (Q : Int → Prop) : Prop := match x with
  | .int n => Q n
  | _ => False
def asL (x : PV) (Q : List PV → Prop) : Prop := match x with
  | .lst xs => Q xs
  | _ => False
def asT (x : PV) (Q : List PV → Prop) : Prop := match x with
  | .tup xs => Q xs
  | _ => False
def asS (x : PV) (Q : List PV → Prop) : Prop := match x with
  | .lst xs => Q xs
  | .tup xs => Q xs
  | _ => False
def ifT (a b : Bool) : Bool := match a with
  | true => b
  | false => false
/-- the list of a class whose __iter__ is iter(self.list) -/
def lookT : List (Cl × Nat) → Cl → Option Nat
  | [], _ => none
  | q :: l, c => match decide (q.1 = c) with
    | true => some q.2
    | false => lookT l c
def asSeq (T : List (Cl × Nat)) (x : PV) (Q : List PV → Prop) : Prop := match x with
  | .lst xs => Q xs
  | .tup xs => Q xs
  | .obj c fs => (match lookT T c with
    | some j => (match nth fs j with
      | some (.lst xs) => Q xs
      | _ => False)
    | none => False)
  | _ => False
/-- a test -/
def ifB (b : Bool) (A B : Prop) : Prop := match b with
  | true => A
  | false => B
abbrev Lang.of (G : List (GK × PSpec)) (op : OpK → PSpec) : Lang := { G := G, op := op }
mutual
/-- what is never changed, and nothing in it -/
def immP : PV → Bool
  | .lst _ => false
  | .obj _ _ => false
  | .pool => false
  | .tup xs => immPs xs
  | _ => true
def immPs : List PV → Bool
  | [] => true
  | x :: xs => ifT (immP x) (immPs xs)
end
/-- a field that can be given away -/
def freshFV : FV → Bool
  | .fr x => immP x
  | .nw _ => true
  | .ow xs => immPs xs
def freshFVs : List FV → Bool
  | [] => true
  | f :: fs => ifT (freshFV f) (freshFVs fs)
/-- all slots as values -/
def snapV : Option SV → Option SV
  | some (.own xs) => some (.val (.lst xs))
  | some (.obj _ c fs) => some (.val (.obj c (fs.map FV.pv)))
  | some (.val x) => some (.val x)
  | some (.exc e) => some (.exc e)
  | some (.ali p) => some (.ali p)
  | none => none
def snapE : Env → Env
  | [] => []
  | o :: ρ => snapV o :: snapE ρ
/-- the fields of a new instance that becomes one's own: at most one list -/
def thawFs : Bool → List PV → Option (List FV)
  | _, [] => some []
  | u, .lst ys :: xs => match u with
    | true => none
    | false => (match immPs ys with
      | true => (match thawFs true xs with
        | some fs => some (.ow ys :: fs)
        | none => none)
      | false => none)
  | u, x :: xs => match immP x with
    | true => (match thawFs u xs with
      | some fs => some (.fr x :: fs)
      | none => none)
    | false => none
/-- a new value becomes one's own -/
def thaw : PV → Option SV
  | .lst xs => match immPs xs with
    | true => some (.own xs)
    | false => none
  | .obj c xs => match thawFs false xs with
    | some fs => some (.obj .own c fs)
    | none => none
  | _ => none
def PSpec.never : PSpec := ⟨true, fun _ _ _ => False, fun _ _ h => h⟩
def MSpec.never : MSpec := ⟨fun _ _ _ _ _ => False, fun _ _ h => h⟩
/-- what may be said while an error is handled -/
def Lang.hot (L : Lang) : Lang := { G := L.G.map fun q => (q.1, .never), op := fun _ => .never, I := L.I, M := L.M.map fun q => (q.1, .never) }
def optS (o : Option SV) (Q : SV → Prop) : Prop := match o with
  | some x => Q x
  | none => False
/-- no error is held any more -/
def noX : Env → Env
  | [] => []
  | some (.exc _) :: ρ => none :: noX ρ
  | o :: ρ => o :: noX ρ
def frG (L : Lang) (i : Nat) : Bool := match nth L.G i with
  | some p => p.2.fresh
  | none => false
mutual
/-- what gives something new, or something that is never changed -/
def frE (L : Lang) : CE → Bool
  | .int _ => true
  | .bl _ => true
  | .non => true
  | .str _ => true
  | .call i _ => frG L i
  | .meth i _ _ => frG L i
  | .bin op _ _ => (L.op (.bin op)).fresh
  | .cmp op _ _ => (L.op (.cmp op)).fresh
  | .neg _ => (L.op .neg).fresh
  | .bi b _ => (L.op (.bi b)).fresh
  | .tup es => frEs L es
  | .snap _ => true
  | .snapF _ => true
  | .isX _ _ => true
  | .sta i _ => frG L i
  | .ext i _ => frG L i
  | _ => false
def frEs (L : Lang) : CEs → Bool
  | .nil => true
  | .cons e es => ifT (frE L e) (frEs L es)
end
def retFr (L : Lang) : CS → Bool
  | .ret e => frE L e
  | _ => true
mutual
/-- all that is returned is new, or never changed -/
def retsF (L : Lang) : CS → Bool
  | .ret e => frE L e
  | .ite _ a b => ifT (retsB L a) (retsB L b)
  | .for_ _ _ b => retsB L b
  | .while_ _ b => retsB L b
  | .forO _ _ _ b => retsB L b
  | .tryX b _ _ h => ifT (retsB L b) (retsB L.hot h)
  | _ => true
def retsB (L : Lang) : CSs → Bool
  | .nil => true
  | .cons s b => ifT (retsF L s) (retsB L b)
end
def subE : Cl → Cl → Bool
  | _, .neverIdle => true
  | c, d => decide (c = d)
def pairIn : List (Cl × Cl) → Cl → Cl → Bool
  | [], _, _ => false
  | q :: l, a, b => match ifT (decide (q.1 = a)) (decide (q.2 = b)) with
    | true => true
    | false => pairIn l a b
def isNil : List PV → Bool
  | [] => true
  | _ :: _ => false
def getX (ρ : Env) (i : Nat) (Q : Exc → Prop) : Prop := match nth ρ i with
  | some (some (.exc e)) => Q e
  | _ => False
def excs : List Cl := [.neverIdle, .badNumber, .zeroBottom, .badValue, .badLength, .badKind, .badHeaps, .badPiece, .badText, .badNet, .overfull, .notCalm]
def callG (L : Lang) (i : Nat) (xs : List PV) (Q : PV → Prop) (E : KE) : Prop := match nth L.G i with
  | some p => p.2.run xs Q E
  | none => False
def isCl (c : Cl) (x : PV) (Q : Prop) : Prop := match x with
  | .obj d _ => if d = c then Q else False
  | .rat _ => if c = .ratio then Q else False
  | _ => False
/-- the length of a list stays small -/
def SmallL (n : Nat) : Prop := n ≤ 100000
def tlen : Tgts → Nat
  | .nil => 0
  | .cons _ ts => tlen ts + 1
mutual
def bindT : Tgt → PV → Env → (Env → Prop) → Prop
  | .nm i, x, ρ, Q => Q (put (some (.val x)) ρ i)
  | .tup ts, x, ρ, Q => asT x fun xs => ifB (Nat.beq (tlen ts) xs.length) (bindTs ts xs ρ Q) False
def bindTs : Tgts → List PV → Env → (Env → Prop) → Prop
  | .nil, xs, ρ, Q => match xs with
    | [] => Q ρ
    | _ :: _ => False
  | .cons t ts, xs, ρ, Q => match xs with
    | [] => False
    | x :: xs => bindT t x ρ fun ρ => bindTs ts xs ρ Q
end
def wipes (ρ : Env) : List (Str × Nat) → Env
  | [] => ρ
  | v :: vs => put none (wipes ρ vs) v.2
def zipP : List PV → List PV → List PV
  | x :: xs, y :: ys => .tup [x, y] :: zipP xs ys
  | _, _ => []
def enumP (n : Nat) : List PV → List PV
  | [] => []
  | x :: xs => .tup [.int n, x] :: enumP (n + 1) xs
def rangeP (lo : Int) : Nat → List PV
  | 0 => []
  | n + 1 => .int lo :: rangeP (lo + 1) n
def denComp (step : PV → (Option PV → Prop) → Prop) : List PV → List PV → (List PV → Prop) → Prop
  | [], acc, Q => Q acc
  | x :: xs, acc, Q => step x fun y => match y with
    | some y => denComp step xs (acc ++ [y]) Q
    | none => denComp step xs acc Q
def FarI (n : Int) : Prop := -(2 ^ 62) ≤ n ∧ n < 2 ^ 62
def cutP (xs : List PV) (lo hi : Option Int) : List PV := (xs.drop (HT.sIx xs.length 0 lo)).take (HT.sIx xs.length xs.length hi - HT.sIx xs.length 0 lo)
def isNon : CE → Bool
  | .non => true
  | _ => false
def optP (o : Option PV) (Q : PV → Prop) : Prop := match o with
  | some x => Q x
  | none => False
def atP (xs : List PV) (n : Int) (Q : PV → Prop) : Prop := match n with
  | .ofNat k => optP (nth xs k) Q
  | .negSucc k => ifB (Nat.ble (k + 1) xs.length) (optP (nth xs (xs.length - (k + 1))) Q) False
mutual
def denE (L : Lang) : CE → Env → (PV → Prop) → KE → Prop
  | .var i, ρ, Q, _ => getV ρ i Q
  | .int n, _, Q, _ => Q (.int n)
  | .bl b, _, Q, _ => Q (.bl b)
  | .non, _, Q, _ => Q .non
  | .str s, _, Q, _ => Q (.str s)
  | .ty b, _, Q, _ => Q (.ty b)
  | .cls c, _, Q, _ => Q (.cls c)
  | .tup es, ρ, Q, E => denEs L es ρ (fun xs => Q (.tup xs)) E
  | .fr o, ρ, Q, E => denO L o ρ (fun xs => Q (.lst xs)) E
  | .bin op a b, ρ, Q, E => denE L a ρ (fun x => denE L b ρ (fun y => (L.op (.bin op)).run [x, y] Q E) E) E
  | .neg a, ρ, Q, E => denE L a ρ (fun x => (L.op .neg).run [x] Q E) E
  | .inot a, ρ, Q, E => denE L a ρ (fun x => asB x fun b => Q (.bl (!b))) E
  | .cmp op a b, ρ, Q, E => denE L a ρ (fun x => denE L b ρ (fun y => (L.op (.cmp op)).run [x, y] Q E) E) E
  | .cmp2 o1 o2 a b c, ρ, Q, E => denE L a ρ (fun x => denE L b ρ (fun y => (L.op (.cmp o1)).run [x, y] (fun z => asB z fun k => ifB k (denE L c ρ (fun z => (L.op (.cmp o2)).run [y, z] Q E) E) (Q (.bl false))) E) E) E
  | .and es, ρ, Q, E => denAnd L es ρ Q E
  | .or es, ρ, Q, E => denOr L es ρ Q E
  | .ite c a b, ρ, Q, E => denE L c ρ (fun x => asB x fun k => ifB k (denE L a ρ Q E) (denE L b ρ Q E)) E
  | .call i es, ρ, Q, E => denEs L es ρ (fun xs => callG L i xs Q E) E
  | .meth i a es, ρ, Q, E => denE L a ρ (fun x => match nth L.G i with
    | some (.met c _, _) => isCl c x (denEs L es ρ (fun xs => callG L i (x :: xs) Q E) E)
    | _ => False) E
  | .bi b es, ρ, Q, E => denEs L es ρ (fun xs => (L.op (.bi b)).run xs Q E) E
  | .fld c j a, ρ, Q, E => denE L a ρ (fun x => (L.op (.fld c j)).run [x] Q E) E
  | .ix a b, ρ, Q, E => denE L a ρ (fun x => denE L b ρ (fun y => (L.op .ix).run [x, y] Q E) E) E
  | .ixo i b, ρ, Q, E => getO ρ i fun xs => denE L b ρ (fun y => asI y fun n => atP xs n Q) E
  | .leno i, ρ, Q, _ => getO ρ i fun xs => Q (.int xs.length)
  | .snap e, ρ, Q, E => denE L e (snapE ρ) (fun x => ifB (immP x) (Q x) False) fun e => ifB (immPs e.d) (E e) False
  | .snapF e, ρ, Q, E => ifB (frE L e) (denE L e (snapE ρ) Q fun e => ifB (immPs e.d) (E e) False) False
  | .sta i es, ρ, Q, E => denEs L es ρ (fun xs => callG L i xs Q E) E
  | .ext i es, ρ, Q, E => denEs L es ρ (fun xs => callG L i xs Q E) E
  | .isX i c, ρ, Q, _ => getX ρ i fun e => ifB (isNil e.d) (ifB (pairIn L.I e.c c) (Q (.bl (subE e.c c))) False) False
def denEs (L : Lang) : CEs → Env → (List PV → Prop) → KE → Prop
  | .nil, _, Q, _ => Q []
  | .cons e es, ρ, Q, E => denE L e ρ (fun x => denEs L es ρ (fun xs => Q (x :: xs)) E) E
def denAnd (L : Lang) : CEs → Env → (PV → Prop) → KE → Prop
  | .nil, _, _, _ => False
  | .cons e .nil, ρ, Q, E => denE L e ρ Q E
  | .cons e (.cons e2 es), ρ, Q, E => denE L e ρ (fun x => asB x fun k => ifB k (denAnd L (.cons e2 es) ρ Q E) (Q (.bl false))) E
def denOr (L : Lang) : CEs → Env → (PV → Prop) → KE → Prop
  | .nil, _, _, _ => False
  | .cons e .nil, ρ, Q, E => denE L e ρ Q E
  | .cons e (.cons e2 es), ρ, Q, E => denE L e ρ (fun x => asB x fun k => ifB k (Q (.bl true)) (denOr L (.cons e2 es) ρ Q E)) E
def denO (L : Lang) : CO → Env → (List PV → Prop) → KE → Prop
  | .lst es, ρ, Q, E => denEs L es ρ Q E
  | .comp t it cs e own, ρ, Q, E => denIt L it ρ (fun xs => SmallL xs.length ∧ denComp (fun x K => bindT t x (wipes ρ own) fun ρ2 => denConds L cs ρ2 (fun b => ifB b (denE L e ρ2 (fun y => K (some y)) fun _ => False) (K none))) xs [] Q) E
  | .ofL a, ρ, Q, E => denE L a ρ (fun x => asL x Q) E
  | .ofT a, ρ, Q, E => denE L a ρ (fun x => asT x Q) E
  | .cat a b, ρ, Q, E => denE L a ρ (fun x => denE L b ρ (fun y => asL x fun xs => asL y fun ys => SmallL (xs.length + ys.length) ∧ Q (xs ++ ys)) E) E
  | .snapO o, ρ, Q, E => denO L o (snapE ρ) (fun xs => ifB (immPs xs) (Q xs) False) fun e => ifB (immPs e.d) (E e) False
  | .rep a b, ρ, Q, E => denE L a ρ (fun x => denE L b ρ (fun y => asL x fun xs => asI y fun n => 0 ≤ n ∧ n ≤ 100000 ∧ SmallL (xs.length * n.toNat) ∧ Q ((List.replicate n.toNat xs).flatten)) E) E
  | .sl a lo hi, ρ, Q, E => denE L a ρ (fun x => asL x fun xs => (fun K => ifB (isNon lo) (K none) (denE L lo ρ (fun x => asI x fun n => K (some n)) E)) fun l => (fun K => ifB (isNon hi) (K none) (denE L hi ρ (fun x => asI x fun n => K (some n)) E)) fun h => Q (cutP xs l h)) E
def denConds (L : Lang) : CEs → Env → (Bool → Prop) → Prop
  | .nil, _, Q => Q true
  | .cons e .nil, ρ, Q => denE L e ρ (fun x => asB x Q) fun _ => False
  | .cons _ (.cons _ _), _, _ => False
def denIt (L : Lang) : CIt → Env → (List PV → Prop) → KE → Prop
  | .seqV i, ρ, Q, _ => getV ρ i fun x => asSeq L.T x Q
  | .seqL a, ρ, Q, E => denE L a ρ (fun x => asL x Q) E
  | .seqT a, ρ, Q, E => denE L a ρ (fun x => asT x Q) E
  | .range a, ρ, Q, E => denE L a ρ (fun x => asI x fun n => FarI n ∧ Q (rangeP 0 n.toNat)) E
  | .range2 a b, ρ, Q, E => denE L a ρ (fun x => denE L b ρ (fun y => asI x fun n => asI y fun m => FarI n ∧ FarI m ∧ Q (rangeP n (m - n).toNat)) E) E
  | .zip a b, ρ, Q, E => denE L a ρ (fun x => denE L b ρ (fun y => asL x fun xs => asL y fun ys => Q (zipP xs ys)) E) E
  | .enum a, ρ, Q, E => denE L a ρ (fun x => asL x fun xs => Q (enumP 0 xs)) E
end
structure PEnds where
  nx : Env → Prop
  rt : PV → Env → Prop
  bk : Env → Prop := fun _ => False
  ct : Env → Prop := fun _ => False
  ex : Exc → Env → Prop
  rs : Env → Prop := fun _ => False
def denFor (step : PV → Env → (Env → Prop) → Prop) : List PV → Env → (Env → Prop) → Prop
  | [], ρ, K => K ρ
  | x :: xs, ρ, K => step x ρ fun ρ => denFor step xs ρ K
def frzV (ρ : Env) (i : Nat) (Q : Env → Prop) : Prop := match nth ρ i with
  | some (some (.own xs)) => Q (put (some (.val (.lst xs))) ρ i)
  | some (some (.obj m c fs)) => ifB m.lentB False (Q (put (some (.val (.obj c (fs.map FV.pv)))) ρ i))
  | _ => False
def attrIn : List (Cl × Nat) → Cl → Nat → Bool
  | [], _, _ => false
  | q :: l, c, j => match ifT (decide (q.1 = c)) (Nat.beq q.2 j) with
    | true => true
    | false => attrIn l c j
def setF (L : Lang) (ρ : Env) (i : Nat) (c : Cl) (j : Nat) (x : FV) (Q : Env → Prop) : Prop := match nth ρ i with
  | some (some (.obj m d fs)) => ifB (ifT (decide (d.fs[j]? = c.fs[j]?)) (attrIn L.S d j)) (ifB (Nat.beq j fs.length) (Q (put (some (.obj m d (fs ++ [x]))) ρ i)) (ifB (Nat.blt j fs.length) (Q (put (some (.obj m d (put x fs j))) ρ i)) False)) False
  | _ => False
def getM (ρ : Env) (i : Nat) (Q : Md → Cl → List FV → Prop) : Prop := match nth ρ i with
  | some (some (.obj m c fs)) => Q m c fs
  | _ => False
def getFO (fs : List FV) (j : Nat) (Q : List PV → Prop) : Prop := match nth fs j with
  | some (.ow xs) => Q xs
  | _ => False
def fvOf (b : Bool) (x : PV) : FV := match b with
  | true => .nw x
  | false => .fr x
def retS (ρ : Env) (i : Nat) (Q : PV → Prop) : Prop := match nth ρ i with
  | some (some (.own xs)) => ifB (immPs xs) (Q (.lst xs)) False
  | some (some (.obj m c fs)) => ifB m.lentB False (ifB (freshFVs fs) (Q (.obj c (fs.map FV.pv))) False)
  | _ => False
def hldS : SV → Addr → Option SV
  | .obj .own c fs, p => some (.obj (.held p) c fs)
  | _, _ => none
/-- new things, evaluated in turn, each held in a slot of its own -/
def denEO (L : Lang) : CEs → Nat → Env → (List Addr → Env → Prop) → (Exc → Env → Prop) → Prop
  | .nil, _, ρ, Q, _ => Q [] ρ
  | .cons e es, g, ρ, Q, E => ifB (frE L e) (denE L e ρ (fun x => optS (thaw x) fun sv => ifB (Nat.blt g ρ.length) (∀ p : Addr, optS (hldS sv p) fun sv => denEO L es (g + 1) (put (some sv) ρ g) (fun ps ρ => Q (p :: ps) ρ) E) False) fun e => E e ρ) False
/-- what one slot holds of one's own goes to another -/
def moveV (ρ : Env) (g t : Nat) (p : Addr) (Q : Env → Prop) : Prop := match nth ρ g with
  | some (some (.obj (.held a) c fs)) => a = p ∧ ifB (Nat.blt t ρ.length) (Q (put (some (.obj .own c fs)) (put none ρ g) t)) False
  | _ => False
def denGo (step : Env → (Env → Prop) → Prop) (t : Nat) : List Addr → Nat → Env → (Env → Prop) → Prop
  | [], _, ρ, K => K ρ
  | p :: ps, g, ρ, K => moveV ρ g t p fun ρ => step ρ fun ρ => denGo step t ps (g + 1) ρ K
def wipeN : Nat → Nat → Env → Env
  | 0, _, ρ => ρ
  | n + 1, g, ρ => wipeN n (g + 1) (put none ρ g)
/-- what the callee is told of a field -/
def lowF : FV → FV
  | .fr x => .fr x
  | .nw x => .fr x
  | .ow xs => .ow xs
def lowFs : List FV → List FV
  | [] => []
  | f :: fs => lowF f :: lowFs fs
def putT (t : Option Nat) (y : PV) (ρ : Env) : Env := match t with
  | some k => put (some (.val y)) ρ k
  | none => ρ
def mkC : MK → Cl
  | .met c _ => c
  | .set c => c
  | .iop c _ => c
  | .prp c _ => c
  | .ini c => c
def callM (L : Lang) (m : Nat) (c : Cl) (fs : List FV) (xs : List PV) (Q : PV → List FV → Prop) (E : Exc → List FV → Prop) : Prop := match nth L.M m with
  | some p => ifB (decide (mkC p.1 = c)) (p.2.run c fs xs Q E) False
  | none => False
def clM (L : Lang) (m : Nat) (c : Cl) (Q : Prop) : Prop := match nth L.M m with
  | some p => ifB (decide (mkC p.1 = c)) Q False
  | none => False
def setP (xs : List PV) (n : Int) (x : PV) (Q : List PV → Prop) : Prop := match n with
  | .ofNat k => ifB (Nat.blt k xs.length) (Q (put x xs k)) False
  | .negSucc _ => False
mutual
def denS (L : Lang) : CS → Env → PEnds → Prop
  | .asg t e, ρ, D => denE L e ρ (fun x => bindT t x ρ D.nx) fun e => D.ex e ρ
  | .own i o, ρ, D => denO L o ρ (fun xs => ifB (Nat.blt i ρ.length) (D.nx (put (some (.own xs)) ρ i)) False) fun e => D.ex e ρ
  | .ownC i o, ρ, D => denO L o ρ (fun xs => ifB (Nat.blt i ρ.length) (D.nx (put (some (.own xs)) ρ i)) False) fun e => D.ex e ρ
  | .frz i, ρ, D => frzV ρ i D.nx
  | .seto i k v, ρ, D => getO ρ i fun xs => denE L v ρ (fun x => denE L k ρ (fun y => asI y fun n => setP xs n x fun ys => D.nx (put (some (.own ys)) ρ i)) fun e => D.ex e ρ) fun e => D.ex e ρ
  | .app i e, ρ, D => getO ρ i fun xs => denE L e ρ (fun x => SmallL (xs.length + 1) ∧ D.nx (put (some (.own (xs ++ [x]))) ρ i)) fun e => D.ex e ρ
  | .setf i c j e, ρ, D => denE L e ρ (fun x => setF L ρ i c j (fvOf (frE L e) x) D.nx) fun e => D.ex e ρ
  | .setfO i c j o, ρ, D => denO L o ρ (fun xs => setF L ρ i c j (.ow xs) D.nx) fun e => D.ex e ρ
  | .ownE i e, ρ, D => ifB (frE L e) (denE L e ρ (fun x => optS (thaw x) fun sv => ifB (Nat.blt i ρ.length) (D.nx (put (some sv) ρ i)) False) fun e => D.ex e ρ) False
  | .retI e, ρ, D => denE L e ρ (fun x => ifB (immP x) (D.rt x ρ) False) fun e => D.ex e ρ
  | .retO i, ρ, D => retS ρ i fun x => D.rt x (put (some (.val x)) ρ i)
  | .seti i c j k v, ρ, D => getM ρ i fun m d fs => ifB (ifT (decide (d = c)) (attrIn L.S c j)) (getFO fs j fun xs => denE L v ρ (fun x => denE L k ρ (fun y => asI y fun n => setP xs n x fun ys => D.nx (put (some (.obj m d (put (.ow ys) (lowFs fs) j))) ρ i)) fun e => D.ex e ρ) fun e => D.ex e ρ) False
  | .mut t i m es, ρ, D => getM ρ i fun b c fs => clM L m c <| denEs L es ρ (fun xs => callM L m c (lowFs fs) xs (fun y gs => ifB (immP y) (D.nx (putT t y (put (some (.obj b c gs)) ρ i))) False) fun e gs => D.ex e (put (some (.obj b c gs)) ρ i)) fun e => D.ex e ρ
  | .par i j a b, ρ, D => denE L a ρ (fun x => denE L b ρ (fun y => D.nx (put (some (.val y)) (put (some (.val x)) ρ i) j)) fun e => D.ex e ρ) fun e => D.ex e ρ
  | .aug i op e, ρ, D => getV ρ i fun x => denE L e ρ (fun y => (L.op (.ipl op)).run [x, y] (fun z => D.nx (put (some (.val z)) ρ i)) fun e => D.ex e ρ) fun e => D.ex e ρ
  | .setv i k v, ρ, D => getV ρ i fun x => denE L v ρ (fun z => denE L k ρ (fun y => (L.op .sti).run [x, y, z] (fun _ => D.nx ρ) fun e => D.ex e ρ) fun e => D.ex e ρ) fun e => D.ex e ρ
  | .muts i m k v, ρ, D => getM ρ i fun b c fs => denE L v ρ (fun z => denE L k ρ (fun y => callM L m c (lowFs fs) [y, z] (fun _ gs => D.nx (put (some (.obj b c gs)) ρ i)) fun e gs => D.ex e (put (some (.obj b c gs)) ρ i)) fun e => D.ex e ρ) fun e => D.ex e ρ
  | .muti i m _ e, ρ, D => getM ρ i fun b c fs => denE L e ρ (fun y => callM L m c (lowFs fs) [y] (fun _ gs => D.nx (put (some (.obj b c gs)) ρ i)) fun e gs => D.ex e (put (some (.obj b c gs)) ρ i)) fun e => D.ex e ρ
  | .retM, ρ, D => getM ρ 0 fun b _ _ => ifB b.lentB (D.rs ρ) False
  | .never, _, _ => False
  | .forO t g es b, ρ, D => denEO L es g ρ (fun ps ρ => denGo (fun ρ K => denB L b ρ { D with nx := K, ct := K, bk := fun _ => False }) t ps g ρ fun ρ => D.nx (wipeN ps.length g ρ)) D.ex
  | .ret e, ρ, D => denE L e ρ (fun x => D.rt x ρ) fun e => D.ex e ρ
  | .retN, ρ, D => D.rt .non ρ
  | .pass, ρ, D => D.nx ρ
  | .brk, ρ, D => D.bk ρ
  | .cont, ρ, D => D.ct ρ
  | .doc, ρ, D => D.nx ρ
  | .expr e, ρ, D => denE L e ρ (fun _ => D.nx ρ) fun e => D.ex e ρ
  | .ite c a b, ρ, D => denE L c ρ (fun x => asB x fun k => ifB k (denB L a ρ D) (denB L b ρ D)) fun e => D.ex e ρ
  | .for_ t it b, ρ, D => denIt L it ρ (fun xs => denFor (fun x ρ K => bindT t x ρ fun ρ => denB L b ρ { D with nx := K, ct := K, bk := D.nx }) xs ρ D.nx) fun e => D.ex e ρ
  | .while_ c b, ρ, D => ∃ (W : Nat → Env → Prop), (∃ m, W m ρ) ∧ ∀ m ρ, W m ρ → denE L c ρ (fun x => asB x fun k => ifB k (denB L b ρ { D with nx := fun ρ => ∃ m', m' < m ∧ W m' ρ, ct := fun ρ => ∃ m', m' < m ∧ W m' ρ, bk := D.nx }) (D.nx ρ)) fun e => D.ex e ρ
  | .raise_ c, ρ, D => D.ex ⟨c, []⟩ ρ
  | .raiseE c e, ρ, D => denE L e ρ (fun x => D.ex ⟨c, [x]⟩ ρ) fun e => D.ex e ρ
  | .tryX b c i h, ρ, D => denB L b ρ { D with ex := fun e ρ' => ifB (pairIn L.X e.c c) (ifB (subE e.c c) (denB L.hot h (put (some (.exc e)) ρ' i) { nx := fun ρ => D.nx (put none (noX ρ) i), rt := fun x ρ => D.rt x (noX ρ), rs := fun ρ => D.rs (noX ρ), bk := fun ρ => D.bk (put none (noX ρ) i), ct := fun ρ => D.ct (put none (noX ρ) i), ex := fun _ _ => False }) (D.ex e ρ')) False }
def denB (L : Lang) : CSs → Env → PEnds → Prop
  | .nil, ρ, D => D.nx ρ
  | .cons s b, ρ, D => denS L s ρ { D with nx := fun ρ => denB L b ρ D }
end
end Pu

/-! PC: which syntax a code stands for; what is asked of a context. -/
namespace Pu
open PySem PySem.Spec PyProof.Rows L2 Ni
def relS (sc scope : Scope) : Scope := { scope with names := scope.names.map fun (n, k) => if (k == NameKind.free && sc.kind == .function && sc.names.lookup n == some .cell) then (n, NameKind.cell) else (n, k) }
def locB (all : Bool) (sc : Scope) (x : Str) : Bool := match sc.names.lookup x with
  | some .local => true
  | some .cell => all
  | _ => false
def gloB (sc : Scope) (x : Str) : Bool := decide (sc.names.lookup x = some .globalImplicit) && !(x == ("__debug__" : Str)) && decide (x ≠ "__name__")
def okN (x : Str) : Bool := !(x == ("__debug__" : Str)) && !(x == ("__classdict__" : Str))
def noStar : Expr → Bool
  | .Starred _ _ => false
  | _ => true
def noSet : Expr → Bool
  | .Set _ _ _ => false
  | _ => true
def noComp : Expr → Bool
  | .ListComp _ _ _ _ => false
  | .SetComp _ _ _ _ => false
  | .DictComp _ _ _ _ _ => false
  | _ => true
def plainX : Expr → Bool
  | .UnaryOp .Not _ _ => false
  | .BoolOp _ _ _ => false
  | .IfExp _ _ _ _ => false
  | .Compare _ _ _ _ => false
  | _ => true
def noSup : Expr → Bool
  | .Call (.Name _ _) [] [] _ => false
  | _ => true
def noTup : Expr → Bool
  | .Tuple _ _ _ => false
  | _ => true
/-- a tuple of constants -/
def fldT : Expr → Bool
  | .Tuple vs _ _ => vs.all (foldedForSure 8)
  | _ => false
def noSlice : Expr → Bool
  | .Slice _ _ _ _ => false
  | _ => true
section
variable (N : List Str) (G : List GK) (CL : List Cl) (cm : Bool)
def isGlo (i : Nat) (x : Str) : Bool := match nth G i with
  | some (.glo y) => decide (x = y)
  | _ => false
def isSta (i : Nat) (c m : Str) : Bool := match nth G i with
  | some (.sta d y) => decide (c = d.nm) && decide (m = y)
  | _ => false
def frmAt (i : Nat) : Option Frm := match nth G i with
  | some (.frm f) => some f
  | _ => none
def isMet (i : Nat) (m : Str) : Bool := match nth G i with
  | some (.met _ y) => decide (m = y)
  | _ => false
mutual
def mT (all : Bool) (sc : Scope) : Tgt → Expr → Bool
  | .nm i, e => match e with
    | .Name x _ => decide (N[i]? = some x) && locB all sc x && okN x
    | _ => false
  | .tup ts, e => match e with
    | .Tuple es _ _ => cm && mTs all sc ts es
    | _ => false
def mTs (all : Bool) (sc : Scope) : Tgts → List Expr → Bool
  | .nil, es => match es with
    | [] => true
    | _ => false
  | .cons t ts, es => match es with
    | e :: es => noStar e && mT all sc t e && mTs all sc ts es
    | _ => false
end
mutual
def inT (vs : List Nat) : Tgt → Bool
  | .nm i => decide (i ∈ vs)
  | .tup ts => inTs vs ts
def inTs (vs : List Nat) : Tgts → Bool
  | .nil => true
  | .cons t ts => inT vs t && inTs vs ts
end
def isTup : Expr → Bool
  | .Tuple _ _ _ => true
  | _ => false
mutual
def mE (sc : Scope) : CE → Expr → Bool
  | .var i, e => match e with
    | .Name x _ => decide (N[i]? = some x) && visB sc x && okN x
    | _ => false
  | .int n, e => match e with
    | .Constant (.int m) _ _ => decide (n = m)
    | _ => false
  | .bl b, e => match e with
    | .Constant (.bool c) _ _ => decide (b = c)
    | _ => false
  | .non, e => match e with
    | .Constant .none _ _ => true
    | _ => false
  | .str s, e => match e with
    | .Constant (.str t) _ _ => decide (s = t)
    | _ => false
  | .ty b, e => match e with
    | .Name x _ => decide (x = b.nm) && gloB sc x && (match b with
      | .int => true
      | .bool => true
      | .str => true
      | .tuple => true
      | _ => false)
    | _ => false
  | .cls c, e => match e with
    | .Name x _ => decide (c ∈ CL) && decide (x = c.nm) && gloB sc x
    | _ => false
  | .tup es, e => match e with
    | .Tuple xs _ _ => mEs sc es xs && decide (xs.length ≤ 1000)
    | _ => false
  | .fr o, e => mO sc o e
  | .bin op a b, e => match e with
    | .BinOp x o y _ => decide (op = o) && mE sc a x && mE sc b y
    | _ => false
  | .neg a, e => match e with
    | .UnaryOp .USub x _ => mE sc a x
    | _ => false
  | .inot a, e => match e with
    | .UnaryOp .Not x _ => mE sc a x
    | _ => false
  | .cmp op a b, e => match e with
    | .Compare x [o] [y] _ => decide (op = o) && noSet y && mE sc a x && mE sc b y
    | _ => false
  | .cmp2 o1 o2 a b c, e => match e with
    | .Compare x [p1, p2] [y, z] _ => decide (o1 = p1) && decide (o2 = p2) && noSet y && noSet z && mE sc a x && mE sc b y && mE sc c z
    | _ => false
  | .and es, e => match e with
    | .BoolOp .And xs _ => mEs sc es xs
    | _ => false
  | .or es, e => match e with
    | .BoolOp .Or xs _ => mEs sc es xs
    | _ => false
  | .ite c a b, e => match e with
    | .IfExp t x y _ => mE sc c t && mE sc a x && mE sc b y
    | _ => false
  | .call i es, e => match e with
    | .Call (.Name x _) xs [] _ => isGlo G i x && gloB sc x && mEs sc es xs
    | _ => false
  | .meth i a es, e => match e with
    | .Call (.Attribute o m ap) xs [] p => isMet G i m && noSup o && (ap.endLine == p.line) && decide (xs.length ≤ 20) && mE sc a o && mEs sc es xs
    | _ => false
  | .bi b es, e => match e with
    | .Call (.Name x _) (y :: xs) [] _ => decide (x = b.nm) && gloB sc x && mEs sc es (y :: xs)
    | _ => false
  | .fld c j a, e => match e with
    | .Attribute o f _ => decide (c.fs[j]? = some f) && noSup o && mE sc a o
    | _ => false
  | .ix a b, e => match e with
    | .Subscript x y _ => noSlice y && mE sc a x && mE sc b y
    | _ => false
  | .ixo i b, e => match e with
    | .Subscript (.Name x _) y _ => decide (N[i]? = some x) && visB sc x && okN x && noSlice y && mE sc b y
    | _ => false
  | .snap a, e => mE sc a e
  | .snapF a, e => mE sc a e
  | .sta i es, e => match e with
    | .Call (.Attribute (.Name c _) m ap) xs [] p => isSta G i c m && gloB sc c && (ap.endLine == p.line) && decide (xs.length ≤ 20) && decide (xs ≠ []) && mEs sc es xs
    | _ => false
  | .ext i es, e => match frmAt G i with
    | some f => (match f.m sc e with
      | some xs => plainX e && mEs sc es xs
      | none => false)
    | none => false
  | .isX i c, e => match e with
    | .Call (.Name l _) [.Name x _, .Name k _] [] _ => decide (l = "isinstance") && gloB sc l && decide (N[i]? = some x) && visB sc x && okN x && decide (c ∈ CL) && decide (k = c.nm) && gloB sc k
    | _ => false
  | .leno i, e => match e with
    | .Call (.Name l _) [.Name x _] [] _ => decide (l = "len") && gloB sc l && decide (N[i]? = some x) && visB sc x && okN x
    | _ => false
def mEs (sc : Scope) : CEs → List Expr → Bool
  | .nil, es => match es with
    | [] => true
    | _ => false
  | .cons c cs, es => match es with
    | e :: es => noStar e && mE sc c e && mEs sc cs es
    | _ => false
def mO (sc : Scope) : CO → Expr → Bool
  | .lst es, e => match e with
    | .List xs _ => mEs sc es xs && decide (xs.length ≤ 1000)
    | _ => false
  | .comp t it cs el own, e => match e with
    | .ListComp elt [⟨tg, iter, ifs, a⟩] scope _ => cm && decide (a = 0) && blkC N sc scope own && noSet iter && inT (own.map (·.2)) t && mIt sc it tg iter && mT N cm false (relS sc scope) t tg && mEs (relS sc scope) cs ifs && mE (relS sc scope) el elt
    | _ => false
  | .ofL a, e => match e with
    | .Call (.Name x _) [y] [] _ => decide (x = "list") && gloB sc x && noStar y && mE sc a y
    | _ => false
  | .ofT a, e => match e with
    | .Call (.Name x _) [y] [] _ => decide (x = "list") && gloB sc x && noStar y && mE sc a y
    | _ => false
  | .cat a b, e => match e with
    | .BinOp x .Add y _ => mE sc a x && mE sc b y
    | _ => false
  | .snapO o, e => mO sc o e
  | .rep a b, e => match e with
    | .BinOp x .Mult y _ => mE sc a x && mE sc b y
    | _ => false
  | .sl a lo hi, e => match e with
    | .Subscript x (.Slice l h none _) _ => mE sc a x && (match l with
      | none => isNon lo
      | some e => !isNon lo && mE sc lo e) && (match h with
      | none => isNon hi
      | some e => !isNon hi && mE sc hi e)
    | _ => false
def mIt (sc : Scope) : CIt → Expr → Expr → Bool
  | .seqV i, _, e => match e with
    | .Name x _ => decide (N[i]? = some x) && visB sc x && okN x
    | _ => false
  | .seqL a, _, e => mE sc a e
  | .seqT a, _, e => mE sc a e
  | .range a, _, e => match e with
    | .Call (.Name x _) [y] [] _ => decide (x = "range") && gloB sc x && noStar y && mE sc a y
    | _ => false
  | .range2 a b, _, e => match e with
    | .Call (.Name x _) [y, z] [] _ => decide (x = "range") && gloB sc x && noStar y && noStar z && mE sc a y && mE sc b z
    | _ => false
  | .zip a b, tg, e => match e with
    | .Call (.Name x _) [y, z] [] _ => decide (x = "zip") && isTup tg && gloB sc x && noStar y && noStar z && mE sc a y && mE sc b z
    | _ => false
  | .enum a, tg, e => match e with
    | .Call (.Name x _) [y] [] _ => decide (x = "enumerate") && isTup tg && gloB sc x && noStar y && mE sc a y
    | _ => false
end
def isComp : CO → Bool
  | .comp _ _ _ _ _ => true
  | .snapO (.comp _ _ _ _ _) => true
  | _ => false
end
section
variable (N : List Str) (G : List GK) (CL XL : List Cl) (M : List MK)
def isMk (m : Nat) (x : Str) : Bool := match nth M m with
  | some (.met _ y) => decide (x = y)
  | _ => false
def isMs (m : Nat) : Bool := match nth M m with
  | some (.set _) => true
  | _ => false
def isMi (m : Nat) (op : Operator) : Bool := match nth M m with
  | some (.iop _ o) => decide (op = o)
  | _ => false
/-- names that stand for nothing in the text -/
def ghoB (sc : Scope) (g : Nat) : Nat → Bool
  | 0 => true
  | n + 1 => ghoB sc g n && (match N[g + n]? with
    | some x => decide (sc.names.lookup x = none)
    | none => false)
mutual
def mS (cm all : Bool) (sc : Scope) : CS → Stmt → Bool
  | .asg t e, s => match s with
    | .Assign [tg] v _ => noStar tg && noComp v && (noTup tg || noTup v || fldT v) && mT N cm all sc t tg && mE N G CL cm sc e v
    | _ => false
  | .own i o, s => match s with
    | .Assign [.Name x _] v _ => decide (N[i]? = some x) && locB all sc x && okN x && noComp v && noTup v && mO N G CL cm sc o v
    | _ => false
  | .ownC i o, s => match s with
    | .Assign [.Name x px] (.ListComp elt gs scope lp) _ => decide (N[i]? = some x) && decide (sc.names.lookup x = some .local) && okN x && decide (sc.kind = .function) && (px.line == lp.line) && !(scope.names.any fun (n, k) => n == x && (k == .local || k == .cell)) && isComp o && mO N G CL cm sc o (.ListComp elt gs scope lp)
    | _ => false
  | .frz _, _ => false
  | .ownE i e, s => match s with
    | .Assign [.Name x _] v _ => decide (N[i]? = some x) && locB all sc x && okN x && noComp v && noTup v && mE N G CL cm sc e v
    | _ => false
  | .retI e, s => match s with
    | .Return (some v) _ => mE N G CL cm sc e v
    | _ => false
  | .retO i, s => match s with
    | .Return (some (.Name x _)) _ => decide (N[i]? = some x) && visB sc x && okN x
    | _ => false
  | .seti i c j k v, s => match s with
    | .Assign [.Subscript (.Attribute (.Name x _) f _) y _] z _ => decide (N[i]? = some x) && visB sc x && okN x && decide (c.fs[j]? = some f) && noSlice y && noComp z && mE N G CL cm sc k y && mE N G CL cm sc v z
    | _ => false
  | .setfO i c j o, s => match s with
    | .Assign [.Attribute (.Name x _) f _] v _ => decide (N[i]? = some x) && visB sc x && okN x && decide (c.fs[j]? = some f) && mO N G CL cm sc o v
    | _ => false
  | .raiseE _ _, _ => false
  | .mut t i m es, s => match t with
    | none => (match s with
      | .Expr (.Call (.Attribute (.Name x _) mm ap) xs [] p) _ => isMk M m mm && decide (N[i]? = some x) && visB sc x && okN x && (ap.endLine == p.line) && decide (xs.length ≤ 20) && mEs N G CL cm sc es xs
      | _ => false)
    | some k => (match s with
      | .Assign [.Name y _] (.Call (.Attribute (.Name x _) mm ap) xs [] p) _ => isMk M m mm && decide (N[i]? = some x) && visB sc x && okN x && (ap.endLine == p.line) && decide (xs.length ≤ 20) && mEs N G CL cm sc es xs && decide (N[k]? = some y) && locB all sc y && okN y && decide (i ≠ k)
      | _ => false)
  | .setv i k v, s => match s with
    | .Assign [.Subscript (.Name x _) y _] z _ => decide (N[i]? = some x) && visB sc x && okN x && noSlice y && noComp z && mE N G CL cm sc k y && mE N G CL cm sc v z
    | _ => false
  | .muts i m k v, s => match s with
    | .Assign [.Subscript (.Name x _) y _] z _ => isMs M m && decide (N[i]? = some x) && visB sc x && okN x && noSlice y && noComp z && mE N G CL cm sc k y && mE N G CL cm sc v z
    | _ => false
  | .muti i m op e, s => match s with
    | .AugAssign (.Name x _) o v _ => isMi M m op && decide (op = o) && decide (N[i]? = some x) && locB all sc x && okN x && mE N G CL cm sc e v
    | _ => false
  | .retM, s => match s with
    | .Return (some (.Name x _)) _ => decide (N[0]? = some x) && visB sc x && okN x
    | _ => false
  | .seto i k v, s => match s with
    | .Assign [.Subscript (.Name x _) y _] z _ => decide (N[i]? = some x) && visB sc x && okN x && noSlice y && noComp z && mE N G CL cm sc k y && mE N G CL cm sc v z
    | _ => false
  | .app i e, s => match s with
    | .Expr (.Call (.Attribute (.Name x _) m a) [y] [] p) _ => decide (N[i]? = some x) && visB sc x && okN x && decide (m = "append") && noStar y && (a.endLine == p.line) && mE N G CL cm sc e y
    | _ => false
  | .setf i c j e, s => match s with
    | .Assign [.Attribute (.Name x _) f _] v _ => decide (N[i]? = some x) && visB sc x && okN x && decide (c.fs[j]? = some f) && mE N G CL cm sc e v
    | _ => false
  | .par i j a b, s => match s with
    | .Assign [.Tuple [.Name x px, .Name y py] _ _] (.Tuple [u, v] _ _) _ => cm && decide (N[i]? = some x) && decide (N[j]? = some y) && decide (i ≠ j) && decide (x ≠ y) && decide (sc.names.lookup x = some .local) && decide (sc.names.lookup y = some .local) && decide (px.line = py.line) && okN x && okN y &&
        noStar u && noStar v && !([u, v].all (foldedForSure 8)) && !([u, v].all (constantsAlone 8)) && decide (sc.kind = .function) && mE N G CL cm sc a u && mE N G CL cm sc b v
    | _ => false
  | .aug i op e, s => match s with
    | .AugAssign (.Name x _) o v _ => decide (op = o) && decide (N[i]? = some x) && locB all sc x && okN x && mE N G CL cm sc e v
    | _ => false
  | .ret e, s => match s with
    | .Return (some v) _ => mE N G CL cm sc e v
    | _ => false
  | .retN, s => match s with
    | .Return none _ => true
    | _ => false
  | .pass, s => match s with
    | .Pass _ => true
    | _ => false
  | .brk, s => match s with
    | .Break _ => true
    | _ => false
  | .cont, s => match s with
    | .Continue _ => true
    | _ => false
  | .doc, s => match s with
    | .Expr (.Constant (.str _) _ _) _ => true
    | _ => false
  | .expr e, s => match s with
    | .Expr v _ => noComp v && mE N G CL cm sc e v
    | _ => false
  | .ite c a b, s => match s with
    | .If t x y _ => mE N G CL cm sc c t && mB cm all sc a x && mB cm all sc b y
    | _ => false
  | .for_ t it b, s => match s with
    | .For tg iter body [] _ => cm && noSet iter && mT N cm all sc t tg && mIt N G CL cm sc it tg iter && mB cm all sc b body
    | _ => false
  | .never, _ => true
  | .forO t g es b, s => match s with
    | .For (.Name x _) (.List xs _) body [] _ => cm && decide (N[t]? = some x) && locB all sc x && okN x && mEs N G CL cm sc es xs && decide (xs.length ≤ 1000) && ghoB N sc g xs.length && decide (t < g) && mB cm all sc b body
    | _ => false
  | .while_ c b, s => match s with
    | .While t body [] _ => cm && mE N G CL cm sc c t && mB cm all sc b body
    | _ => false
  | .raise_ c, s => match s with
    | .Raise (some (.Call (.Name x _) [.Constant (.str _) _ _] [] _)) none _ => cm && decide (c ∈ XL) && decide (x = c.nm) && gloB sc x
    | _ => false
  | .tryX b c i h, s => match s with
    | .Try body [.ExceptHandler (some (.Name x _)) (some n) (b0 :: suite) _] [] [] _ => cm && decide (c ∈ CL) && decide (x = c.nm) && gloB sc x && decide (N[i]? = some n) && decide (sc.names.lookup n = some .local) && mB cm all sc b body && mB false all sc h (b0 :: suite)
    | _ => false
def mB (cm all : Bool) (sc : Scope) : CSs → List Stmt → Bool
  | .nil, b => match b with
    | [] => true
    | _ => false
  | .cons (.frz _) cs, b => mB cm all sc cs b
  | .cons c cs, b => match b with
    | s :: b => mS cm all sc c s && mB cm all sc cs b
    | _ => false
end
end
end Pu

/-! PD: what is asked of a context; the codes of expressions are sound. -/
namespace Pu
open PySem PySem.Spec PyProof.Rows L2 Ni
structure B6 where
  prog : Program
  w : World
  K : PySem.W.Frag
  mg : Str → Option Value
  base : Heap
  A : Around
abbrev b6 (X : Cx) : B6 := ⟨X.prog, X.w, X.K, X.mg, X.base, X.A⟩
def XData (X : Cx) (ct : Ct) (F H : Hp) (e : Exc) (d : Option Addr) : Prop := match e.d with
  | [] => d = none
  | _ :: _ => ∃ a vs, d = some a ∧ H a = some (.xd (e.c.fs.zip vs)) ∧ Reps ⟨X.K, ct.pl⟩ F e.d vs
def Eok (X : Cx) (ct : Ct) (F : Hp) (ρ : Env) (σ : L2.St) (E : KE) : Prop := ∀ e d F' H', Stt X ct F' ρ σ H' → Same F F' → XData X ct F' H' e d → E e → XW X (.ref (He.ga X.K e.c.nm)) d σ H'
theorem Same.trans' {A B C : Hp} (h : Same A B) (k : Same B C) : Same A C := fun a o e => k a o (h a o e)
/-- from F, H to F', H': nothing that stood is changed, what is frozen anew is new -/
structure Fwd (pl : Option (Addr × Addr)) (F H F' H' : Hp) : Prop where
  gr : Grow F H F'
  gu : Gua pl [] H H'
theorem Fwd.s {pl : Option (Addr × Addr)} {F H F' H' : Hp} (e : Fwd pl F H F' H') : Same F F' := e.gr.s
theorem Fwd.trans {pl : Option (Addr × Addr)} {F H F1 H1 F2 H2 : Hp} (a : Fwd pl F H F1 H1) (b : Fwd pl F1 H1 F2 H2) : Fwd pl F H F2 H2 := ⟨a.gr.trans a.gu no_mu b.gr, a.gu.trans b.gu⟩
theorem Fwd.refl {X : Cx} {ct : Ct} {F H : Hp} {ρ : Env} {σ : L2.St} (S : Stt X ct F ρ σ H) : Fwd ct.pl F H F H := ⟨.refl, S.gself⟩
theorem Stt.ext {X : Cx} {ct : Ct} {F H F' H' : Hp} {ρ : Env} {σ : L2.St} (S : Stt X ct F ρ σ H) (g : Same H H') (gr : Grow F H F') (sub : Same F' H') : Stt X ct F' ρ σ H' ∧ Fwd ct.pl F H F' H' := ⟨S.called (S.gself.same g) gr sub, gr, S.gself.same g⟩
theorem Stt.newE {X : Cx} {ct : Ct} {F H : Hp} {ρ : Env} {σ : L2.St} (S : Stt X ct F ρ σ H) {p : Addr} {o : HO} (h : H p = none) : Stt X ct (upd F p o) ρ σ (upd H p o) ∧ Fwd ct.pl F H (upd F p o) (upd H p o) := by
  obtain ⟨S2, s2⟩ := S.new (o := o) h
  refine ⟨S2, ⟨s2, fun a b e => ?_⟩, S.gself.same (same_new h)⟩
  by_cases z : a = p
  · subst z; exact .inr (.inl h)
  · rw [upd_ne z] at e; exact .inl e
theorem Eok.up {X : Cx} {ct : Ct} {F H F1 H1 : Hp} {ρ : Env} {σ : L2.St} {E : KE} (h : Eok X ct F ρ σ E) (s : Fwd ct.pl F H F1 H1) : Eok X ct F1 ρ σ E := fun e d F' H' S s' x q => h e d F' H' S (Same.trans' s.s s') x q
def Post (X : Cx) (ct : Ct) (F H : Hp) (ρ : Env) (σ : L2.St) (Q : PV → Prop) : VK := fun v H' => ∃ x F', Stt X ct F' ρ σ H' ∧ Fwd ct.pl F H F' H' ∧ Rep ⟨X.K, ct.pl⟩ F' x v ∧ Q x
/-- .. that is new or never changed, if fr says so -/
def PostC (fr : Bool) (X : Cx) (ct : Ct) (F H : Hp) (ρ : Env) (σ : L2.St) (Q : PV → Prop) : VK := fun v H' => ∃ x F', Stt X ct F' ρ σ H' ∧ Fwd ct.pl F H F' H' ∧ Rep ⟨X.K, ct.pl⟩ F' x v ∧ (fr = true → NewR ⟨X.K, ct.pl⟩ F' H x v) ∧ Q x
def PostA (X : Cx) (ct : Ct) (F H : Hp) (ρ : Env) (σ : L2.St) (Q : List PV → Prop) : List V → Hp → Prop := fun vs H' => ∃ xs F', Stt X ct F' ρ σ H' ∧ Fwd ct.pl F H F' H' ∧ Reps ⟨X.K, ct.pl⟩ F' xs vs ∧ Q xs
/-- a list of one's own at p, held by no slot -/
structure Own (X : Cx) (ct : Ct) (F : Hp) (ρ : Env) (σ : L2.St) (H : Hp) (p : Addr) (vs : List V) : Prop where
  at_ : H p = some (.lst vs)
  f : F p = none
  h : ct.H0 p = none
  os : ∀ F' os, Slots ⟨X.K, ct.pl⟩ F' H ct.H0 ct.mu ct.ex ρ σ os → p ∉ os
  s : ∀ P s, ct.pl = some (P, s) → s ≠ p
/-- a new list of one's own -/
def PostO (X : Cx) (ct : Ct) (F H : Hp) (ρ : Env) (σ : L2.St) (Q : List PV → Prop) : VK := fun v H' => ∃ p xs vs F', v = .ref p ∧ Stt X ct F' ρ σ H' ∧ Fwd ct.pl F H F' H' ∧ H p = none ∧ Own X ct F' ρ σ H' p vs ∧ Reps ⟨X.K, ct.pl⟩ F' xs vs ∧ Q xs
theorem FVs.uniq {k k' : Kx} {F H H0 F' H' H0' : Hp} {fs : List FV} {vs : List V} {os os' : List Addr} (h : FVs k F H H0 fs vs os) (h' : FVs k' F' H' H0' fs vs os') : os = os' := by
  induction h generalizing os' with
  | nil => cases h'; rfl
  | fr _ _ ih => cases h' with | fr _ h' => exact ih h'
  | nw _ _ ih => cases h' with | nw _ h' => exact ih h'
  | ow _ _ _ ih => cases h' with | ow _ _ h' => rw [ih h']
theorem zip_inj : ∀ {fs : List Str} {vs ws : List V}, vs.length ≤ fs.length → ws.length = vs.length → fs.zip vs = fs.zip ws → vs = ws
  | _, [], [], _, _, _ => rfl
  | [], v :: vs, _, l, _, _ => by simp at l
  | f :: fs, v :: vs, w :: ws, l, l2, e => by
    simp at l l2 e
    rw [e.1, zip_inj l l2 e.2]
/-- what is owned is told by the heap -/
theorem Slots.uniq {k k' : Kx} {F H H0 F' H0' : Hp} {mu mu' : List Addr} {ex ex' : Option (Addr × Exc)} {ρ : Env} {σ : L2.St} {os os' : List Addr} (h : Slots k F H H0 mu ex ρ σ os) (h' : Slots k' F' H H0' mu' ex' ρ σ os') : os = os' := by
  induction h generalizing os' with
  | nil => cases h'; rfl
  | free _ ih => cases h' with | free h' => exact ih h'
  | val _ _ ih => cases h' with | val _ h' => exact ih h'
  | exc _ _ ih => cases h' with | exc _ h' => exact ih h'
  | ali _ ih => cases h' with | ali h' => exact ih h'
  | own _ _ _ _ ih => cases h' with | own _ _ _ h' => rw [ih h']
  | obj a b c d _ _ _ ih => cases h' with
    | obj a' b' c' d' _ _ h' =>
      rw [a] at a'
      injection a' with a'
      injection a' with _ _ a'
      have := zip_inj (by rw [← b.len]; exact c) (by rw [← b.len, ← b'.len]) a'
      subst this
      rw [ih h', b.uniq b']
section
variable {X : Cx} {ct : Ct} {F F1 H H1 : Hp} {ρ : Env} {σ : L2.St}
theorem Post.up {Q : PV → Prop} (s : Fwd ct.pl F H F1 H1) {v : V} {H' : Hp} (h : Post X ct F1 H1 ρ σ Q v H') : Post X ct F H ρ σ Q v H' := by
  obtain ⟨x, F', S, s', r, q⟩ := h
  exact ⟨x, F', S, s.trans s', r, q⟩
theorem PostC.post {fr : Bool} {Q : PV → Prop} {v : V} {H' : Hp} (h : PostC fr X ct F H ρ σ Q v H') : Post X ct F H ρ σ Q v H' := by
  obtain ⟨x, F', S, s', r, _, q⟩ := h
  exact ⟨x, F', S, s', r, q⟩
theorem PostC.up {fr : Bool} {Q : PV → Prop} (s : Fwd ct.pl F H F1 H1) {v : V} {H' : Hp} (h : PostC fr X ct F1 H1 ρ σ Q v H') : PostC fr X ct F H ρ σ Q v H' := by
  obtain ⟨x, F', S, s', r, n, q⟩ := h
  exact ⟨x, F', S, s.trans s', r, fun z => (n z).back fun a e => s.gu.back no_mu e, q⟩
theorem PostA.up {Q : List PV → Prop} (s : Fwd ct.pl F H F1 H1) {v : List V} {H' : Hp} (h : PostA X ct F1 H1 ρ σ Q v H') : PostA X ct F H ρ σ Q v H' := by
  obtain ⟨x, F', S, s', r, q⟩ := h
  exact ⟨x, F', S, s.trans s', r, q⟩
theorem PostO.up {Q : List PV → Prop} (s : Fwd ct.pl F H F1 H1) {v : V} {H' : Hp} (h : PostO X ct F1 H1 ρ σ Q v H') : PostO X ct F H ρ σ Q v H' := by
  obtain ⟨p, xs, vs, F', e, S, s', hp, o, r, q⟩ := h
  exact ⟨p, xs, vs, F', e, S, s.trans s', s.gu.back no_mu hp, o, r, q⟩
theorem Stt.frzAt {p : Addr} {vs : List V} (S : Stt X ct F ρ σ H) (o : Own X ct F ρ σ H p vs) : Stt X ct (upd F p (.lst vs)) ρ σ H ∧ Same F (upd F p (.lst vs)) := by
  have sm : Same F (upd F p (.lst vs)) := same_new o.f
  refine ⟨⟨fun a b e => ?_, ⟨Same.trans' S.gr.s sm, fun a b e => ?_⟩, S.gua, fun P s e => ?_, S.p1, S.m0, ?_⟩, sm⟩
  · by_cases z : a = p
    · subst z; rw [upd_same] at e; rw [← e]; exact o.at_
    · rw [upd_ne z] at e; exact S.sub a b e
  · by_cases z : a = p
    · subst z; exact .inr (.inl o.h)
    · rw [upd_ne z] at e; exact S.gr.n a b e
  · obtain ⟨h1, h2, h3⟩ := S.p0 P s e
    have ne : P ≠ p := fun z => h2 (z ▸ o.h)
    exact ⟨by rw [upd_ne ne]; exact h1, h2, h3⟩
  · obtain ⟨os, hs, nd, hf⟩ := S.slots
    refine ⟨os, hs.keep sm (fun _ _ => rfl), nd, fun q hq => ?_⟩
    have ne : q ≠ p := fun z => o.os _ _ hs (z ▸ hq)
    rw [upd_ne ne]
    exact hf q hq
theorem PostO.frz {Q : PV → Prop} {v : V} {H' : Hp} (h : PostO X ct F H ρ σ (fun xs => Q (.lst xs)) v H') : Post X ct F H ρ σ Q v H' := by
  obtain ⟨p, xs, vs, F', rfl, S, s', hp, o, r, q⟩ := h
  obtain ⟨S2, s2⟩ := S.frzAt o
  refine ⟨.lst xs, _, S2, ⟨⟨Same.trans' s'.s s2, fun a b e => ?_⟩, s'.gu⟩, ⟨p, vs, rfl, upd_same, r.mono s2⟩, q⟩
  by_cases z : a = p
  · subst z; exact .inr (.inl hp)
  · rw [upd_ne z] at e; exact s'.gr.n a b e
/-- a place that is new is one's own -/
theorem Own.new {p : Addr} {vs : List V} (S : Stt X ct F ρ σ H) (hp : H p = none) : Own X ct F ρ σ (upd H p (.lst vs)) p vs := by
  refine ⟨upd_same, S.fnone hp, S.h0 hp, fun F' os hs z => ?_, fun P s e z => ?_⟩
  · obtain ⟨os2, hs2, _⟩ := S.slots
    have n2 : p ∉ os2 := fun y => by
      obtain ⟨_, o, e, _⟩ := hs2.own_at p y
      rw [e] at hp; cases hp
    have hs3 := hs2.keep (F' := F) (H' := upd H p (.lst vs)) (fun _ _ z => z) (fun q hq => upd_ne fun y => n2 (y ▸ hq))
    rw [hs.uniq hs3] at z
    exact n2 z
  · subst z
    obtain ⟨o, e2⟩ := (S.p0 P s e).2.2.at2
    rw [e2] at hp; cases hp
theorem PostO.new {Q : List PV → Prop} {p : Addr} {xs : List PV} {vs : List V} (S : Stt X ct F1 ρ σ H1) (s : Fwd ct.pl F H F1 H1) (hp : H1 p = none) (r : Reps ⟨X.K, ct.pl⟩ F1 xs vs) (q : Q xs) : PostO X ct F H ρ σ Q (.ref p) (upd H1 p (.lst vs)) :=
  ⟨p, xs, vs, F1, rfl, S.same (same_new hp), ⟨s.gr, s.gu.same (same_new hp)⟩, s.gu.back no_mu hp, .new S hp, r, q⟩
/-- it grows -/
theorem Stt.updAt {p : Addr} {vs ws : List V} (S : Stt X ct F ρ σ H) (o : Own X ct F ρ σ H p vs) : Stt X ct F ρ σ (upd H p (.lst ws)) ∧ Own X ct F ρ σ (upd H p (.lst ws)) p ws := by
  obtain ⟨os, hs, nd, hf⟩ := S.slots
  have np := o.os _ _ hs
  have hs2 : Slots ⟨X.K, ct.pl⟩ F (upd H p (.lst ws)) ct.H0 ct.mu ct.ex ρ σ os := hs.keep (fun _ _ z => z) (fun q hq => upd_ne fun z => np (z ▸ hq))
  refine ⟨⟨fun a b e => ?_, S.gr, ?_, fun P s e => ?_, S.p1, S.m0, os, hs2, nd, hf⟩, upd_same, o.f, o.h, fun F' os' h => (by rw [h.uniq hs2]; exact np), o.s⟩
  · have ne : a ≠ p := fun z => by subst z; rw [o.f] at e; cases e
    rw [upd_ne ne]
    exact S.sub a b e
  · have g := S.gua
    refine ⟨fun a b z n => ?_, fun P s e => ?_, fun a m z => ?_⟩
    · have ne : a ≠ p := fun y => by subst y; rw [o.h] at z; cases z
      rw [upd_ne ne]
      exact g.keep a b z n
    · have n1 : P ≠ p := fun z => (S.p0 P s e).2.1 (z ▸ o.h)
      exact (g.pool P s e).keep (upd_ne n1) (upd_ne (o.s P s e))
    · have ne : a ≠ p := fun y => by
        subst y
        obtain ⟨o2, e2, _⟩ := z
        rw [o.h] at e2; cases e2
      rw [upd_ne ne]
      exact g.live a m z
  · obtain ⟨h1, h2, h3⟩ := S.p0 P s e
    have n1 : P ≠ p := fun z => h2 (z ▸ o.h)
    exact ⟨h1, h2, h3.keep (upd_ne n1) (upd_ne (o.s P s e))⟩
/-- what one evaluates leaves it -/
theorem Own.ext {H' F' : Hp} {p : Addr} {vs : List V} (S : Stt X ct F ρ σ H) (o : Own X ct F ρ σ H p vs) (e : Fwd ct.pl F H F' H') : Own X ct F' ρ σ H' p vs := by
  have np : ¬ Exm ct.pl [] p := fun z => by
    rcases z with ⟨s, z⟩ | z
    · exact (S.p0 p s z).2.1 o.h
    · cases z
  refine ⟨e.gu.keep p _ o.at_ np, ?_, o.h, fun F2 os' h => ?_, o.s⟩
  · cases z : F' p with
    | none => rfl
    | some b =>
      rcases e.gr.n p b z with z2 | z2 | ⟨z2, r⟩
      · rw [o.f] at z2; cases z2
      · rw [o.at_] at z2; cases z2
      · rw [o.at_] at z2; cases z2
        exact absurd r imm_lst
  · obtain ⟨os, hs, _⟩ := S.slots
    have hs2 := hs.keep (F' := F) (fun _ _ z => z) (e.gu.keepS S hs)
    rw [h.uniq hs2]
    exact o.os _ _ hs
end
def OpSem (X : Cx) (k : OpK) (vs : List V) (σ : L2.St) (H : Hp) (Q : VK) : Prop := match k, vs with
  | .bin op, [x, y] => Wo X (binaryOp op) x y σ H Q
  | .ipl op, [x, y] => Wo X (inplaceOp op) x y σ H Q
  | .cmp op, [x, y] => Wo X (compareOp op) x y σ H Q
  | .neg, [x] => Wu X (unaryOp .USub) x σ H Q
  | .bi b, vs => Wcb X b.val vs H Q
  | .ix, [x, y] => Ixn X x y σ H Q
  | .sti, [x, y, z] => Wset X x y z σ H fun H' => Q .non H'
  | .fld c j, [x] => match c.fs[j]? with
    | some f => Fl X x f H Q
    | none => False
  | _, _ => False
theorem OpSem.imp {X : Cx} {k : OpK} {vs : List V} {σ : L2.St} {H : Hp} {Q Q' : VK} (h : ∀ v H', Q v H' → Q' v H') (o : OpSem X k vs σ H Q) : OpSem X k vs σ H Q' := by
  unfold OpSem at o ⊢
  split at o
  · exact Wo.imp h o
  · exact Wo.imp h o
  · exact Wo.imp h o
  · exact fun pins s u I r => thn (o pins s u I r) fun _ _ q => EP.imp h q
  · obtain ⟨r, hr, q⟩ := o
    refine ⟨fun vs' H' Q2 => r vs' H' Q ∧ ∀ v H2, Q v H2 → Q2 v H2, ?_, q, h⟩
    intro pins s σ' H' vs' us Q2 I rr hq
    exact thn (hr pins s σ' H' vs' us _ I rr hq.1) fun _ _ z => EP.imp hq.2 z
  · exact Ixn.imp h o
  · exact fun pins s ov iv u I r1 r2 r3 => thn (o pins s ov iv u I r1 r2 r3) fun _ _ z => let ⟨H', I', q⟩ := z; ⟨H', I', h _ _ q⟩
  · rename_i c j x
    cases e : c.fs[j]? with
    | none => rw [e] at o; exact o
    | some f =>
      rw [e] at o
      obtain ⟨a, C', dx, fs, u, e1, e2, e3, e4, e5, q⟩ := o
      exact ⟨a, C', dx, fs, u, e1, e2, e3, e4, e5, h _ _ q⟩
  · exact o
def OpOk (b : B6) (k : OpK) (p : PSpec) : Prop := ∀ X, b6 X = b → ∀ ct F ρ σ H xs vs Q E, Stt X ct F ρ σ H → Reps ⟨X.K, ct.pl⟩ F xs vs → p.run xs Q E → Eok X ct F ρ σ E → OpSem X k vs σ H (PostC p.fresh X ct F H ρ σ Q)
def Cal (b : B6) (f : Value) (p : PSpec) : Prop := ∀ X, b6 X = b → ∀ ct F ρ σ H xs vs Q E, Stt X ct F ρ σ H → Reps ⟨X.K, ct.pl⟩ F xs vs → p.run xs Q E → Eok X ct F ρ σ E → Wf X f vs σ H (PostC p.fresh X ct F H ρ σ Q)
def insOf (c : Cl) : PV → Prop
  | .obj d _ => d = c
  | .rat _ => c = .ratio
  | _ => False
structure CalM (b : B6) (c : Cl) (m : Str) (p : PSpec) : Prop where
  ex : ∃ f, Cls b.K (He.ga b.K c.nm) ∧ Meth b.K (He.ga b.K c.nm) m f ∧ (∀ fs : List (Str × V), (∃ n, fs.map (·.1) = c.fs.take n) → fs.lookup m = none) ∧ Cal b (.ref f) p
def PoolAt (pl : Option (Addr × Addr)) (F H : Hp) : Prop := ∀ P s, pl = some (P, s) → F P = none ∧ PoolS H P s
def XDK (k : Kx) (F H : Hp) (e : Exc) (d : Option Addr) : Prop := match e.d with
  | [] => d = none
  | _ :: _ => ∃ a vs, d = some a ∧ H a = some (.xd (e.c.fs.zip vs)) ∧ Reps k F e.d vs
/-- an instance of one's own, as a def leaves it -/
structure OwnAt (K : PySem.W.Frag) (pl : Option (Addr × Addr)) (c : Cl) (p : Addr) (F H F' H' : Hp) (qs : List Addr) (gs : List FV) (gvs : List V) (qs' : List Addr) : Prop where
  gr : Grow F H F'
  gu : Gua pl (p :: qs) H H'
  sub : Same F' H'
  at_ : ∃ dx, H' p = some (.ins (He.ga K c.nm) dx (c.fs.zip gvs))
  fv : FVs ⟨K, pl⟩ F' H' H gs gvs qs'
  len : gs.length ≤ c.fs.length
  nd : (p :: qs').Nodup
  no : ∀ a ∈ p :: qs', F' a = none
  nw : ∀ a ∈ qs', H a = none ∨ a ∈ p :: qs
/-- a promise of what changes its first argument, told of a heap -/
def lowM (K : PySem.W.Frag) (mp : MSpec) : Sp := fun vs H Q E => ∃ pl F c fs xs p ws dx fvs qs, vs = .ref p :: ws ∧ Same F H ∧ PoolAt pl F H ∧ (∀ P s, pl = some (P, s) → P ∉ p :: qs ∧ s ∉ p :: qs) ∧ Reps ⟨K, pl⟩ F xs ws ∧ H p = some (.ins (He.ga K c.nm) dx (c.fs.zip fvs)) ∧ FVs ⟨K, pl⟩ F H H fs fvs qs ∧
  (fs.length ≤ c.fs.length ∧ c ≠ .ratio) ∧ (p :: qs).Nodup ∧ (∀ a ∈ p :: qs, F a = none) ∧
  mp.run c fs xs (fun y gs => ∀ v H' F' gvs qs', OwnAt K pl c p F H F' H' qs gs gvs qs' → Rep ⟨K, pl⟩ F' y v → Q v H') fun e gs => ∀ d H' F' gvs qs', OwnAt K pl c p F H F' H' qs gs gvs qs' → XDK ⟨K, pl⟩ F' H' e d → E (.ref (He.ga K e.c.nm)) d H'
/-- .. of an in-place sign: it gives the instance back -/
def lowI (K : PySem.W.Frag) (mp : MSpec) : Sp := fun vs H Q E => ∃ pl F c fs xs p ws dx fvs qs, vs = .ref p :: ws ∧ Same F H ∧ PoolAt pl F H ∧ (∀ P s, pl = some (P, s) → P ∉ p :: qs ∧ s ∉ p :: qs) ∧ Reps ⟨K, pl⟩ F xs ws ∧ H p = some (.ins (He.ga K c.nm) dx (c.fs.zip fvs)) ∧ FVs ⟨K, pl⟩ F H H fs fvs qs ∧
  (fs.length ≤ c.fs.length ∧ c ≠ .ratio) ∧ (p :: qs).Nodup ∧ (∀ a ∈ p :: qs, F a = none) ∧
  mp.run c fs xs (fun _ gs => ∀ H' F' gvs qs', OwnAt K pl c p F H F' H' qs gs gvs qs' → Q (.ref p) H') fun e gs => ∀ d H' F' gvs qs', OwnAt K pl c p F H F' H' qs gs gvs qs' → XDK ⟨K, pl⟩ F' H' e d → E (.ref (He.ga K e.c.nm)) d H'
def noSelf (c : Cl) (m : Str) : Prop := ∀ fs : List (Str × V), (∃ n, fs.map (·.1) = c.fs.take n) → fs.lookup m = none
/-- a call's promise, told of a heap -/
def CalS (b : B6) (f : Value) (sp : Sp) : Prop := ∀ X, b6 X = b → ∀ σ H vs Q, sp vs H Q (xk X σ) → Wf X f vs σ H Q
theorem CalS.of {b : B6} {f : Addr} {n : Nat} {ps : List Str} {sp : Sp} (O : OkD b.prog b.w b.K b.mg b.base n f ps [] sp) (hr : Room n b.A) : CalS b (.ref f) sp := by
  intro X hb σ H vs Q h
  subst hb
  exact wf_ok O hr (by rw [List.append_nil]; exact h)
theorem lowM_no {K : PySem.W.Frag} {vs : List V} {H : Hp} {Q : VK} {E : XK} (h : lowM K .never vs H Q E) : False := let ⟨_, _, _, _, _, _, _, _, _, _, _, _, _, _, _, _, _, _, _, _, h⟩ := h; h
theorem lowI_no {K : PySem.W.Frag} {vs : List V} {H : Hp} {Q : VK} {E : XK} (h : lowI K .never vs H Q E) : False := let ⟨_, _, _, _, _, _, _, _, _, _, _, _, _, _, _, _, _, _, _, _, h⟩ := h; h
/-- what changes its first argument, by its way -/
def MOk (b : B6) (k : MK) (p : MSpec) : Prop := match k with
  | .met c m => ∃ f, Cls b.K (He.ga b.K c.nm) ∧ Meth b.K (He.ga b.K c.nm) m f ∧ noSelf c m ∧ CalS b (.ref f) (lowM b.K p)
  | .set c => ∃ f, PySem.W.noSeq b.K (He.ga b.K c.nm) = true ∧ Sg b.K (He.ga b.K c.nm) "__setitem__" f ∧ CalS b (.ref f) (lowM b.K p)
  | .iop c op => ∃ f, PySem.W.selfFirst b.K (He.ga b.K c.nm) = true ∧ Sg b.K (He.ga b.K c.nm) (dunderI op.info.2) f ∧ CalS b (.ref f) (lowI b.K p)
  | _ => True
/-- a form's rule -/
def FrmR (b : B6) (f : Frm) : Prop := ∀ A X, b6 X = { b with A := A } → ∀ sc e xs, X.env.scope = sc → f.m sc e = some xs → (∀ x ∈ xs, noStar x = true) → ∀ σ H Q, Wa X xs σ H (fun vs H' => f.R X vs σ H' Q) → We X e σ H Q
/-- a form's promise -/
def FrmP (b : B6) (f : Frm) (p : PSpec) : Prop := ∀ X, b6 X = b → ∀ ct F ρ σ H xs vs Q E, Stt X ct F ρ σ H → Reps ⟨X.K, ct.pl⟩ F xs vs → p.run xs Q E → Eok X ct F ρ σ E → f.R X vs σ H (PostC p.fresh X ct F H ρ σ Q)
/-- a class whose __iter__ gives the iterator of its list -/
def IterC (b : B6) (c : Cl) (j : Nat) : Prop := ∃ f n ps, Sg b.K (He.ga b.K c.nm) "__iter__" f ∧ (∀ base, OkD b.prog b.w b.K b.mg base n f ps [] (spIter (fun v H a => ∃ p dx vs ws, v = .ref p ∧ H p = some (.ins (He.ga b.K c.nm) dx (c.fs.zip vs)) ∧ vs[j]? = some (.ref a) ∧ vs.length ≤ c.fs.length ∧ H a = some (.lst ws)) base.objs.size)) ∧ Room n b.A
/-- what a body may lean on -/
structure LOk (b : B6) (L : Lang) (cl : List Cl) : Prop where
  g : ∀ i x p, nth L.G i = some (.glo x, p) → ∃ f, b.mg x = some (.ref f) ∧ PySem.W.keepIn b.K (.ref f) = true ∧ Cal b (.ref f) p
  m : ∀ i c m p, nth L.G i = some (.met c m, p) → CalM b c m p
  op : ∀ k, OpOk b k (L.op k)
  fm : ∀ i f p, nth L.G i = some (.frm f, p) → FrmR b f ∧ FrmP b f p
  st : ∀ i c m p, nth L.G i = some (.sta c m, p) → ∃ f, Sta b.K (He.ga b.K c.nm) m f ∧ b.mg c.nm = some (.ref (He.ga b.K c.nm)) ∧ Cal b (.ref f) p
  t : ∀ q ∈ L.T, IterC b q.1 q.2
  mu : ∀ i k p, nth L.M i = some (k, p) → MOk b k p
  cl : ∀ c ∈ cl, b.mg c.nm = some (.ref (He.ga b.K c.nm))
  bi : ∀ t : Bi, t ≠ .gcd → b.mg t.nm = none
  gcd : b.mg "gcd" = some (.builtin "math.gcd")
  x : ∀ q ∈ L.X, PySem.W.exmOne b.K (.ref (He.ga b.K q.1.nm)) (.ref (He.ga b.K q.2.nm)) = some (subE q.1 q.2)
  i : ∀ q ∈ L.I, exccB b.K (He.ga b.K q.1.nm) = true ∧ PySem.W.kitOne b.K (.ref (He.ga b.K q.1.nm)) (.ref (He.ga b.K q.2.nm)) = some (subE q.1 q.2)
  s : ∀ q ∈ L.S, L2.Cls b.K (He.ga b.K q.1.nm) ∧ ∀ f, q.1.fs[q.2]? = some f → NoAttr b.K (He.ga b.K q.1.nm) f
  it : b.mg "range" = none ∧ b.mg "zip" = none ∧ b.mg "enumerate" = none ∧ b.mg "list" = none
theorem LOk.opP {b : B6} {L : Lang} {cl : List Cl} (h : LOk b L cl) (k : OpK) (X : Cx) (e : b6 X = b) (ct : Ct) (F : Hp) (ρ : Env) (σ : L2.St) (H : Hp) (xs : List PV) (vs : List V) (Q : PV → Prop) (E : KE) (S : Stt X ct F ρ σ H) (r : Reps ⟨X.K, ct.pl⟩ F xs vs) (q : (L.op k).run xs Q E) (hE : Eok X ct F ρ σ E) : OpSem X k vs σ H (Post X ct F H ρ σ Q) :=
  OpSem.imp (fun _ _ z => z.post) (h.op k X e ct F ρ σ H xs vs Q E S r q hE)
theorem LOk.hot {b : B6} {L : Lang} {cl : List Cl} (h : LOk b L cl) (A : Around) : LOk { b with A := A } L.hot cl := by
  have at_ : ∀ i q, nth L.hot.G i = some q → ∃ p, nth L.G i = some p ∧ q = (p.1, .never) := fun i q e => by
    rw [nth_eq] at e
    have e : (L.G.map fun q => (q.1, PSpec.never))[i]? = some q := e
    rw [List.getElem?_map] at e
    obtain ⟨p, e1, e2⟩ := Option.map_eq_some_iff.mp e
    exact ⟨p, by rw [nth_eq]; exact e1, e2.symm⟩
  refine ⟨fun i x p e => ?_, fun i c m p e => ?_, fun k X hb ct F ρ σ H xs vs Q E S r q hE => q.elim, fun i f p e => ?_, fun i c m p e => ?_, nofun, fun i k p e => ?_, h.cl, h.bi, h.gcd, nofun, h.i, nofun, h.it⟩
  · obtain ⟨⟨k, p0⟩, e1, e2⟩ := at_ i _ e
    injection e2 with e2 e3
    subst e2 e3
    obtain ⟨f, f1, f2, _⟩ := h.g i x p0 e1
    exact ⟨f, f1, f2, fun X hb ct F ρ σ H xs vs Q E S r q hE => q.elim⟩
  · obtain ⟨⟨k, p0⟩, e1, e2⟩ := at_ i _ e
    injection e2 with e2 e3
    subst e2 e3
    obtain ⟨f, f1, f2, f3, _⟩ := (h.m i c m p0 e1).ex
    exact ⟨f, f1, f2, f3, fun X hb ct F ρ σ H xs vs Q E S r q hE => q.elim⟩
  · obtain ⟨⟨k, p0⟩, e1, e2⟩ := at_ i _ e
    injection e2 with e2 e3
    subst e2 e3
    exact ⟨fun A' X hb => (h.fm i f p0 e1).1 A' X hb, fun X hb ct F ρ σ H xs vs Q E S r q hE => q.elim⟩
  · obtain ⟨⟨k, p0⟩, e1, e2⟩ := at_ i _ e
    injection e2 with e2 e3
    subst e2 e3
    obtain ⟨f, f1, f2, _⟩ := h.st i c m p0 e1
    exact ⟨f, f1, f2, fun X hb ct F ρ σ H xs vs Q E S r q hE => q.elim⟩
  · rw [nth_eq] at e
    have e : (L.M.map fun q => (q.1, MSpec.never))[i]? = some (k, p) := e
    rw [List.getElem?_map] at e
    obtain ⟨⟨k0, p0⟩, e1, e2⟩ := Option.map_eq_some_iff.mp e
    injection e2 with e2 e3
    subst e2 e3
    have z := h.mu i k0 p0 (by rw [nth_eq]; exact e1)
    cases k0 with
    | met c m =>
      obtain ⟨f, f1, f2, f3, _⟩ := z
      exact ⟨f, f1, f2, f3, fun X hb σ H vs Q q => (lowM_no q).elim⟩
    | set c =>
      obtain ⟨f, f1, f2, _⟩ := z
      exact ⟨f, f1, f2, fun X hb σ H vs Q q => (lowM_no q).elim⟩
    | iop c op =>
      obtain ⟨f, f1, f2, _⟩ := z
      exact ⟨f, f1, f2, fun X hb σ H vs Q q => (lowI_no q).elim⟩
    | prp c m => trivial
    | ini c => trivial
/-- the error classes that a body raises -/
def ExOk (b : B6) (xl : List Cl) : Prop := ∀ c ∈ xl, b.mg c.nm = some (.ref (He.ga b.K c.nm)) ∧ PySem.W.excIn b.K (He.ga b.K c.nm) He.veBase "ValueError.__new__" = true ∧ PySem.W.keepIn b.K (.ref (He.ga b.K c.nm)) = true ∧ PySem.W.subIn b.K (.ref (He.ga b.K c.nm)) (.type "BaseException") = some true ∧ PySem.W.typeIn b.K (.ref (He.ga b.K c.nm)) = some (.type "type")
/-- the error that is being handled -/
def ExcAt (X : Cx) (a : Addr) (e : Exc) : Prop := ∃ (X' : Cx) (oe : Obj) (pn : List (Addr × Obj)) (d : Option Addr), X = X'.suite a ((a, oe) :: pn) ∧ Zc (.ref (He.ga X.K e.c.nm)) d oe ∧ (e.d = [] → d = none) ∧ ∃ vs, oe.data = .fields vs
structure Cok (X : Cx) (N : List Str) (cm all : Bool) (sc : Scope) (ex : Option (Addr × Exc)) : Prop where
  n : X.N = N
  nd : N.Nodup
  sc : X.env.scope = sc
  fn : all = true → ∀ x, X.fn x = true
  cx : cm = true → ex = none
  xo : ∀ a e, ex = some (a, e) → ExcAt X a e
  cm : cm = true → X.calm = true
section
variable {X : Cx} {N : List Str} {cm all : Bool} {sc : Scope} {ex : Option (Addr × Exc)}
theorem Cok.vis (C : Cok X N cm all sc ex) {x : Str} (h : visB sc x = true) : Vis X.env.scope x := by
  rw [C.sc]
  exact visB_ok h
theorem Cok.gl (C : Cok X N cm all sc ex) {x : Str} (h : gloB sc x = true) : Gl X x ∧ (x == ("__debug__" : Str)) = false ∧ x ≠ "__name__" := by
  unfold gloB at h
  simp only [Bool.and_eq_true, decide_eq_true_eq, Bool.not_eq_true'] at h
  refine ⟨?_, h.1.2, h.2⟩
  show X.env.scope.names.lookup x = _
  rw [C.sc]
  exact h.1.1
theorem okN_ok {x : Str} (h : okN x = true) : (x == ("__debug__" : Str)) = false ∧ (x == ("__classdict__" : Str)) = false := by
  unfold okN at h
  simpa [Bool.and_eq_true] using h
theorem Cok.loc (C : Cok X N cm all sc ex) {x : Str} (h : locB all sc x = true) : Loc X.env.scope x ∧ (X.fn x = true ∨ X.env.scope.names.lookup x = some .local) := by
  rw [C.sc]
  unfold locB at h
  unfold L2.Loc
  split at h
  · rename_i e; exact ⟨.inl e, .inr e⟩
  · rename_i e; exact ⟨.inr e, .inl (C.fn h x)⟩
  · cases h
theorem Cok.blk (C : Cok X N cm all sc ex) (hx : ex = none) {X' : Cx} {scope : Scope} (b : Blk X scope X') : Cok X' N cm false (relS sc scope) ex ∧ b6 X' = b6 X := by
  obtain ⟨s, H, K, cl, fp, rfl⟩ := b
  refine ⟨⟨C.n, C.nd, ?_, fun z => (by cases z), C.cx, fun _ _ z => (by rw [hx] at z; cases z), C.cm⟩, rfl⟩
  show relabel scope X.env = _
  rw [← C.sc]
  rfl
end
theorem star_cons {e : Expr} {es : List Expr} {env : PySem.Env} (h : noStar e = true) : starEach (e :: es) env = (false, eval e env) :: starEach es env := by
  cases e <;> first | rfl | cases h
theorem star_pl {pos : Pos} {env : PySem.Env} : ∀ {es : List Expr}, (∀ e ∈ es, noStar e = true) → (backTo pos (starEach es env)).any (·.1) = false
  | [], _ => rfl
  | e :: es, h => by
    rw [star_cons (h e (.head _))]
    unfold backTo
    rw [List.map_cons, List.any_cons]
    have ih := star_pl (pos := pos) (env := env) (es := es) fun e he => h e (.tail _ he)
    unfold backTo at ih
    rw [ih]
    rfl
theorem set_id {e : Expr} {env : PySem.Env} (h : noSet e = true) (x : Value) : foldedSetIterable e env x = pure x := by
  cases e <;> first | rfl | cases h
theorem mark_no {op : CmpOp} {e : Expr} (h : noSet e = true) : behindInMarks op e = false := by
  cases e <;> first | rfl | cases h
theorem attr_id {e : Expr} {f : Str} {env : PySem.Env} {t : Sem Value} (h : noSup e = true) : attributeBase e f env t = t := by
  cases e with
  | Call g xs ks p => cases g <;> cases xs <;> cases ks <;> first | rfl | cases h
  | _ => rfl
theorem ix_plain {e : Expr} (h : noSlice e = true) : PlainIx e := by
  intro o i
  cases e <;> first | rfl | cases h
theorem zip_map : ∀ {fs : List Str} {vs : List V}, fs.length = vs.length → (fs.zip vs).map (·.1) = fs
  | [], [], _ => rfl
  | f :: fs, v :: vs, h => by
    simp at h
    simp [zip_map h]
theorem zip_look : ∀ {fs : List Str} {vs : List V} {j : Nat} {f : Str} {v : V}, fs.Nodup → fs[j]? = some f → vs[j]? = some v → (fs.zip vs).lookup f = some v
  | [], _, _, _, _, _, h, _ => by simp at h
  | _ :: _, [], _, _, _, _, _, h => by simp at h
  | g :: fs, w :: vs, 0, f, v, nd, h1, h2 => by
    simp at h1 h2
    subst h1 h2
    simp [List.lookup]
  | g :: fs, w :: vs, j + 1, f, v, nd, h1, h2 => by
    simp at h1 h2
    have ne : (f == g) = false := by
      rw [beq_eq_false_iff_ne]
      intro z
      subst z
      exact (List.nodup_cons.mp nd).1 (List.mem_of_getElem? h1)
    show (match f == g with | true => some w | false => (fs.zip vs).lookup f) = some v
    rw [ne]
    exact zip_look (List.nodup_cons.mp nd).2 h1 h2
end Pu

/-! PE: the codes of expressions are sound. -/
namespace Pu
open PySem PySem.Spec PyProof.Rows L2 Ni
theorem We.up {X : Cx} {e : Expr} {σ : L2.St} {H : Hp} {Q Q' : VK} (h : We X e σ H Q) (k : ∀ v H', Q v H' → Q' v H') : We X e σ H Q' := We.imp k h
theorem we_chain {X : Cx} {op op' : CmpOp} {a b c : Expr} {pos : Pos} {σ : L2.St} {H : Hp} {Q : VK} (hm : lastMarks [op, op'] [b, c] = false)
    (h : We X a σ H fun x H1 => We X b σ H1 fun y H2 => Wo X (compareOp op) x y σ H2 fun z H3 => ∃ k, z = .bl k ∧ if k = true then We X c σ H3 fun w H4 => Wo X (compareOp op') y w σ H4 Q else Q (.bl false) H3) : We X (.Compare a [op, op'] [b, c] pos) σ H Q := by
  intro pins s I
  refine Compare_chain (thn (h pins s I) fun v s1 ⟨x, H1, I1, r1, q1⟩ => chain_link (thn (q1 pins s1 I1) fun u s2 ⟨y, H2, I2, r2, q2⟩ =>
    thn (q2 pins s2 v u I2 r1 r2) fun d s3 ⟨z, H3, I3, r3, k, e, q3⟩ => ?_)) hm
  subst e
  cases r3
  refine wpAny_truthy_bool ?_
  cases k with
  | false => exact ite_ff ⟨.bl false, H3, I3, rfl, q3⟩
  | true => exact ite_tt (chain_last (thn (q3 pins s3 I3) fun w' s4 ⟨z', H4, I4, r4, q4⟩ => q4 pins s4 u w' I4 r2 r4))
theorem marks2 {o1 o2 : CmpOp} {b c : Expr} (h1 : noSet b = true) (h2 : noSet c = true) : lastMarks [o1, o2] [b, c] = false := by
  show behindInMarks o2 c = false
  exact mark_no h2
theorem star_false {pos : Pos} {env : PySem.Env} : ∀ {es : List Expr}, (∀ e ∈ es, noStar e = true) → (backTo pos (starEach es env)).all (fun x => !x.1) = true ∧ (backTo pos (starEach es env)).length = es.length
  | [], _ => ⟨rfl, rfl⟩
  | e :: es, h => by
    obtain ⟨i1, i2⟩ := star_false (pos := pos) (env := env) (es := es) fun e he => h e (.tail _ he)
    rw [star_cons (h e (.head _))]
    unfold backTo at *
    rw [List.map_cons, List.all_cons, List.length_cons, i2, i1]
    exact ⟨rfl, rfl⟩
theorem eval_meth {env : PySem.Env} {o : Expr} {m : Str} {apos pos : Pos} {xs : List Expr} (h1 : noSup o = true) (h2 : (apos.endLine == pos.line) = true) (h3 : ∀ e ∈ xs, noStar e = true) (h4 : xs.length ≤ 20) :
    eval (.Call (.Attribute o m apos) xs [] pos) env = (do
      let ov ← eval o env
      standAt apos.atName
      let (f, first) ← holding [ov] (getMethod ov m (do return (← importBound o env).getD true))
      callWith pos f first (backTo pos (starEach xs env)) (backToKw pos (keywordEach [] env))) := by
  have few : methodCallForm (xs.length + ([] : List Keyword).length) (backTo pos (starEach xs env)) (backToKw pos (keywordEach [] env)) = true := by
    unfold methodCallForm
    rw [(star_false h3).1]
    show (true && true && decide (xs.length + 0 + 0 < 30)) = true
    simp
    omega
  show (do
    let ov ← attributeBase o m env (eval o env)
    standAt apos.atName
    methodCall o m apos pos env ov (xs.length + ([] : List Keyword).length) (backTo pos (starEach xs env)) (backToKw pos (keywordEach [] env))) = _
  rw [attr_id h1]
  unfold methodCall calleeOf methodCallPos
  simp only [few, h2]
  rfl
/-- o.m(e, ..) by what the method does -/
theorem we_meth {X : Cx} {o e : Expr} {es : List Expr} {m : Str} {apos pos : Pos} {C f : Addr} {σ : L2.St} {H : Hp} {Q : VK} (c : L2.Cls X.K C) (hm : L2.Meth X.K C m f)
    (h1 : noSup o = true) (h2 : (apos.endLine == pos.line) = true) (h3 : ∀ x ∈ e :: es, noStar x = true) (h4 : (e :: es).length ≤ 20)
    (h : We X o σ H fun x H1 => ∃ a dx fs, x = .ref a ∧ H1 a = some (.ins C dx fs) ∧ fs.lookup m = none ∧ Wa X (e :: es) σ H1 fun vs H2 => Wf X (.ref f) (.ref a :: vs) σ H2 Q) : We X (.Call (.Attribute o m apos) (e :: es) [] pos) σ H Q := by
  intro pins s I
  refine PySem.W.methodCall_KW (pl := _) (thn (h pins s I) fun u s1 ⟨x, H1, I1, rx, a, dx, fs, ex, ea, l, q⟩ => ?_) (eval_meth h1 h2 h3 h4)
  subst ex
  obtain rfl : u = Value.ref a := rx
  refine getmeth_ok I1 ea c hm l ?_
  refine PySem.W.callWith_K (first := [.ref a]) (h₀ := X.base) I1.ok.mod.kin hm.kp (thn (q pos pins s1 I1) fun us s2 ⟨vs, H2, I2, r, q2⟩ => ⟨I2.kIn, ?_⟩) (star_cons (h3 _ (.head _))) (star_pl fun e he => h3 e (.tail _ he))
  exact q2 pins s2 (.ref a :: us) I2 (.cons rfl r)
theorem we_meth0 {X : Cx} {o : Expr} {m : Str} {apos pos : Pos} {C f : Addr} {σ : L2.St} {H : Hp} {Q : VK} (c : L2.Cls X.K C) (hm : L2.Meth X.K C m f)
    (h1 : noSup o = true) (h2 : (apos.endLine == pos.line) = true)
    (h : We X o σ H fun x H1 => ∃ a dx fs, x = .ref a ∧ H1 a = some (.ins C dx fs) ∧ fs.lookup m = none ∧ Wf X (.ref f) [.ref a] σ H1 Q) : We X (.Call (.Attribute o m apos) [] [] pos) σ H Q := by
  intro pins s I
  refine PySem.W.methodCall_KW (pl := _) (thn (h pins s I) fun u s1 ⟨x, H1, I1, rx, a, dx, fs, ex, ea, l, q⟩ => ?_) (eval_meth h1 h2 (fun e he => (by cases he)) (by decide))
  subst ex
  obtain rfl : u = Value.ref a := rx
  refine getmeth_ok I1 ea c hm l ?_
  exact PySem.W.callWith_K0 (first := [.ref a]) I1.kIn hm.kp (q pins s1 [.ref a] I1 (.cons rfl .nil))
theorem getV_ok {ρ : Env} {i : Nat} {Q : PV → Prop} (h : getV ρ i Q) : ∃ x, ρ[i]? = some (some (.val x)) ∧ Q x := by
  unfold getV at h
  rw [nth_eq] at h
  split at h
  · rename_i x e; exact ⟨x, e, h⟩
  · exact h.elim
theorem getO_ok {ρ : Env} {i : Nat} {Q : List PV → Prop} (h : getO ρ i Q) : ∃ x, ρ[i]? = some (some (.own x)) ∧ Q x := by
  unfold getO at h
  rw [nth_eq] at h
  split at h
  · rename_i x e; exact ⟨x, e, h⟩
  · exact h.elim
theorem asB_ok {x : PV} {Q : Bool → Prop} (h : asB x Q) : ∃ b, x = .bl b ∧ Q b := by
  unfold asB at h
  split at h
  · exact ⟨_, rfl, h⟩
  · exact h.elim
theorem asI_ok {x : PV} {Q : Int → Prop} (h : asI x Q) : ∃ b, x = .int b ∧ Q b := by
  unfold asI at h
  split at h
  · exact ⟨_, rfl, h⟩
  · exact h.elim
theorem asL_ok {x : PV} {Q : List PV → Prop} (h : asL x Q) : ∃ b, x = .lst b ∧ Q b := by
  unfold asL at h
  split at h
  · exact ⟨_, rfl, h⟩
  · exact h.elim
theorem asT_ok {x : PV} {Q : List PV → Prop} (h : asT x Q) : ∃ b, x = .tup b ∧ Q b := by
  unfold asT at h
  split at h
  · exact ⟨_, rfl, h⟩
  · exact h.elim
theorem asS_ok {x : PV} {Q : List PV → Prop} (h : asS x Q) : ∃ b, (x = .lst b ∨ x = .tup b) ∧ Q b := by
  unfold asS at h
  split at h
  · exact ⟨_, .inl rfl, h⟩
  · exact ⟨_, .inr rfl, h⟩
  · exact h.elim
theorem ifB_if {b : Bool} {A B : Prop} (h : ifB b A B) : if b = true then A else B := by
  cases b
  · exact h
  · exact h
section
variable {X : Cx} {ct : Ct} {L : Lang} {N : List Str} {cl : List Cl} {G : List GK} {cm all : Bool}
theorem keys_at (hG : G = L.G.map (·.1)) {i : Nat} {k : GK} (h : nth G i = some k) : ∃ p, nth L.G i = some (k, p) := by
  subst hG
  rw [nth_eq, List.getElem?_map] at h
  obtain ⟨⟨a, p⟩, h1, h2⟩ := Option.map_eq_some_iff.mp h
  simp at h2
  subst h2
  exact ⟨p, by rw [nth_eq]; exact h1⟩
theorem callG_ok {i : Nat} {k : GK} {p : PSpec} {xs : List PV} {Q : PV → Prop} {E : KE} (e : nth L.G i = some (k, p)) (h : callG L i xs Q E) : p.run xs Q E := by
  unfold callG at h
  rw [e] at h
  exact h
end
end Pu

/-! PE2: a staticmethod, called off its class. -/
namespace Pu
open PySem PySem.Spec PyProof.Rows L2 Ni
section
variable {X : Cx} {e : Expr} {es : List Expr} {c m : Str} {p apos pos : Pos} {C f : Addr} {σ : L2.St} {H : Hp} {Q : VK}
theorem getmethsta_ok {pins : List (Addr × Obj)} {s : Shared} {pl : Sem Bool} {Q : Value × List Value → Shared → Prop} {A : Around} {E : Value → Shared → Prop} (I : Inv X pins σ H s) (t : Sta X.K C m f)
    (h : ∀ s', Inv X pins σ H s' → Q (.ref f, []) s') : wpAny (model X.prog X.w) A (getMethod (.ref C) m pl) Q E s := by
  obtain ⟨p, h1, rest, h2⟩ := t.at_
  refine PySem.W.method_cls I.kIn t.rd.ga (PySem.W.cls_bind I.kIn t.rd.rd h1 ?_)
  refine wpAny_call (PySem.W.sm_get (s := { s with toks := s.toks + 1 }) I.kIn h2 (PySem.W.handed_on rfl ?_))
  exact h _ (I.tok _)
theorem we_sta (t : Sta X.K C m f) (hg : Gl X c) (hm : X.mg c = some (.ref C)) (hd : (c == ("__debug__" : Str)) = false)
    (h2 : (apos.endLine == pos.line) = true) (h3 : ∀ x ∈ e :: es, noStar x = true) (h4 : (e :: es).length ≤ 20)
    (h : Wa X (e :: es) σ H fun vs H1 => Wf X (.ref f) vs σ H1 Q) : We X (.Call (.Attribute (.Name c p) m apos) (e :: es) [] pos) σ H Q := by
  intro pins s I
  refine PySem.W.methodCall_KW (pl := _) (ld_glob I hg hm ?_ hd) (eval_meth rfl h2 h3 h4)
  refine getmethsta_ok I t fun s1 I1 => ?_
  refine PySem.W.callWith_K (first := []) (h₀ := X.base) I1.ok.mod.kin t.kp (thn (h pos pins s1 I1) fun us s2 ⟨vs, H2, I2, r, q2⟩ => ⟨I2.kIn, ?_⟩) (star_cons (h3 _ (.head _))) (star_pl fun e he => h3 e (.tail _ he))
  exact q2 pins s2 us I2 r
end
theorem lookT_mem : ∀ {l : List (Cl × Nat)} {c : Cl} {j : Nat}, lookT l c = some j → (c, j) ∈ l
  | [], _, _, h => by cases h
  | q :: l, c, j, h => by
    unfold lookT at h
    split at h
    · rename_i e
      have e := of_decide_eq_true e
      cases h
      subst e
      exact .head _
    · exact .tail _ (lookT_mem h)
theorem asSeq_ok {T : List (Cl × Nat)} {x : PV} {Q : List PV → Prop} (h : asSeq T x Q) : ∃ xs, (x = .lst xs ∨ x = .tup xs ∨ ∃ c fs j, x = .obj c fs ∧ lookT T c = some j ∧ fs[j]? = some (.lst xs)) ∧ Q xs := by
  unfold asSeq at h
  split at h
  · exact ⟨_, .inl rfl, h⟩
  · exact ⟨_, .inr (.inl rfl), h⟩
  · split at h
    · rename_i e
      rw [nth_eq] at h
      split at h
      · rename_i e2
        exact ⟨_, .inr (.inr ⟨_, _, _, rfl, e, e2⟩), h⟩
      · exact h.elim
    · exact h.elim
  · exact h.elim
end Pu

/-! PF: targets, walks, expressions: sound. -/
namespace Pu
open PySem PySem.Spec PyProof.Rows L2 Ni
theorem ifB_f {b : Bool} {A : Prop} (h : ifB b A False) : b = true ∧ A := by
  cases b
  · exact h.elim
  · exact ⟨rfl, h⟩
theorem wipe_get (σ : L2.St) : ∀ (vs : List Nat) (j : Nat), (wipe σ vs)[j]? = if j ∈ vs then (σ[j]?).map (fun _ => none) else σ[j]?
  | [], j => by simp [wipe]
  | v :: vs, j => by
    show ((wipe σ vs).set v none)[j]? = _
    rw [List.getElem?_set, wipe_length]
    by_cases h : v = j
    · subst h
      by_cases h2 : v < σ.length
      · simp [h2]
      · simp [h2]
    · rw [if_neg h, wipe_get σ vs j]
      have : (j ∈ v :: vs) ↔ j ∈ vs := by simp [Ne.symm h]
      simp only [this]
theorem wipe_set {σ : L2.St} {vs : List Nat} {i : Nat} (u : Option V) (h : i ∈ vs) : wipe (σ.set i u) vs = wipe σ vs := by
  apply List.ext_getElem?
  intro j
  rw [wipe_get, wipe_get, List.getElem?_set]
  by_cases hj : i = j
  · subst hj
    rw [if_pos h, if_pos h]
    simp only [if_true]
    split
    · rename_i l; simp [List.getElem?_eq_getElem l]
    · rename_i l
      rw [List.getElem?_eq_none (by omega)]
  · rw [if_neg hj]
section
variable {X : Cx} {ct : Ct} {F H : Hp} {ρ : Env} {σ : L2.St}
theorem Stt.wipes (S : Stt X ct F ρ σ H) : ∀ own : List (Str × Nat), Stt X ct F (wipes ρ own) (wipe σ (own.map (·.2))) H
  | [] => S
  | v :: vs => by
    have ih := Stt.wipes S vs
    have q := ih.wipe1 none v.2
    rw [← put_eq] at q
    exact q
theorem asg_cons {e : Expr} {es : List Expr} {env : PySem.Env} (h : noStar e = true) : assignEach (e :: es) env = (false, assign e env) :: assignEach es env := by
  cases e <;> first | rfl | cases h
theorem asg_all {env : PySem.Env} : ∀ {es : List Expr}, (∀ e ∈ es, noStar e = true) → (assignEach es env).length = es.length ∧ (assignEach es env).findIdx? (·.1) = none
  | [], _ => ⟨rfl, rfl⟩
  | e :: es, h => by
    obtain ⟨i1, i2⟩ := asg_all (env := env) (es := es) fun e he => h e (.tail _ he)
    rw [asg_cons (h e (.head _))]
    refine ⟨by simp [i1], ?_⟩
    rw [List.findIdx?_cons]
    simp [i2]
end
section
variable {X : Cx} {ct : Ct} {N : List Str} {cm all : Bool} {sc : Scope}
theorem mTs_star {ts : Tgts} {es : List Expr} (h : mTs N cm all sc ts es = true) : ∀ e ∈ es, noStar e = true := by
  induction es generalizing ts with
  | nil => intro e he; cases he
  | cons e es ih =>
    cases ts with
    | nil => simp [mTs] at h
    | cons t ts =>
      simp only [mTs, Bool.and_eq_true] at h
      intro x hx
      cases hx with
      | head => exact h.1.1
      | tail _ hx => exact ih h.2 x hx
theorem mTs_len {ts : Tgts} {es : List Expr} (h : mTs N cm all sc ts es = true) : tlen ts = es.length := by
  induction es generalizing ts with
  | nil =>
    cases ts with
    | nil => rfl
    | cons t ts => simp [mTs] at h
  | cons e es ih =>
    cases ts with
    | nil => simp [mTs] at h
    | cons t ts =>
      simp only [mTs, Bool.and_eq_true] at h
      simp [tlen, ih h.2]
def PostG (X : Cx) (ct : Ct) (F H : Hp) (σ : L2.St) (vs : List Nat) (w : Bool) (Q : Env → Prop) : L2.St → Hp → Prop := fun σ' H' => H' = H ∧ (w = true → wipe σ' vs = wipe σ vs) ∧ ∃ ρ', Stt X ct F ρ' σ' H ∧ Q ρ'
theorem Wg.imp {tg : Expr} {v : V} {σ : L2.St} {H : Hp} {Q Q' : L2.St → Hp → Prop} (k : ∀ σ' H', Q σ' H' → Q' σ' H') (h : Wg X tg v σ H Q) : Wg X tg v σ H Q' := fun pins s u I r => thn (h pins s u I r) fun _ _ ⟨σ', H', J, q⟩ => ⟨σ', H', J, k _ _ q⟩
theorem Wgs.imp {tg : List Expr} {v : List V} {σ : L2.St} {H : Hp} {Q Q' : L2.St → Hp → Prop} (k : ∀ σ' H', Q σ' H' → Q' σ' H') (h : Wgs X tg v σ H Q) : Wgs X tg v σ H Q' := fun pins s u I r => thn (h pins s u I r) fun _ _ ⟨σ', H', J, q⟩ => ⟨σ', H', J, k _ _ q⟩
theorem wgs_cons {e : Expr} {es : List Expr} {v : V} {vs : List V} {σ : L2.St} {H : Hp} {Q : L2.St → Hp → Prop} (hs : (assignEach (e :: es) X.env).map (·.2) = assign e X.env :: (assignEach es X.env).map (·.2))
    (h : Wg X e v σ H fun σ' H' => Wgs X es vs σ' H' Q) : Wgs X (e :: es) (v :: vs) σ H Q := fun pins s us I r => (pgs_cons Wg.pg Wgs.pgs hs).run pins s σ H (v :: vs) us Q I r ⟨v, vs, rfl, h⟩
theorem wgs_nil {σ : L2.St} {H : Hp} {Q : L2.St → Hp → Prop} (h : Q σ H) : Wgs X [] [] σ H Q := fun pins s us I r => pgs_nil.run pins s σ H [] us Q I r ⟨rfl, h⟩
theorem wg_tup {es : List Expr} {k n : Nat} {pos : Pos} {v : V} {σ : L2.St} {H : Hp} {Q : L2.St → Hp → Prop} (hc : X.calm = true) (hn : (assignEach es X.env).length = n) (hst : (assignEach es X.env).findIdx? (·.1) = none)
    (h : ∃ a xs, v = .ref a ∧ SqT X.K H a xs ∧ xs.length = n ∧ Wgs X es xs σ H Q) : Wg X (.Tuple es k pos) v σ H Q := fun pins s u I r => (pg_tup hc Wgs.pgs hn hst).run pins s σ H v u Q I r h
mutual
theorem bT : ∀ (t : Tgt) {e : Expr}, Cok X N cm all sc ct.ex → mT N cm all sc t e = true → ∀ {F : Hp} {ρ : Env} {σ : L2.St} {H : Hp} {x : PV} {v : V} {Q : Env → Prop} (vs : List Nat), Stt X ct F ρ σ H → Rep ⟨X.K, ct.pl⟩ F x v → bindT t x ρ Q → Wg X e v σ H (PostG X ct F H σ vs (inT vs t) Q)
  | .nm i, e, C, m, F, ρ, σ, H, x, v, Q, vs, S, r, h => by
    unfold mT at m
    split at m
    · rename_i y pos
      simp only [Bool.and_eq_true, decide_eq_true_eq] at m
      obtain ⟨⟨m1, m2⟩, m3⟩ := m
      obtain ⟨l1, l2⟩ := C.loc m2
      unfold bindT at h
      rw [put_eq] at h
      refine wg_name (i := i) (by rw [C.n]; exact C.nd) (by rw [C.n]; exact m1) l1 l2 ⟨rfl, fun w => ?_, _, S.set r i, h⟩
      unfold inT at w
      exact wipe_set _ (of_decide_eq_true w)
    · cases m
  | .tup ts, e, C, m, F, ρ, σ, H, x, v, Q, vs, S, r, h => by
    unfold mT at m
    split at m
    · rename_i es k pos
      simp only [Bool.and_eq_true] at m
      obtain ⟨m1, m2⟩ := m
      unfold bindT at h
      obtain ⟨xs, rfl, h1⟩ := asT_ok h
      obtain ⟨l, h2⟩ := ifB_f h1
      unfold Rep at r
      obtain ⟨a, ws, rfl, ha, rs⟩ := r
      have st := mTs_star m2
      have hw := bTs ts C m2 vs S rs h2
      have l := Nat.eq_of_beq_eq_true l
      rw [mTs_len m2, rs.len] at l
      exact wg_tup (C.cm m1) (asg_all st).1 (asg_all st).2 ⟨a, ws, rfl, .of (S.sub _ _ ha), l.symm, Wgs.imp (fun σ' H' q => by unfold inT; exact q) hw⟩
    · cases m
theorem bTs : ∀ (ts : Tgts) {es : List Expr}, Cok X N cm all sc ct.ex → mTs N cm all sc ts es = true → ∀ {F : Hp} {ρ : Env} {σ : L2.St} {H : Hp} {xs : List PV} {ws : List V} {Q : Env → Prop} (vs : List Nat), Stt X ct F ρ σ H → Reps ⟨X.K, ct.pl⟩ F xs ws → bindTs ts xs ρ Q →
    Wgs X es ws σ H (PostG X ct F H σ vs (inTs vs ts) Q)
  | .nil, es, C, m, F, ρ, σ, H, xs, ws, Q, vs, S, r, h => by
    unfold mTs at m
    unfold bindTs at h
    split at m
    · split at h
      · cases r
        exact wgs_nil ⟨rfl, fun _ => rfl, ρ, S, h⟩
      · exact h.elim
    · cases m
  | .cons t ts, es, C, m, F, ρ, σ, H, xs, ws, Q, vs, S, r, h => by
    unfold mTs at m
    unfold bindTs at h
    split at m
    · rename_i e es
      simp only [Bool.and_eq_true] at m
      obtain ⟨⟨m1, m2⟩, m3⟩ := m
      split at h
      · exact h.elim
      · rename_i x xs
        obtain ⟨v, ws, rfl, rv, rs⟩ := r
        have hw := bT t C m2 vs S rv h
        refine wgs_cons (by rw [asg_cons m1]; rfl) (Wg.imp ?_ hw)
        rintro σ' H' ⟨rfl, w1, ρ', S', h'⟩
        have hw2 := bTs ts C m3 vs S' rs h'
        refine Wgs.imp ?_ hw2
        rintro σ2 H2 ⟨rfl, w2, ρ2, S2, h2⟩
        refine ⟨rfl, fun w => ?_, ρ2, S2, h2⟩
        unfold inTs at w
        obtain ⟨w3, w4⟩ := Bool.and_eq_true_iff.mp w
        exact (w2 w4).trans (w1 w3)
    · cases m
end
end
end Pu

/-! PG: expressions are sound. -/
namespace Pu
open PySem PySem.Spec PyProof.Rows L2 Ni
/-- a walk over values -/
structure Wlk (X : Cx) (ct : Ct) (F1 : Hp) (J : It) (xs : List PV) : Prop where
  w : Walk J xs.length (fun H => Same F1 H) (fun i H v H' => ∃ x, xs[i]? = some x ∧ Same H H' ∧ ∀ F, Same F1 F → Same F H → ∃ F', Grow F H F' ∧ Same F' H' ∧ Rep ⟨X.K, ct.pl⟩ F' x v)
theorem grow_new {F H : Hp} {p : Addr} {o : HO} (s : Same F H) (h : H p = none) : Grow F H (upd F p o) ∧ Same (upd F p o) (upd H p o) := by
  have f0 : F p = none := by
    cases z : F p with
    | none => rfl
    | some o2 => rw [s p o2 z] at h; cases h
  refine ⟨⟨same_new f0, fun a b e => ?_⟩, fun a b e => ?_⟩
  · by_cases z : a = p
    · subst z; exact .inr (.inl h)
    · rw [upd_ne z] at e; exact .inl e
  · by_cases z : a = p
    · subst z; rw [upd_same] at e ⊢; exact e
    · rw [upd_ne z] at e ⊢; exact s a b e
section
variable {X : Cx} {ct : Ct} {F : Hp}
theorem Wlk.list {a : Addr} {xs : List PV} {vs : List V} (h : F a = some (.lst vs)) (r : Reps ⟨X.K, ct.pl⟩ F xs vs) : Wlk X ct F (Itl X.K a) xs := by
  refine ⟨?_⟩
  rw [r.len]
  refine walk_list.mono (fun H s => .of (s _ _ h)) fun i H v H' hi s y => ?_
  obtain ⟨rfl, e⟩ := y
  obtain ⟨x, e2, rx⟩ := r.got e
  exact ⟨x, e2, fun _ _ z => z, fun F' s2 s3 => ⟨F', .refl, s3, rx.mono s2⟩⟩
theorem Wlk.tup {a : Addr} {xs : List PV} {vs : List V} (h : F a = some (.tup vs)) (r : Reps ⟨X.K, ct.pl⟩ F xs vs) : Wlk X ct F (Itt X.K a) xs := by
  refine ⟨?_⟩
  rw [r.len]
  refine walk_tup.mono (fun H s => .of (s _ _ h)) fun i H v H' hi s y => ?_
  obtain ⟨rfl, e⟩ := y
  obtain ⟨x, e2, rx⟩ := r.got e
  exact ⟨x, e2, fun _ _ z => z, fun F' s2 s3 => ⟨F', .refl, s3, rx.mono s2⟩⟩
theorem rangeP_len (lo : Int) : ∀ n, (rangeP lo n).length = n
  | 0 => rfl
  | n + 1 => by simp [rangeP, rangeP_len]
theorem rangeP_get : ∀ (n : Nat) (lo : Int) (i : Nat), i < n → (rangeP lo n)[i]? = some (.int (lo + i))
  | 0, _, _, h => by omega
  | n + 1, lo, 0, _ => by simp [rangeP]
  | n + 1, lo, i + 1, h => by
    have := rangeP_get n (lo + 1) i (by omega)
    simp only [rangeP, List.getElem?_cons_succ, this]
    congr 2
    omega
theorem Wlk.range (lo : Int) (n : Nat) : Wlk X ct F (Itr lo n) (rangeP lo n) := by
  refine ⟨?_⟩
  rw [rangeP_len]
  refine walk_range.mono (fun H s => trivial) fun i H v H' hi s y => ?_
  obtain ⟨rfl, rfl⟩ := y
  exact ⟨_, rangeP_get n lo i hi, fun _ _ z => z, fun F' s2 s3 => ⟨F', .refl, s3, rfl⟩⟩
theorem zipP_len : ∀ xs ys : List PV, (zipP xs ys).length = min xs.length ys.length
  | [], _ => by simp [zipP]
  | _ :: _, [] => by simp [zipP]
  | x :: xs, y :: ys => by simp only [zipP, List.length_cons, zipP_len xs ys]; omega
theorem zipP_get : ∀ {xs ys : List PV} {i : Nat} {x y : PV}, xs[i]? = some x → ys[i]? = some y → (zipP xs ys)[i]? = some (.tup [x, y])
  | [], _, _, _, _, h, _ => by simp at h
  | _ :: _, [], _, _, _, _, h => by simp at h
  | _ :: _, _ :: _, 0, _, _, h, k => by
    simp at h k
    subst h k
    simp [zipP]
  | _ :: xs, _ :: ys, i + 1, x, y, h, k => by
    simp at h k
    simp [zipP, zipP_get h k]
theorem Wlk.zip {a b : Addr} {xs ys : List PV} {vs ws : List V} (h : F a = some (.lst vs)) (r : Reps ⟨X.K, ct.pl⟩ F xs vs) (h' : F b = some (.lst ws)) (r' : Reps ⟨X.K, ct.pl⟩ F ys ws) : Wlk X ct F (Itz X.K a b) (zipP xs ys) := by
  refine ⟨?_⟩
  rw [zipP_len, r.len, r'.len]
  refine (walk_zip rfl).mono (fun H s => ⟨.of (s _ _ h), .of (s _ _ h')⟩) fun i H v H' hi s y => ?_
  obtain ⟨T, u, w, rfl, hT, rfl, e, e'⟩ := y
  obtain ⟨x, e2, rx⟩ := r.got e
  obtain ⟨z, e3, rz⟩ := r'.got e'
  refine ⟨_, zipP_get e2 e3, same_new hT, fun F' s2 sH => ?_⟩
  obtain ⟨gr, sub⟩ := grow_new (o := .tup [u, w]) sH hT
  have s3 := gr.s
  exact ⟨_, gr, sub, T, [u, w], rfl, upd_same, .cons ((rx.mono s2).mono s3) (.cons ((rz.mono s2).mono s3) .nil)⟩
theorem enumP_len : ∀ (n : Nat) (xs : List PV), (enumP n xs).length = xs.length
  | _, [] => rfl
  | n, _ :: xs => by simp [enumP, enumP_len]
theorem enumP_get : ∀ {xs : List PV} {n i : Nat} {x : PV}, xs[i]? = some x → (enumP n xs)[i]? = some (.tup [.int ((n + i : Nat) : Int), x])
  | [], _, _, _, h => by simp at h
  | _ :: _, n, 0, _, h => by
    simp at h
    subst h
    simp [enumP]
  | _ :: xs, n, i + 1, x, h => by
    simp at h
    have := enumP_get (n := n + 1) h
    simp only [enumP, List.getElem?_cons_succ, this]
    congr 4
    omega
theorem Wlk.enum {a : Addr} {xs : List PV} {vs : List V} (h : F a = some (.lst vs)) (r : Reps ⟨X.K, ct.pl⟩ F xs vs) : Wlk X ct F (Ite X.K a) (enumP 0 xs) := by
  refine ⟨?_⟩
  rw [enumP_len, r.len]
  refine walk_enum.mono (fun H s => .of (s _ _ h)) fun i H v H' hi s y => ?_
  obtain ⟨T, u, w, rfl, hT, rfl, e, e'⟩ := y
  cases e
  obtain ⟨x, e2, rx⟩ := r.got e'
  refine ⟨_, enumP_get e2, same_new hT, fun F' s2 sH => ?_⟩
  obtain ⟨gr, sub⟩ := grow_new (o := .tup [V.int (i : Nat), w]) sH hT
  have s3 := gr.s
  refine ⟨_, gr, sub, T, [V.int (i : Nat), w], rfl, upd_same, .cons ?_ (.cons ((rx.mono s2).mono s3) .nil)⟩
  show V.int (i : Nat) = .int ((0 + i : Nat) : Int)
  rw [Nat.zero_add]
end
/-- walks, as they come to be -/
def ItP (X : Cx) (ct : Ct) (F : Hp) (ρ : Env) (σ : L2.St) (H : Hp) (tg iter : Expr) (Q : List PV → Prop) : Prop := ∃ wi, PI X tg iter wi ∧ ∀ R : It → Hp → Prop, (∀ J H1 F1 xs, Stt X ct F1 ρ σ H1 → Fwd ct.pl F H F1 H1 → Q xs → Wlk X ct F1 J xs → R J H1) → wi σ H R
theorem sizeOk {n : Nat} (h : n ≤ 100000) : n ≤ sizeLine := Nat.le_trans h (by decide)
theorem sizeOk' {n : Nat} (h : n < 100000) : n < sizeLine := Nat.lt_of_lt_of_le h (by decide)
theorem boot_of {b : Bi} (h : b ≠ .gcd) : bootBuiltins b.nm = some b.val := by
  cases b <;> first | exact absurd rfl h | decide +kernel
theorem Wa.up {X : Cx} {es : List Expr} {σ : L2.St} {H : Hp} {Q Q' : List V → Hp → Prop} (h : Wa X es σ H Q) (k : ∀ v H', Q v H' → Q' v H') : Wa X es σ H Q' := Wa.imp k h
section
variable {b : B6} {L : Lang} {N : List Str} {CL : List Cl} {G : List GK} {cm all : Bool} {ct : Ct}
theorem mEs_star {sc : Scope} : ∀ {cs : CEs} {es : List Expr}, mEs N G CL cm sc cs es = true → ∀ e ∈ es, noStar e = true
  | .nil, es, h => by
    unfold mEs at h
    split at h
    · intro e he; cases he
    · cases h
  | .cons c cs, es, h => by
    unfold mEs at h
    split at h
    · simp only [Bool.and_eq_true] at h
      intro e he
      cases he with
      | head => exact h.1.1
      | tail _ he => exact mEs_star h.2 e he
    · cases h
end
end Pu

/-! PGS: all slots as values for the length of an expression. -/
namespace Pu
open PySem PySem.Spec PyProof.Rows L2 Ni
theorem ifT_ok {a b : Bool} (h : ifT a b = true) : a = true ∧ b = true := by
  cases a
  · cases h
  · exact ⟨rfl, h⟩
theorem pairIn_mem : ∀ {l : List (Cl × Cl)} {a b : Cl}, pairIn l a b = true → (a, b) ∈ l
  | [], _, _, h => by cases h
  | q :: l, a, b, h => by
    unfold pairIn at h
    split at h
    · rename_i e
      obtain ⟨e1, e2⟩ := ifT_ok e
      have e1 := of_decide_eq_true e1
      have e2 := of_decide_eq_true e2
      subst e1 e2
      exact .head _
    · exact .tail _ (pairIn_mem h)
section
variable {k : Kx} {F F' Fi H H0 : Hp}
mutual
theorem Rep.imm (hi : ∀ a o, F a = some o → ImmO o → Fi a = some o) : ∀ {x : PV} {v : V}, immP x = true → Rep k F x v → Rep k Fi x v
  | .non, _, _, h => h
  | .bl _, _, _, h => h
  | .int _, _, _, h => h
  | .str _, _, _, h => h
  | .ty _, _, _, h => h
  | .cls _, _, _, h => h
  | .rat q, _, _, h => by
    unfold Rep at h ⊢
    obtain ⟨a, dx, e, h⟩ := h
    exact ⟨a, dx, e, hi _ _ h (.inl ⟨_, _, _, rfl⟩)⟩
  | .tup xs, _, m, h => by
    unfold Rep at h ⊢
    obtain ⟨a, vs, e, h, r⟩ := h
    exact ⟨a, vs, e, hi _ _ h (.inr ⟨_, rfl⟩), Reps.imm hi (by unfold immP at m; exact m) r⟩
theorem Reps.imm (hi : ∀ a o, F a = some o → ImmO o → Fi a = some o) : ∀ {xs : List PV} {vs : List V}, immPs xs = true → Reps k F xs vs → Reps k Fi xs vs
  | [], _, _, h => h
  | x :: xs, _, m, h => by
    unfold Reps at h ⊢
    obtain ⟨v, ws, e, h, r⟩ := h
    unfold immPs at m
    obtain ⟨m1, m2⟩ := ifT_ok m
    exact ⟨v, ws, e, Rep.imm hi m1 h, Reps.imm hi m2 r⟩
end
/-- what is never changed is as good as new -/
theorem newr_imm {x : PV} {v : V} (m : immP x = true) (h : Rep k F x v) : NewR k F H0 x v := by
  obtain ⟨Fi, hF⟩ := imm_part F
  exact ⟨Fi, fun a o e => ((hF a o).mp e).1, fun a o e => .inr ((hF a o).mp e).2, h.imm (fun a o e i => (hF a o).mpr ⟨e, i⟩) m⟩
end
section
variable {X : Cx} {ct : Ct} {F F' FS H H' : Hp} {ρ : Env} {σ : L2.St}
theorem Slots.snap {k : Kx} {H0 : Hp} {mu : List Addr} {ex : Option (Addr × Exc)} {os : List Addr} (h : Slots k F H H0 mu ex ρ σ os) (s : Same F FS) (hq : ∀ p ∈ os, FS p = H p) : Slots k FS H H [] ex (snapE ρ) σ [] := by
  induction h with
  | nil => exact .nil
  | free _ ih => exact .free (ih hq)
  | val h1 _ ih => exact .val (h1.mono s) (ih hq)
  | exc h1 _ ih => exact .exc h1 (ih hq)
  | ali _ ih => exact .ali (ih hq)
  | own h1 h2 h3 _ ih => exact .val ⟨_, _, rfl, (hq _ (.head _)).trans h1, h2.mono s⟩ (ih fun p hp => hq p (.tail _ hp))
  | obj h1 h2 h3 h4 h5 h6 _ ih =>
    exact .val ⟨_, _, _, rfl, (hq _ (.head _)).trans h1, ⟨by rw [List.length_map]; exact h3, h4⟩, h2.reps s fun p hp => hq p (.tail _ (List.mem_append_left _ hp))⟩ (ih fun p hp => hq p (.tail _ (List.mem_append_right _ hp)))
/-- the context for the length of an expression -/
abbrev ctS (ct : Ct) (H FS : Hp) : Ct := ⟨ct.pl, [], ct.ex, H, FS⟩
theorem Stt.snap (S : Stt X ct F ρ σ H) : ∃ FS, Same F FS ∧ Same FS H ∧ Stt X (ctS ct H FS) FS (snapE ρ) σ H := by
  classical
  obtain ⟨os, hs, nd, hf⟩ := S.slots
  refine ⟨fun a => if a ∈ os then H a else F a, fun a o e => ?_, fun a o e => ?_, fun a o e => ?_, .refl, S.gself, fun P s e => ?_, fun P s e => ?_, nofun, [], hs.snap (fun a o e => ?_) (fun p hp => ?_), .nil, nofun⟩
  · by_cases m : a ∈ os
    · rw [hf a m] at e; cases e
    · exact (if_neg m).trans e
  · by_cases m : a ∈ os
    · exact (if_pos m).symm.trans e
    · exact S.sub a o ((if_neg m).symm.trans e)
  · by_cases m : a ∈ os
    · exact (if_pos m).symm.trans e
    · exact S.sub a o ((if_neg m).symm.trans e)
  · obtain ⟨h1, h2, h3⟩ := S.p0 P s e
    refine ⟨?_, fun z => ?_, h3⟩
    · exact (if_neg fun m => S.nexm hs m (.inl ⟨s, e⟩)).trans h1
    · obtain ⟨o, e2⟩ := h3.at1
      have z : H P = none := z
      rw [z] at e2; cases e2
  · refine ⟨fun z => ?_, nofun, nofun⟩
    obtain ⟨o, e2⟩ := (S.p0 P s e).2.2.at2
    have z : H s = none := z
    rw [z] at e2; cases e2
  · by_cases m : a ∈ os
    · rw [hf a m] at e; cases e
    · exact (if_neg m).trans e
  · exact if_pos hp
theorem Stt.unsnap (S : Stt X ct F ρ σ H) (s1 : Same F FS) (S' : Stt X (ctS ct H FS) F' (snapE ρ) σ H') : Stt X ct F ρ σ H' ∧ Fwd ct.pl F H F H' := by
  have g : Gua ct.pl [] H H' := S'.gua
  exact ⟨S.called g .refl fun a o e => S'.sub a o (S'.gr.s a o (s1 a o e)), .refl, g⟩
theorem Stt.unsnapV (S : Stt X ct F ρ σ H) (s1 : Same F FS) (s2 : Same FS H) (S' : Stt X (ctS ct H FS) F' (snapE ρ) σ H') {x : PV} {v : V} (n : NewR ⟨X.K, ct.pl⟩ F' H x v) :
    ∃ F2, Stt X ct F2 ρ σ H' ∧ Fwd ct.pl F H F2 H' ∧ Rep ⟨X.K, ct.pl⟩ F2 x v ∧ NewR ⟨X.K, ct.pl⟩ F2 H x v := by
  have g : Gua ct.pl [] H H' := S'.gua
  obtain ⟨Fn, n1, n2, r⟩ := n
  have sF : Same F F' := fun a o e => S'.gr.s a o (s1 a o e)
  have sm : Same F (unionH Fn F) := unionH_r n1 sF
  have gr : Grow F H (unionH Fn F) := ⟨sm, fun a o e => by
    rcases unionH_or e with y | y
    · rcases n2 a o y with z | z
      · exact .inr (.inl z)
      · rcases S'.gr.n a o (n1 a o y) with q | q | ⟨q, _⟩
        · exact .inr (.inr ⟨s2 a o q, z⟩)
        · exact .inr (.inl q)
        · exact .inr (.inr ⟨q, z⟩)
    · exact .inl y⟩
  refine ⟨unionH Fn F, S.called g gr fun a o e => ?_, ⟨gr, g⟩, r.mono unionH_l, Fn, unionH_l, n2, r⟩
  rcases unionH_or e with y | y
  · exact S'.sub a o (n1 a o y)
  · exact S'.sub a o (sF a o y)
/-- back, with all that is never changed -/
theorem Stt.unsnapI (S : Stt X ct F ρ σ H) (s1 : Same F FS) (s2 : Same FS H) (S' : Stt X (ctS ct H FS) F' (snapE ρ) σ H') :
    ∃ F2, Stt X ct F2 ρ σ H' ∧ Fwd ct.pl F H F2 H' ∧ (∀ a o, F' a = some o → ImmO o → F2 a = some o) ∧ ∀ a o, F2 a = some o → F a = some o ∨ F' a = some o := by
  have g : Gua ct.pl [] H H' := S'.gua
  obtain ⟨Fi, hF⟩ := imm_part F'
  have n1 : Same Fi F' := fun a o e => ((hF a o).mp e).1
  have sF : Same F F' := fun a o e => S'.gr.s a o (s1 a o e)
  have sm : Same F (unionH Fi F) := unionH_r n1 sF
  have gr : Grow F H (unionH Fi F) := ⟨sm, fun a o e => by
    rcases unionH_or e with y | y
    · obtain ⟨y1, y2⟩ := (hF a o).mp y
      rcases S'.gr.n a o y1 with z | z | ⟨z, _⟩
      · exact .inr (.inr ⟨s2 a o z, y2⟩)
      · exact .inr (.inl z)
      · exact .inr (.inr ⟨z, y2⟩)
    · exact .inl y⟩
  refine ⟨unionH Fi F, S.called g gr fun a o e => ?_, ⟨gr, g⟩, fun a o e i => unionH_l a o ((hF a o).mpr ⟨e, i⟩), fun a o e => ?_⟩
  · rcases unionH_or e with y | y
    · exact S'.sub a o (n1 a o y)
    · exact S'.sub a o (sF a o y)
  · rcases unionH_or e with y | y
    · exact .inr (n1 a o y)
    · exact .inl y
theorem Eok.snap {E : KE} (S : Stt X ct F ρ σ H) (s1 : Same F FS) (s2 : Same FS H) (hE : Eok X ct F ρ σ E) : Eok X (ctS ct H FS) FS (snapE ρ) σ (fun e => ifB (immPs e.d) (E e) False) := by
  intro e d F' H' S' s' x q
  obtain ⟨m, q⟩ := ifB_f q
  obtain ⟨F2, S2, f2, i2, _⟩ := S.unsnapI s1 s2 S'
  refine hE e d F2 H' S2 f2.s ?_ q
  unfold XData at x ⊢
  split at x
  · exact x
  · obtain ⟨a, vs, e1, e2, r⟩ := x
    exact ⟨a, vs, e1, e2, r.imm i2 m⟩
theorem PostO.unsnap {Q : List PV → Prop} {v : V} (S : Stt X ct F ρ σ H) (s1 : Same F FS) (s2 : Same FS H) (h : PostO X (ctS ct H FS) FS H (snapE ρ) σ (fun xs => ifB (immPs xs) (Q xs) False) v H') : PostO X ct F H ρ σ Q v H' := by
  obtain ⟨p, xs, vs, F1, rfl, S1, e1, hp, oo, rs, q1⟩ := h
  obtain ⟨im, q1⟩ := ifB_f q1
  obtain ⟨F2, S2, f2, i2, o2⟩ := S.unsnapI s1 s2 S1
  refine ⟨p, xs, vs, F2, rfl, S2, f2, hp, ⟨oo.at_, ?_, S.h0 hp, fun F3 os h3 => ?_, oo.s⟩, rs.imm i2 im, q1⟩
  · cases z : F2 p with
    | none => rfl
    | some o =>
      rcases o2 p o z with y | y
      · rw [S.fnone hp] at y; cases y
      · rw [oo.f] at y; cases y
  · obtain ⟨os0, hs0, _⟩ := S.slots
    have hk := hs0.keep (F' := F) (fun _ _ z => z) (Gua.keepS (c := ct) (S1.gua : Gua ct.pl [] H H') S hs0)
    rw [h3.uniq hk]
    intro z
    obtain ⟨_, o, e, _⟩ := hs0.own_at p z
    rw [e] at hp; cases hp
end
end Pu

/-! PH: expressions are sound. -/
namespace Pu
open PySem PySem.Spec PyProof.Rows L2 Ni
def plainT : Expr → Bool
  | .UnaryOp .Not _ _ => false
  | .BoolOp _ _ _ => false
  | .IfExp _ _ _ _ => false
  | .Compare _ _ _ _ => false
  | _ => true
theorem isTrue_plain {e : Expr} {env : PySem.Env} (h : plainT e = true) (whole : Sem Value) : isTrue e env whole = (do let v ← whole; standAt e.pos; holding [v] (truthy v)) := by
  cases e with
  | UnaryOp op a p => cases op <;> first | rfl | cases h
  | _ => first | rfl | cases h
theorem wt_chain {X : Cx} {op op' : CmpOp} {a b c : Expr} {pos : Pos} {σ : L2.St} {H : Hp} {P : Bool → Hp → Prop} (hm : lastMarks [op, op'] [b, c] = false)
    (h : We X a σ H fun x H1 => We X b σ H1 fun y H2 => Wo X (compareOp op) x y σ H2 fun z H3 => ∃ k, z = .bl k ∧ if k = true then We X c σ H3 fun w H4 => Wo X (compareOp op') y w σ H4 fun z H5 => ∃ k, z = .bl k ∧ P k H5 else P false H3) : Wt X (.Compare a [op, op'] [b, c] pos) σ H P := by
  intro pins s I
  refine isTrue_chain (thn (h pins s I) fun v1 s1 ⟨x, H1, I1, r1, q1⟩ => test_link (thn (q1 pins s1 I1) fun v2 s2 ⟨y, H2, I2, r2, q2⟩ =>
    thn (q2 pins s2 v1 v2 I2 r1 r2) fun v3 s3 ⟨z, H3, I3, r3, k, e, q3⟩ => ?_)) hm
  subst e
  cases r3
  refine wpAny_truthy_bool ?_
  cases k
  · exact ite_ff ⟨H3, I3, q3⟩
  · refine ite_tt (test_last (thn (q3 pins s3 I3) fun v4 s4 ⟨u, H4, I4, r4, q4⟩ => thn (q4 pins s4 v2 v4 I4 r2 r4) fun v5 s5 ⟨z2, H5, I5, r5, k2, e2, q5⟩ => ?_))
    subst e2
    cases r5
    exact wpAny_truthy_bool ⟨H5, I5, q5⟩
theorem wt_ite {X : Cx} {t x y : Expr} {pos : Pos} {σ : L2.St} {H : Hp} {P : Bool → Hp → Prop} (h : Wt X t σ H fun k H1 => if k = true then Wt X x σ H1 P else Wt X y σ H1 P) : Wt X (.IfExp t x y pos) σ H P := by
  intro pins s I
  refine wpAny_bind (thn (h pins s I) fun k s1 ⟨H1, I1, q⟩ => ?_)
  cases k
  · exact q pins s1 I1
  · exact q pins s1 I1
def PostT (X : Cx) (ct : Ct) (F H : Hp) (ρ : Env) (σ : L2.St) (P : Bool → Prop) : Bool → Hp → Prop := fun k H' => ∃ F', Stt X ct F' ρ σ H' ∧ Fwd ct.pl F H F' H' ∧ P k
theorem ifB_mono {k : Bool} {A B A' B' : Prop} (h : ifB k A B) (h1 : A → A') (h2 : B → B') : if k = true then A' else B' := by
  cases k
  · exact h2 h
  · exact h1 h
theorem asB_bl {k : Bool} {Q : Bool → Prop} : asB (.bl k) Q = Q k := rfl
theorem optP_ok {o : Option PV} {Q : PV → Prop} (h : optP o Q) : ∃ x, o = some x ∧ Q x := by
  cases o with
  | none => exact h.elim
  | some x => exact ⟨x, rfl, h⟩
theorem atP_ok {xs : List PV} {n : Int} {Q : PV → Prop} (h : atP xs n Q) : ∃ x, atI xs n = some x ∧ Q x := by
  cases n with
  | ofNat k =>
    obtain ⟨x, e, q⟩ := optP_ok h
    rw [nth_eq] at e
    exact ⟨x, atI_nat e, q⟩
  | negSucc k =>
    obtain ⟨l, h⟩ := ifB_f h
    obtain ⟨x, e, q⟩ := optP_ok h
    have l := Nat.le_of_ble_eq_true l
    rw [nth_eq] at e
    refine ⟨x, ?_, q⟩
    unfold atI ixN
    rw [if_neg (by omega), if_pos (by omega)]
    show xs[(Int.negSucc k + (xs.length : Int)).toNat]? = some x
    rw [show (Int.negSucc k + (xs.length : Int)).toNat = xs.length - (k + 1) by omega]
    exact e
theorem at_rep {k : Kx} {F : Hp} {xs : List PV} {vs : List V} {n : Int} {x : PV} (r : Reps k F xs vs) (h : atI xs n = some x) : ∃ v, atI vs n = some v ∧ Rep k F x v := by
  unfold atI at *
  rw [← r.len]
  obtain ⟨j, e1, e2⟩ := Option.bind_eq_some_iff.mp h
  obtain ⟨v, e3, rv⟩ := r.get e2
  exact ⟨v, by rw [e1]; exact e3, rv⟩
theorem Reps.rep {k : Kx} {F : Hp} {xs : List PV} {vs : List V} (h : Reps k F xs vs) : ∀ n, Reps k F (List.replicate n xs).flatten (List.replicate n vs).flatten
  | 0 => .nil
  | n + 1 => by
    rw [List.replicate_succ, List.replicate_succ, List.flatten_cons, List.flatten_cons]
    exact h.append (Reps.rep h n)
theorem Stt.cast {X X' : Cx} {ct : Ct} {F H : Hp} {ρ : Env} {σ : L2.St} (S : Stt X ct F ρ σ H) (hK : X.K = X'.K) : Stt X' ct F ρ σ H := ⟨S.sub, S.gr, S.gua, S.p0, S.p1, S.m0, by rw [← hK]; exact S.slots⟩
theorem wipe_wipe (σ : L2.St) (vs : List Nat) : wipe (wipe σ vs) vs = wipe σ vs := by
  apply List.ext_getElem?
  intro j
  rw [wipe_get, wipe_get]
  by_cases h : j ∈ vs
  · simp only [if_pos h, Option.map_map]
    rfl
  · simp only [if_neg h]
def tOf (X : Cx) : Option Expr → TO
  | none => tNoPart
  | some e => tPart (We X e)
theorem po_of {X : Cx} {o : Option Expr} : PO X o (tOf X o) := by
  cases o with
  | none => exact po_none
  | some e => exact po_some We.pe
theorem Reps.take {k : Kx} {F : Hp} : ∀ {xs : List PV} {vs : List V} (n : Nat), Reps k F xs vs → Reps k F (xs.take n) (vs.take n)
  | _, _, 0, _ => .nil
  | [], _, n + 1, h => by cases h; exact .nil
  | x :: xs, _, n + 1, h => by
    obtain ⟨v, ws, rfl, h1, h2⟩ := h
    exact .cons h1 (Reps.take n h2)
theorem Reps.drop {k : Kx} {F : Hp} : ∀ {xs : List PV} {vs : List V} (n : Nat), Reps k F xs vs → Reps k F (xs.drop n) (vs.drop n)
  | _, _, 0, h => h
  | [], _, n + 1, h => by cases h; exact .nil
  | x :: xs, _, n + 1, h => by
    obtain ⟨v, ws, rfl, h1, h2⟩ := h
    exact Reps.drop n h2
theorem cut_rep {k : Kx} {F : Hp} {xs : List PV} {vs : List V} (r : Reps k F xs vs) (lo hi : Option Int) : Reps k F (cutP xs lo hi) (cutV vs lo hi) := by
  unfold cutP cutV
  rw [← r.len]
  exact (r.drop _).take _
theorem tOf_ok {X : Cx} {ct : Ct} {L : Lang} {m : CE → Expr → Bool} {c : CE} {o : Option Expr} {F H : Hp} {ρ : Env} {σ : L2.St} {K : Option Int → Prop} {E : KE} {R : Option Int → Hp → Prop} (mm : (match o with
      | none => isNon c
      | some e => !isNon c && m c e) = true) (S : Stt X ct F ρ σ H) (h : ifB (isNon c) (K none) (denE L c ρ (fun x => asI x fun n => K (some n)) E))
    (ih : denE L c ρ (fun x => asI x fun n => K (some n)) E → ∀ e, m c e = true → We X e σ H (Post X ct F H ρ σ fun x => asI x fun n => K (some n))) (k : ∀ l H1 F1, Stt X ct F1 ρ σ H1 → Fwd ct.pl F H F1 H1 → K l → R l H1) : tOf X o σ H R := by
  cases o with
  | none =>
    have mm : isNon c = true := mm
    rw [mm] at h
    exact k none H F S (.refl S) h
  | some e =>
    have mm : (!isNon c && m c e) = true := mm
    simp only [Bool.and_eq_true, Bool.not_eq_true'] at mm
    rw [mm.1] at h
    refine We.up (ih h e mm.2) ?_
    rintro v H1 ⟨x, F1, S1, s1, r1, q1⟩
    obtain ⟨n, rfl, q1⟩ := asI_ok q1
    cases r1
    exact ⟨n, rfl, k _ H1 F1 S1 s1 q1⟩
theorem wtGen {X : Cx} {ct : Ct} {e : Expr} {F H : Hp} {ρ : Env} {σ : L2.St} {P : Bool → Prop} (z : plainT e = true) (h : We X e σ H (Post X ct F H ρ σ fun x => asB x P)) : Wt X e σ H (PostT X ct F H ρ σ P) := wt_val (fun whole => isTrue_plain z whole) (We.up h fun v H1 ⟨x, F1, S1, s1, r1, q1⟩ => by
  obtain ⟨k, rfl, q1⟩ := asB_ok q1
  exact ⟨k, r1, F1, S1, s1, q1⟩)
/-- the tests of a comprehension, none or one -/
def condTT (X : Cx) (scope : Scope) : List Expr → TT
  | [] => tYes
  | [c] => tB X scope c
  | _ => fun _ _ _ => False
theorem condPT {X : Cx} {scope : Scope} {ifs : List Expr} {s : Shared} {H : Hp} {C : Addr} {cl : List (Str × Addr)} {fp : List Addr} : PTs (X.blk s H scope (compEnvC scope cl C X.env) fp) ifs (condTT X scope ifs) := by
  match ifs with
  | [] => exact pts_nil
  | [c] => exact pts_one tB.pt
  | _ :: _ :: _ => exact ⟨fun _ _ _ _ _ _ h => h.elim⟩
section
variable {b : B6} {L : Lang} {N : List Str} {CL : List Cl} {G : List GK} {cm all : Bool} {ct : Ct}
theorem e_var {X : Cx} {sc : Scope} {i : Nat} {x : Str} {pos : Pos} {σ : L2.St} {H : Hp} {Q : VK} {v : V} (C : Cok X N cm all sc ct.ex) (m : (decide (N[i]? = some x) && visB sc x && okN x) = true) (hv : σ[i]? = some (some v)) (q : Q v H) : We X (.Name x pos) σ H Q := by
  simp only [Bool.and_eq_true, decide_eq_true_eq] at m
  obtain ⟨⟨m1, m2⟩, m3⟩ := m
  exact we_name (by rw [C.n]; exact m1) (C.vis m2) (okN_ok m3).1 (okN_ok m3).2 hv q
theorem isGlo_ok {i : Nat} {x : Str} (h : isGlo G i x = true) : nth G i = some (.glo x) := by
  unfold isGlo at h
  split at h
  · rename_i y e
    rw [e, of_decide_eq_true h]
  · cases h
theorem frmAt_ok {i : Nat} {f : Frm} (h : frmAt G i = some f) : nth G i = some (.frm f) := by
  unfold frmAt at h
  split at h
  · rename_i g e
    rw [e]
    cases h
    rfl
  · cases h
theorem isSta_ok {i : Nat} {c m : Str} (h : isSta G i c m = true) : ∃ d : Cl, c = d.nm ∧ nth G i = some (.sta d m) := by
  unfold isSta at h
  split at h
  · rename_i d y e
    obtain ⟨h1, h2⟩ := Bool.and_eq_true_iff.mp h
    exact ⟨d, of_decide_eq_true h1, by rw [e, of_decide_eq_true h2]⟩
  · cases h
theorem isMet_ok {i : Nat} {m : Str} (h : isMet G i m = true) : ∃ c, nth G i = some (.met c m) := by
  unfold isMet at h
  split at h
  · rename_i c y e
    exact ⟨c, by rw [e, of_decide_eq_true h]⟩
  · cases h
theorem zip_map' : ∀ {fs : List Str} {vs : List V} {n : Nat}, vs.length ≤ fs.length → vs.length = n → (fs.zip vs).map (·.1) = fs.take n
  | _, [], _, _, e => by subst e; simp
  | [], v :: vs, _, l, _ => by simp at l
  | f :: fs, v :: vs, _, l, e => by
    subst e
    simp at l
    simp [zip_map' l rfl]
theorem ins_at {X : Cx} {F H : Hp} {x : PV} {v : V} {c : Cl} (s : Same F H) (r : Rep ⟨X.K, ct.pl⟩ F x v) (h : insOf c x) : ∃ a dx fs, v = .ref a ∧ H a = some (.ins (He.ga X.K c.nm) dx fs) ∧ ∃ n, fs.map (·.1) = c.fs.take n := by
  cases x with
  | obj d xs =>
    cases h
    unfold Rep at r
    obtain ⟨a, dx, vs, rfl, e, l, rs⟩ := r
    exact ⟨a, dx, _, rfl, s _ _ e, xs.length, zip_map' (by rw [← rs.len]; exact l.1) rs.len.symm⟩
  | rat q =>
    cases h
    unfold Rep at r
    obtain ⟨a, dx, rfl, e⟩ := r
    exact ⟨a, dx, _, rfl, s _ _ e, 2, rfl⟩
  | _ => exact h.elim
theorem isCl_ok {c : Cl} {x : PV} {Q : Prop} (h : isCl c x Q) : insOf c x ∧ Q := by
  unfold isCl at h
  cases x with
  | obj d xs =>
    simp only at h
    split at h
    · rename_i e; exact ⟨e, h⟩
    · exact h.elim
  | rat q =>
    simp only at h
    split at h
    · rename_i e; exact ⟨e, h⟩
    · exact h.elim
  | _ => exact h.elim
end
def SE (b : B6) (L : Lang) (N : List Str) (CL : List Cl) (G : List GK) (cm : Bool) (c : CE) : Prop := ∀ {ct : Ct} {X : Cx} {all : Bool} {sc : Scope} {e : Expr}, b6 X = b → Cok X N cm all sc ct.ex → mE N G CL cm sc c e = true → ∀ {F : Hp} {ρ : Env} {σ : L2.St} {H : Hp} {Q : PV → Prop} {E : KE}, Stt X ct F ρ σ H → Eok X ct F ρ σ E → denE L c ρ Q E → We X e σ H (Post X ct F H ρ σ Q)
def SEs (b : B6) (L : Lang) (N : List Str) (CL : List Cl) (G : List GK) (cm : Bool) (cs : CEs) : Prop := ∀ {ct : Ct} {X : Cx} {all : Bool} {sc : Scope} {es : List Expr}, b6 X = b → Cok X N cm all sc ct.ex → mEs N G CL cm sc cs es = true → ∀ {F : Hp} {ρ : Env} {σ : L2.St} {H : Hp} {Q : List PV → Prop} {E : KE}, Stt X ct F ρ σ H → Eok X ct F ρ σ E → denEs L cs ρ Q E →
    Wa X es σ H fun vs H' => vs.length = es.length ∧ PostA X ct F H ρ σ Q vs H'
def SAnd (b : B6) (L : Lang) (N : List Str) (CL : List Cl) (G : List GK) (cm : Bool) (cs : CEs) : Prop := ∀ {ct : Ct} {X : Cx} {all : Bool} {sc : Scope} {es : List Expr} {pos : Pos}, b6 X = b → Cok X N cm all sc ct.ex → mEs N G CL cm sc cs es = true → ∀ {F : Hp} {ρ : Env} {σ : L2.St} {H : Hp} {Q : PV → Prop} {E : KE}, Stt X ct F ρ σ H → Eok X ct F ρ σ E → denAnd L cs ρ Q E →
    We X (.BoolOp .And es pos) σ H (Post X ct F H ρ σ Q)
def SOr (b : B6) (L : Lang) (N : List Str) (CL : List Cl) (G : List GK) (cm : Bool) (cs : CEs) : Prop := ∀ {ct : Ct} {X : Cx} {all : Bool} {sc : Scope} {es : List Expr} {pos : Pos}, b6 X = b → Cok X N cm all sc ct.ex → mEs N G CL cm sc cs es = true → ∀ {F : Hp} {ρ : Env} {σ : L2.St} {H : Hp} {Q : PV → Prop} {E : KE}, Stt X ct F ρ σ H → Eok X ct F ρ σ E → denOr L cs ρ Q E →
    We X (.BoolOp .Or es pos) σ H (Post X ct F H ρ σ Q)
def SO (b : B6) (L : Lang) (N : List Str) (CL : List Cl) (G : List GK) (cm : Bool) (o : CO) : Prop := ∀ {ct : Ct} {X : Cx} {all : Bool} {sc : Scope} {e : Expr}, b6 X = b → Cok X N cm all sc ct.ex → mO N G CL cm sc o e = true → ∀ {F : Hp} {ρ : Env} {σ : L2.St} {H : Hp} {Q : List PV → Prop} {E : KE}, Stt X ct F ρ σ H → Eok X ct F ρ σ E → denO L o ρ Q E → We X e σ H (PostO X ct F H ρ σ Q)
def SIt (b : B6) (L : Lang) (N : List Str) (CL : List Cl) (G : List GK) (cm : Bool) (it : CIt) : Prop := ∀ {ct : Ct} {X : Cx} {all : Bool} {sc : Scope} {tg e : Expr}, b6 X = b → Cok X N cm all sc ct.ex → mIt N G CL cm sc it tg e = true → ∀ {F : Hp} {ρ : Env} {σ : L2.St} {H : Hp} {Q : List PV → Prop} {E : KE}, Stt X ct F ρ σ H → Eok X ct F ρ σ E → denIt L it ρ Q E → ItP X ct F ρ σ H tg e Q
def SAndT (b : B6) (L : Lang) (N : List Str) (CL : List Cl) (G : List GK) (cm : Bool) (cs : CEs) : Prop := ∀ {ct : Ct} {X : Cx} {all : Bool} {sc : Scope} {es : List Expr}, b6 X = b → Cok X N cm all sc ct.ex → mEs N G CL cm sc cs es = true → ∀ {F : Hp} {ρ : Env} {σ : L2.St} {H : Hp} {P : Bool → Prop} {E : KE}, Stt X ct F ρ σ H → Eok X ct F ρ σ E → denAnd L cs ρ (fun x => asB x P) E →
    ∀ pos, Ww X (.BoolOp .And es pos) σ H (PostT X ct F H ρ σ P)
def SOrT (b : B6) (L : Lang) (N : List Str) (CL : List Cl) (G : List GK) (cm : Bool) (cs : CEs) : Prop := ∀ {ct : Ct} {X : Cx} {all : Bool} {sc : Scope} {es : List Expr}, b6 X = b → Cok X N cm all sc ct.ex → mEs N G CL cm sc cs es = true → ∀ {F : Hp} {ρ : Env} {σ : L2.St} {H : Hp} {P : Bool → Prop} {E : KE}, Stt X ct F ρ σ H → Eok X ct F ρ σ E → denOr L cs ρ (fun x => asB x P) E →
    ∀ pos, Ww X (.BoolOp .Or es pos) σ H (PostT X ct F H ρ σ P)
def ST (b : B6) (L : Lang) (N : List Str) (CL : List Cl) (G : List GK) (cm : Bool) (c : CE) : Prop := ∀ {ct : Ct} {X : Cx} {all : Bool} {sc : Scope} {e : Expr}, b6 X = b → Cok X N cm all sc ct.ex → mE N G CL cm sc c e = true → ∀ {F : Hp} {ρ : Env} {σ : L2.St} {H : Hp} {P : Bool → Prop} {E : KE}, Stt X ct F ρ σ H → Eok X ct F ρ σ E → denE L c ρ (fun x => asB x P) E →
    Wt X e σ H (PostT X ct F H ρ σ P)
def SCond (b : B6) (L : Lang) (N : List Str) (CL : List Cl) (G : List GK) (cm : Bool) (cs : CEs) : Prop := ∀ {ct : Ct} {X : Cx} {all : Bool} {sc scope : Scope} {ifs : List Expr}, b6 X = b → Cok X N cm all sc ct.ex → ct.ex = none → mEs N G CL cm (relS sc scope) cs ifs = true → ∀ {F : Hp} {ρ : Env} {σ : L2.St} {H : Hp} {P : Bool → Prop} {R : Bool → Hp → Prop}, Stt X ct F ρ σ H → denConds L cs ρ P →
    (∀ k H' F', Stt X ct F' ρ σ H' → Fwd ct.pl F H F' H' → P k → R k H') → condTT X scope ifs σ H R
section
variable {b : B6} {L : Lang} {N : List Str} {CL : List Cl} {G : List GK} {cm : Bool} {ct : Ct} (hL : LOk b L CL) (hG : G = L.G.map (·.1))
include hL hG
theorem sE_0 {i}  : SE b L N CL G cm (.var i) := by
  unfold SE
  intro ct X all sc e hb C m F ρ σ H Q E S hE h
  unfold mE at m
  split at m
  · obtain ⟨x, e1, q⟩ := getV_ok h
    obtain ⟨v, e2, r⟩ := S.get e1
    exact e_var C m e2 ⟨x, F, S, (.refl S), r, q⟩
  · cases m
theorem sE_1 {n}  : SE b L N CL G cm (.int n) := by
  unfold SE
  intro ct X all sc e hb C m F ρ σ H Q E S hE h
  unfold mE at m
  split at m
  · cases of_decide_eq_true m
    exact we_int ⟨.int n, F, S, (.refl S), rfl, h⟩
  · cases m
theorem sE_2 {n}  : SE b L N CL G cm (.bl n) := by
  unfold SE
  intro ct X all sc e hb C m F ρ σ H Q E S hE h
  unfold mE at m
  split at m
  · cases of_decide_eq_true m
    exact we_bl ⟨.bl n, F, S, (.refl S), rfl, h⟩
  · cases m
theorem sE_3  : SE b L N CL G cm (.non) := by
  unfold SE
  intro ct X all sc e hb C m F ρ σ H Q E S hE h
  unfold mE at m
  split at m
  · exact we_non ⟨.non, F, S, (.refl S), rfl, h⟩
  · cases m
theorem sE_4 {n}  : SE b L N CL G cm (.str n) := by
  unfold SE
  intro ct X all sc e hb C m F ρ σ H Q E S hE h
  unfold mE at m
  split at m
  · cases of_decide_eq_true m
    exact we_str ⟨.str n, F, S, (.refl S), rfl, h⟩
  · cases m
theorem sE_5 {t}  : SE b L N CL G cm (.ty t) := by
  unfold SE
  intro ct X all sc e hb C m F ρ σ H Q E S hE h
  unfold mE at m
  split at m
  · rename_i x pos
    have hL2 : LOk (b6 X) L CL := hb ▸ hL
    simp only [Bool.and_eq_true, decide_eq_true_eq] at m
    obtain ⟨⟨m1, m2⟩, m3⟩ := m
    subst m1
    obtain ⟨g1, g2, g3⟩ := C.gl m2
    have key : ∀ n, t.val = .type n → t ≠ .gcd → We X (.Name t.nm pos) σ H (Post X ct F H ρ σ Q) := fun n e1 e2 =>
      we_of (pe_bltn g1 (hL2.bi t e2) (by rw [← e1]; exact boot_of e2) (v := .ty n) rfl g3 g2) ⟨.ty t, F, S, (.refl S), ⟨n, e1, rfl⟩, h⟩
    cases t <;> first | exact key _ rfl (by intro z; cases z) | cases m3
  · cases m
theorem sE_6 {c}  : SE b L N CL G cm (.cls c) := by
  unfold SE
  intro ct X all sc e hb C m F ρ σ H Q E S hE h
  unfold mE at m
  split at m
  · have hL2 : LOk (b6 X) L CL := hb ▸ hL
    simp only [Bool.and_eq_true, decide_eq_true_eq] at m
    obtain ⟨⟨m0, m1⟩, m2⟩ := m
    subst m1
    obtain ⟨g1, g2, g3⟩ := C.gl m2
    exact we_of (pe_glob g1 (hL2.cl c m0) (v := .ref (He.ga X.K c.nm)) rfl g2) ⟨.cls c, F, S, (.refl S), rfl, h⟩
  · cases m
theorem sE_7 {es} (iEs_es : SEs b L N CL G cm es) : SE b L N CL G cm (.tup es) := by
  unfold SE
  intro ct X all sc e hb C m F ρ σ H Q E S hE h
  unfold mE at m
  split at m
  · simp only [Bool.and_eq_true, decide_eq_true_eq] at m
    refine we_tup (Wa.up (iEs_es hb C m.1 S hE h) ?_)
    rintro vs H1 ⟨l, xs, F1, S1, s1, r1, q1⟩
    refine ⟨sizeOk (by omega), fun p hp => ?_⟩
    obtain ⟨S2, s2⟩ := S1.newE (o := .tup vs) hp
    exact ⟨.tup xs, _, S2, Fwd.trans s1 s2, ⟨p, vs, rfl, upd_same, r1.mono s2.s⟩, q1⟩
  · cases m
theorem sE_8 {o} (iO_o : SO b L N CL G cm o) : SE b L N CL G cm (.fr o) := by
  unfold SE
  intro ct X all sc e hb C m F ρ σ H Q E S hE h
  unfold mE at m
  exact We.up (iO_o hb C m S hE h) fun v H1 q => q.frz
theorem sE_9 {op x y} (iE_x : SE b L N CL G cm x) (iE_y : SE b L N CL G cm y) : SE b L N CL G cm (.bin op x y) := by
  unfold SE
  intro ct X all sc e hb C m F ρ σ H Q E S hE h
  unfold mE at m
  split at m
  · simp only [Bool.and_eq_true, decide_eq_true_eq] at m
    obtain ⟨⟨rfl, m1⟩, m2⟩ := m
    refine we_bin (We.up (iE_x hb C m1 S hE h) ?_)
    rintro v H1 ⟨x, F1, S1, s1, r1, q1⟩
    refine We.up (iE_y hb C m2 S1 (hE.up s1) q1) ?_
    rintro w H2 ⟨y, F2, S2, s2, r2, q2⟩
    exact Wo.imp (fun v H q => Post.up (Fwd.trans s1 s2) q) (hL.opP (.bin op) X hb ct F2 ρ σ H2 [x, y] [v, w] Q E S2 (.cons (r1.mono s2.s) (.cons r2 .nil)) q2 ((hE.up s1).up s2))
  · cases m
theorem sE_10 {x} (iE_x : SE b L N CL G cm x) : SE b L N CL G cm (.neg x) := by
  unfold SE
  intro ct X all sc e hb C m F ρ σ H Q E S hE h
  unfold mE at m
  split at m
  · refine we_un (We.up (iE_x hb C m S hE h) ?_) (by intro z; cases z)
    rintro v H1 ⟨x, F1, S1, s1, r1, q1⟩
    have o : Wu X (unaryOp .USub) v σ H1 (Post X ct F1 H1 ρ σ Q) := hL.opP .neg X hb ct F1 ρ σ H1 [x] [v] Q E S1 (.cons r1 .nil) q1 (hE.up s1)
    exact fun pins s u I r => thn (o pins s u I r) fun _ _ q => EP.imp (fun v H q => Post.up s1 q) q
  · cases m
theorem sE_11 {x} (iE_x : SE b L N CL G cm x) : SE b L N CL G cm (.inot x) := by
  unfold SE
  intro ct X all sc e hb C m F ρ σ H Q E S hE h
  unfold mE at m
  split at m
  · refine we_not (We.up (iE_x hb C m S hE h) ?_)
    rintro v H1 ⟨x, F1, S1, s1, r1, q1⟩
    obtain ⟨k, rfl, q1⟩ := asB_ok q1
    exact ⟨k, r1, .bl (!k), F1, S1, s1, rfl, q1⟩
  · cases m
theorem sE_12 {op x y} (iE_x : SE b L N CL G cm x) (iE_y : SE b L N CL G cm y) : SE b L N CL G cm (.cmp op x y) := by
  unfold SE
  intro ct X all sc e hb C m F ρ σ H Q E S hE h
  unfold mE at m
  split at m
  · simp only [Bool.and_eq_true, decide_eq_true_eq] at m
    obtain ⟨⟨⟨rfl, m0⟩, m1⟩, m2⟩ := m
    refine we_cmp (mark_no m0) (We.up (iE_x hb C m1 S hE h) ?_)
    rintro v H1 ⟨x, F1, S1, s1, r1, q1⟩
    refine We.up (iE_y hb C m2 S1 (hE.up s1) q1) ?_
    rintro w H2 ⟨y, F2, S2, s2, r2, q2⟩
    exact Wo.imp (fun v H q => Post.up (Fwd.trans s1 s2) q) (hL.opP (.cmp op) X hb ct F2 ρ σ H2 [x, y] [v, w] Q E S2 (.cons (r1.mono s2.s) (.cons r2 .nil)) q2 ((hE.up s1).up s2))
  · cases m
theorem sE_13 {o1 o2 x y z} (iE_x : SE b L N CL G cm x) (iE_y : SE b L N CL G cm y) (iE_z : SE b L N CL G cm z) : SE b L N CL G cm (.cmp2 o1 o2 x y z) := by
  unfold SE
  intro ct X all sc e hb C m F ρ σ H Q E S hE h
  unfold mE at m
  split at m
  · simp only [Bool.and_eq_true, decide_eq_true_eq] at m
    obtain ⟨⟨⟨⟨⟨⟨rfl, rfl⟩, m3⟩, m4⟩, m5⟩, m6⟩, m7⟩ := m
    refine we_chain (marks2 m3 m4) (We.up (iE_x hb C m5 S hE h) ?_)
    rintro v H1 ⟨x, F1, S1, s1, r1, q1⟩
    refine We.up (iE_y hb C m6 S1 (hE.up s1) q1) ?_
    rintro w H2 ⟨y, F2, S2, s2, r2, q2⟩
    refine Wo.imp ?_ (hL.opP (.cmp o1) X hb ct F2 ρ σ H2 [x, y] [v, w] _ E S2 (.cons (r1.mono s2.s) (.cons r2 .nil)) q2 ((hE.up s1).up s2))
    rintro u H3 ⟨u', F3, S3, s3, r3, q3⟩
    obtain ⟨k, rfl, q3⟩ := asB_ok q3
    refine ⟨k, r3, ifB_mono q3 (fun q => ?_) (fun q => ⟨.bl false, F3, S3, Fwd.trans (Fwd.trans s1 s2) s3, rfl, q⟩)⟩
    refine We.up (iE_z hb C m7 S3 (((hE.up s1).up s2).up s3) q) ?_
    rintro w2 H4 ⟨z, F4, S4, s4, r4, q4⟩
    exact Wo.imp (fun v H q => Post.up (Fwd.trans (Fwd.trans (Fwd.trans s1 s2) s3) s4) q) (hL.opP (.cmp o2) X hb ct F4 ρ σ H4 [y, z] [w, w2] Q E S4 (.cons ((r2.mono s3.s).mono s4.s) (.cons r4 .nil)) q4 ((((hE.up s1).up s2).up s3).up s4))
  · cases m
theorem sE_14 {es} (iAnd_es : SAnd b L N CL G cm es) : SE b L N CL G cm (.and es) := by
  unfold SE
  intro ct X all sc e hb C m F ρ σ H Q E S hE h
  unfold mE at m
  split at m
  · exact iAnd_es hb C m S hE h
  · cases m
theorem sE_15 {es} (iOr_es : SOr b L N CL G cm es) : SE b L N CL G cm (.or es) := by
  unfold SE
  intro ct X all sc e hb C m F ρ σ H Q E S hE h
  unfold mE at m
  split at m
  · exact iOr_es hb C m S hE h
  · cases m
theorem sE_16 {c x y} (iT_c : ST b L N CL G cm c) (iE_x : SE b L N CL G cm x) (iE_y : SE b L N CL G cm y) : SE b L N CL G cm (.ite c x y) := by
  unfold SE
  intro ct X all sc e hb C m F ρ σ H Q E S hE h
  unfold mE at m
  split at m
  · simp only [Bool.and_eq_true] at m
    obtain ⟨⟨m1, m2⟩, m3⟩ := m
    refine we_ite (Wt.imp ?_ (iT_c hb C m1 S hE h))
    rintro k H1 ⟨F1, S1, s1, q1⟩
    exact ifB_mono q1 (fun q => We.up (iE_x hb C m2 S1 (hE.up s1) q) fun v H q => Post.up s1 q) (fun q => We.up (iE_y hb C m3 S1 (hE.up s1) q) fun v H q => Post.up s1 q)
  · cases m
theorem sE_17 {i es} (iEs_es : SEs b L N CL G cm es) : SE b L N CL G cm (.call i es) := by
  unfold SE
  intro ct X all sc e hb C m F ρ σ H Q E S hE h
  unfold mE at m
  split at m
  · rename_i x _ xs pos
    simp only [Bool.and_eq_true] at m
    obtain ⟨⟨m1, m2⟩, m3⟩ := m
    have hL2 : LOk (b6 X) L CL := hb ▸ hL
    obtain ⟨p, hp⟩ := keys_at hG (isGlo_ok m1)
    obtain ⟨f, f1, f2, f3⟩ := hL2.g i x p hp
    obtain ⟨g1, g2, g3⟩ := C.gl m2
    cases xs with
    | nil =>
      cases es with
      | nil => exact we_call0 g1 f1 f2 g2 (Wf.imp (fun v H q => q.post) (f3 X rfl ct F ρ σ H [] [] Q E S .nil (callG_ok hp h) hE))
      | cons c cs => simp [mEs] at m3
    | cons y ys =>
      have st := mEs_star m3
      refine we_call g1 f1 f2 g2 (star_cons (st _ (.head _))) (star_pl fun e he => st e (.tail _ he)) (Wa.up (iEs_es hb C m3 S hE h) ?_)
      rintro vs H1 ⟨l, xs, F1, S1, s1, r1, q1⟩
      exact Wf.imp (fun v H q => Post.up s1 q.post) (f3 X rfl ct F1 ρ σ H1 xs vs Q E S1 r1 (callG_ok hp q1) (hE.up s1))
  · cases m
theorem sE_ext {i es} (iEs_es : SEs b L N CL G cm es) : SE b L N CL G cm (.ext i es) := by
  unfold SE
  intro ct X all sc e hb C m F ρ σ H Q E S hE h
  unfold mE at m
  split at m
  · rename_i f hf
    split at m
    · rename_i xs hx
      obtain ⟨m1, m2⟩ := Bool.and_eq_true_iff.mp m
      have hL2 : LOk (b6 X) L CL := hb ▸ hL
      obtain ⟨p, hp⟩ := keys_at hG (frmAt_ok hf)
      obtain ⟨f1, f2⟩ := hL2.fm i f p hp
      refine f1 X.A X rfl sc e xs C.sc hx (mEs_star m2) σ H _ (Wa.up (iEs_es hb C m2 S hE h) ?_)
      rintro vs H1 ⟨l, xs, F1, S1, s1, r1, q1⟩
      exact f.imp (fun v H q => Post.up s1 q.post) (f2 X rfl ct F1 ρ σ H1 xs vs Q E S1 r1 (callG_ok hp q1) (hE.up s1))
    · cases m
  · cases m
theorem sE_sta {i es} (iEs_es : SEs b L N CL G cm es) : SE b L N CL G cm (.sta i es) := by
  unfold SE
  intro ct X all sc e hb C m F ρ σ H Q E S hE h
  unfold mE at m
  split at m
  · rename_i c _ mm ap xs pos
    simp only [Bool.and_eq_true, decide_eq_true_eq] at m
    obtain ⟨⟨⟨⟨⟨m1, m2⟩, m3⟩, m4⟩, m5⟩, m6⟩ := m
    have hL2 : LOk (b6 X) L CL := hb ▸ hL
    obtain ⟨d, rfl, hc⟩ := isSta_ok m1
    obtain ⟨p, hp⟩ := keys_at hG hc
    obtain ⟨f, f1, f2, f3⟩ := hL2.st i d mm p hp
    obtain ⟨g1, g2, g3⟩ := C.gl m2
    have st := mEs_star m6
    cases xs with
    | nil => exact absurd rfl m5
    | cons y ys =>
      refine we_sta f1 g1 f2 g2 m3 st m4 (Wa.up (iEs_es hb C m6 S hE h) ?_)
      rintro vs H1 ⟨l, xs, F1, S1, s1, r1, q1⟩
      exact Wf.imp (fun v H q => Post.up s1 q.post) (f3 X rfl ct F1 ρ σ H1 xs vs Q E S1 r1 (callG_ok hp q1) (hE.up s1))
  · cases m
theorem sE_18 {i a es} (iE_a : SE b L N CL G cm a) (iEs_es : SEs b L N CL G cm es) : SE b L N CL G cm (.meth i a es) := by
  unfold SE
  intro ct X all sc e hb C m F ρ σ H Q E S hE h
  unfold mE at m
  split at m
  · rename_i o mm ap xs pos
    simp only [Bool.and_eq_true, decide_eq_true_eq] at m
    obtain ⟨⟨⟨⟨⟨m1, m2⟩, m3⟩, m4⟩, m5⟩, m6⟩ := m
    have hL2 : LOk (b6 X) L CL := hb ▸ hL
    obtain ⟨c, hc⟩ := isMet_ok m1
    obtain ⟨p, hp⟩ := keys_at hG hc
    obtain ⟨f, f1, f2, f3, f4⟩ := (hL2.m i c mm p hp).ex
    unfold denE at h
    have st := mEs_star m6
    cases xs with
    | nil =>
      cases es with
      | nil =>
        refine we_meth0 f1 f2 m2 m3 (We.up (iE_a hb C m5 S hE h) ?_)
        rintro v H1 ⟨x, F1, S1, s1, r1, q1⟩
        rw [hp] at q1
        obtain ⟨ic, q1⟩ := isCl_ok q1
        unfold denEs at q1
        obtain ⟨z, dx, fs, rfl, hz, hf⟩ := ins_at (ct := ct) S1.sub r1 ic
        exact ⟨z, dx, fs, rfl, hz, f3 fs hf, Wf.imp (fun v H q => Post.up s1 q.post) (f4 X rfl ct F1 ρ σ H1 [x] [.ref z] Q E S1 (.cons r1 .nil) (callG_ok hp q1) (hE.up s1))⟩
      | cons c cs => simp [mEs] at m6
    | cons y ys =>
      refine we_meth f1 f2 m2 m3 st m4 (We.up (iE_a hb C m5 S hE h) ?_)
      rintro v H1 ⟨x, F1, S1, s1, r1, q1⟩
      rw [hp] at q1
      obtain ⟨ic, q1⟩ := isCl_ok q1
      obtain ⟨z, dx, fs, rfl, hz, hf⟩ := ins_at (ct := ct) S1.sub r1 ic
      refine ⟨z, dx, fs, rfl, hz, f3 fs hf, Wa.up (iEs_es hb C m6 S1 (hE.up s1) q1) ?_⟩
      rintro vs H2 ⟨l, xs, F2, S2, s2, r2, q2⟩
      exact Wf.imp (fun v H q => Post.up (Fwd.trans s1 s2) q.post) (f4 X rfl ct F2 ρ σ H2 (x :: xs) (.ref z :: vs) Q E S2 (.cons (r1.mono s2.s) r2) (callG_ok hp q2) ((hE.up s1).up s2))
  · cases m
theorem sE_19 {t es} (iEs_es : SEs b L N CL G cm es) : SE b L N CL G cm (.bi t es) := by
  unfold SE
  intro ct X all sc e hb C m F ρ σ H Q E S hE h
  unfold mE at m
  split at m
  · rename_i x _ y ys pos
    simp only [Bool.and_eq_true, decide_eq_true_eq] at m
    obtain ⟨⟨rfl, m2⟩, m3⟩ := m
    have hL2 : LOk (b6 X) L CL := hb ▸ hL
    obtain ⟨g1, g2, g3⟩ := C.gl m2
    have st := mEs_star m3
    have body : Wa X (y :: ys) σ H fun vs H1 => Wcb X t.val vs H1 (Post X ct F H ρ σ Q) := by
      refine Wa.up (iEs_es hb C m3 S hE h) ?_
      rintro vs H1 ⟨l, xs, F1, S1, s1, r1, q1⟩
      obtain ⟨r, hr, q⟩ := hL2.opP (.bi t) X rfl ct F1 ρ σ H1 xs vs Q E S1 r1 q1 (hE.up s1)
      refine ⟨fun vs' H' Q' => r vs' H' (Post X ct F1 H1 ρ σ Q) ∧ ∀ v H2, Post X ct F1 H1 ρ σ Q v H2 → Q' v H2, ?_, q, fun v H2 q => Post.up s1 q⟩
      intro pins s σ' H' vs' us Q' I rr hq
      exact thn (hr pins s σ' H' vs' us _ I rr hq.1) fun _ _ z => EP.imp hq.2 z
    have a1 := star_cons (env := X.env) (es := ys) (st _ (.head _))
    have a2 := star_pl (pos := pos) (env := X.env) (es := ys) fun e he => st e (.tail _ he)
    by_cases hgc : t = .gcd
    · subst hgc
      exact we_callGB g1 hL2.gcd g2 a1 a2 body
    · have bt := boot_of hgc
      have fr := hL2.bi t hgc
      cases t <;> first | exact absurd rfl hgc | exact we_callB g1 fr bt g3 g2 a1 a2 body | exact we_callTy g1 fr bt g3 g2 a1 a2 body
  · cases m
theorem sE_20 {c j a} (iE_a : SE b L N CL G cm a) : SE b L N CL G cm (.fld c j a) := by
  unfold SE
  intro ct X all sc e hb C m F ρ σ H Q E S hE h
  unfold mE at m
  split at m
  · rename_i o f pos
    simp only [Bool.and_eq_true, decide_eq_true_eq] at m
    obtain ⟨⟨m1, m2⟩, m3⟩ := m
    refine we_fld (attr_id m2) (We.up (iE_a hb C m3 S hE h) ?_)
    rintro v H1 ⟨x, F1, S1, s1, r1, q1⟩
    have o := hL.opP (.fld c j) X hb ct F1 ρ σ H1 [x] [v] Q E S1 (.cons r1 .nil) q1 (hE.up s1)
    unfold OpSem at o
    simp only [m1] at o
    obtain ⟨a, C', dx, fs, u, e1, e2, e3, e4, e5, q⟩ := o
    exact ⟨a, C', dx, fs, u, e1, e2, e3, e4, e5, Post.up s1 q⟩
  · cases m
theorem sE_21 {x y} (iE_x : SE b L N CL G cm x) (iE_y : SE b L N CL G cm y) : SE b L N CL G cm (.ix x y) := by
  unfold SE
  intro ct X all sc e hb C m F ρ σ H Q E S hE h
  unfold mE at m
  split at m
  · simp only [Bool.and_eq_true] at m
    obtain ⟨⟨m0, m1⟩, m2⟩ := m
    refine we_ixn m0 (We.up (iE_x hb C m1 S hE h) ?_)
    rintro v H1 ⟨x, F1, S1, s1, r1, q1⟩
    refine We.up (iE_y hb C m2 S1 (hE.up s1) q1) ?_
    rintro w H2 ⟨y, F2, S2, s2, r2, q2⟩
    exact Ixn.imp (fun v H3 q => Post.up (Fwd.trans s1 s2) q) (hL.opP .ix X hb ct F2 ρ σ H2 [x, y] [v, w] Q E S2 (.cons (r1.mono s2.s) (.cons r2 .nil)) q2 ((hE.up s1).up s2))
  · cases m
theorem sE_22 {i y} (iE_y : SE b L N CL G cm y) : SE b L N CL G cm (.ixo i y) := by
  unfold SE
  intro ct X all sc e hb C m F ρ σ H Q E S hE h
  unfold mE at m
  split at m
  · rename_i x _ z _
    simp only [Bool.and_eq_true, decide_eq_true_eq] at m
    obtain ⟨⟨⟨⟨m1, m2⟩, m3⟩, m4⟩, m5⟩ := m
    obtain ⟨xs, e1, q⟩ := getO_ok h
    obtain ⟨os, hs, _⟩ := S.slots
    obtain ⟨p, vs, e2, e3, e4, e5⟩ := hs.getO e1
    refine we_ix (ix_plain m4) (e_var C (by simp [m1, m2, m3]) e2 (We.up (iE_y hb C m5 S hE q) ?_))
    rintro w H2 ⟨y, F2, S2, s2, r2, q2⟩
    obtain ⟨n, rfl, q2⟩ := asI_ok q2
    cases r2
    obtain ⟨os', hs', _⟩ := S2.slots
    obtain ⟨p', vs', e2', e3', e4', e5'⟩ := hs'.getO e1
    rw [e2] at e2'
    cases e2'
    obtain ⟨x, ex, q2⟩ := atP_ok q2
    obtain ⟨v, ev, rv⟩ := at_rep e4' ex
    exact ix_lh e3' ev ⟨x, F2, S2, s2, rv, q2⟩
  · cases m
theorem sE_23 {i}  : SE b L N CL G cm (.leno i) := by
  unfold SE
  intro ct X all sc e hb C m F ρ σ H Q E S hE h
  unfold mE at m
  split at m
  · rename_i l _ x _ pos
    simp only [Bool.and_eq_true, decide_eq_true_eq] at m
    obtain ⟨⟨⟨⟨rfl, m2⟩, m3⟩, m4⟩, m5⟩ := m
    have hL2 : LOk (b6 X) L CL := hb ▸ hL
    obtain ⟨g1, g2, g3⟩ := C.gl m2
    obtain ⟨xs, e1, q⟩ := getO_ok h
    obtain ⟨os, hs, _⟩ := S.slots
    obtain ⟨p, vs, e2, e3, e4, e5⟩ := hs.getO e1
    refine we_callB (id := "len") g1 (hL2.bi .len (by intro z; cases z)) (boot_of (b := .len) (by intro z; cases z)) g3 g2 rfl rfl (wa_cons rfl (e_var C (by simp [m3, m4, m5]) e2 (wa_nil ?_)))
    refine wcb_lenL (.of e3) ?_
    rw [← e4.len]
    exact ⟨.int xs.length, F, S, (.refl S), rfl, q⟩
  · cases m
theorem sE_snap {x} (iE_x : SE b L N CL G cm x) : SE b L N CL G cm (.snap x) := by
  unfold SE
  intro ct X all sc e hb C m F ρ σ H Q E S hE h
  unfold mE at m
  unfold denE at h
  obtain ⟨FS, s1, s2, SS⟩ := S.snap
  refine We.up (iE_x (ct := ctS ct H FS) hb C m SS (hE.snap S s1 s2) h) ?_
  rintro v H1 ⟨y, F1, S1, e1, r1, q1⟩
  obtain ⟨im, q1⟩ := ifB_f q1
  obtain ⟨F2, S2, e2, r2, _⟩ := S.unsnapV s1 s2 S1 (newr_imm im r1)
  exact ⟨y, F2, S2, e2, r2, q1⟩
theorem sT_snap {x} (iT_x : ST b L N CL G cm x) : ST b L N CL G cm (.snap x) := by
  unfold ST
  intro ct X all sc e hb C m F ρ σ H P E S hE h
  unfold mE at m
  unfold denE at h
  have ef : (fun x : PV => ifB (immP x) (asB x P) False) = (fun x => asB x P) := by
    funext x
    cases x <;> first | rfl | (unfold asB ifB; split <;> rfl)
  rw [ef] at h
  obtain ⟨FS, s1, s2, SS⟩ := S.snap
  refine Wt.imp ?_ (iT_x (ct := ctS ct H FS) hb C m SS (hE.snap S s1 s2) h)
  rintro k H1 ⟨F1, S1, e1, q1⟩
  obtain ⟨S2, e2⟩ := S.unsnap s1 S1
  exact ⟨F, S2, e2, q1⟩
/-- what gives something new -/
def SN (b : B6) (L : Lang) (N : List Str) (CL : List Cl) (G : List GK) (cm : Bool) (c : CE) : Prop := frE L c = true → ∀ {ct : Ct} {X : Cx} {all : Bool} {sc : Scope} {e : Expr}, b6 X = b → Cok X N cm all sc ct.ex → mE N G CL cm sc c e = true → ∀ {F : Hp} {ρ : Env} {σ : L2.St} {H : Hp} {Q : PV → Prop} {E : KE}, Stt X ct F ρ σ H → Eok X ct F ρ σ E → denE L c ρ Q E → We X e σ H (PostC true X ct F H ρ σ Q)
theorem sE_snapF {x} (iN_x : SN b L N CL G cm x) : SE b L N CL G cm (.snapF x) := by
  unfold SE
  intro ct X all sc e hb C m F ρ σ H Q E S hE h
  unfold mE at m
  unfold denE at h
  obtain ⟨fr, h⟩ := ifB_f h
  obtain ⟨FS, s1, s2, SS⟩ := S.snap
  refine We.up (iN_x fr (ct := ctS ct H FS) hb C m SS (hE.snap S s1 s2) h) ?_
  rintro v H1 ⟨y, F1, S1, e1, r1, n1, q1⟩
  obtain ⟨F2, S2, e2, r2, _⟩ := S.unsnapV s1 s2 S1 (n1 rfl)
  exact ⟨y, F2, S2, e2, r2, q1⟩
theorem sN_snapF {x} (iN_x : SN b L N CL G cm x) : SN b L N CL G cm (.snapF x) := by
  unfold SN
  intro _ ct X all sc e hb C m F ρ σ H Q E S hE h
  unfold mE at m
  unfold denE at h
  obtain ⟨fr, h⟩ := ifB_f h
  obtain ⟨FS, s1, s2, SS⟩ := S.snap
  refine We.up (iN_x fr (ct := ctS ct H FS) hb C m SS (hE.snap S s1 s2) h) ?_
  rintro v H1 ⟨y, F1, S1, e1, r1, n1, q1⟩
  obtain ⟨F2, S2, e2, r2, n2⟩ := S.unsnapV s1 s2 S1 (n1 rfl)
  exact ⟨y, F2, S2, e2, r2, fun _ => n2, q1⟩
/-- by what is never changed -/
theorem sN_imm {c : CE} (hi : ∀ {ρ : Env} {Q : PV → Prop} {E : KE}, denE L c ρ Q E → denE L c ρ (fun x => immP x = true ∧ Q x) E) (h : SE b L N CL G cm c) : SN b L N CL G cm c := by
  unfold SN
  intro _ ct X all sc e hb C m F ρ σ H Q E S hE hd
  refine We.up (h hb C m S hE (hi hd)) ?_
  rintro v H1 ⟨y, F1, S1, e1, r1, im, q1⟩
  exact ⟨y, F1, S1, e1, r1, fun _ => newr_imm im r1, q1⟩
theorem sN_no {c : CE} (h : frE L c = false) : SN b L N CL G cm c := by
  unfold SN
  intro z
  rw [h] at z
  cases z
theorem sN_snap {x} (iE_x : SE b L N CL G cm x) : SN b L N CL G cm (.snap x) := by
  unfold SN
  intro _ ct X all sc e hb C m F ρ σ H Q E S hE h
  unfold mE at m
  unfold denE at h
  obtain ⟨FS, s1, s2, SS⟩ := S.snap
  refine We.up (iE_x (ct := ctS ct H FS) hb C m SS (hE.snap S s1 s2) h) ?_
  rintro v H1 ⟨y, F1, S1, e1, r1, q1⟩
  obtain ⟨im, q1⟩ := ifB_f q1
  obtain ⟨F2, S2, e2, r2, n2⟩ := S.unsnapV s1 s2 S1 (newr_imm im r1)
  exact ⟨y, F2, S2, e2, r2, fun _ => n2, q1⟩
theorem sN_9 {op x y} (iE_x : SE b L N CL G cm x) (iE_y : SE b L N CL G cm y) : SN b L N CL G cm (.bin op x y) := by
  unfold SN
  intro hfr ct X all sc e hb C m F ρ σ H Q E S hE h
  have hfr : (L.op (.bin op)).fresh = true := hfr
  unfold mE at m
  split at m
  · simp only [Bool.and_eq_true, decide_eq_true_eq] at m
    obtain ⟨⟨rfl, m1⟩, m2⟩ := m
    refine we_bin (We.up (iE_x hb C m1 S hE h) ?_)
    rintro v H1 ⟨x, F1, S1, s1, r1, q1⟩
    refine We.up (iE_y hb C m2 S1 (hE.up s1) q1) ?_
    rintro w H2 ⟨y, F2, S2, s2, r2, q2⟩
    rw [← hfr]
    exact Wo.imp (fun v H q => PostC.up (Fwd.trans s1 s2) q) (hL.op (.bin op) X hb ct F2 ρ σ H2 [x, y] [v, w] Q E S2 (.cons (r1.mono s2.s) (.cons r2 .nil)) q2 ((hE.up s1).up s2))
  · cases m
theorem sN_10 {x} (iE_x : SE b L N CL G cm x) : SN b L N CL G cm (.neg x) := by
  unfold SN
  intro hfr ct X all sc e hb C m F ρ σ H Q E S hE h
  have hfr : (L.op .neg).fresh = true := hfr
  unfold mE at m
  split at m
  · refine we_un (We.up (iE_x hb C m S hE h) ?_) (by intro z; cases z)
    rintro v H1 ⟨x, F1, S1, s1, r1, q1⟩
    rw [← hfr]
    have o : Wu X (unaryOp .USub) v σ H1 (PostC (L.op .neg).fresh X ct F1 H1 ρ σ Q) := hL.op .neg X hb ct F1 ρ σ H1 [x] [v] Q E S1 (.cons r1 .nil) q1 (hE.up s1)
    exact fun pins s u I r => thn (o pins s u I r) fun _ _ q => EP.imp (fun v H q => PostC.up s1 q) q
  · cases m
theorem sN_12 {op x y} (iE_x : SE b L N CL G cm x) (iE_y : SE b L N CL G cm y) : SN b L N CL G cm (.cmp op x y) := by
  unfold SN
  intro hfr ct X all sc e hb C m F ρ σ H Q E S hE h
  have hfr : (L.op (.cmp op)).fresh = true := hfr
  unfold mE at m
  split at m
  · simp only [Bool.and_eq_true, decide_eq_true_eq] at m
    obtain ⟨⟨⟨rfl, m0⟩, m1⟩, m2⟩ := m
    refine we_cmp (mark_no m0) (We.up (iE_x hb C m1 S hE h) ?_)
    rintro v H1 ⟨x, F1, S1, s1, r1, q1⟩
    refine We.up (iE_y hb C m2 S1 (hE.up s1) q1) ?_
    rintro w H2 ⟨y, F2, S2, s2, r2, q2⟩
    rw [← hfr]
    exact Wo.imp (fun v H q => PostC.up (Fwd.trans s1 s2) q) (hL.op (.cmp op) X hb ct F2 ρ σ H2 [x, y] [v, w] Q E S2 (.cons (r1.mono s2.s) (.cons r2 .nil)) q2 ((hE.up s1).up s2))
  · cases m
theorem sN_17 {i es} (iEs_es : SEs b L N CL G cm es) : SN b L N CL G cm (.call i es) := by
  unfold SN
  intro hfr ct X all sc e hb C m F ρ σ H Q E S hE h
  have hfr : frG L i = true := hfr
  unfold mE at m
  split at m
  · rename_i x _ xs pos
    simp only [Bool.and_eq_true] at m
    obtain ⟨⟨m1, m2⟩, m3⟩ := m
    have hL2 : LOk (b6 X) L CL := hb ▸ hL
    obtain ⟨p, hp⟩ := keys_at hG (isGlo_ok m1)
    obtain ⟨f, f1, f2, f3⟩ := hL2.g i x p hp
    have hp3 : p.fresh = true := by
      unfold frG at hfr
      rw [hp] at hfr
      exact hfr
    rw [← hp3]
    obtain ⟨g1, g2, g3⟩ := C.gl m2
    cases xs with
    | nil =>
      cases es with
      | nil => exact we_call0 g1 f1 f2 g2 (Wf.imp (fun v H q => q) (f3 X rfl ct F ρ σ H [] [] Q E S .nil (callG_ok hp h) hE))
      | cons c cs => simp [mEs] at m3
    | cons y ys =>
      have st := mEs_star m3
      refine we_call g1 f1 f2 g2 (star_cons (st _ (.head _))) (star_pl fun e he => st e (.tail _ he)) (Wa.up (iEs_es hb C m3 S hE h) ?_)
      rintro vs H1 ⟨l, xs, F1, S1, s1, r1, q1⟩
      exact Wf.imp (fun v H q => PostC.up s1 q) (f3 X rfl ct F1 ρ σ H1 xs vs Q E S1 r1 (callG_ok hp q1) (hE.up s1))
  · cases m
theorem sN_ext {i es} (iEs_es : SEs b L N CL G cm es) : SN b L N CL G cm (.ext i es) := by
  unfold SN
  intro hfr ct X all sc e hb C m F ρ σ H Q E S hE h
  have hfr : frG L i = true := hfr
  unfold mE at m
  split at m
  · rename_i f hf
    split at m
    · rename_i xs hx
      obtain ⟨m1, m2⟩ := Bool.and_eq_true_iff.mp m
      have hL2 : LOk (b6 X) L CL := hb ▸ hL
      obtain ⟨p, hp⟩ := keys_at hG (frmAt_ok hf)
      obtain ⟨f1, f2⟩ := hL2.fm i f p hp
      have hp3 : p.fresh = true := by
        unfold frG at hfr
        rw [hp] at hfr
        exact hfr
      rw [← hp3]
      refine f1 X.A X rfl sc e xs C.sc hx (mEs_star m2) σ H _ (Wa.up (iEs_es hb C m2 S hE h) ?_)
      rintro vs H1 ⟨l, xs, F1, S1, s1, r1, q1⟩
      exact f.imp (fun v H q => PostC.up s1 q) (f2 X rfl ct F1 ρ σ H1 xs vs Q E S1 r1 (callG_ok hp q1) (hE.up s1))
    · cases m
  · cases m
theorem sN_sta {i es} (iEs_es : SEs b L N CL G cm es) : SN b L N CL G cm (.sta i es) := by
  unfold SN
  intro hfr ct X all sc e hb C m F ρ σ H Q E S hE h
  have hfr : frG L i = true := hfr
  unfold mE at m
  split at m
  · rename_i c _ mm ap xs pos
    simp only [Bool.and_eq_true, decide_eq_true_eq] at m
    obtain ⟨⟨⟨⟨⟨m1, m2⟩, m3⟩, m4⟩, m5⟩, m6⟩ := m
    have hL2 : LOk (b6 X) L CL := hb ▸ hL
    obtain ⟨d, rfl, hc⟩ := isSta_ok m1
    obtain ⟨p, hp⟩ := keys_at hG hc
    obtain ⟨f, f1, f2, f3⟩ := hL2.st i d mm p hp
    have hp3 : p.fresh = true := by
      unfold frG at hfr
      rw [hp] at hfr
      exact hfr
    rw [← hp3]
    obtain ⟨g1, g2, g3⟩ := C.gl m2
    have st := mEs_star m6
    cases xs with
    | nil => exact absurd rfl m5
    | cons y ys =>
      refine we_sta f1 g1 f2 g2 m3 st m4 (Wa.up (iEs_es hb C m6 S hE h) ?_)
      rintro vs H1 ⟨l, xs, F1, S1, s1, r1, q1⟩
      exact Wf.imp (fun v H q => PostC.up s1 q) (f3 X rfl ct F1 ρ σ H1 xs vs Q E S1 r1 (callG_ok hp q1) (hE.up s1))
  · cases m
theorem sN_18 {i a es} (iE_a : SE b L N CL G cm a) (iEs_es : SEs b L N CL G cm es) : SN b L N CL G cm (.meth i a es) := by
  unfold SN
  intro hfr ct X all sc e hb C m F ρ σ H Q E S hE h
  have hfr : frG L i = true := hfr
  unfold mE at m
  split at m
  · rename_i o mm ap xs pos
    simp only [Bool.and_eq_true, decide_eq_true_eq] at m
    obtain ⟨⟨⟨⟨⟨m1, m2⟩, m3⟩, m4⟩, m5⟩, m6⟩ := m
    have hL2 : LOk (b6 X) L CL := hb ▸ hL
    obtain ⟨c, hc⟩ := isMet_ok m1
    obtain ⟨p, hp⟩ := keys_at hG hc
    obtain ⟨f, f1, f2, f3, f4⟩ := (hL2.m i c mm p hp).ex
    have hp3 : p.fresh = true := by
      unfold frG at hfr
      rw [hp] at hfr
      exact hfr
    rw [← hp3]
    unfold denE at h
    have st := mEs_star m6
    cases xs with
    | nil =>
      cases es with
      | nil =>
        refine we_meth0 f1 f2 m2 m3 (We.up (iE_a hb C m5 S hE h) ?_)
        rintro v H1 ⟨x, F1, S1, s1, r1, q1⟩
        rw [hp] at q1
        obtain ⟨ic, q1⟩ := isCl_ok q1
        unfold denEs at q1
        obtain ⟨z, dx, fs, rfl, hz, hf⟩ := ins_at (ct := ct) S1.sub r1 ic
        exact ⟨z, dx, fs, rfl, hz, f3 fs hf, Wf.imp (fun v H q => PostC.up s1 q) (f4 X rfl ct F1 ρ σ H1 [x] [.ref z] Q E S1 (.cons r1 .nil) (callG_ok hp q1) (hE.up s1))⟩
      | cons c cs => simp [mEs] at m6
    | cons y ys =>
      refine we_meth f1 f2 m2 m3 st m4 (We.up (iE_a hb C m5 S hE h) ?_)
      rintro v H1 ⟨x, F1, S1, s1, r1, q1⟩
      rw [hp] at q1
      obtain ⟨ic, q1⟩ := isCl_ok q1
      obtain ⟨z, dx, fs, rfl, hz, hf⟩ := ins_at (ct := ct) S1.sub r1 ic
      refine ⟨z, dx, fs, rfl, hz, f3 fs hf, Wa.up (iEs_es hb C m6 S1 (hE.up s1) q1) ?_⟩
      rintro vs H2 ⟨l, xs, F2, S2, s2, r2, q2⟩
      exact Wf.imp (fun v H q => PostC.up (Fwd.trans s1 s2) q) (f4 X rfl ct F2 ρ σ H2 (x :: xs) (.ref z :: vs) Q E S2 (.cons (r1.mono s2.s) r2) (callG_ok hp q2) ((hE.up s1).up s2))
  · cases m
theorem sN_19 {t es} (iEs_es : SEs b L N CL G cm es) : SN b L N CL G cm (.bi t es) := by
  unfold SN
  intro hfr ct X all sc e hb C m F ρ σ H Q E S hE h
  have hfr : (L.op (.bi t)).fresh = true := hfr
  unfold mE at m
  split at m
  · rename_i x _ y ys pos
    simp only [Bool.and_eq_true, decide_eq_true_eq] at m
    obtain ⟨⟨rfl, m2⟩, m3⟩ := m
    have hL2 : LOk (b6 X) L CL := hb ▸ hL
    obtain ⟨g1, g2, g3⟩ := C.gl m2
    have st := mEs_star m3
    rw [← hfr]
    have body : Wa X (y :: ys) σ H fun vs H1 => Wcb X t.val vs H1 (PostC (L.op (.bi t)).fresh X ct F H ρ σ Q) := by
      refine Wa.up (iEs_es hb C m3 S hE h) ?_
      rintro vs H1 ⟨l, xs, F1, S1, s1, r1, q1⟩
      obtain ⟨r, hr, q⟩ := hL2.op (.bi t) X rfl ct F1 ρ σ H1 xs vs Q E S1 r1 q1 (hE.up s1)
      refine ⟨fun vs' H' Q' => r vs' H' (PostC (L.op (.bi t)).fresh X ct F1 H1 ρ σ Q) ∧ ∀ v H2, PostC (L.op (.bi t)).fresh X ct F1 H1 ρ σ Q v H2 → Q' v H2, ?_, q, fun v H2 q => PostC.up s1 q⟩
      intro pins s σ' H' vs' us Q' I rr hq
      exact thn (hr pins s σ' H' vs' us _ I rr hq.1) fun _ _ z => EP.imp hq.2 z
    have a1 := star_cons (env := X.env) (es := ys) (st _ (.head _))
    have a2 := star_pl (pos := pos) (env := X.env) (es := ys) fun e he => st e (.tail _ he)
    by_cases hgc : t = .gcd
    · subst hgc
      exact we_callGB g1 hL2.gcd g2 a1 a2 body
    · have bt := boot_of hgc
      have fr := hL2.bi t hgc
      cases t <;> first | exact absurd rfl hgc | exact we_callB g1 fr bt g3 g2 a1 a2 body | exact we_callTy g1 fr bt g3 g2 a1 a2 body
  · cases m
/-- arguments, each new or never changed -/
def SNs (b : B6) (L : Lang) (N : List Str) (CL : List Cl) (G : List GK) (cm : Bool) (cs : CEs) : Prop := frEs L cs = true → ∀ {ct : Ct} {X : Cx} {all : Bool} {sc : Scope} {es : List Expr}, b6 X = b → Cok X N cm all sc ct.ex → mEs N G CL cm sc cs es = true → ∀ {F : Hp} {ρ : Env} {σ : L2.St} {H : Hp} {Q : List PV → Prop} {E : KE}, Stt X ct F ρ σ H → Eok X ct F ρ σ E → denEs L cs ρ Q E →
    Wa X es σ H fun vs H' => vs.length = es.length ∧ ∃ xs F', Stt X ct F' ρ σ H' ∧ Fwd ct.pl F H F' H' ∧ (∃ Fn, Same Fn F' ∧ (∀ a o, Fn a = some o → H a = none ∨ ImmO o) ∧ Reps ⟨X.K, ct.pl⟩ Fn xs vs) ∧ Q xs
theorem sNs_nil : SNs b L N CL G cm .nil := by
  unfold SNs
  intro _ ct X all sc es hb C m F ρ σ H Q E S hE h
  unfold mEs at m
  split at m
  · exact wa_nil ⟨rfl, [], F, S, .refl S, ⟨fun _ => none, nofun, nofun, .nil⟩, h⟩
  · cases m
theorem sNs_cons {c cs} (iN_c : SN b L N CL G cm c) (iNs : SNs b L N CL G cm cs) : SNs b L N CL G cm (.cons c cs) := by
  unfold SNs
  intro hf ct X all sc es hb C m F ρ σ H Q E S hE h
  obtain ⟨f1, f2⟩ := ifT_ok hf
  unfold mEs at m
  split at m
  · simp only [Bool.and_eq_true] at m
    refine wa_cons (star_cons m.1.1) (We.up (iN_c f1 hb C m.1.2 S hE h) ?_)
    rintro v H1 ⟨x, F1, S1, s1, r1, n1, q1⟩
    refine Wa.up (iNs f2 hb C m.2 S1 (hE.up s1) q1) ?_
    rintro vs H2 ⟨l, xs, F2, S2, s2, ⟨Fn, a1, a2, a3⟩, q2⟩
    obtain ⟨Fm, b1, b2, b3⟩ := n1 rfl
    have b1' : Same Fm F2 := Same.trans' b1 s2.s
    refine ⟨by simp [l], x :: xs, F2, S2, s1.trans s2, ⟨unionH Fm Fn, fun a o e => ?_, fun a o e => ?_, .cons (b3.mono unionH_l) (a3.mono (unionH_r b1' a1))⟩, q2⟩
    · rcases unionH_or e with y | y
      · exact b1' a o y
      · exact a1 a o y
    · rcases unionH_or e with y | y
      · exact b2 a o y
      · exact (a2 a o y).imp (s1.gu.back no_mu) id
  · cases m
theorem sN_tup {es} (iNs : SNs b L N CL G cm es) : SN b L N CL G cm (.tup es) := by
  unfold SN
  intro hf ct X all sc e hb C m F ρ σ H Q E S hE h
  unfold mE at m
  split at m
  · simp only [Bool.and_eq_true, decide_eq_true_eq] at m
    refine we_tup (Wa.up (iNs hf hb C m.1 S hE h) ?_)
    rintro vs H1 ⟨l, xs, F1, S1, s1, ⟨Fn, a1, a2, a3⟩, q1⟩
    refine ⟨sizeOk (by omega), fun p hp => ?_⟩
    obtain ⟨S2, s2⟩ := S1.newE (o := .tup vs) hp
    have fp : Fn p = none := by
      cases z : Fn p with
      | none => rfl
      | some o => have := a1 p o z; rw [S1.fnone hp] at this; cases this
    have rp : Rep ⟨X.K, ct.pl⟩ (upd Fn p (.tup vs)) (.tup xs) (.ref p) := ⟨p, vs, rfl, upd_same, a3.mono (same_new fp)⟩
    have sm : Same (upd Fn p (.tup vs)) (upd F1 p (.tup vs)) := fun a o e => by
      by_cases z : a = p
      · subst z; rw [upd_same] at e ⊢; exact e
      · rw [upd_ne z] at e ⊢; exact a1 a o e
    refine ⟨.tup xs, _, S2, Fwd.trans s1 s2, rp.mono sm, fun _ => ⟨_, sm, fun a o e => ?_, rp⟩, q1⟩
    by_cases z : a = p
    · subst z; rw [upd_same] at e; cases e; exact .inr (.inr ⟨_, rfl⟩)
    · rw [upd_ne z] at e; exact a2 a o e
  · cases m
theorem sE_isX {i : Nat} {c : Cl} : SE b L N CL G cm (.isX i c) := by
  unfold SE
  intro ct X all sc e hb C m F ρ σ H Q E S hE h
  unfold mE at m
  split at m
  · rename_i l _ x _ k _ pos
    simp only [Bool.and_eq_true, decide_eq_true_eq] at m
    obtain ⟨⟨⟨⟨⟨⟨⟨rfl, m2⟩, m3⟩, m4⟩, m5⟩, m6⟩, rfl⟩, m8⟩ := m
    have hL2 : LOk (b6 X) L CL := hb ▸ hL
    obtain ⟨g1, g2, g3⟩ := C.gl m2
    obtain ⟨g4, g5, g6⟩ := C.gl m8
    unfold denE getX at h
    rw [nth_eq] at h
    split at h
    · rename_i ex ee
      obtain ⟨nd, h⟩ := ifB_f h
      obtain ⟨pi, q⟩ := ifB_f h
      obtain ⟨os, hs, _⟩ := S.slots
      obtain ⟨v, q1, q2, q3, e1, _, h1, _⟩ := hs.split ee
      cases h1 with
      | exc a h1 =>
        rename_i ad
        obtain ⟨t1, t2⟩ := hL2.i (ex.c, c) (pairIn_mem pi)
        obtain ⟨X', oe, pn, d, eX, hz, hd, hf⟩ := C.xo _ _ a
        have hdn : d = none := hd (by
          cases z : ex.d with
          | nil => rfl
          | cons y ys => rw [z] at nd; cases nd)
        subst hdn
        refine we_callB (id := "isinstance") g1 (hL2.bi .isi (by intro z; cases z)) (boot_of (b := .isi) (by intro z; cases z)) g3 g2 rfl rfl (wa_cons rfl (e_var C (by simp [m3, m4, m5]) e1 (wa_cons rfl (we_of (pe_glob g4 (hL2.cl c m6) (v := .ref (He.ga X.K c.nm)) rfl g5) (wa_nil ?_)))))
        clear hE hL2
        subst eX
        exact wcb_isE t1 hz hf (.own _) t2 ⟨.bl _, F, S, .refl S, rfl, q⟩
    · exact h.elim
  · cases m
theorem sT_snapF {x} (iT_x : ST b L N CL G cm x) : ST b L N CL G cm (.snapF x) := by
  unfold ST
  intro ct X all sc e hb C m F ρ σ H P E S hE h
  unfold mE at m
  unfold denE at h
  obtain ⟨_, h⟩ := ifB_f h
  obtain ⟨FS, s1, s2, SS⟩ := S.snap
  refine Wt.imp ?_ (iT_x (ct := ctS ct H FS) hb C m SS (hE.snap S s1 s2) h)
  rintro k H1 ⟨F1, S1, e1, q1⟩
  obtain ⟨S2, e2⟩ := S.unsnap s1 S1
  exact ⟨F, S2, e2, q1⟩
theorem sO_snap {o} (iO : SO b L N CL G cm o) : SO b L N CL G cm (.snapO o) := by
  unfold SO
  intro ct X all sc e hb C m F ρ σ H Q E S hE h
  unfold mO at m
  unfold denO at h
  obtain ⟨FS, s1, s2, SS⟩ := S.snap
  exact We.up (iO (ct := ctS ct H FS) hb C m SS (hE.snap S s1 s2) h) fun v H1 q => q.unsnap S s1 s2
theorem sEs_24  : SEs b L N CL G cm (.nil) := by
  unfold SEs
  intro ct X all sc es hb C m F ρ σ H Q E S hE h
  unfold mEs at m
  split at m
  · exact wa_nil ⟨rfl, [], F, S, (.refl S), .nil, h⟩
  · cases m
theorem sEs_25 {c cs} (iE_c : SE b L N CL G cm c) (iEs_cs : SEs b L N CL G cm cs) : SEs b L N CL G cm (.cons c cs) := by
  unfold SEs
  intro ct X all sc es hb C m F ρ σ H Q E S hE h
  unfold mEs at m
  split at m
  · rename_i e es
    simp only [Bool.and_eq_true] at m
    obtain ⟨⟨m1, m2⟩, m3⟩ := m
    refine wa_cons (star_cons m1) (We.up (iE_c hb C m2 S hE h) ?_)
    rintro v H1 ⟨x, F1, S1, s1, r1, q1⟩
    refine Wa.up (iEs_cs hb C m3 S1 (hE.up s1) q1) ?_
    rintro vs H2 ⟨l, xs, F2, S2, s2, r2, q2⟩
    exact ⟨by simp [l], x :: xs, F2, S2, Fwd.trans s1 s2, .cons (r1.mono s2.s) r2, q2⟩
  · cases m
theorem sAnd_26  : SAnd b L N CL G cm (.nil) := by
  unfold SAnd
  intro ct X all sc es pos hb C m F ρ σ H Q E S hE h
  exact h.elim
theorem sAnd_27 {c} (iE_c : SE b L N CL G cm c) : SAnd b L N CL G cm (.cons c .nil) := by
  unfold SAnd
  intro ct X all sc es pos hb C m F ρ σ H Q E S hE h
  unfold mEs at m
  split at m
  · rename_i e es
    simp only [Bool.and_eq_true] at m
    obtain ⟨⟨m1, m2⟩, m3⟩ := m
    unfold mEs at m3
    split at m3
    · exact we_and1 (iE_c hb C m2 S hE h)
    · cases m3
  · cases m
theorem sAnd_28 {c c2 cs} (iE_c : SE b L N CL G cm c) (iAnd_consc2cs : SAnd b L N CL G cm (.cons c2 cs)) : SAnd b L N CL G cm (.cons c (.cons c2 cs)) := by
  unfold SAnd
  intro ct X all sc es pos hb C m F ρ σ H Q E S hE h
  unfold mEs at m
  split at m
  · rename_i e es
    simp only [Bool.and_eq_true] at m
    obtain ⟨⟨m1, m2⟩, m3⟩ := m
    have m4 := m3
    unfold mEs at m3
    split at m3
    · rename_i e2 es2
      refine we_and (We.up (iE_c hb C m2 S hE h) ?_)
      rintro v H1 ⟨x, F1, S1, s1, r1, q1⟩
      obtain ⟨k, rfl, q1⟩ := asB_ok q1
      exact ⟨k, r1, ifB_mono q1 (fun q => We.up (iAnd_consc2cs hb C m4 S1 (hE.up s1) q) fun v H q => Post.up s1 q) fun q => ⟨.bl false, F1, S1, s1, rfl, q⟩⟩
    · cases m3
  · cases m
theorem sOr_29  : SOr b L N CL G cm (.nil) := by
  unfold SOr
  intro ct X all sc es pos hb C m F ρ σ H Q E S hE h
  exact h.elim
theorem sOr_30 {c} (iE_c : SE b L N CL G cm c) : SOr b L N CL G cm (.cons c .nil) := by
  unfold SOr
  intro ct X all sc es pos hb C m F ρ σ H Q E S hE h
  unfold mEs at m
  split at m
  · rename_i e es
    simp only [Bool.and_eq_true] at m
    obtain ⟨⟨m1, m2⟩, m3⟩ := m
    unfold mEs at m3
    split at m3
    · exact we_or1 (iE_c hb C m2 S hE h)
    · cases m3
  · cases m
theorem sOr_31 {c c2 cs} (iE_c : SE b L N CL G cm c) (iOr_consc2cs : SOr b L N CL G cm (.cons c2 cs)) : SOr b L N CL G cm (.cons c (.cons c2 cs)) := by
  unfold SOr
  intro ct X all sc es pos hb C m F ρ σ H Q E S hE h
  unfold mEs at m
  split at m
  · rename_i e es
    simp only [Bool.and_eq_true] at m
    obtain ⟨⟨m1, m2⟩, m3⟩ := m
    have m4 := m3
    unfold mEs at m3
    split at m3
    · rename_i e2 es2
      refine we_or (We.up (iE_c hb C m2 S hE h) ?_)
      rintro v H1 ⟨x, F1, S1, s1, r1, q1⟩
      obtain ⟨k, rfl, q1⟩ := asB_ok q1
      exact ⟨k, r1, ifB_mono q1 (fun q => ⟨.bl true, F1, S1, s1, rfl, q⟩) fun q => We.up (iOr_consc2cs hb C m4 S1 (hE.up s1) q) fun v H q => Post.up s1 q⟩
    · cases m3
  · cases m
theorem sO_32 {es} (iEs_es : SEs b L N CL G cm es) : SO b L N CL G cm (.lst es) := by
  unfold SO
  intro ct X all sc e hb C m F ρ σ H Q E S hE h
  unfold mO at m
  split at m
  · simp only [Bool.and_eq_true, decide_eq_true_eq] at m
    refine we_lst (Wa.up (iEs_es hb C m.1 S hE h) ?_)
    rintro vs H1 ⟨l, xs, F1, S1, s1, r1, q1⟩
    exact ⟨sizeOk (by omega), fun p hp => .new S1 s1 hp r1 q1⟩
  · cases m
theorem comp_ok {t it cs el own} (iIt_it : SIt b L N CL G cm it) (iCond_cs : SCond b L N CL G cm cs) (iE_el : SE b L N CL G cm el) {X : Cx} {all : Bool} {sc scope : Scope} {elt tg iter : Expr} {ifs : List Expr} {a : Int} {pos : Pos} (hb : b6 X = b) (C : Cok X N cm all sc ct.ex)
    (m : mO N G CL cm sc (.comp t it cs el own) (.ListComp elt [⟨tg, iter, ifs, a⟩] scope pos) = true) {F : Hp} {ρ : Env} {σ : L2.St} {H : Hp} {Q : List PV → Prop} {E : KE} (S : Stt X ct F ρ σ H) (hE : Eok X ct F ρ σ E) (h : denO L (.comp t it cs el own) ρ Q E) :
    ∃ wi, PI X tg iter wi ∧ a = 0 ∧ X.calm = true ∧ BlkOk X.N X.env.scope scope own ∧ noSet iter = true ∧ ∀ Q' : VK, (∀ v H', PostO X ct F H ρ σ Q v H' → Q' v H') → tLc wi (gB X scope tg) (condTT X scope ifs) (eB X scope elt) (own.map (·.2)) σ H Q' := by
  unfold mO at m
  simp only [Bool.and_eq_true, decide_eq_true_eq] at m
  obtain ⟨⟨⟨⟨⟨⟨⟨⟨m1, rfl⟩, m3⟩, m4⟩, m5⟩, m6⟩, m7⟩, m8⟩, m9⟩ := m
  obtain ⟨wi, hPI, hwi⟩ := iIt_it hb C m6 S hE h
  refine ⟨wi, hPI, rfl, C.cm m1, by rw [C.n, C.sc]; exact blkOk_by m3, m4, fun Q' hQ => ?_⟩
  refine hwi _ fun J H1 F1 xs S1 s1 q1 hw D hD => ?_
  obtain ⟨sml, q1⟩ := q1
  refine lc_it hw.w (fun i H' => ∃ F' acc vs, Stt X ct F' ρ σ H' ∧ Same F1 F' ∧ Fwd ct.pl F H F' H' ∧ Own X ct F' ρ σ H' D vs ∧ Reps ⟨X.K, ct.pl⟩ F' acc vs ∧ vs.length ≤ i ∧ denComp (fun x K => bindT t x (wipes ρ own) fun ρ2 => denConds L cs ρ2 (fun b => ifB b (denE L el ρ2 (fun y => K (some y)) fun _ => False) (K none))) (xs.drop i) acc Q)
    ⟨F1, [], [], S1.same (same_new hD), fun _ _ z => z, ⟨s1.gr, s1.gu.same (same_new hD)⟩, .new S1 hD, .nil, Nat.le_refl _, q1⟩ ?hG ?hs ?hd
  case hG =>
    rintro i H' hi ⟨F', acc, vs, S', s', _⟩
    exact fun a o e => S'.sub _ _ (s' _ _ e)
  case hd =>
    rintro H' ⟨F', acc, vs, S', s', e', o, r, l, q⟩
    rw [List.drop_length] at q
    exact hQ _ _ ⟨D, acc, vs, F', rfl, S', e', s1.gu.back no_mu hD, o, r, q⟩
  case hs =>
    rintro i v Ha Hb hi ⟨F', acc, vs, S', s', e', o, r, l, q⟩ ⟨x, ex, sab, yx⟩
    obtain ⟨F2, gr2, sub2, rx⟩ := yx F' s' S'.sub
    obtain ⟨S2, e2⟩ := S'.ext sab gr2 sub2
    have o2 := o.ext S' e2
    have ed : xs.drop i = x :: xs.drop (i + 1) := by
      obtain ⟨l1, l2⟩ := List.getElem?_eq_some_iff.mp ex
      rw [List.drop_eq_getElem_cons l1, l2]
    rw [ed] at q
    have Sw := S2.wipes own
    intro X' hX
    obtain ⟨C', hb'⟩ := C.blk (C.cx m1) hX
    have hK : X'.K = X.K := congrArg B6.K hb'
    have Sw' : Stt X' ct F2 (wipes ρ own) (wipe σ (own.map (·.2))) Hb := Sw.cast hK.symm
    refine Wg.imp ?_ (bT t C' m7 (own.map (·.2)) Sw' (by rw [hK]; exact rx) q)
    rintro σ2 H2 ⟨rfl, w, ρ2, S3, q3⟩
    refine ⟨(w m5).trans (wipe_wipe _ _), ?_⟩
    have hE' : Eok X' ct F2 ρ2 σ2 (fun _ => False) := fun _ _ _ _ _ _ _ z => z.elim
    -- the end of a turn
    have fin : ∀ F4 H4 acc2 vs2, Fwd ct.pl F2 H2 F4 H4 → Same F4 H4 → Own X ct F4 ρ σ H4 D vs2 → Reps ⟨X.K, ct.pl⟩ F4 acc2 vs2 → vs2.length ≤ i + 1 → denComp (fun x K => bindT t x (wipes ρ own) fun ρ2 => denConds L cs ρ2 (fun b => ifB b (denE L el ρ2 (fun y => K (some y)) fun _ => False) (K none))) (xs.drop (i + 1)) acc2 Q →
        ∃ F' acc vs, Stt X ct F' ρ σ H4 ∧ Same F1 F' ∧ Fwd ct.pl F H F' H4 ∧ Own X ct F' ρ σ H4 D vs ∧ Reps ⟨X.K, ct.pl⟩ F' acc vs ∧ vs.length ≤ i + 1 ∧ denComp (fun x K => bindT t x (wipes ρ own) fun ρ2 => denConds L cs ρ2 (fun b => ifB b (denE L el ρ2 (fun y => K (some y)) fun _ => False) (K none))) (xs.drop (i + 1)) acc Q := fun F4 H4 acc2 vs2 e4 sb o4 r4 l4 q4 =>
      ⟨F4, acc2, vs2, S2.called e4.gu e4.gr sb, Same.trans' (Same.trans' s' e2.s) e4.s, e'.trans (e2.trans e4), o4, r4, l4, q4⟩
    refine iCond_cs hb C (C.cx m1) m8 (S3.cast hK) q3 ?_
    rintro k H3 F3 S4 e3 q4
    have e3' : Fwd ct.pl F2 H2 F3 H3 := e3
    have o3 := o2.ext S2 e3'
    refine ifB_mono q4 (fun q5 => ?_) (fun q5 => fin F3 H3 acc vs e3' S4.sub o3 ((r.mono e2.s).mono e3.s) (by omega) q5)
    intro X2 hX2
    obtain ⟨C2, hb2⟩ := C.blk (C.cx m1) hX2
    have hK2 : X2.K = X.K := congrArg B6.K hb2
    have S5 : Stt X2 ct F3 ρ2 σ2 H3 := S4.cast hK2.symm
    have hE2 : Eok X2 ct F3 ρ2 σ2 (fun _ => False) := fun _ _ _ _ _ _ _ z => z.elim
    refine We.up (iE_el (hb2.trans hb) C2 m9 S5 hE2 q5) ?_
    rintro y H4 ⟨py, F4, S6, e4, ry, q6⟩
    have e34 : Fwd ct.pl F2 H2 F4 H4 := e3'.trans e4
    have o4 := o2.ext S2 e34
    have S7 : Stt X ct F4 ρ σ H4 := S2.called e34.gu e34.gr S6.sub
    refine ⟨vs, o4.at_, sizeOk' (by have : xs.length ≤ 100000 := sml; omega), ?_⟩
    obtain ⟨S8, o5⟩ := S7.updAt (ws := vs ++ [y]) o4
    refine ⟨F4, acc ++ [py], vs ++ [y], S8, Same.trans' (Same.trans' s' e2.s) e34.s, ?_, o5, ((r.mono e2.s).mono e34.s).append (.cons (by rw [hK2] at ry; exact ry) .nil), by simp; omega, q6⟩
    have eF : Fwd ct.pl F H F4 H4 := e'.trans (e2.trans e34)
    refine ⟨eF.gr, ?_⟩
    have hDH : H D = none := s1.gu.back no_mu hD
    refine ⟨fun a b z n => ?_, fun P s ep => (S8.p0 P s ep).2.2, nofun⟩
    have ne : a ≠ D := fun y => by subst y; rw [hDH] at z; cases z
    rw [upd_ne ne]
    exact eF.gu.keep a b z n
theorem sO_33 {t it cs el own} (iIt_it : SIt b L N CL G cm it) (iCond_cs : SCond b L N CL G cm cs) (iE_el : SE b L N CL G cm el) : SO b L N CL G cm (.comp t it cs el own) := by
  unfold SO
  intro ct X all sc e hb C m F ρ σ H Q E S hE h
  have m' := m
  unfold mO at m
  split at m
  · obtain ⟨wi, hPI, rfl, hc, bo, ns, hd⟩ := comp_ok hL hG iIt_it iCond_cs iE_el hb C m' S hE h
    exact we_of (pe_lc (g := gB X _ _) (tt := condTT X _ _) (te := eB X _ _) hc (by rw [C.n]; exact C.nd) hPI bo (fun _ _ _ _ _ => gB.pg) (fun _ _ _ _ _ => condPT) (fun _ _ _ _ _ => eB.pe) (fun x => set_id ns x)) (hd _ fun _ _ q => q)
  · cases m
theorem sO_34 {a} (iE_a : SE b L N CL G cm a) : SO b L N CL G cm (.ofL a) := by
  unfold SO
  intro ct X all sc e hb C m F ρ σ H Q E S hE h
  unfold mO at m
  split at m
  · rename_i x _ y pos
    simp only [Bool.and_eq_true, decide_eq_true_eq] at m
    obtain ⟨⟨⟨rfl, m2⟩, m3⟩, m4⟩ := m
    have hL2 : LOk (b6 X) L CL := hb ▸ hL
    obtain ⟨g1, g2, g3⟩ := C.gl m2
    refine we_callTy (T := "list") g1 hL2.it.2.2.2 (by decide +kernel) g3 g2 (star_cons m3) rfl (wa_cons (star_cons m3) (We.up (iE_a hb C m4 S hE h) ?_))
    rintro v H1 ⟨x, F1, S1, s1, r1, q1⟩
    obtain ⟨xs, rfl, q1⟩ := asL_ok q1
    unfold Rep at r1
    obtain ⟨p, vs, rfl, hp, rs⟩ := r1
    exact wa_nil ⟨_, call_list_of, p, vs, rfl, .inl (.of (S1.sub _ _ hp)), fun l hl => .new S1 s1 hl rs q1⟩
  · cases m
theorem sO_35 {a} (iE_a : SE b L N CL G cm a) : SO b L N CL G cm (.ofT a) := by
  unfold SO
  intro ct X all sc e hb C m F ρ σ H Q E S hE h
  unfold mO at m
  split at m
  · rename_i x _ y pos
    simp only [Bool.and_eq_true, decide_eq_true_eq] at m
    obtain ⟨⟨⟨rfl, m2⟩, m3⟩, m4⟩ := m
    have hL2 : LOk (b6 X) L CL := hb ▸ hL
    obtain ⟨g1, g2, g3⟩ := C.gl m2
    refine we_callTy (T := "list") g1 hL2.it.2.2.2 (by decide +kernel) g3 g2 (star_cons m3) rfl (wa_cons (star_cons m3) (We.up (iE_a hb C m4 S hE h) ?_))
    rintro v H1 ⟨x, F1, S1, s1, r1, q1⟩
    obtain ⟨xs, rfl, q1⟩ := asT_ok q1
    unfold Rep at r1
    obtain ⟨p, vs, rfl, hp, rs⟩ := r1
    exact wa_nil ⟨_, call_list_of, p, vs, rfl, .inr (.of (S1.sub _ _ hp)), fun l hl => .new S1 s1 hl rs q1⟩
  · cases m
theorem sO_36 {x y} (iE_x : SE b L N CL G cm x) (iE_y : SE b L N CL G cm y) : SO b L N CL G cm (.cat x y) := by
  unfold SO
  intro ct X all sc e hb C m F ρ σ H Q E S hE h
  unfold mO at m
  split at m
  · simp only [Bool.and_eq_true] at m
    refine we_bin (We.up (iE_x hb C m.1 S hE h) ?_)
    rintro v H1 ⟨x, F1, S1, s1, r1, q1⟩
    refine We.up (iE_y hb C m.2 S1 (hE.up s1) q1) ?_
    rintro w H2 ⟨y, F2, S2, s2, r2, q2⟩
    obtain ⟨xs, rfl, q3⟩ := asL_ok q2
    obtain ⟨ys, rfl, q4⟩ := asL_ok q3
    have r1 := r1.mono s2.s
    unfold Rep at r1 r2
    obtain ⟨p, vs, rfl, hp, rs⟩ := r1
    obtain ⟨p', vs', rfl, hp', rs'⟩ := r2
    refine wo_of op_cat ⟨p, p', vs, vs', rfl, rfl, S2.sub _ _ hp, S2.sub _ _ hp', ?_, fun l hl => .new S2 (Fwd.trans s1 s2) hl (rs.append rs') q4.2⟩
    rw [← rs.len, ← rs'.len]
    exact sizeOk q4.1
  · cases m
theorem sO_37 {x y} (iE_x : SE b L N CL G cm x) (iE_y : SE b L N CL G cm y) : SO b L N CL G cm (.rep x y) := by
  unfold SO
  intro ct X all sc e hb C m F ρ σ H Q E S hE h
  unfold mO at m
  split at m
  · simp only [Bool.and_eq_true] at m
    refine we_bin (We.up (iE_x hb C m.1 S hE h) ?_)
    rintro v H1 ⟨x, F1, S1, s1, r1, q1⟩
    refine We.up (iE_y hb C m.2 S1 (hE.up s1) q1) ?_
    rintro w H2 ⟨y, F2, S2, s2, r2, q2⟩
    obtain ⟨xs, rfl, q2⟩ := asL_ok q2
    obtain ⟨n, rfl, q2⟩ := asI_ok q2
    cases r2
    have r1 := r1.mono s2.s
    unfold Rep at r1
    obtain ⟨p, vs, rfl, hp, rs⟩ := r1
    obtain ⟨n1, n2, n3, q2⟩ := q2
    refine wo_of op_rep ⟨p, n, vs, rfl, rfl, S2.sub _ _ hp, by omega, by omega, ?_, fun l hl => .new S2 (Fwd.trans s1 s2) hl (rs.rep n.toNat) q2⟩
    rw [← rs.len]
    exact sizeOk n3
  · cases m
theorem sO_38 {x lo hi} (iE_x : SE b L N CL G cm x) (iE_lo : SE b L N CL G cm lo) (iE_hi : SE b L N CL G cm hi) : SO b L N CL G cm (.sl x lo hi) := by
  unfold SO
  intro ct X all sc e hb C m F ρ σ H Q E S hE h
  unfold mO at m
  split at m
  · rename_i y l hh pos pos2
    simp only [Bool.and_eq_true] at m
    obtain ⟨⟨m1, m2⟩, m3⟩ := m
    refine we_of (pe_slice sl_list We.pe po_of po_of) (We.up (iE_x hb C m1 S hE h) ?_)
    rintro v H1 ⟨x, F1, S1, s1, r1, q1⟩
    obtain ⟨xs, rfl, q1⟩ := asL_ok q1
    refine tOf_ok (K := fun l => ifB (isNon hi) (Q (cutP xs l none)) (denE L hi ρ (fun x => asI x fun n => Q (cutP xs l (some n))) E)) m2 S1 q1 (fun z e mm => iE_lo hb C mm S1 (hE.up s1) z) fun l H2 F2 S2 s2 q2 => ?_
    refine tOf_ok (K := fun h => Q (cutP xs l h)) m3 S2 q2 (fun z e mm => iE_hi hb C mm S2 ((hE.up s1).up s2) z) fun h H3 F3 S3 s3 q3 => ?_
    have r1 := (r1.mono s2.s).mono s3.s
    unfold Rep at r1
    obtain ⟨p, vs, rfl, hp, rs⟩ := r1
    exact ⟨p, vs, rfl, .of (S3.sub _ _ hp), fun l hl => .new S3 (s1.trans (s2.trans s3)) hl (cut_rep rs _ _) q3⟩
  · cases m
theorem sIt_39 {i}  : SIt b L N CL G cm (.seqV i) := by
  unfold SIt
  intro ct X all sc tg e hb C m F ρ σ H Q E S hE h
  unfold mIt at m
  split at m
  · obtain ⟨x, e1, q⟩ := getV_ok h
    obtain ⟨v, e2, r⟩ := S.get e1
    obtain ⟨xs, e3, qq⟩ := asSeq_ok q
    clear q
    rcases e3 with rfl | rfl | ⟨c, fs, j, rfl, hj, hx⟩
    · unfold Rep at r
      obtain ⟨p, vs, rfl, hp, rs⟩ := r
      exact ⟨_, pi_list We.pe, fun R hR => e_var C m e2 ⟨p, rfl, ⟨vs, .of (S.sub _ _ hp)⟩, hR _ _ F xs S ((.refl S)) qq (.list hp rs)⟩⟩
    · unfold Rep at r
      obtain ⟨p, vs, rfl, hp, rs⟩ := r
      exact ⟨_, pi_tup We.pe, fun R hR => e_var C m e2 ⟨p, rfl, ⟨vs, .of (S.sub _ _ hp)⟩, hR _ _ F xs S ((.refl S)) qq (.tup hp rs)⟩⟩
    · unfold Rep at r
      obtain ⟨p, dx, vs, rfl, hp, ⟨l, _⟩, rs⟩ := r
      have hL2 : LOk (b6 X) L CL := hb ▸ hL
      obtain ⟨f, n, ps, sg, O, hr⟩ := hL2.t _ (lookT_mem hj)
      obtain ⟨u, e4, r2⟩ := rs.get hx
      unfold Rep at r2
      obtain ⟨a, ws, rfl, ha, rs2⟩ := r2
      exact ⟨_, pi_own We.pe, fun R hR => e_var C m e2 ⟨p, _, dx, f, n, _, ps, _, a, rfl, S.sub _ _ hp, sg.hs, sg.hf, O, hr, ⟨p, dx, vs, ws, rfl, S.sub _ _ hp, e4, by rw [← rs.len]; exact l, S.sub _ _ ha⟩, hR _ _ F xs S ((.refl S)) qq (.list ha rs2)⟩⟩
  · cases m
theorem sIt_40 {a} (iE_a : SE b L N CL G cm a) : SIt b L N CL G cm (.seqL a) := by
  unfold SIt
  intro ct X all sc tg e hb C m F ρ σ H Q E S hE h
  unfold mIt at m
  refine ⟨_, pi_list We.pe, fun R hR => We.up (iE_a hb C m S hE h) ?_⟩
  rintro v H1 ⟨x, F1, S1, s1, r1, q1⟩
  obtain ⟨xs, rfl, q1⟩ := asL_ok q1
  unfold Rep at r1
  obtain ⟨p, vs, rfl, hp, rs⟩ := r1
  exact ⟨p, rfl, ⟨vs, .of (S1.sub _ _ hp)⟩, hR _ _ F1 xs S1 s1 q1 (.list hp rs)⟩
theorem sIt_41 {a} (iE_a : SE b L N CL G cm a) : SIt b L N CL G cm (.seqT a) := by
  unfold SIt
  intro ct X all sc tg e hb C m F ρ σ H Q E S hE h
  unfold mIt at m
  refine ⟨_, pi_tup We.pe, fun R hR => We.up (iE_a hb C m S hE h) ?_⟩
  rintro v H1 ⟨x, F1, S1, s1, r1, q1⟩
  obtain ⟨xs, rfl, q1⟩ := asT_ok q1
  unfold Rep at r1
  obtain ⟨p, vs, rfl, hp, rs⟩ := r1
  exact ⟨p, rfl, ⟨vs, .of (S1.sub _ _ hp)⟩, hR _ _ F1 xs S1 s1 q1 (.tup hp rs)⟩
theorem sIt_42 {a} (iE_a : SE b L N CL G cm a) : SIt b L N CL G cm (.range a) := by
  unfold SIt
  intro ct X all sc tg e hb C m F ρ σ H Q E S hE h
  unfold mIt at m
  split at m
  · rename_i x _ y pos
    simp only [Bool.and_eq_true, decide_eq_true_eq] at m
    obtain ⟨⟨⟨rfl, m2⟩, m3⟩, m4⟩ := m
    have hL2 : LOk (b6 X) L CL := hb ▸ hL
    obtain ⟨g1, g2, g3⟩ := C.gl m2
    refine ⟨_, pi_range1 (ta := Wa X [y]) g1 hL2.it.1 Wa.pa (star_cons m3), fun R hR => wa_cons (star_cons m3) (We.up (iE_a hb C m4 S hE h) ?_)⟩
    rintro v H1 ⟨x, F1, S1, s1, r1, q1⟩
    obtain ⟨n, rfl, q1⟩ := asI_ok q1
    cases r1
    exact wa_nil ⟨n, rfl, q1.1.1, q1.1.2, hR _ _ F1 _ S1 s1 q1.2 (.range 0 n.toNat)⟩
  · cases m
theorem sIt_43 {a c} (iE_a : SE b L N CL G cm a) (iE_c : SE b L N CL G cm c) : SIt b L N CL G cm (.range2 a c) := by
  unfold SIt
  intro ct X all sc tg e hb C m F ρ σ H Q E S hE h
  unfold mIt at m
  split at m
  · rename_i x _ y z pos
    simp only [Bool.and_eq_true, decide_eq_true_eq] at m
    obtain ⟨⟨⟨⟨⟨rfl, m2⟩, m3⟩, m4⟩, m5⟩, m6⟩ := m
    have hL2 : LOk (b6 X) L CL := hb ▸ hL
    obtain ⟨g1, g2, g3⟩ := C.gl m2
    refine ⟨_, pi_range2 (ta := Wa X [y, z]) g1 hL2.it.1 Wa.pa (by rw [star_cons m3, star_cons m4]; rfl) (by rw [star_cons m4]; rfl), fun R hR => wa_cons (star_cons m3) (We.up (iE_a hb C m5 S hE h) ?_)⟩
    rintro v H1 ⟨x, F1, S1, s1, r1, q1⟩
    refine wa_cons (star_cons m4) (We.up (iE_c hb C m6 S1 (hE.up s1) q1) ?_)
    rintro w H2 ⟨y, F2, S2, s2, r2, q2⟩
    obtain ⟨n, rfl, q3⟩ := asI_ok q2
    obtain ⟨k, rfl, q4⟩ := asI_ok q3
    cases r1
    cases r2
    exact wa_nil ⟨n, k, rfl, ⟨q4.1.1, q4.1.2, q4.2.1.1, q4.2.1.2⟩, hR _ _ F2 _ S2 (Fwd.trans s1 s2) q4.2.2 (.range n (k - n).toNat)⟩
  · cases m
theorem sIt_44 {a c} (iE_a : SE b L N CL G cm a) (iE_c : SE b L N CL G cm c) : SIt b L N CL G cm (.zip a c) := by
  unfold SIt
  intro ct X all sc tg e hb C m F ρ σ H Q E S hE h
  unfold mIt at m
  split at m
  · rename_i x _ y z pos
    simp only [Bool.and_eq_true, decide_eq_true_eq] at m
    obtain ⟨⟨⟨⟨⟨⟨rfl, mt⟩, m2⟩, m3⟩, m4⟩, m5⟩, m6⟩ := m
    have hL2 : LOk (b6 X) L CL := hb ▸ hL
    obtain ⟨g1, g2, g3⟩ := C.gl m2
    cases tg with
    | Tuple elts kk tpos =>
      refine ⟨_, pi_zip (ta := Wa X [y, z]) g1 hL2.it.2.1 Wa.pa (star_cons m3) (star_pl fun e he => by cases he with | head => exact m4 | tail _ he => cases he), fun R hR => wa_cons (star_cons m3) (We.up (iE_a hb C m5 S hE h) ?_)⟩
      rintro v H1 ⟨x, F1, S1, s1, r1, q1⟩
      refine wa_cons (star_cons m4) (We.up (iE_c hb C m6 S1 (hE.up s1) q1) ?_)
      rintro w H2 ⟨y, F2, S2, s2, r2, q2⟩
      obtain ⟨xs, rfl, q3⟩ := asL_ok q2
      obtain ⟨ys, rfl, q4⟩ := asL_ok q3
      have r1 := r1.mono s2.s
      unfold Rep at r1 r2
      obtain ⟨p, vs, rfl, hp, rs⟩ := r1
      obtain ⟨p', vs', rfl, hp', rs'⟩ := r2
      exact wa_nil ⟨p, p', vs, vs', rfl, .of (S2.sub _ _ hp), .of (S2.sub _ _ hp'), hR _ _ F2 _ S2 (Fwd.trans s1 s2) q4 (.zip hp rs hp' rs')⟩
    | _ => cases mt
  · cases m
theorem sIt_45 {a} (iE_a : SE b L N CL G cm a) : SIt b L N CL G cm (.enum a) := by
  unfold SIt
  intro ct X all sc tg e hb C m F ρ σ H Q E S hE h
  unfold mIt at m
  split at m
  · rename_i x _ y pos
    simp only [Bool.and_eq_true, decide_eq_true_eq] at m
    obtain ⟨⟨⟨⟨rfl, mt⟩, m2⟩, m3⟩, m4⟩ := m
    have hL2 : LOk (b6 X) L CL := hb ▸ hL
    obtain ⟨g1, g2, g3⟩ := C.gl m2
    cases tg with
    | Tuple elts kk tpos =>
      refine ⟨_, pi_enum (ta := Wa X [y]) g1 hL2.it.2.2.1 Wa.pa (star_cons m3), fun R hR => wa_cons (star_cons m3) (We.up (iE_a hb C m4 S hE h) ?_)⟩
      rintro v H1 ⟨x, F1, S1, s1, r1, q1⟩
      obtain ⟨xs, rfl, q1⟩ := asL_ok q1
      unfold Rep at r1
      obtain ⟨p, vs, rfl, hp, rs⟩ := r1
      exact wa_nil ⟨p, vs, rfl, .of (S1.sub _ _ hp), hR _ _ F1 _ S1 s1 q1 (.enum hp rs)⟩
    | _ => cases mt
  · cases m
theorem sAndT_46  : SAndT b L N CL G cm (.nil) := by
  unfold SAndT
  intro ct X all sc es hb C m F ρ σ H P E S hE h
  exact h.elim
theorem sAndT_47 {c} (iT_c : ST b L N CL G cm c) : SAndT b L N CL G cm (.cons c .nil) := by
  unfold SAndT
  intro ct X all sc es hb C m F ρ σ H P E S hE h
  unfold mEs at m
  split at m
  · simp only [Bool.and_eq_true] at m
    obtain ⟨⟨m1, m2⟩, m3⟩ := m
    unfold mEs at m3
    split at m3
    · exact fun pos => ww_and1 (iT_c hb C m2 S hE h)
    · cases m3
  · cases m
theorem sAndT_48 {c c2 cs} (iT_c : ST b L N CL G cm c) (iAndT_consc2cs : SAndT b L N CL G cm (.cons c2 cs)) : SAndT b L N CL G cm (.cons c (.cons c2 cs)) := by
  unfold SAndT
  intro ct X all sc es hb C m F ρ σ H P E S hE h
  unfold mEs at m
  split at m
  · simp only [Bool.and_eq_true] at m
    obtain ⟨⟨m1, m2⟩, m3⟩ := m
    have m4 := m3
    unfold mEs at m3
    split at m3
    · refine fun pos => ww_and (Wt.imp ?_ (iT_c hb C m2 S hE h))
      rintro k H1 ⟨F1, S1, s1, q1⟩
      exact ifB_mono q1 (fun q wh pins s I => thn (iAndT_consc2cs hb C m4 S1 (hE.up s1) q pos wh pins s I) fun _ _ ⟨H', J, F', S', s', q'⟩ => ⟨H', J, F', S', s1.trans s', q'⟩) fun q => ⟨F1, S1, s1, q⟩
    · cases m3
  · cases m
theorem sOrT_49  : SOrT b L N CL G cm (.nil) := by
  unfold SOrT
  intro ct X all sc es hb C m F ρ σ H P E S hE h
  exact h.elim
theorem sOrT_50 {c} (iT_c : ST b L N CL G cm c) : SOrT b L N CL G cm (.cons c .nil) := by
  unfold SOrT
  intro ct X all sc es hb C m F ρ σ H P E S hE h
  unfold mEs at m
  split at m
  · simp only [Bool.and_eq_true] at m
    obtain ⟨⟨m1, m2⟩, m3⟩ := m
    unfold mEs at m3
    split at m3
    · exact fun pos => ww_or1 (iT_c hb C m2 S hE h)
    · cases m3
  · cases m
theorem sOrT_51 {c c2 cs} (iT_c : ST b L N CL G cm c) (iOrT_consc2cs : SOrT b L N CL G cm (.cons c2 cs)) : SOrT b L N CL G cm (.cons c (.cons c2 cs)) := by
  unfold SOrT
  intro ct X all sc es hb C m F ρ σ H P E S hE h
  unfold mEs at m
  split at m
  · simp only [Bool.and_eq_true] at m
    obtain ⟨⟨m1, m2⟩, m3⟩ := m
    have m4 := m3
    unfold mEs at m3
    split at m3
    · refine fun pos => ww_or (Wt.imp ?_ (iT_c hb C m2 S hE h))
      rintro k H1 ⟨F1, S1, s1, q1⟩
      exact ifB_mono q1 (fun q => ⟨F1, S1, s1, q⟩) fun q wh pins s I => thn (iOrT_consc2cs hb C m4 S1 (hE.up s1) q pos wh pins s I) fun _ _ ⟨H', J, F', S', s', q'⟩ => ⟨H', J, F', S', s1.trans s', q'⟩
    · cases m3
  · cases m
theorem sT_52 {x} (iT_x : ST b L N CL G cm x) : ST b L N CL G cm (.inot x) := by
  unfold ST
  intro ct X all sc e hb C m F ρ σ H P E S hE h
  unfold mE at m
  split at m
  · exact wt_not (iT_x (P := fun b => P (!b)) hb C m S hE h)
  · cases m
theorem sT_53 {es} (iAndT_es : SAndT b L N CL G cm es) : ST b L N CL G cm (.and es) := by
  unfold ST
  intro ct X all sc e hb C m F ρ σ H P E S hE h
  unfold mE at m
  split at m
  · exact wt_ww (iAndT_es hb C m S hE h _)
  · cases m
theorem sT_54 {es} (iOrT_es : SOrT b L N CL G cm es) : ST b L N CL G cm (.or es) := by
  unfold ST
  intro ct X all sc e hb C m F ρ σ H P E S hE h
  unfold mE at m
  split at m
  · exact wt_ww (iOrT_es hb C m S hE h _)
  · cases m
theorem sT_55 {op x y} (iE_x : SE b L N CL G cm x) (iE_y : SE b L N CL G cm y) : ST b L N CL G cm (.cmp op x y) := by
  unfold ST
  intro ct X all sc e hb C m F ρ σ H P E S hE h
  unfold mE at m
  split at m
  · simp only [Bool.and_eq_true, decide_eq_true_eq] at m
    obtain ⟨⟨⟨rfl, m0⟩, m1⟩, m2⟩ := m
    refine wt_cmp (mark_no m0) (We.up (iE_x hb C m1 S hE h) ?_)
    rintro v H1 ⟨x, F1, S1, s1, r1, q1⟩
    refine We.up (iE_y hb C m2 S1 (hE.up s1) q1) ?_
    rintro w H2 ⟨y, F2, S2, s2, r2, q2⟩
    refine Wo.imp ?_ (hL.opP (.cmp op) X hb ct F2 ρ σ H2 [x, y] [v, w] _ E S2 (.cons (r1.mono s2.s) (.cons r2 .nil)) q2 ((hE.up s1).up s2))
    rintro u H3 ⟨u', F3, S3, s3, r3, q3⟩
    obtain ⟨k, rfl, q3⟩ := asB_ok q3
    exact ⟨k, r3, F3, S3, s1.trans (s2.trans s3), q3⟩
  · cases m
theorem sT_56 {o1 o2 x y z} (iE_x : SE b L N CL G cm x) (iE_y : SE b L N CL G cm y) (iE_z : SE b L N CL G cm z) : ST b L N CL G cm (.cmp2 o1 o2 x y z) := by
  unfold ST
  intro ct X all sc e hb C m F ρ σ H P E S hE h
  unfold mE at m
  split at m
  · simp only [Bool.and_eq_true, decide_eq_true_eq] at m
    obtain ⟨⟨⟨⟨⟨⟨rfl, rfl⟩, m3⟩, m4⟩, m5⟩, m6⟩, m7⟩ := m
    refine wt_chain (marks2 m3 m4) (We.up (iE_x hb C m5 S hE h) ?_)
    rintro v H1 ⟨x, F1, S1, s1, r1, q1⟩
    refine We.up (iE_y hb C m6 S1 (hE.up s1) q1) ?_
    rintro w H2 ⟨y, F2, S2, s2, r2, q2⟩
    refine Wo.imp ?_ (hL.opP (.cmp o1) X hb ct F2 ρ σ H2 [x, y] [v, w] _ E S2 (.cons (r1.mono s2.s) (.cons r2 .nil)) q2 ((hE.up s1).up s2))
    rintro u H3 ⟨u', F3, S3, s3, r3, q3⟩
    obtain ⟨k, rfl, q3⟩ := asB_ok q3
    refine ⟨k, r3, ifB_mono q3 (fun q => ?_) (fun q => ⟨F3, S3, s1.trans (s2.trans s3), q⟩)⟩
    refine We.up (iE_z hb C m7 S3 (((hE.up s1).up s2).up s3) q) ?_
    rintro w2 H4 ⟨z, F4, S4, s4, r4, q4⟩
    refine Wo.imp ?_ (hL.opP (.cmp o2) X hb ct F4 ρ σ H4 [y, z] [w, w2] _ E S4 (.cons ((r2.mono s3.s).mono s4.s) (.cons r4 .nil)) q4 ((((hE.up s1).up s2).up s3).up s4))
    rintro u H5 ⟨u', F5, S5, s5, r5, q5⟩
    obtain ⟨k, rfl, q5⟩ := asB_ok q5
    exact ⟨k, r5, F5, S5, s1.trans (s2.trans (s3.trans (s4.trans s5))), q5⟩
  · cases m
theorem sT_57 {c x y} (iT_c : ST b L N CL G cm c) (iT_x : ST b L N CL G cm x) (iT_y : ST b L N CL G cm y) : ST b L N CL G cm (.ite c x y) := by
  unfold ST
  intro ct X all sc e hb C m F ρ σ H P E S hE h
  unfold mE at m
  split at m
  · simp only [Bool.and_eq_true] at m
    obtain ⟨⟨m1, m2⟩, m3⟩ := m
    refine wt_ite (Wt.imp ?_ (iT_c hb C m1 S hE h))
    rintro k H1 ⟨F1, S1, s1, q1⟩
    exact ifB_mono q1 (fun q => Wt.imp (fun k H' ⟨F', S', s', q'⟩ => ⟨F', S', s1.trans s', q'⟩) (iT_x hb C m2 S1 (hE.up s1) q)) (fun q => Wt.imp (fun k H' ⟨F', S', s', q'⟩ => ⟨F', S', s1.trans s', q'⟩) (iT_y hb C m3 S1 (hE.up s1) q))
  · cases m
theorem condW_58  : SCond b L N CL G cm (.nil) := by
  unfold SCond
  intro ct X all sc scope ifs hb C hx m F ρ σ H P R S h k
  unfold mEs at m
  split at m
  · exact k true H F S (.refl S) h
  · cases m
theorem condW_59 {c} (iT_c : ST b L N CL G cm c) : SCond b L N CL G cm (.cons c .nil) := by
  unfold SCond
  intro ct X all sc scope ifs hb C hx m F ρ σ H P R S h k
  unfold mEs at m
  split at m
  · simp only [Bool.and_eq_true] at m
    obtain ⟨⟨m1, m2⟩, m3⟩ := m
    unfold mEs at m3
    split at m3
    · intro X2 hX2
      obtain ⟨C2, hb2⟩ := C.blk hx hX2
      have hK : X2.K = X.K := congrArg B6.K hb2
      refine Wt.imp ?_ (iT_c (E := fun _ => False) (hb2.trans hb) C2 m2 (S.cast hK.symm) (fun _ _ _ _ _ _ _ z => z.elim) h)
      rintro kk H1 ⟨F1, S1, s1, q1⟩
      exact k kk H1 F1 (S1.cast hK) s1 q1
    · cases m3
  · cases m
theorem condW_60 {c c2 cs}  : SCond b L N CL G cm (.cons c (.cons c2 cs)) := by
  unfold SCond
  intro ct X all sc scope ifs hb C hx m F ρ σ H P R S h k
  exact h.elim
end
theorem st_gen {b : B6} {L : Lang} {N : List Str} {CL : List Cl} {G : List GK} {cm : Bool} {c : CE} (hp : ∀ sc e, mE N G CL cm sc c e = true → plainT e = true) (h : SE b L N CL G cm c) : ST b L N CL G cm c := by
  unfold ST
  intro ct X all sc e hb C m F ρ σ H P E S hE hd
  exact wtGen (hp sc e m) (h hb C m S hE hd)
theorem mO_plain {N : List Str} {G : List GK} {CL : List Cl} {cm : Bool} {sc : Scope} : ∀ {o : CO} {e : Expr}, mO N G CL cm sc o e = true → plainT e = true
  | .snapO o, e, m => by unfold mO at m; exact mO_plain m
  | .lst _, e, m => by unfold mO at m; split at m <;> first | rfl | cases m
  | .comp _ _ _ _ _, e, m => by unfold mO at m; split at m <;> first | rfl | cases m
  | .ofL _, e, m => by unfold mO at m; split at m <;> first | rfl | cases m
  | .ofT _, e, m => by unfold mO at m; split at m <;> first | rfl | cases m
  | .cat _ _, e, m => by unfold mO at m; split at m <;> first | rfl | cases m
  | .rep _ _, e, m => by unfold mO at m; split at m <;> first | rfl | cases m
  | .sl _ _ _, e, m => by unfold mO at m; split at m <;> first | rfl | cases m
theorem plainXT {e : Expr} (h : plainX e = true) : plainT e = true := by
  cases e with
  | UnaryOp op a p => cases op <;> first | rfl | cases h
  | _ => first | rfl | cases h
theorem ext_plain {N : List Str} {G : List GK} {CL : List Cl} {cm : Bool} {i : Nat} {es : CEs} (sc : Scope) (e : Expr) (m : mE N G CL cm sc (.ext i es) e = true) : plainT e = true := by
  unfold mE at m
  split at m
  · split at m
    · exact plainXT (Bool.and_eq_true_iff.mp m).1
    · cases m
  · cases m
theorem isX_imm {L : Lang} {i : Nat} {c : Cl} {ρ : Env} {Q : PV → Prop} {E : KE} (h : denE L (.isX i c) ρ Q E) : denE L (.isX i c) ρ (fun x => immP x = true ∧ Q x) E := by
  unfold denE getX at h ⊢
  split at h
  · rename_i e ee
    obtain ⟨a, h⟩ := ifB_f h
    obtain ⟨a2, h⟩ := ifB_f h
    rw [a, a2]
    exact ⟨rfl, h⟩
  · exact h.elim
section
variable {b : B6} {L : Lang} {N : List Str} {CL : List Cl} {G : List GK} {cm : Bool} (hL : LOk b L CL) (hG : G = L.G.map (·.1))
include hL hG
theorem allE (c : CE) : SE b L N CL G cm c ∧ ST b L N CL G cm c ∧ SN b L N CL G cm c :=
  CE.rec (motive_1 := fun c => SE b L N CL G cm c ∧ ST b L N CL G cm c ∧ SN b L N CL G cm c) (motive_2 := fun cs => SEs b L N CL G cm cs ∧ SAnd b L N CL G cm cs ∧ SOr b L N CL G cm cs ∧ SAndT b L N CL G cm cs ∧ SOrT b L N CL G cm cs ∧ SCond b L N CL G cm cs ∧ SNs b L N CL G cm cs) (motive_3 := fun o => SO b L N CL G cm o) (motive_4 := fun it => SIt b L N CL G cm it) (motive_5 := fun _ => True) (motive_6 := fun _ => True)
    (fun i => ⟨(sE_0 hL hG), (st_gen (fun sc e m => by unfold mE at m; split at m <;> first | rfl | cases m) (sE_0 hL hG)), sN_no hL hG rfl⟩)
    (fun n => ⟨(sE_1 hL hG), (st_gen (fun sc e m => by unfold mE at m; split at m <;> first | rfl | cases m) (sE_1 hL hG)), sN_imm hL hG (fun h => ⟨rfl, h⟩) (sE_1 hL hG)⟩)
    (fun n => ⟨(sE_2 hL hG), (st_gen (fun sc e m => by unfold mE at m; split at m <;> first | rfl | cases m) (sE_2 hL hG)), sN_imm hL hG (fun h => ⟨rfl, h⟩) (sE_2 hL hG)⟩)
    ⟨(sE_3 hL hG), (st_gen (fun sc e m => by unfold mE at m; split at m <;> first | rfl | cases m) (sE_3 hL hG)), sN_imm hL hG (fun h => ⟨rfl, h⟩) (sE_3 hL hG)⟩
    (fun n => ⟨(sE_4 hL hG), (st_gen (fun sc e m => by unfold mE at m; split at m <;> first | rfl | cases m) (sE_4 hL hG)), sN_imm hL hG (fun h => ⟨rfl, h⟩) (sE_4 hL hG)⟩)
    (fun t => ⟨(sE_5 hL hG), (st_gen (fun sc e m => by unfold mE at m; split at m <;> first | rfl | cases m) (sE_5 hL hG)), sN_no hL hG rfl⟩)
    (fun c => ⟨(sE_6 hL hG), (st_gen (fun sc e m => by unfold mE at m; split at m <;> first | rfl | cases m) (sE_6 hL hG)), sN_no hL hG rfl⟩)
    (fun es i_es => ⟨(sE_7 hL hG i_es.1), (st_gen (fun sc e m => by unfold mE at m; split at m <;> first | rfl | cases m) (sE_7 hL hG i_es.1)), sN_tup hL hG i_es.2.2.2.2.2.2⟩)
    (fun o i_o => ⟨(sE_8 hL hG i_o), (st_gen (fun sc e m => by unfold mE at m; exact mO_plain m) (sE_8 hL hG i_o)), sN_no hL hG rfl⟩)
    (fun op x y i_x i_y => ⟨(sE_9 hL hG i_x.1 i_y.1), (st_gen (fun sc e m => by unfold mE at m; split at m <;> first | rfl | cases m) (sE_9 hL hG i_x.1 i_y.1)), sN_9 hL hG i_x.1 i_y.1⟩)
    (fun x i_x => ⟨(sE_10 hL hG i_x.1), (st_gen (fun sc e m => by unfold mE at m; split at m <;> first | rfl | cases m) (sE_10 hL hG i_x.1)), sN_10 hL hG i_x.1⟩)
    (fun x i_x => ⟨(sE_11 hL hG i_x.1), (sT_52 hL hG i_x.2.1), sN_no hL hG rfl⟩)
    (fun op x y i_x i_y => ⟨(sE_12 hL hG i_x.1 i_y.1), (sT_55 hL hG i_x.1 i_y.1), sN_12 hL hG i_x.1 i_y.1⟩)
    (fun o1 o2 x y z i_x i_y i_z => ⟨(sE_13 hL hG i_x.1 i_y.1 i_z.1), (sT_56 hL hG i_x.1 i_y.1 i_z.1), sN_no hL hG rfl⟩)
    (fun es i_es => ⟨(sE_14 hL hG i_es.2.1), (sT_53 hL hG i_es.2.2.2.1), sN_no hL hG rfl⟩)
    (fun es i_es => ⟨(sE_15 hL hG i_es.2.2.1), (sT_54 hL hG i_es.2.2.2.2.1), sN_no hL hG rfl⟩)
    (fun c x y i_c i_x i_y => ⟨(sE_16 hL hG i_c.2.1 i_x.1 i_y.1), (sT_57 hL hG i_c.2.1 i_x.2.1 i_y.2.1), sN_no hL hG rfl⟩)
    (fun i es i_es => ⟨(sE_17 hL hG i_es.1), (st_gen (fun sc e m => by unfold mE at m; split at m <;> first | rfl | cases m) (sE_17 hL hG i_es.1)), sN_17 hL hG i_es.1⟩)
    (fun i a es i_a i_es => ⟨(sE_18 hL hG i_a.1 i_es.1), (st_gen (fun sc e m => by unfold mE at m; split at m <;> first | rfl | cases m) (sE_18 hL hG i_a.1 i_es.1)), sN_18 hL hG i_a.1 i_es.1⟩)
    (fun t es i_es => ⟨(sE_19 hL hG i_es.1), (st_gen (fun sc e m => by unfold mE at m; split at m <;> first | rfl | cases m) (sE_19 hL hG i_es.1)), sN_19 hL hG i_es.1⟩)
    (fun c j a i_a => ⟨(sE_20 hL hG i_a.1), (st_gen (fun sc e m => by unfold mE at m; split at m <;> first | rfl | cases m) (sE_20 hL hG i_a.1)), sN_no hL hG rfl⟩)
    (fun x y i_x i_y => ⟨(sE_21 hL hG i_x.1 i_y.1), (st_gen (fun sc e m => by unfold mE at m; split at m <;> first | rfl | cases m) (sE_21 hL hG i_x.1 i_y.1)), sN_no hL hG rfl⟩)
    (fun i y i_y => ⟨(sE_22 hL hG i_y.1), (st_gen (fun sc e m => by unfold mE at m; split at m <;> first | rfl | cases m) (sE_22 hL hG i_y.1)), sN_no hL hG rfl⟩)
    (fun i => ⟨(sE_23 hL hG), (st_gen (fun sc e m => by unfold mE at m; split at m <;> first | rfl | cases m) (sE_23 hL hG)), sN_no hL hG rfl⟩)
    (fun x i_x => ⟨(sE_snap hL hG i_x.1), (sT_snap hL hG i_x.2.1), sN_snap hL hG i_x.1⟩)
    (fun x i_x => ⟨(sE_snapF hL hG i_x.2.2), (sT_snapF hL hG i_x.2.1), sN_snapF hL hG i_x.2.2⟩)
    (fun i c => ⟨(sE_isX hL hG), (st_gen (fun sc e m => by unfold mE at m; split at m <;> first | rfl | cases m) (sE_isX hL hG)), sN_imm hL hG (isX_imm) (sE_isX hL hG)⟩)
    (fun i es i_es => ⟨(sE_sta hL hG i_es.1), (st_gen (fun sc e m => by unfold mE at m; split at m <;> first | rfl | cases m) (sE_sta hL hG i_es.1)), sN_sta hL hG i_es.1⟩)
    (fun i es i_es => ⟨(sE_ext hL hG i_es.1), (st_gen ext_plain (sE_ext hL hG i_es.1)), sN_ext hL hG i_es.1⟩)
    ⟨(sEs_24 hL hG), (sAnd_26 hL hG), (sOr_29 hL hG), (sAndT_46 hL hG), (sOrT_49 hL hG), (condW_58 hL hG), (sNs_nil hL hG)⟩
    (fun c cs i_c i_cs => ⟨(sEs_25 hL hG i_c.1 i_cs.1), (match cs, i_cs with | .nil, _ => sAnd_27 hL hG i_c.1 | .cons c2 cs, i_cs => sAnd_28 hL hG i_c.1 i_cs.2.1), (match cs, i_cs with | .nil, _ => sOr_30 hL hG i_c.1 | .cons c2 cs, i_cs => sOr_31 hL hG i_c.1 i_cs.2.2.1), (match cs, i_cs with | .nil, _ => sAndT_47 hL hG i_c.2.1 | .cons c2 cs, i_cs => sAndT_48 hL hG i_c.2.1 i_cs.2.2.2.1), (match cs, i_cs with | .nil, _ => sOrT_50 hL hG i_c.2.1 | .cons c2 cs, i_cs => sOrT_51 hL hG i_c.2.1 i_cs.2.2.2.2.1), (match cs, i_cs with | .nil, _ => condW_59 hL hG i_c.2.1 | .cons c2 cs, i_cs => condW_60 hL hG), (sNs_cons hL hG i_c.2.2 i_cs.2.2.2.2.2.2)⟩)
    (fun es i_es => (sO_32 hL hG i_es.1))
    (fun t it cs el own i_t i_it i_cs i_el => (sO_33 hL hG i_it i_cs.2.2.2.2.2.1 i_el.1))
    (fun a i_a => (sO_34 hL hG i_a.1))
    (fun a i_a => (sO_35 hL hG i_a.1))
    (fun x y i_x i_y => (sO_36 hL hG i_x.1 i_y.1))
    (fun x y i_x i_y => (sO_37 hL hG i_x.1 i_y.1))
    (fun x lo hi i_x i_lo i_hi => (sO_38 hL hG i_x.1 i_lo.1 i_hi.1))
    (fun o i_o => (sO_snap hL hG i_o))
    (fun i => (sIt_39 hL hG))
    (fun a i_a => (sIt_40 hL hG i_a.1))
    (fun a i_a => (sIt_41 hL hG i_a.1))
    (fun a i_a => (sIt_42 hL hG i_a.1))
    (fun a c i_a i_c => (sIt_43 hL hG i_a.1 i_c.1))
    (fun a c i_a i_c => (sIt_44 hL hG i_a.1 i_c.1))
    (fun a i_a => (sIt_45 hL hG i_a.1))
    (fun _ => trivial)
    (fun _ _ => trivial)
    trivial
    (fun _ _ _ _ => trivial) c
theorem allC (c : CEs) : SEs b L N CL G cm c ∧ SAnd b L N CL G cm c ∧ SOr b L N CL G cm c ∧ SAndT b L N CL G cm c ∧ SOrT b L N CL G cm c ∧ SCond b L N CL G cm c ∧ SNs b L N CL G cm c :=
  CEs.rec (motive_1 := fun c => SE b L N CL G cm c ∧ ST b L N CL G cm c ∧ SN b L N CL G cm c) (motive_2 := fun cs => SEs b L N CL G cm cs ∧ SAnd b L N CL G cm cs ∧ SOr b L N CL G cm cs ∧ SAndT b L N CL G cm cs ∧ SOrT b L N CL G cm cs ∧ SCond b L N CL G cm cs ∧ SNs b L N CL G cm cs) (motive_3 := fun o => SO b L N CL G cm o) (motive_4 := fun it => SIt b L N CL G cm it) (motive_5 := fun _ => True) (motive_6 := fun _ => True)
    (fun i => ⟨(sE_0 hL hG), (st_gen (fun sc e m => by unfold mE at m; split at m <;> first | rfl | cases m) (sE_0 hL hG)), sN_no hL hG rfl⟩)
    (fun n => ⟨(sE_1 hL hG), (st_gen (fun sc e m => by unfold mE at m; split at m <;> first | rfl | cases m) (sE_1 hL hG)), sN_imm hL hG (fun h => ⟨rfl, h⟩) (sE_1 hL hG)⟩)
    (fun n => ⟨(sE_2 hL hG), (st_gen (fun sc e m => by unfold mE at m; split at m <;> first | rfl | cases m) (sE_2 hL hG)), sN_imm hL hG (fun h => ⟨rfl, h⟩) (sE_2 hL hG)⟩)
    ⟨(sE_3 hL hG), (st_gen (fun sc e m => by unfold mE at m; split at m <;> first | rfl | cases m) (sE_3 hL hG)), sN_imm hL hG (fun h => ⟨rfl, h⟩) (sE_3 hL hG)⟩
    (fun n => ⟨(sE_4 hL hG), (st_gen (fun sc e m => by unfold mE at m; split at m <;> first | rfl | cases m) (sE_4 hL hG)), sN_imm hL hG (fun h => ⟨rfl, h⟩) (sE_4 hL hG)⟩)
    (fun t => ⟨(sE_5 hL hG), (st_gen (fun sc e m => by unfold mE at m; split at m <;> first | rfl | cases m) (sE_5 hL hG)), sN_no hL hG rfl⟩)
    (fun c => ⟨(sE_6 hL hG), (st_gen (fun sc e m => by unfold mE at m; split at m <;> first | rfl | cases m) (sE_6 hL hG)), sN_no hL hG rfl⟩)
    (fun es i_es => ⟨(sE_7 hL hG i_es.1), (st_gen (fun sc e m => by unfold mE at m; split at m <;> first | rfl | cases m) (sE_7 hL hG i_es.1)), sN_tup hL hG i_es.2.2.2.2.2.2⟩)
    (fun o i_o => ⟨(sE_8 hL hG i_o), (st_gen (fun sc e m => by unfold mE at m; exact mO_plain m) (sE_8 hL hG i_o)), sN_no hL hG rfl⟩)
    (fun op x y i_x i_y => ⟨(sE_9 hL hG i_x.1 i_y.1), (st_gen (fun sc e m => by unfold mE at m; split at m <;> first | rfl | cases m) (sE_9 hL hG i_x.1 i_y.1)), sN_9 hL hG i_x.1 i_y.1⟩)
    (fun x i_x => ⟨(sE_10 hL hG i_x.1), (st_gen (fun sc e m => by unfold mE at m; split at m <;> first | rfl | cases m) (sE_10 hL hG i_x.1)), sN_10 hL hG i_x.1⟩)
    (fun x i_x => ⟨(sE_11 hL hG i_x.1), (sT_52 hL hG i_x.2.1), sN_no hL hG rfl⟩)
    (fun op x y i_x i_y => ⟨(sE_12 hL hG i_x.1 i_y.1), (sT_55 hL hG i_x.1 i_y.1), sN_12 hL hG i_x.1 i_y.1⟩)
    (fun o1 o2 x y z i_x i_y i_z => ⟨(sE_13 hL hG i_x.1 i_y.1 i_z.1), (sT_56 hL hG i_x.1 i_y.1 i_z.1), sN_no hL hG rfl⟩)
    (fun es i_es => ⟨(sE_14 hL hG i_es.2.1), (sT_53 hL hG i_es.2.2.2.1), sN_no hL hG rfl⟩)
    (fun es i_es => ⟨(sE_15 hL hG i_es.2.2.1), (sT_54 hL hG i_es.2.2.2.2.1), sN_no hL hG rfl⟩)
    (fun c x y i_c i_x i_y => ⟨(sE_16 hL hG i_c.2.1 i_x.1 i_y.1), (sT_57 hL hG i_c.2.1 i_x.2.1 i_y.2.1), sN_no hL hG rfl⟩)
    (fun i es i_es => ⟨(sE_17 hL hG i_es.1), (st_gen (fun sc e m => by unfold mE at m; split at m <;> first | rfl | cases m) (sE_17 hL hG i_es.1)), sN_17 hL hG i_es.1⟩)
    (fun i a es i_a i_es => ⟨(sE_18 hL hG i_a.1 i_es.1), (st_gen (fun sc e m => by unfold mE at m; split at m <;> first | rfl | cases m) (sE_18 hL hG i_a.1 i_es.1)), sN_18 hL hG i_a.1 i_es.1⟩)
    (fun t es i_es => ⟨(sE_19 hL hG i_es.1), (st_gen (fun sc e m => by unfold mE at m; split at m <;> first | rfl | cases m) (sE_19 hL hG i_es.1)), sN_19 hL hG i_es.1⟩)
    (fun c j a i_a => ⟨(sE_20 hL hG i_a.1), (st_gen (fun sc e m => by unfold mE at m; split at m <;> first | rfl | cases m) (sE_20 hL hG i_a.1)), sN_no hL hG rfl⟩)
    (fun x y i_x i_y => ⟨(sE_21 hL hG i_x.1 i_y.1), (st_gen (fun sc e m => by unfold mE at m; split at m <;> first | rfl | cases m) (sE_21 hL hG i_x.1 i_y.1)), sN_no hL hG rfl⟩)
    (fun i y i_y => ⟨(sE_22 hL hG i_y.1), (st_gen (fun sc e m => by unfold mE at m; split at m <;> first | rfl | cases m) (sE_22 hL hG i_y.1)), sN_no hL hG rfl⟩)
    (fun i => ⟨(sE_23 hL hG), (st_gen (fun sc e m => by unfold mE at m; split at m <;> first | rfl | cases m) (sE_23 hL hG)), sN_no hL hG rfl⟩)
    (fun x i_x => ⟨(sE_snap hL hG i_x.1), (sT_snap hL hG i_x.2.1), sN_snap hL hG i_x.1⟩)
    (fun x i_x => ⟨(sE_snapF hL hG i_x.2.2), (sT_snapF hL hG i_x.2.1), sN_snapF hL hG i_x.2.2⟩)
    (fun i c => ⟨(sE_isX hL hG), (st_gen (fun sc e m => by unfold mE at m; split at m <;> first | rfl | cases m) (sE_isX hL hG)), sN_imm hL hG (isX_imm) (sE_isX hL hG)⟩)
    (fun i es i_es => ⟨(sE_sta hL hG i_es.1), (st_gen (fun sc e m => by unfold mE at m; split at m <;> first | rfl | cases m) (sE_sta hL hG i_es.1)), sN_sta hL hG i_es.1⟩)
    (fun i es i_es => ⟨(sE_ext hL hG i_es.1), (st_gen ext_plain (sE_ext hL hG i_es.1)), sN_ext hL hG i_es.1⟩)
    ⟨(sEs_24 hL hG), (sAnd_26 hL hG), (sOr_29 hL hG), (sAndT_46 hL hG), (sOrT_49 hL hG), (condW_58 hL hG), (sNs_nil hL hG)⟩
    (fun c cs i_c i_cs => ⟨(sEs_25 hL hG i_c.1 i_cs.1), (match cs, i_cs with | .nil, _ => sAnd_27 hL hG i_c.1 | .cons c2 cs, i_cs => sAnd_28 hL hG i_c.1 i_cs.2.1), (match cs, i_cs with | .nil, _ => sOr_30 hL hG i_c.1 | .cons c2 cs, i_cs => sOr_31 hL hG i_c.1 i_cs.2.2.1), (match cs, i_cs with | .nil, _ => sAndT_47 hL hG i_c.2.1 | .cons c2 cs, i_cs => sAndT_48 hL hG i_c.2.1 i_cs.2.2.2.1), (match cs, i_cs with | .nil, _ => sOrT_50 hL hG i_c.2.1 | .cons c2 cs, i_cs => sOrT_51 hL hG i_c.2.1 i_cs.2.2.2.2.1), (match cs, i_cs with | .nil, _ => condW_59 hL hG i_c.2.1 | .cons c2 cs, i_cs => condW_60 hL hG), (sNs_cons hL hG i_c.2.2 i_cs.2.2.2.2.2.2)⟩)
    (fun es i_es => (sO_32 hL hG i_es.1))
    (fun t it cs el own i_t i_it i_cs i_el => (sO_33 hL hG i_it i_cs.2.2.2.2.2.1 i_el.1))
    (fun a i_a => (sO_34 hL hG i_a.1))
    (fun a i_a => (sO_35 hL hG i_a.1))
    (fun x y i_x i_y => (sO_36 hL hG i_x.1 i_y.1))
    (fun x y i_x i_y => (sO_37 hL hG i_x.1 i_y.1))
    (fun x lo hi i_x i_lo i_hi => (sO_38 hL hG i_x.1 i_lo.1 i_hi.1))
    (fun o i_o => (sO_snap hL hG i_o))
    (fun i => (sIt_39 hL hG))
    (fun a i_a => (sIt_40 hL hG i_a.1))
    (fun a i_a => (sIt_41 hL hG i_a.1))
    (fun a i_a => (sIt_42 hL hG i_a.1))
    (fun a c i_a i_c => (sIt_43 hL hG i_a.1 i_c.1))
    (fun a c i_a i_c => (sIt_44 hL hG i_a.1 i_c.1))
    (fun a i_a => (sIt_45 hL hG i_a.1))
    (fun _ => trivial)
    (fun _ _ => trivial)
    trivial
    (fun _ _ _ _ => trivial) c
theorem allO (c : CO) : SO b L N CL G cm c :=
  CO.rec (motive_1 := fun c => SE b L N CL G cm c ∧ ST b L N CL G cm c ∧ SN b L N CL G cm c) (motive_2 := fun cs => SEs b L N CL G cm cs ∧ SAnd b L N CL G cm cs ∧ SOr b L N CL G cm cs ∧ SAndT b L N CL G cm cs ∧ SOrT b L N CL G cm cs ∧ SCond b L N CL G cm cs ∧ SNs b L N CL G cm cs) (motive_3 := fun o => SO b L N CL G cm o) (motive_4 := fun it => SIt b L N CL G cm it) (motive_5 := fun _ => True) (motive_6 := fun _ => True)
    (fun i => ⟨(sE_0 hL hG), (st_gen (fun sc e m => by unfold mE at m; split at m <;> first | rfl | cases m) (sE_0 hL hG)), sN_no hL hG rfl⟩)
    (fun n => ⟨(sE_1 hL hG), (st_gen (fun sc e m => by unfold mE at m; split at m <;> first | rfl | cases m) (sE_1 hL hG)), sN_imm hL hG (fun h => ⟨rfl, h⟩) (sE_1 hL hG)⟩)
    (fun n => ⟨(sE_2 hL hG), (st_gen (fun sc e m => by unfold mE at m; split at m <;> first | rfl | cases m) (sE_2 hL hG)), sN_imm hL hG (fun h => ⟨rfl, h⟩) (sE_2 hL hG)⟩)
    ⟨(sE_3 hL hG), (st_gen (fun sc e m => by unfold mE at m; split at m <;> first | rfl | cases m) (sE_3 hL hG)), sN_imm hL hG (fun h => ⟨rfl, h⟩) (sE_3 hL hG)⟩
    (fun n => ⟨(sE_4 hL hG), (st_gen (fun sc e m => by unfold mE at m; split at m <;> first | rfl | cases m) (sE_4 hL hG)), sN_imm hL hG (fun h => ⟨rfl, h⟩) (sE_4 hL hG)⟩)
    (fun t => ⟨(sE_5 hL hG), (st_gen (fun sc e m => by unfold mE at m; split at m <;> first | rfl | cases m) (sE_5 hL hG)), sN_no hL hG rfl⟩)
    (fun c => ⟨(sE_6 hL hG), (st_gen (fun sc e m => by unfold mE at m; split at m <;> first | rfl | cases m) (sE_6 hL hG)), sN_no hL hG rfl⟩)
    (fun es i_es => ⟨(sE_7 hL hG i_es.1), (st_gen (fun sc e m => by unfold mE at m; split at m <;> first | rfl | cases m) (sE_7 hL hG i_es.1)), sN_tup hL hG i_es.2.2.2.2.2.2⟩)
    (fun o i_o => ⟨(sE_8 hL hG i_o), (st_gen (fun sc e m => by unfold mE at m; exact mO_plain m) (sE_8 hL hG i_o)), sN_no hL hG rfl⟩)
    (fun op x y i_x i_y => ⟨(sE_9 hL hG i_x.1 i_y.1), (st_gen (fun sc e m => by unfold mE at m; split at m <;> first | rfl | cases m) (sE_9 hL hG i_x.1 i_y.1)), sN_9 hL hG i_x.1 i_y.1⟩)
    (fun x i_x => ⟨(sE_10 hL hG i_x.1), (st_gen (fun sc e m => by unfold mE at m; split at m <;> first | rfl | cases m) (sE_10 hL hG i_x.1)), sN_10 hL hG i_x.1⟩)
    (fun x i_x => ⟨(sE_11 hL hG i_x.1), (sT_52 hL hG i_x.2.1), sN_no hL hG rfl⟩)
    (fun op x y i_x i_y => ⟨(sE_12 hL hG i_x.1 i_y.1), (sT_55 hL hG i_x.1 i_y.1), sN_12 hL hG i_x.1 i_y.1⟩)
    (fun o1 o2 x y z i_x i_y i_z => ⟨(sE_13 hL hG i_x.1 i_y.1 i_z.1), (sT_56 hL hG i_x.1 i_y.1 i_z.1), sN_no hL hG rfl⟩)
    (fun es i_es => ⟨(sE_14 hL hG i_es.2.1), (sT_53 hL hG i_es.2.2.2.1), sN_no hL hG rfl⟩)
    (fun es i_es => ⟨(sE_15 hL hG i_es.2.2.1), (sT_54 hL hG i_es.2.2.2.2.1), sN_no hL hG rfl⟩)
    (fun c x y i_c i_x i_y => ⟨(sE_16 hL hG i_c.2.1 i_x.1 i_y.1), (sT_57 hL hG i_c.2.1 i_x.2.1 i_y.2.1), sN_no hL hG rfl⟩)
    (fun i es i_es => ⟨(sE_17 hL hG i_es.1), (st_gen (fun sc e m => by unfold mE at m; split at m <;> first | rfl | cases m) (sE_17 hL hG i_es.1)), sN_17 hL hG i_es.1⟩)
    (fun i a es i_a i_es => ⟨(sE_18 hL hG i_a.1 i_es.1), (st_gen (fun sc e m => by unfold mE at m; split at m <;> first | rfl | cases m) (sE_18 hL hG i_a.1 i_es.1)), sN_18 hL hG i_a.1 i_es.1⟩)
    (fun t es i_es => ⟨(sE_19 hL hG i_es.1), (st_gen (fun sc e m => by unfold mE at m; split at m <;> first | rfl | cases m) (sE_19 hL hG i_es.1)), sN_19 hL hG i_es.1⟩)
    (fun c j a i_a => ⟨(sE_20 hL hG i_a.1), (st_gen (fun sc e m => by unfold mE at m; split at m <;> first | rfl | cases m) (sE_20 hL hG i_a.1)), sN_no hL hG rfl⟩)
    (fun x y i_x i_y => ⟨(sE_21 hL hG i_x.1 i_y.1), (st_gen (fun sc e m => by unfold mE at m; split at m <;> first | rfl | cases m) (sE_21 hL hG i_x.1 i_y.1)), sN_no hL hG rfl⟩)
    (fun i y i_y => ⟨(sE_22 hL hG i_y.1), (st_gen (fun sc e m => by unfold mE at m; split at m <;> first | rfl | cases m) (sE_22 hL hG i_y.1)), sN_no hL hG rfl⟩)
    (fun i => ⟨(sE_23 hL hG), (st_gen (fun sc e m => by unfold mE at m; split at m <;> first | rfl | cases m) (sE_23 hL hG)), sN_no hL hG rfl⟩)
    (fun x i_x => ⟨(sE_snap hL hG i_x.1), (sT_snap hL hG i_x.2.1), sN_snap hL hG i_x.1⟩)
    (fun x i_x => ⟨(sE_snapF hL hG i_x.2.2), (sT_snapF hL hG i_x.2.1), sN_snapF hL hG i_x.2.2⟩)
    (fun i c => ⟨(sE_isX hL hG), (st_gen (fun sc e m => by unfold mE at m; split at m <;> first | rfl | cases m) (sE_isX hL hG)), sN_imm hL hG (isX_imm) (sE_isX hL hG)⟩)
    (fun i es i_es => ⟨(sE_sta hL hG i_es.1), (st_gen (fun sc e m => by unfold mE at m; split at m <;> first | rfl | cases m) (sE_sta hL hG i_es.1)), sN_sta hL hG i_es.1⟩)
    (fun i es i_es => ⟨(sE_ext hL hG i_es.1), (st_gen ext_plain (sE_ext hL hG i_es.1)), sN_ext hL hG i_es.1⟩)
    ⟨(sEs_24 hL hG), (sAnd_26 hL hG), (sOr_29 hL hG), (sAndT_46 hL hG), (sOrT_49 hL hG), (condW_58 hL hG), (sNs_nil hL hG)⟩
    (fun c cs i_c i_cs => ⟨(sEs_25 hL hG i_c.1 i_cs.1), (match cs, i_cs with | .nil, _ => sAnd_27 hL hG i_c.1 | .cons c2 cs, i_cs => sAnd_28 hL hG i_c.1 i_cs.2.1), (match cs, i_cs with | .nil, _ => sOr_30 hL hG i_c.1 | .cons c2 cs, i_cs => sOr_31 hL hG i_c.1 i_cs.2.2.1), (match cs, i_cs with | .nil, _ => sAndT_47 hL hG i_c.2.1 | .cons c2 cs, i_cs => sAndT_48 hL hG i_c.2.1 i_cs.2.2.2.1), (match cs, i_cs with | .nil, _ => sOrT_50 hL hG i_c.2.1 | .cons c2 cs, i_cs => sOrT_51 hL hG i_c.2.1 i_cs.2.2.2.2.1), (match cs, i_cs with | .nil, _ => condW_59 hL hG i_c.2.1 | .cons c2 cs, i_cs => condW_60 hL hG), (sNs_cons hL hG i_c.2.2 i_cs.2.2.2.2.2.2)⟩)
    (fun es i_es => (sO_32 hL hG i_es.1))
    (fun t it cs el own i_t i_it i_cs i_el => (sO_33 hL hG i_it i_cs.2.2.2.2.2.1 i_el.1))
    (fun a i_a => (sO_34 hL hG i_a.1))
    (fun a i_a => (sO_35 hL hG i_a.1))
    (fun x y i_x i_y => (sO_36 hL hG i_x.1 i_y.1))
    (fun x y i_x i_y => (sO_37 hL hG i_x.1 i_y.1))
    (fun x lo hi i_x i_lo i_hi => (sO_38 hL hG i_x.1 i_lo.1 i_hi.1))
    (fun o i_o => (sO_snap hL hG i_o))
    (fun i => (sIt_39 hL hG))
    (fun a i_a => (sIt_40 hL hG i_a.1))
    (fun a i_a => (sIt_41 hL hG i_a.1))
    (fun a i_a => (sIt_42 hL hG i_a.1))
    (fun a c i_a i_c => (sIt_43 hL hG i_a.1 i_c.1))
    (fun a c i_a i_c => (sIt_44 hL hG i_a.1 i_c.1))
    (fun a i_a => (sIt_45 hL hG i_a.1))
    (fun _ => trivial)
    (fun _ _ => trivial)
    trivial
    (fun _ _ _ _ => trivial) c
theorem allIt (c : CIt) : SIt b L N CL G cm c :=
  CIt.rec (motive_1 := fun c => SE b L N CL G cm c ∧ ST b L N CL G cm c ∧ SN b L N CL G cm c) (motive_2 := fun cs => SEs b L N CL G cm cs ∧ SAnd b L N CL G cm cs ∧ SOr b L N CL G cm cs ∧ SAndT b L N CL G cm cs ∧ SOrT b L N CL G cm cs ∧ SCond b L N CL G cm cs ∧ SNs b L N CL G cm cs) (motive_3 := fun o => SO b L N CL G cm o) (motive_4 := fun it => SIt b L N CL G cm it) (motive_5 := fun _ => True) (motive_6 := fun _ => True)
    (fun i => ⟨(sE_0 hL hG), (st_gen (fun sc e m => by unfold mE at m; split at m <;> first | rfl | cases m) (sE_0 hL hG)), sN_no hL hG rfl⟩)
    (fun n => ⟨(sE_1 hL hG), (st_gen (fun sc e m => by unfold mE at m; split at m <;> first | rfl | cases m) (sE_1 hL hG)), sN_imm hL hG (fun h => ⟨rfl, h⟩) (sE_1 hL hG)⟩)
    (fun n => ⟨(sE_2 hL hG), (st_gen (fun sc e m => by unfold mE at m; split at m <;> first | rfl | cases m) (sE_2 hL hG)), sN_imm hL hG (fun h => ⟨rfl, h⟩) (sE_2 hL hG)⟩)
    ⟨(sE_3 hL hG), (st_gen (fun sc e m => by unfold mE at m; split at m <;> first | rfl | cases m) (sE_3 hL hG)), sN_imm hL hG (fun h => ⟨rfl, h⟩) (sE_3 hL hG)⟩
    (fun n => ⟨(sE_4 hL hG), (st_gen (fun sc e m => by unfold mE at m; split at m <;> first | rfl | cases m) (sE_4 hL hG)), sN_imm hL hG (fun h => ⟨rfl, h⟩) (sE_4 hL hG)⟩)
    (fun t => ⟨(sE_5 hL hG), (st_gen (fun sc e m => by unfold mE at m; split at m <;> first | rfl | cases m) (sE_5 hL hG)), sN_no hL hG rfl⟩)
    (fun c => ⟨(sE_6 hL hG), (st_gen (fun sc e m => by unfold mE at m; split at m <;> first | rfl | cases m) (sE_6 hL hG)), sN_no hL hG rfl⟩)
    (fun es i_es => ⟨(sE_7 hL hG i_es.1), (st_gen (fun sc e m => by unfold mE at m; split at m <;> first | rfl | cases m) (sE_7 hL hG i_es.1)), sN_tup hL hG i_es.2.2.2.2.2.2⟩)
    (fun o i_o => ⟨(sE_8 hL hG i_o), (st_gen (fun sc e m => by unfold mE at m; exact mO_plain m) (sE_8 hL hG i_o)), sN_no hL hG rfl⟩)
    (fun op x y i_x i_y => ⟨(sE_9 hL hG i_x.1 i_y.1), (st_gen (fun sc e m => by unfold mE at m; split at m <;> first | rfl | cases m) (sE_9 hL hG i_x.1 i_y.1)), sN_9 hL hG i_x.1 i_y.1⟩)
    (fun x i_x => ⟨(sE_10 hL hG i_x.1), (st_gen (fun sc e m => by unfold mE at m; split at m <;> first | rfl | cases m) (sE_10 hL hG i_x.1)), sN_10 hL hG i_x.1⟩)
    (fun x i_x => ⟨(sE_11 hL hG i_x.1), (sT_52 hL hG i_x.2.1), sN_no hL hG rfl⟩)
    (fun op x y i_x i_y => ⟨(sE_12 hL hG i_x.1 i_y.1), (sT_55 hL hG i_x.1 i_y.1), sN_12 hL hG i_x.1 i_y.1⟩)
    (fun o1 o2 x y z i_x i_y i_z => ⟨(sE_13 hL hG i_x.1 i_y.1 i_z.1), (sT_56 hL hG i_x.1 i_y.1 i_z.1), sN_no hL hG rfl⟩)
    (fun es i_es => ⟨(sE_14 hL hG i_es.2.1), (sT_53 hL hG i_es.2.2.2.1), sN_no hL hG rfl⟩)
    (fun es i_es => ⟨(sE_15 hL hG i_es.2.2.1), (sT_54 hL hG i_es.2.2.2.2.1), sN_no hL hG rfl⟩)
    (fun c x y i_c i_x i_y => ⟨(sE_16 hL hG i_c.2.1 i_x.1 i_y.1), (sT_57 hL hG i_c.2.1 i_x.2.1 i_y.2.1), sN_no hL hG rfl⟩)
    (fun i es i_es => ⟨(sE_17 hL hG i_es.1), (st_gen (fun sc e m => by unfold mE at m; split at m <;> first | rfl | cases m) (sE_17 hL hG i_es.1)), sN_17 hL hG i_es.1⟩)
    (fun i a es i_a i_es => ⟨(sE_18 hL hG i_a.1 i_es.1), (st_gen (fun sc e m => by unfold mE at m; split at m <;> first | rfl | cases m) (sE_18 hL hG i_a.1 i_es.1)), sN_18 hL hG i_a.1 i_es.1⟩)
    (fun t es i_es => ⟨(sE_19 hL hG i_es.1), (st_gen (fun sc e m => by unfold mE at m; split at m <;> first | rfl | cases m) (sE_19 hL hG i_es.1)), sN_19 hL hG i_es.1⟩)
    (fun c j a i_a => ⟨(sE_20 hL hG i_a.1), (st_gen (fun sc e m => by unfold mE at m; split at m <;> first | rfl | cases m) (sE_20 hL hG i_a.1)), sN_no hL hG rfl⟩)
    (fun x y i_x i_y => ⟨(sE_21 hL hG i_x.1 i_y.1), (st_gen (fun sc e m => by unfold mE at m; split at m <;> first | rfl | cases m) (sE_21 hL hG i_x.1 i_y.1)), sN_no hL hG rfl⟩)
    (fun i y i_y => ⟨(sE_22 hL hG i_y.1), (st_gen (fun sc e m => by unfold mE at m; split at m <;> first | rfl | cases m) (sE_22 hL hG i_y.1)), sN_no hL hG rfl⟩)
    (fun i => ⟨(sE_23 hL hG), (st_gen (fun sc e m => by unfold mE at m; split at m <;> first | rfl | cases m) (sE_23 hL hG)), sN_no hL hG rfl⟩)
    (fun x i_x => ⟨(sE_snap hL hG i_x.1), (sT_snap hL hG i_x.2.1), sN_snap hL hG i_x.1⟩)
    (fun x i_x => ⟨(sE_snapF hL hG i_x.2.2), (sT_snapF hL hG i_x.2.1), sN_snapF hL hG i_x.2.2⟩)
    (fun i c => ⟨(sE_isX hL hG), (st_gen (fun sc e m => by unfold mE at m; split at m <;> first | rfl | cases m) (sE_isX hL hG)), sN_imm hL hG (isX_imm) (sE_isX hL hG)⟩)
    (fun i es i_es => ⟨(sE_sta hL hG i_es.1), (st_gen (fun sc e m => by unfold mE at m; split at m <;> first | rfl | cases m) (sE_sta hL hG i_es.1)), sN_sta hL hG i_es.1⟩)
    (fun i es i_es => ⟨(sE_ext hL hG i_es.1), (st_gen ext_plain (sE_ext hL hG i_es.1)), sN_ext hL hG i_es.1⟩)
    ⟨(sEs_24 hL hG), (sAnd_26 hL hG), (sOr_29 hL hG), (sAndT_46 hL hG), (sOrT_49 hL hG), (condW_58 hL hG), (sNs_nil hL hG)⟩
    (fun c cs i_c i_cs => ⟨(sEs_25 hL hG i_c.1 i_cs.1), (match cs, i_cs with | .nil, _ => sAnd_27 hL hG i_c.1 | .cons c2 cs, i_cs => sAnd_28 hL hG i_c.1 i_cs.2.1), (match cs, i_cs with | .nil, _ => sOr_30 hL hG i_c.1 | .cons c2 cs, i_cs => sOr_31 hL hG i_c.1 i_cs.2.2.1), (match cs, i_cs with | .nil, _ => sAndT_47 hL hG i_c.2.1 | .cons c2 cs, i_cs => sAndT_48 hL hG i_c.2.1 i_cs.2.2.2.1), (match cs, i_cs with | .nil, _ => sOrT_50 hL hG i_c.2.1 | .cons c2 cs, i_cs => sOrT_51 hL hG i_c.2.1 i_cs.2.2.2.2.1), (match cs, i_cs with | .nil, _ => condW_59 hL hG i_c.2.1 | .cons c2 cs, i_cs => condW_60 hL hG), (sNs_cons hL hG i_c.2.2 i_cs.2.2.2.2.2.2)⟩)
    (fun es i_es => (sO_32 hL hG i_es.1))
    (fun t it cs el own i_t i_it i_cs i_el => (sO_33 hL hG i_it i_cs.2.2.2.2.2.1 i_el.1))
    (fun a i_a => (sO_34 hL hG i_a.1))
    (fun a i_a => (sO_35 hL hG i_a.1))
    (fun x y i_x i_y => (sO_36 hL hG i_x.1 i_y.1))
    (fun x y i_x i_y => (sO_37 hL hG i_x.1 i_y.1))
    (fun x lo hi i_x i_lo i_hi => (sO_38 hL hG i_x.1 i_lo.1 i_hi.1))
    (fun o i_o => (sO_snap hL hG i_o))
    (fun i => (sIt_39 hL hG))
    (fun a i_a => (sIt_40 hL hG i_a.1))
    (fun a i_a => (sIt_41 hL hG i_a.1))
    (fun a i_a => (sIt_42 hL hG i_a.1))
    (fun a c i_a i_c => (sIt_43 hL hG i_a.1 i_c.1))
    (fun a c i_a i_c => (sIt_44 hL hG i_a.1 i_c.1))
    (fun a i_a => (sIt_45 hL hG i_a.1))
    (fun _ => trivial)
    (fun _ _ => trivial)
    trivial
    (fun _ _ _ _ => trivial) c
end
end Pu

/-! PI: statements are sound. -/
namespace Pu
open PySem PySem.Spec PyProof.Rows L2 Ni
section
variable {k : Kx} {F F' H H' H0 : Hp} {mu : List Addr} {ex ex' : Option (Addr × Exc)} {ρ : Env} {σ : L2.St} {os : List Addr}
theorem Slots.noX (h : Slots k F H H0 mu ex ρ σ os) : Slots k F H H0 mu ex' (noX ρ) σ os := by
  induction h with
  | nil => exact .nil
  | free _ ih => exact .free ih
  | val h1 _ ih => exact .val h1 ih
  | exc h1 _ ih => exact .free ih
  | ali _ ih => exact .ali ih
  | own h1 h2 h3 _ ih => exact .own h1 h2 h3 ih
  | obj h1 h2 h3 h4 h5 h6 _ ih => exact .obj h1 h2 h3 h4 h5 h6 ih
theorem Slots.anyX (h : Slots k F H H0 mu ex ρ σ os) (e : ex = none) : Slots k F H H0 mu ex' ρ σ os := by
  induction h with
  | nil => exact .nil
  | free _ ih => exact .free ih
  | val h1 _ ih => exact .val h1 ih
  | exc h1 _ ih => rw [e] at h1; cases h1
  | ali _ ih => exact .ali ih
  | own h1 h2 h3 _ ih => exact .own h1 h2 h3 ih
  | obj h1 h2 h3 h4 h5 h6 _ ih => exact .obj h1 h2 h3 h4 h5 h6 ih
end
section
variable {X : Cx} {ct : Ct} {F F1 H H1 : Hp} {ρ : Env} {σ : L2.St}
theorem Stt.len0 (S : Stt X ct F ρ σ H) : ρ.length = σ.length := S.len
theorem Stt.noX (S : Stt X ct F ρ σ H) (ex' : Option (Addr × Exc)) : Stt X { ct with ex := ex' } F (noX ρ) σ H := let ⟨os, h, nd, hf⟩ := S.slots; ⟨S.sub, S.gr, S.gua, S.p0, S.p1, S.m0, os, h.noX, nd, hf⟩
theorem Stt.anyX (S : Stt X ct F ρ σ H) (e : ct.ex = none) (ex' : Option (Addr × Exc)) : Stt X { ct with ex := ex' } F ρ σ H := let ⟨os, h, nd, hf⟩ := S.slots; ⟨S.sub, S.gr, S.gua, S.p0, S.p1, S.m0, os, h.anyX e, nd, hf⟩
/-- one's own list is taken out of its slot -/
theorem Stt.takeO (S : Stt X ct F ρ σ H) {i : Nat} {xs : List PV} (e : ρ[i]? = some (some (.own xs))) : ∃ p vs, σ[i]? = some (some (.ref p)) ∧ Stt X ct F (ρ.set i none) σ H ∧ Own X ct F (ρ.set i none) σ H p vs ∧ Reps ⟨X.K, ct.pl⟩ F xs vs := by
  obtain ⟨os, hs, nd, hf⟩ := S.slots
  obtain ⟨v, q1, q2, q3, e1, rfl, h1, h2⟩ := hs.split e
  cases h1 with
  | own a b c h1 =>
    cases h1
    rename_i vs p
    have hz := h2 (F' := F) (H' := H) (o' := none) (v' := some (.ref p)) (q' := []) (fun _ _ z => z) (fun _ _ => rfl) (.free .nil)
    have hsl : σ.set i (some (V.ref p)) = σ := by
      apply List.ext_getElem?
      intro j
      rw [List.getElem?_set]
      by_cases e : i = j
      · subst e
        obtain ⟨l1, l2⟩ := List.getElem?_eq_some_iff.mp e1
        simp [l1, l2]
      · rw [if_neg e]
    rw [hsl] at hz
    rw [List.nodup_append] at nd
    obtain ⟨n1, n2, n3⟩ := nd
    rw [List.nodup_append] at n2
    obtain ⟨m1, m2, m3⟩ := n2
    have np : p ∉ q1 ++ ([] ++ q3) := fun z => by
      rcases List.mem_append.mp z with z | z
      · exact n3 p z p (List.mem_append_left _ (.head _)) rfl
      · exact m3 p (.head _) p (by simpa using z) rfl
    refine ⟨p, vs, e1, ⟨S.sub, S.gr, S.gua, S.p0, S.p1, S.m0, _, hz, ?_, fun a m => hf a ?_⟩, ⟨a, hf p (by simp), c, fun F' os2 h3 => ?_, fun P s e z => ?_⟩, b⟩
    · rw [List.nil_append, List.nodup_append]
      exact ⟨n1, m2, fun a ha b hb => n3 a ha b (List.mem_append_right _ hb)⟩
    · rcases List.mem_append.mp m with m | m
      · exact List.mem_append_left _ m
      · exact List.mem_append_right _ (List.mem_append_right _ (by simpa using m))
    · rw [h3.uniq hz]; exact np
    · exact (S.p1 P s e).1 (z ▸ c)
theorem ifB_f2 {b : Bool} {A : Prop} (h : ifB b False A) : b = false ∧ A := by
  cases b
  · exact ⟨rfl, h⟩
  · exact h.elim
/-- an instance of one's own is frozen -/
theorem Stt.frzObj (S : Stt X ct F ρ σ H) {i : Nat} {m : Md} {c : Cl} {fs : List FV} (e : ρ[i]? = some (some (.obj m c fs))) (hm : m.lentB = false) : ∃ p F', σ[i]? = some (some (.ref p)) ∧ Stt X ct F' (ρ.set i (some (.val (.obj c (fs.map FV.pv))))) σ H ∧ Same F F' ∧ Rep ⟨X.K, ct.pl⟩ F' (.obj c (fs.map FV.pv)) (.ref p) := by
  classical
  obtain ⟨os, hs, nd, hf⟩ := S.slots
  obtain ⟨v, q1, q2, q3, e1, rfl, h1, h2⟩ := hs.split e
  cases h1 with
  | @obj _ _ _ qs _ _ _ vs p dx a b c1 d w h h1 =>
    cases h1
    rw [List.append_nil] at *
    have hF : ∀ a ∈ p :: qs, F a = none := fun a m => hf a (List.mem_append_right _ (List.mem_append_left _ m))
    let FS : Hp := fun a => if a ∈ p :: qs then H a else F a
    have sm : Same F FS := fun a o e => by
      have n : a ∉ p :: qs := fun m => by rw [hF a m] at e; cases e
      exact (if_neg n).trans e
    have at1 : ∀ a ∈ p :: qs, FS a = H a := fun a m => if_pos m
    have rp : Rep ⟨X.K, ct.pl⟩ FS (.obj c (fs.map FV.pv)) (.ref p) := ⟨p, dx, vs, rfl, (at1 p (.head _)).trans a, ⟨by rw [List.length_map]; exact c1, d⟩, b.reps sm fun q m => at1 q (.tail _ m)⟩
    have hz := h2 (F' := FS) (H' := H) (o' := some (.val (.obj c (fs.map FV.pv)))) (v' := some (.ref p)) (q' := []) sm (fun _ _ => rfl) (.val rp .nil)
    have hsl : σ.set i (some (V.ref p)) = σ := by
      apply List.ext_getElem?
      intro j
      rw [List.getElem?_set]
      by_cases e : i = j
      · subst e
        obtain ⟨l1, l2⟩ := List.getElem?_eq_some_iff.mp e1
        simp [l1, l2]
      · rw [if_neg e]
    rw [hsl] at hz
    rw [List.nodup_append] at nd
    obtain ⟨n1, n2, n3⟩ := nd
    rw [List.nodup_append] at n2
    obtain ⟨m1, m2, m3⟩ := n2
    refine ⟨p, FS, e1, ⟨fun a o e => ?_, ⟨Same.trans' S.gr.s sm, fun a o e => ?_⟩, S.gua, fun P s e => ?_, S.p1, S.m0, _, hz, ?_, fun a m => ?_⟩, sm, rp⟩
    · by_cases m : a ∈ p :: qs
      · exact (if_pos m).symm.trans e
      · exact S.sub a o ((if_neg m).symm.trans e)
    · by_cases m : a ∈ p :: qs
      · exact .inr (.inl ((w a m).own hm))
      · exact S.gr.n a o ((if_neg m).symm.trans e)
    · obtain ⟨h1, h2, h3⟩ := S.p0 P s e
      refine ⟨?_, h2, h3⟩
      have n : P ∉ p :: qs := fun m => h2 ((w P m).own hm)
      exact (if_neg n).trans h1
    · rw [List.nil_append, List.nodup_append]
      exact ⟨n1, m2, fun a ha b hb => n3 a ha b (List.mem_append_right _ hb)⟩
    · have n : a ∉ p :: qs := fun y => by
        rcases List.mem_append.mp m with m | m
        · exact n3 a m a (List.mem_append_left _ y) rfl
        · exact m3 a y a (by simpa using m) rfl
      refine (if_neg n).trans (hf a ?_)
      rcases List.mem_append.mp m with m | m
      · exact List.mem_append_left _ m
      · exact List.mem_append_right _ (List.mem_append_right _ (by simpa using m))
/-- a slot is filled with something held by no slot -/
theorem Stt.putS (S : Stt X ct F ρ σ H) {sv : SV} {p : Addr} {qs : List Addr} (h1 : Slot1 ⟨X.K, ct.pl⟩ F H ct.H0 ct.mu ct.ex (some sv) (some (.ref p)) qs) (nd : qs.Nodup) (hf : ∀ a ∈ qs, F a = none) (ho : ∀ F' os, Slots ⟨X.K, ct.pl⟩ F' H ct.H0 ct.mu ct.ex ρ σ os → ∀ a ∈ qs, a ∉ os) (i : Nat) (hi : i < ρ.length) :
    Stt X ct F (ρ.set i (some sv)) (σ.set i (some (.ref p))) H := by
  obtain ⟨os, hs, nd0, hf0⟩ := S.slots
  obtain ⟨o, eo⟩ : ∃ o, ρ[i]? = some o := ⟨_, List.getElem?_eq_getElem hi⟩
  have hno := ho _ _ hs
  obtain ⟨v, q1, q2, q3, e1, rfl, h2, h3⟩ := hs.split eo
  have hz := h3 (F' := F) (H' := H) (fun _ _ z => z) (fun _ _ => rfl) h1
  rw [List.nodup_append] at nd0
  obtain ⟨n1, n2, n3⟩ := nd0
  rw [List.nodup_append] at n2
  obtain ⟨m1, m2, m3⟩ := n2
  refine ⟨S.sub, S.gr, S.gua, S.p0, S.p1, S.m0, _, hz, ?_, fun a m => ?_⟩
  · rw [List.nodup_append]
    refine ⟨n1, ?_, fun a ha b hb => ?_⟩
    · rw [List.nodup_append]
      exact ⟨nd, m2, fun a ha b hb z => hno a ha (z ▸ List.mem_append_right _ (List.mem_append_right _ hb))⟩
    · rcases List.mem_append.mp hb with hb | hb
      · exact fun z => hno b hb (z ▸ List.mem_append_left _ ha)
      · exact n3 a ha b (List.mem_append_right _ hb)
  · rcases List.mem_append.mp m with m | m
    · exact hf0 a (List.mem_append_left _ m)
    · rcases List.mem_append.mp m with m | m
      · exact hf a m
      · exact hf0 a (List.mem_append_right _ (List.mem_append_right _ m))
theorem Stt.putO (S : Stt X ct F ρ σ H) {p : Addr} {xs : List PV} {vs : List V} (o : Own X ct F ρ σ H p vs) (r : Reps ⟨X.K, ct.pl⟩ F xs vs) (i : Nat) (hi : i < ρ.length) : Stt X ct F (ρ.set i (some (.own xs))) (σ.set i (some (.ref p))) H :=
  S.putS (qs := [p]) (.own o.at_ r o.h .nil) (by simp) (fun a m => by simp at m; subst m; exact o.f) (fun F' os h a m => by simp at m; subst m; exact o.os F' os h) i hi
theorem set_self {α : Type} {l : List α} {i : Nat} {v : α} (h : l[i]? = some v) : l.set i v = l := by
  apply List.ext_getElem?
  intro j
  rw [List.getElem?_set]
  by_cases e : i = j
  · subst e
    obtain ⟨l1, l2⟩ := List.getElem?_eq_some_iff.mp h
    simp [l1, l2]
  · rw [if_neg e]
end

theorem Ws.imp {X : Cx} {s : Stmt} {D D' : Ends} {σ : L2.St} {H : Hp} (k : ∀ σ H, D.nx σ H → D'.nx σ H) (k2 : ∀ v H, D.rt v H → D'.rt v H) (k3 : ∀ σ H, D.bk σ H → D'.bk σ H) (k4 : ∀ σ H, D.ct σ H → D'.ct σ H) (h : Ws X s D σ H) : Ws X s D' σ H := fun pins st I => thn (h pins st I) fun _ _ q => SP.imp k k2 k3 k4 q
def lift (fr : Bool) (X : Cx) (ct : Ct) (F : Hp) (D : PEnds) : Ends where
  nx := fun σ' H' => ∃ ρ' F', Stt X ct F' ρ' σ' H' ∧ Same F F' ∧ D.nx ρ'
  rt := fun v H' => (∃ x F' ρ' σ', Stt X ct F' ρ' σ' H' ∧ Rep ⟨X.K, ct.pl⟩ F' x v ∧ (fr = true → NewR ⟨X.K, ct.pl⟩ F' ct.H0 x v) ∧ D.rt x ρ') ∨ ∃ p F' ρ' σ', ct.mu.head? = some p ∧ v = .ref p ∧ Stt X ct F' ρ' σ' H' ∧ D.rs ρ'
  bk := fun σ' H' => ∃ ρ' F', Stt X ct F' ρ' σ' H' ∧ Same F F' ∧ D.bk ρ'
  ct := fun σ' H' => ∃ ρ' F', Stt X ct F' ρ' σ' H' ∧ Same F F' ∧ D.ct ρ'
def Xok (X : Cx) (ct : Ct) (F : Hp) (E : Exc → Env → Prop) : Prop := ∀ e ρ' F' σ' H' d, Stt X ct F' ρ' σ' H' → Same F F' → XData X ct F' H' e d → E e ρ' → XW X (.ref (He.ga X.K e.c.nm)) d σ' H'
theorem Xok.eok {X : Cx} {ct : Ct} {F : Hp} {E : Exc → Env → Prop} (h : Xok X ct F E) (ρ : Env) (σ : L2.St) : Eok X ct F ρ σ (fun e => E e ρ) := fun e d F' H' S s x q => h e ρ F' σ H' d S s x q
theorem Xok.up {X : Cx} {ct : Ct} {F F1 : Hp} {E : Exc → Env → Prop} (h : Xok X ct F E) (s : Same F F1) : Xok X ct F1 E := fun e ρ F' σ H' d S s' x q => h e ρ F' σ H' d S (Same.trans' s s') x q
section
variable (b : B6) (L : Lang) (N : List Str) (CL : List Cl) (G : List GK) (XL : List Cl) (fr : Bool)
def SS (s : CS) : Prop := ∀ {ct : Ct} {cm : Bool} {X : Cx} {all : Bool} {sc : Scope} {st : Stmt}, b6 X = b → Cok X N cm all sc ct.ex → (cm = true → Env1 X) → mS N G CL XL (L.M.map (·.1)) cm all sc s st = true → (fr = true → retsF L s = true) → ∀ {F : Hp} {ρ : Env} {σ : L2.St} {H : Hp} {D : PEnds}, Stt X ct F ρ σ H → Xok X ct F D.ex → denS L s ρ D → Ws X st (lift fr X ct F D) σ H
def SB (cs : CSs) : Prop := ∀ {ct : Ct} {cm : Bool} {X : Cx} {all : Bool} {sc : Scope} {body : List Stmt}, b6 X = b → Cok X N cm all sc ct.ex → (cm = true → Env1 X) → mB N G CL XL (L.M.map (·.1)) cm all sc cs body = true → (fr = true → retsB L cs = true) → ∀ {F : Hp} {ρ : Env} {σ : L2.St} {H : Hp} {D : PEnds}, Stt X ct F ρ σ H → Xok X ct F D.ex → denB L cs ρ D → Wb X body (lift fr X ct F D) σ H
end
theorem Wb.up {fr : Bool} {X : Cx} {ct : Ct} {F F1 : Hp} {D : PEnds} {body : List Stmt} {σ : L2.St} {H : Hp} (s : Same F F1) (h : Wb X body (lift fr X ct F1 D) σ H) : Wb X body (lift fr X ct F D) σ H := by
  refine Wb.imp (D := lift fr X ct F1 D) ?_ ?_ ?_ ?_ h
  · rintro σ' H' ⟨ρ, F', S, s', q⟩
    exact ⟨ρ, F', S, Same.trans' s s', q⟩
  · exact fun _ _ q => q
  · rintro σ' H' ⟨ρ, F', S, s', q⟩
    exact ⟨ρ, F', S, Same.trans' s s', q⟩
  · rintro σ' H' ⟨ρ, F', S, s', q⟩
    exact ⟨ρ, F', S, Same.trans' s s', q⟩
theorem sws_no {e : Expr} {o : Option Expr} {l : Nat} {env : PySem.Env} (h : noComp e = true) : swapsWith e o l env = pure false := by
  cases e <;> first | rfl | cases h
theorem sole_no {t e : Expr} {l : Nat} {env : PySem.Env} (h : noComp e = true) : swapsWithSole [t] e l env = pure false := by
  show swapsWith e (some t) l env = _
  exact sws_no h
theorem stores_no {t e : Expr} {env : PySem.Env} (h : (noTup t || noTup e) = true) (hl : ∀ es p, t ≠ .List es p) : swappedStores [t] e env = pure none := by
  cases t with
  | Tuple es k p => cases e <;> first | rfl | cases h
  | List es p => exact absurd rfl (hl es p)
  | _ => cases e <;> rfl
theorem stores_fold {ts vs : List Expr} {k k2 : Nat} {p p2 : Pos} {env : PySem.Env} (h : vs.all (foldedForSure 8) = true) : swappedStores [.Tuple ts k p] (.Tuple vs k2 p2) env = pure none := by
  unfold swappedStores
  simp only [h, if_true]
  repeat' split
  all_goals rfl
theorem stores_no2 {t e : Expr} {env : PySem.Env} (h : (noTup t || noTup e || fldT e) = true) (hl : ∀ es p, t ≠ .List es p) : swappedStores [t] e env = pure none := by
  by_cases z : (noTup t || noTup e) = true
  · exact stores_no z hl
  · cases t with
    | Tuple ts k p =>
      cases e with
      | Tuple vs k2 p2 => exact stores_fold (show vs.all (foldedForSure 8) = true from h)
      | _ => exact absurd rfl z
    | _ => exact absurd rfl z
theorem sub_plain {o i : Expr} {pos : Pos} {env : PySem.Env} (h : noSlice i = true) (v : Value) : assign (.Subscript o i pos) env v = (do
      let ov ← holding [v] (eval o env)
      let iv ← holding [v, ov] (eval i env)
      standAt pos
      holding [v, ov, iv] (setItem ov iv v)
      release [v, ov, iv] []) := by
  cases i <;> first | rfl | cases h
theorem setP_ok {xs : List PV} {n : Int} {x : PV} {Q : List PV → Prop} (h : setP xs n x Q) : ∃ j : Nat, n = (j : Int) ∧ j < xs.length ∧ Q (put x xs j) := by
  cases n with
  | ofNat k =>
    obtain ⟨l, q⟩ := ifB_f h
    exact ⟨k, rfl, Nat.blt_eq.mp l, q⟩
  | negSucc k => exact h.elim
theorem ws_augW {X : Cx} {i : Nat} {x : Str} {e : Expr} {op : Operator} {pos pos' : Pos} {D : Ends} {σ : L2.St} {H : Hp} (hN : X.N.Nodup) (hi : X.N[i]? = some x) (hx : L2.Loc X.env.scope x) (hf : X.fn x = true ∨ X.env.scope.names.lookup x = some .local)
    (h : ∃ v, σ[i]? = some (some v) ∧ We X e σ H fun y H1 => Wo X (inplaceOp op) v y σ H1 fun z H2 => D.nx (σ.set i (some z)) H2) : Ws X (.AugAssign (.Name x pos') op e pos) D σ H := by
  intro pins s I
  obtain ⟨v, e1, h⟩ := h
  obtain ⟨m, hn, hl⟩ := I.loc
  have vis : Vis X.env.scope x := hx.elim .inl fun k => .inr (.inl k)
  obtain ⟨u, r, l⟩ := hl i x v hi e1 vis
  refine wpAny_AugAssign_Name ?_
  have go : wpAny (model X.prog X.w) X.A (eval e X.env) (fun w s₂ => wpAny (model X.prog X.w) X.A (inplaceOp op u w) (fun r s₃ => wpAny (model X.prog X.w) X.A (storeName X.env x r) (fun _ => SP X pins D .next) X.xe s₃) X.xe s₂) X.xe s := by
    refine thn (h pins s I) fun w s1 ⟨y, H1, I1, r1, q1⟩ => thn (q1 pins s1 u w I1 r r1) fun z s2 ⟨zv, H2, I2, r2, q2⟩ => ?_
    exact store_ok I2 hN hi hx r2 (fun s3 I3 => ⟨_, H2, I3, q2⟩) hf
  rcases l with ⟨hk, hm⟩ | ⟨hk, c, hc, hcell⟩
  · exact wpAny_loadName_local I.ok.kind hk hn hm go
  · rcases hk with hk | hk
    · exact wpAny_loadName_cell I.ok.kind hk hc hcell go
    · have k2 : X.env.scope.names.lookup x = some .free := hk
      rcases hx with k | k <;> (rw [k] at k2; cases k2)
theorem par_stores {env : PySem.Env} {x y : Str} {px py pt pt2 : Pos} {kt k2 : Nat} {u v : Expr} (hx : env.scope.names.lookup x = some .local) (hy : env.scope.names.lookup y = some .local) (hk : env.scope.kind = .function) (ne : x ≠ y) (hl : px.line = py.line) (su : noStar u = true) (sv : noStar v = true)
    (f1 : ([u, v].all (foldedForSure 8)) = false) (f2 : ([u, v].all (constantsAlone 8)) = false) : swappedStores [.Tuple [.Name x px, .Name y py] kt pt] (.Tuple [u, v] k2 pt2) env = pure (some [x, y]) := by
  have hb : env.blockKind = .function := by unfold Env.blockKind; rw [hk]; rfl
  have kx : env.kindOf x = some .local := hx
  have ky : env.kindOf y = some .local := hy
  have ex : ([x, y] : List Str).eraseDups = [x, y] := by
    simp [List.eraseDups_cons, Ne.symm ne]
  have ps : (Expr.Name x px).pos = px := rfl
  unfold swappedStores
  simp only [hb, kx, ky, hl, ps, f1, f2, List.filterMap_cons, List.filterMap_nil, List.length_cons, List.length_nil, List.head?_cons, Option.map_some, Option.getD_some, beq_self_eq_true, Bool.and_true, if_true, ex]
  refine (if_neg (by decide)).trans ((if_neg ?_).trans rfl)
  cases u <;> cases v <;> first | exact Bool.false_ne_true | exact absurd (show false = true from su) Bool.false_ne_true | exact absurd (show false = true from sv) Bool.false_ne_true
theorem thawFs_ok {k : Kx} {Fn F2 H H0 : Hp} (hi : ∀ a o, Fn a = some o → ImmO o → F2 a = some o) (hs : Same Fn H) : ∀ {xs : List PV} {u : Bool} {vs : List V} {fs : List FV}, thawFs u xs = some fs → Reps k Fn xs vs →
    ∃ qs, FVs k F2 H H0 fs vs qs ∧ fs.length = xs.length ∧ (u = true → qs = []) ∧ qs.Nodup ∧ ∀ q ∈ qs, ∃ ws, Fn q = some (.lst ws)
  | [], u, vs, fs, h, r => by
    cases r
    unfold thawFs at h
    cases h
    exact ⟨[], .nil, rfl, fun _ => rfl, .nil, nofun⟩
  | x :: xs, u, vs, fs, h, r => by
    obtain ⟨v, ws, rfl, r1, r2⟩ := r
    by_cases hl : ∃ ys, x = .lst ys
    · obtain ⟨ys, rfl⟩ := hl
      unfold thawFs at h
      cases u with
      | true => cases h
      | false =>
        cases im : immPs ys with
        | false => rw [im] at h; cases h
        | true =>
          rw [im] at h
          cases ht : thawFs true xs with
          | none => rw [ht] at h; cases h
          | some gs =>
            rw [ht] at h
            cases h
            obtain ⟨qs, f1, f2, f3, _, _⟩ := thawFs_ok (H0 := H0) hi hs ht r2
            have f3 := f3 rfl
            subst f3
            unfold Rep at r1
            obtain ⟨q, us, rfl, e, r1⟩ := r1
            exact ⟨[q], .ow (hs _ _ e) (r1.imm hi im) f1, by simp [f2], nofun, by simp, fun q' m => by
              simp at m
              subst m
              exact ⟨us, e⟩⟩
    · have h : (match immP x with
        | true => (match thawFs u xs with
          | some fs => some (FV.fr x :: fs)
          | none => none)
        | false => none) = some fs := by
        rw [← h]
        cases x <;> first | rfl | exact absurd ⟨_, rfl⟩ hl
      cases im : immP x with
      | false => rw [im] at h; cases h
      | true =>
        rw [im] at h
        cases ht : thawFs u xs with
        | none => rw [ht] at h; cases h
        | some gs =>
          rw [ht] at h
          cases h
          obtain ⟨qs, f1, f2, f3, f4, f5⟩ := thawFs_ok (H0 := H0) hi hs ht r2
          exact ⟨qs, .fr (r1.imm hi im) f1, by simp [f2], f3, f4, f5⟩
/-- a new value is taken as one's own -/
theorem Stt.thawT {ct : Ct} {X : Cx} {F F1 H H1 : Hp} {ρ : Env} {σ : L2.St} (S : Stt X ct F ρ σ H) (S1 : Stt X ct F1 ρ σ H1) (f : Fwd ct.pl F H F1 H1) {x : PV} {v : V} (n : NewR ⟨X.K, ct.pl⟩ F1 H x v) {sv : SV} (t : thaw x = some sv) (i : Nat) (hi : i < ρ.length) :
    ∃ F2, Stt X ct F2 (ρ.set i (some sv)) (σ.set i (some v)) H1 ∧ Same F F2 := by
  obtain ⟨Fn, n1, n2, r⟩ := n
  obtain ⟨Fi, hF⟩ := imm_part F1
  have i1 : Same Fi F1 := fun a o e => ((hF a o).mp e).1
  have sm : Same F (unionH Fi F) := unionH_r i1 f.s
  have gr : Grow F H (unionH Fi F) := ⟨sm, fun a o e => by
    rcases unionH_or e with y | y
    · exact f.gr.n a o (i1 a o y)
    · exact .inl y⟩
  have S2 : Stt X ct (unionH Fi F) ρ σ H1 := S.called f.gu gr fun a o e => by
    rcases unionH_or e with y | y
    · exact S1.sub a o (i1 a o y)
    · exact S1.sub a o (f.s a o y)
  have hI : ∀ a o, Fn a = some o → ImmO o → unionH Fi F a = some o := fun a o e z => unionH_l a o ((hF a o).mpr ⟨n1 a o e, z⟩)
  have hS : Same Fn H1 := fun a o e => S1.sub a o (n1 a o e)
  -- a new place that may change
  have nw : ∀ a o, Fn a = some o → ¬ ImmO o → H a = none := fun a o e z => (n2 a o e).resolve_right z
  have f2 : ∀ a o, Fn a = some o → ¬ ImmO o → unionH Fi F a = none := fun a o e z => by
    have e1 := S.fnone (nw a o e z)
    unfold unionH
    cases y : Fi a with
    | none => exact e1
    | some o2 =>
      obtain ⟨y1, y2⟩ := (hF a o2).mp y
      rw [n1 a o e] at y1
      cases y1
      exact absurd y2 z
  have os0 : ∀ a o, Fn a = some o → ¬ ImmO o → ∀ F' os, Slots ⟨X.K, ct.pl⟩ F' H1 ct.H0 ct.mu ct.ex ρ σ os → a ∉ os := fun a o e z F' os h m => by
    obtain ⟨os1, hs1, _⟩ := S.slots
    have hk := hs1.keep (F' := F) (fun _ _ z => z) (f.gu.keepS S hs1)
    rw [h.uniq hk] at m
    obtain ⟨_, o2, e2, _⟩ := hs1.own_at a m
    rw [nw a o e z] at e2
    cases e2
  unfold thaw at t
  split at t
  · rename_i xs
    split at t
    · rename_i im
      cases t
      unfold Rep at r
      obtain ⟨p, vs, rfl, e, rs⟩ := r
      refine ⟨_, S2.putS (qs := [p]) (.own (hS _ _ e) (rs.imm hI im) (S.h0 (nw _ _ e imm_lst)) .nil) (by simp) (fun a m => ?_) (fun F' os h a m => ?_) i hi, sm⟩
      · simp at m; subst m; exact f2 _ _ e imm_lst
      · simp at m; subst m; exact os0 _ _ e imm_lst F' os h
    · cases t
  · rename_i c xs
    split at t
    · rename_i fs ht
      cases t
      unfold Rep at r
      obtain ⟨p, dx, vs, rfl, e, ⟨l, nr⟩, rs⟩ := r
      obtain ⟨qs, g1, g2, g3, g4, g5⟩ := thawFs_ok (H0 := ct.H0) hI hS ht rs
      have ni := ins_nimm (C := He.ga X.K c.nm) (dx := dx) (vs := vs) nr
      have all : ∀ a ∈ p :: qs, ∃ o, Fn a = some o ∧ ¬ ImmO o := fun a m => by
        rcases List.mem_cons.mp m with rfl | m
        · exact ⟨_, e, ni⟩
        · obtain ⟨ws, e2⟩ := g5 a m
          exact ⟨_, e2, imm_lst⟩
      have pq : p ∉ qs := fun m => by
        obtain ⟨ws, e2⟩ := g5 p m
        rw [e] at e2; cases e2
      have sl := Slots.obj (k := ⟨X.K, ct.pl⟩) (ex := ct.ex) (mu := ct.mu) (m := .own) (hS _ _ e) g1 (by rw [g2]; exact l) nr (fun a m => by
        obtain ⟨o, e2, z⟩ := all a m
        exact S.h0 (nw a o e2 z)) trivial .nil
      rw [List.append_nil] at sl
      refine ⟨_, S2.putS (qs := p :: qs) sl (List.nodup_cons.mpr ⟨pq, g4⟩) (fun a m => ?_) (fun F' os h a m => ?_) i hi, sm⟩
      · obtain ⟨o, e2, z⟩ := all a m
        exact f2 a o e2 z
      · obtain ⟨o, e2, z⟩ := all a m
        exact os0 a o e2 z F' os h
    · cases t
  · cases t
def oneH (p : Addr) (o : HO) : Hp := fun a => if a = p then some o else none
theorem oneH_at {p : Addr} {o : HO} : oneH p o p = some o := if_pos rfl
theorem oneH_of {p a : Addr} {o u : HO} (h : oneH p o a = some u) : a = p ∧ u = o := by
  unfold oneH at h
  split at h
  · rename_i e
    cases h
    exact ⟨e, rfl⟩
  · cases h
theorem FVs.frozen {k : Kx} {F F' H H0 : Hp} {fs : List FV} {vs : List V} {qs : List Addr} (h : FVs k F H H0 fs vs qs) (s : Same F' H) (r : Reps k F' (fs.map FV.pv) vs) : ∀ q ∈ qs, F' q = H q := by
  induction h with
  | nil => intro q m; cases m
  | fr _ _ ih =>
    obtain ⟨v, ws, e, _, r2⟩ := r
    cases e
    exact ih r2
  | nw _ _ ih =>
    obtain ⟨v, ws, e, _, r2⟩ := r
    cases e
    exact ih r2
  | ow h1 _ _ ih =>
    obtain ⟨v, ws, e, r1, r2⟩ := r
    cases e
    have r1 : Rep k F' (.lst _) _ := r1
    unfold Rep at r1
    obtain ⟨a, us, e3, e4, _⟩ := r1
    cases e3
    intro q m
    cases m with
    | head => rw [e4, s _ _ e4]
    | tail _ m => exact ih r2 q m
/-- fields that can be given away: new, or never changed -/
theorem FVs.newr {k : Kx} {F H H0 FS : Hp} (sF : Same F FS) : ∀ {fs : List FV} {vs : List V} {qs : List Addr}, FVs k F H H0 fs vs qs → freshFVs fs = true → (∀ q ∈ qs, FS q = H q ∧ H0 q = none) → ∃ Fn, Same Fn FS ∧ (∀ a o, Fn a = some o → H0 a = none ∨ ImmO o) ∧ Reps k Fn (fs.map FV.pv) vs := by
  intro fs vs qs h
  induction h with
  | nil => intro _ _; exact ⟨fun _ => none, nofun, nofun, .nil⟩
  | @fr fs vs os x v h1 _ ih =>
    intro hf hq
    obtain ⟨m, hf⟩ := ifT_ok hf
    obtain ⟨Fa, a1, a2, a3⟩ := (newr_imm (H0 := H0) m h1).mono sF
    obtain ⟨Fb, b1, b2, b3⟩ := ih hf hq
    refine ⟨unionH Fa Fb, fun a o e => ?_, fun a o e => ?_, .cons (a3.mono unionH_l) (b3.mono (unionH_r a1 b1))⟩
    · exact (unionH_or e).elim (a1 a o) (b1 a o)
    · exact (unionH_or e).elim (a2 a o) (b2 a o)
  | @nw fs vs os x v h1 _ ih =>
    intro hf hq
    obtain ⟨m, hf⟩ := ifT_ok hf
    obtain ⟨Fa, a1, a2, a3⟩ := h1.mono sF
    obtain ⟨Fb, b1, b2, b3⟩ := ih hf hq
    refine ⟨unionH Fa Fb, fun a o e => ?_, fun a o e => ?_, .cons (a3.mono unionH_l) (b3.mono (unionH_r a1 b1))⟩
    · exact (unionH_or e).elim (a1 a o) (b1 a o)
    · exact (unionH_or e).elim (a2 a o) (b2 a o)
  | @ow fs vs os xs ws q h1 h2 _ ih =>
    intro hf hq
    obtain ⟨m, hf⟩ := ifT_ok hf
    obtain ⟨Fb, b1, b2, b3⟩ := ih hf fun q m => hq q (.tail _ m)
    obtain ⟨Fi, hF⟩ := imm_part F
    obtain ⟨q1, q2⟩ := hq q (.head _)
    have i1 : Same Fi FS := fun a o e => sF a o ((hF a o).mp e).1
    have sq : Same (oneH q (HO.lst ws)) FS := fun a o e => by
      obtain ⟨rfl, rfl⟩ := oneH_of e
      exact q1.trans h1
    have sA : Same (unionH (oneH q (HO.lst ws)) Fi) FS := fun a o e => (unionH_or e).elim (sq a o) (i1 a o)
    have ra : Rep k (unionH (oneH q (HO.lst ws)) Fi) (.lst xs) (.ref q) := ⟨q, ws, rfl, unionH_l q _ oneH_at, (h2.imm (Fi := Fi) (fun a o e i => (hF a o).mpr ⟨e, i⟩) m).mono (unionH_r sq i1)⟩
    refine ⟨unionH (unionH (oneH q (HO.lst ws)) Fi) Fb, fun a o e => ?_, fun a o e => ?_, .cons (ra.mono unionH_l) (b3.mono (unionH_r sA b1))⟩
    · exact (unionH_or e).elim (sA a o) (b1 a o)
    · rcases unionH_or e with y | y
      · rcases unionH_or y with y | y
        · obtain ⟨rfl, _⟩ := oneH_of y
          exact .inl q2
        · exact .inr ((hF a o).mp y).2
      · exact b2 a o y
/-- what is one's own, given away -/
theorem Stt.give {ct : Ct} {X : Cx} {F H : Hp} {ρ : Env} {σ : L2.St} (S : Stt X ct F ρ σ H) {i : Nat} {Q : PV → Prop} (h : retS ρ i Q) : ∃ v x F', σ[i]? = some (some v) ∧ Stt X ct F' (ρ.set i (some (.val x))) σ H ∧ Rep ⟨X.K, ct.pl⟩ F' x v ∧ NewR ⟨X.K, ct.pl⟩ F' ct.H0 x v ∧ Q x := by
  unfold retS at h
  rw [nth_eq] at h
  split at h
  · rename_i xs e
    obtain ⟨im, q⟩ := ifB_f h
    obtain ⟨p, vs, a1, S1, o1, rs⟩ := S.takeO e
    obtain ⟨S2, s2⟩ := S1.frzAt o1
    obtain ⟨Fi, hF⟩ := imm_part F
    have i1 : Same Fi F := fun a o e => ((hF a o).mp e).1
    have fp : Fi p = none := by
      cases z : Fi p with
      | none => rfl
      | some o => have := i1 p o z; rw [o1.f] at this; cases this
    have rp : Rep ⟨X.K, ct.pl⟩ (upd Fi p (.lst vs)) (.lst xs) (.ref p) := ⟨p, vs, rfl, upd_same, (rs.imm (Fi := Fi) (fun a o e i => (hF a o).mpr ⟨e, i⟩) im).mono (same_new fp)⟩
    have sm : Same (upd Fi p (.lst vs)) (upd F p (.lst vs)) := fun a o e => by
      by_cases z : a = p
      · subst z; rw [upd_same] at e ⊢; exact e
      · rw [upd_ne z] at e ⊢; exact i1 a o e
    have S3 := S2.set (x := .lst xs) (v := .ref p) (rp.mono sm) i
    rw [List.set_set, set_self a1] at S3
    refine ⟨.ref p, .lst xs, _, a1, S3, rp.mono sm, ⟨_, sm, fun a o e => ?_, rp⟩, q⟩
    by_cases z : a = p
    · subst z; exact .inl o1.h
    · rw [upd_ne z] at e; exact .inr ((hF a o).mp e).2
  · rename_i m c fs e
    cases hm : m.lentB with
    | true => rw [hm] at h; exact h.elim
    | false =>
      rw [hm] at h
      obtain ⟨ff, q⟩ := ifB_f (show ifB (freshFVs fs) (Q (.obj c (fs.map FV.pv))) False from h)
      obtain ⟨os, hs, nd, hf⟩ := S.slots
      obtain ⟨v, q1, q2, q3, e1, rfl, h1, h2⟩ := hs.split e
      cases h1 with
      | @obj _ _ _ qs _ _ _ vs p dx a b c1 d w h' h1 =>
        obtain ⟨p', F', a1, S1, s1, r1⟩ := S.frzObj e hm
        rw [e1] at a1
        cases a1
        unfold Rep at r1
        obtain ⟨p'', dx', vs', er, e2, l2, rs2⟩ := r1
        cases er
        have eh := S1.sub _ _ e2
        rw [a] at eh
        injection eh with eh
        injection eh with _ edx ez
        have ev : vs' = vs := zip_inj (by rw [← rs2.len]; exact l2.1) (by rw [← b.len, ← rs2.len, List.length_map]) ez.symm
        subst ev
        subst edx
        -- the lists
        have hq : ∀ q ∈ qs, F' q = H q ∧ ct.H0 q = none := fun q m => by
          refine ⟨?_, (w q (.tail _ m)).own hm⟩
          exact FVs.frozen b (S1.sub) rs2 q m
        obtain ⟨Fn, n1, n2, n3⟩ := b.newr s1 ff hq
        have sp : Same (oneH p (HO.ins (He.ga X.K c.nm) dx (c.fs.zip vs'))) F' := fun a o e => by
          obtain ⟨rfl, rfl⟩ := oneH_of e
          exact e2
        refine ⟨.ref p, _, F', e1, S1, ⟨p, dx, vs', rfl, e2, l2, rs2⟩, ⟨unionH (oneH p (HO.ins (He.ga X.K c.nm) dx (c.fs.zip vs'))) Fn, fun a o e => (unionH_or e).elim (sp a o) (n1 a o), fun a o e => ?_, ⟨p, dx, vs', rfl, unionH_l p _ oneH_at, l2, n3.mono (unionH_r sp n1)⟩⟩, q⟩
        rcases unionH_or e with y | y
        · obtain ⟨rfl, _⟩ := oneH_of y
          exact .inl ((w _ (.head _)).own hm)
        · exact n2 a o y
  · exact h.elim
section
variable {b : B6} {L : Lang} {N : List Str} {CL : List Cl} {G : List GK} {XL : List Cl} {fr : Bool} (hL : LOk b L CL) (hG : G = L.G.map (·.1)) (hX : ExOk b XL)
theorem frz_ok {ct : Ct} {X : Cx} {F H : Hp} {ρ : Env} {σ : L2.St} {i : Nat} {Q : Env → Prop} (S : Stt X ct F ρ σ H) (h : frzV ρ i Q) : ∃ ρ' F', Stt X ct F' ρ' σ H ∧ Same F F' ∧ Q ρ' := by
  unfold frzV at h
  rw [nth_eq] at h
  split at h
  · rename_i xs e
    obtain ⟨p, vs, a1, S1, o1, rs⟩ := S.takeO e
    obtain ⟨S2, s2⟩ := S1.frzAt o1
    have S3 := S2.set (x := .lst xs) (v := .ref p) ⟨p, vs, rfl, upd_same, rs.mono s2⟩ i
    rw [List.set_set, set_self a1] at S3
    rw [put_eq] at h
    exact ⟨_, _, S3, s2, h⟩
  · rename_i m c fs e
    have h2 := ifB_f2 h
    obtain ⟨p, F1, a1, S1, s1, r1⟩ := S.frzObj e h2.1
    have h : Q (put (some (.val (.obj c (fs.map FV.pv)))) ρ i) := h2.2
    rw [put_eq] at h
    exact ⟨_, _, S1, s1, h⟩
  · exact h.elim
theorem getO_len {ρ : Env} {i : Nat} {x : SV} (h : ρ[i]? = some (some x)) : i < ρ.length := (List.getElem?_eq_some_iff.mp h).1
include hL hG
theorem ss_asg {t : Tgt} {e : CE} : SS b L N CL G XL fr (.asg t e) := by
  intro ct cm X all sc st hb C V m fre F ρ σ H D S hE h
  unfold mS at m
  split at m
  · simp only [Bool.and_eq_true] at m
    obtain ⟨⟨⟨⟨m1, m2⟩, m3⟩, m4⟩, m5⟩ := m
    rename_i tg v pos
    have nl : ∀ es p, tg ≠ Expr.List es p := fun es p z => by
      subst z
      cases t <;> (unfold mT at m4; split at m4 <;> first | (rename_i z; cases z) | cases m4)
    refine ws_asg (sole_no m2) (stores_no2 m3 nl) (by rw [asg_cons m1]; rfl) (We.up ((allE hL hG e).1 hb C m5 S (hE.eok ρ σ) h) ?_)
    rintro v H1 ⟨x, F1, S1, s1, r1, q1⟩
    refine Wg.imp ?_ (bT t C m4 [] S1 r1 q1)
    rintro σ' H' ⟨rfl, _, ρ', S', q'⟩
    exact ⟨ρ', F1, S', s1.s, q'⟩
  · cases m
theorem ss_own {i : Nat} {o : CO} : SS b L N CL G XL fr (.own i o) := by
  intro ct cm X all sc st hb C V m fre F ρ σ H D S hE h
  unfold mS at m
  split at m
  · simp only [Bool.and_eq_true, decide_eq_true_eq] at m
    obtain ⟨⟨⟨⟨⟨m1, m2⟩, m3⟩, m4⟩, m5⟩, m6⟩ := m
    obtain ⟨l1, l2⟩ := C.loc m2
    refine ws_asg (sole_no m4) (stores_no (by rw [m5]; simp) (fun es p z => by cases z)) rfl (We.up (allO hL hG o hb C m6 S (hE.eok ρ σ) h) ?_)
    rintro v H1 ⟨p, xs, vs, F1, rfl, S1, s1, hp, oo, r1, q1⟩
    refine wg_name (i := i) (by rw [C.n]; exact C.nd) (by rw [C.n]; exact m1) l1 l2 ?_
    obtain ⟨hi, q1⟩ := ifB_f q1
    rw [put_eq] at q1
    exact ⟨_, F1, S1.putO oo r1 i (Nat.blt_eq.mp hi), s1.s, q1⟩
  · cases m
theorem ss_ret {e : CE} : SS b L N CL G XL fr (.ret e) := by
  intro ct cm X all sc st hb C V m fre F ρ σ H D S hE h
  unfold mS at m
  split at m
  · cases fr with
    | false =>
      refine ws_ret (We.up ((allE hL hG e).1 hb C m S (hE.eok ρ σ) h) ?_)
      rintro v H1 ⟨x, F1, S1, s1, r1, q1⟩
      exact .inl ⟨x, F1, ρ, σ, S1, r1, nofun, q1⟩
    | true =>
      refine ws_ret (We.up ((allE hL hG e).2.2 (fre rfl) hb C m S (hE.eok ρ σ) h) ?_)
      rintro v H1 ⟨x, F1, S1, s1, r1, n1, q1⟩
      exact .inl ⟨x, F1, ρ, σ, S1, r1, fun _ => (n1 rfl).back fun a e => S.h0 e, q1⟩
  · cases m
theorem ss_retO {i : Nat} : SS b L N CL G XL fr (.retO i) := by
  intro ct cm X all sc st hb C V m fre F ρ σ H D S hE h
  unfold mS at m
  split at m
  · simp only [Bool.and_eq_true, decide_eq_true_eq] at m
    obtain ⟨⟨m1, m2⟩, m3⟩ := m
    obtain ⟨v, x, F', a1, S1, r1, n1, q⟩ := S.give (show retS ρ i (fun x => D.rt x (put (some (.val x)) ρ i)) from h)
    rw [put_eq] at q
    exact ws_ret (e_var C (by simp [m1, m2, m3]) a1 (.inl ⟨x, F', _, σ, S1, r1, fun _ => n1, q⟩))
  · cases m
theorem getM_ok {ρ : Env} {i : Nat} {Q : Md → Cl → List FV → Prop} (h : getM ρ i Q) : ∃ m c fs, ρ[i]? = some (some (.obj m c fs)) ∧ Q m c fs := by
  unfold getM at h
  rw [nth_eq] at h
  split at h
  · rename_i e; exact ⟨_, _, _, e, h⟩
  · exact h.elim
theorem ss_retM : SS b L N CL G XL fr .retM := by
  intro ct cm X all sc st hb C V m fre F ρ σ H D S hE h
  unfold mS at m
  split at m
  · simp only [Bool.and_eq_true, decide_eq_true_eq] at m
    obtain ⟨⟨m1, m2⟩, m3⟩ := m
    have h : getM ρ 0 fun b _ _ => ifB b.lentB (D.rs ρ) False := h
    obtain ⟨b, c, fs, e1, q⟩ := getM_ok hL hG h
    obtain ⟨hb0, q⟩ := ifB_f q
    have hb2 : b = .lent := by
      cases b <;> first | rfl | cases hb0
    subst hb2
    obtain ⟨os, hs, _, _⟩ := S.slots
    obtain ⟨v, q1, q2, q3, a1, _, h1, _⟩ := hs.split e1
    cases h1 with
    | obj a b c d w hd h1 =>
      exact ws_ret (e_var C (by simp [m1, m2, m3]) a1 (.inr ⟨_, F, ρ, σ, hd, rfl, S, q⟩))
  · cases m
theorem ss_setv {i : Nat} {k v : CE} : SS b L N CL G XL fr (.setv i k v) := by
  intro ct cm X all sc st hb C V m fre F ρ σ H D S hE h
  unfold mS at m
  split at m
  · simp only [Bool.and_eq_true, decide_eq_true_eq] at m
    obtain ⟨⟨⟨⟨⟨⟨m1, m2⟩, m3⟩, m4⟩, m5⟩, m6⟩, m7⟩ := m
    obtain ⟨x, e1, q0⟩ := getV_ok h
    refine ws_asg (sole_no m5) (by rfl) rfl (We.up ((allE hL hG v).1 hb C m7 S (hE.eok ρ σ) q0) ?_)
    rintro u H1 ⟨z, F1, S1, s1, r1, q1⟩
    obtain ⟨xv, a1, rx⟩ := S1.get e1
    refine wg_subS (sub_plain m4) (e_var C (by simp [m1, m2, m3]) a1 (We.up ((allE hL hG k).1 hb C m6 S1 ((hE.eok ρ σ).up s1) q1) ?_))
    rintro w H2 ⟨y, F2, S2, s2, r2, q2⟩
    have run := hL.opP .sti X hb ct F2 ρ σ H2 [x, y, z] [xv, w, u] (fun _ => D.nx ρ) (fun e => D.ex e ρ) S2 (.cons (rx.mono s2.s) (.cons r2 (.cons (r1.mono s2.s) .nil))) q2 (((hE.eok ρ σ).up s1).up s2)
    intro pins s ov iv uu I ra rb rc
    refine thn (run pins s ov iv uu I ra rb rc) fun _ s' ⟨H', I', x', F', S', s', _, q'⟩ => ⟨H', I', ρ, F', S', ((s1.trans s2).trans s').s, q'⟩
  · cases m
theorem ss_retI {e : CE} : SS b L N CL G XL fr (.retI e) := by
  intro ct cm X all sc st hb C V m fre F ρ σ H D S hE h
  unfold mS at m
  split at m
  · refine ws_ret (We.up ((allE hL hG e).1 hb C m S (hE.eok ρ σ) h) ?_)
    rintro v H1 ⟨x, F1, S1, s1, r1, q1⟩
    obtain ⟨im, q1⟩ := ifB_f q1
    exact .inl ⟨x, F1, ρ, σ, S1, r1, fun _ => newr_imm im r1, q1⟩
  · cases m
theorem ss_expr {e : CE} : SS b L N CL G XL fr (.expr e) := by
  intro ct cm X all sc st hb C V m fre F ρ σ H D S hE h
  unfold mS at m
  split at m
  · simp only [Bool.and_eq_true] at m
    refine ws_expr (sws_no m.1) (We.up ((allE hL hG e).1 hb C m.2 S (hE.eok ρ σ) h) ?_)
    rintro v H1 ⟨x, F1, S1, s1, r1, q1⟩
    exact ⟨ρ, F1, S1, s1.s, q1⟩
  · cases m
theorem ss_ite {c : CE} {x y : CSs} (ix : SB b L N CL G XL fr x) (iy : SB b L N CL G XL fr y) : SS b L N CL G XL fr (.ite c x y) := by
  intro ct cm X all sc st hb C V m fre F ρ σ H D S hE h
  unfold mS at m
  split at m
  · simp only [Bool.and_eq_true] at m
    refine ws_if (Wt.imp ?_ ((allE hL hG c).2.1 hb C m.1.1 S (hE.eok ρ σ) h))
    rintro k H1 ⟨F1, S1, s1, q1⟩
    exact ifB_mono q1 (fun q => Wb.up s1.s (ix hb C V m.1.2 (fun z => (ifT_ok (fre z)).1) S1 (hE.up s1.s) q)) fun q => Wb.up s1.s (iy hb C V m.2 (fun z => (ifT_ok (fre z)).2) S1 (hE.up s1.s) q)
  · cases m
theorem ss_for {t : Tgt} {it : CIt} {x : CSs} (ix : SB b L N CL G XL fr x) : SS b L N CL G XL fr (.for_ t it x) := by
  intro ct cm X all sc st hb C V m fre F ρ σ H D S hE h
  unfold mS at m
  split at m
  · simp only [Bool.and_eq_true] at m
    obtain ⟨⟨⟨⟨m1, m2⟩, m3⟩, m4⟩, m5⟩ := m
    obtain ⟨wi, hPI, hwi⟩ := allIt hL hG it hb C m4 S (hE.eok ρ σ) h
    have V1 := V m1
    refine ws_of (ps_for V1.pass V1.calm hPI Wg.pg Wb.pss (fun x => set_id m2 x)) ?_
    refine hwi _ fun J H1 F1 xs S1 s1 q1 hw => ?_
    refine for_it hw.w (fun i σ' H' => ∃ F' ρ', Stt X ct F' ρ' σ' H' ∧ Same F1 F' ∧ denFor (fun y ρ K => bindT t y ρ fun ρ => denB L x ρ { D with nx := K, ct := K, bk := D.nx }) (xs.drop i) ρ' D.nx) ⟨F1, ρ, S1, fun _ _ z => z, q1⟩ ?_ ?_ ?_
    · rintro i σ' H' hi ⟨F', ρ', S', s', q'⟩
      exact fun a o e => S'.sub _ _ (s' _ _ e)
    · rintro i v σ' Ha Hb hi ⟨F', ρ', S', s', q'⟩ ⟨y, ey, sab, yx⟩
      obtain ⟨F2, gr2, sub2, ry⟩ := yx F' s' S'.sub
      obtain ⟨S2, e2⟩ := S'.ext sab gr2 sub2
      have ed : xs.drop i = y :: xs.drop (i + 1) := by
        obtain ⟨l1, l2⟩ := List.getElem?_eq_some_iff.mp ey
        rw [List.drop_eq_getElem_cons l1, l2]
      rw [ed] at q'
      refine Wg.imp ?_ (bT t C m3 [] S2 ry q')
      rintro σ2 H2 ⟨rfl, _, ρ2, S3, q3⟩
      refine Wb.imp ?_ ?_ ?_ ?_ (ix (D := { D with nx := fun ρ => denFor (fun y ρ K => bindT t y ρ fun ρ => denB L x ρ { D with nx := K, ct := K, bk := D.nx }) (xs.drop (i + 1)) ρ D.nx, ct := fun ρ => denFor (fun y ρ K => bindT t y ρ fun ρ => denB L x ρ { D with nx := K, ct := K, bk := D.nx }) (xs.drop (i + 1)) ρ D.nx, bk := D.nx }) hb C V m5 fre S3 (hE.up (Same.trans' s1.s (Same.trans' s' e2.s))) q3)
      · rintro σ3 H3 ⟨ρ3, F3, S4, s4, q4⟩
        exact ⟨F3, ρ3, S4, Same.trans' (Same.trans' s' e2.s) s4, q4⟩
      · exact fun w H3 q => q
      · rintro σ3 H3 ⟨ρ3, F3, S4, s4, q4⟩
        exact ⟨ρ3, F3, S4, Same.trans' s1.s (Same.trans' (Same.trans' s' e2.s) s4), q4⟩
      · rintro σ3 H3 ⟨ρ3, F3, S4, s4, q4⟩
        exact ⟨F3, ρ3, S4, Same.trans' (Same.trans' s' e2.s) s4, q4⟩
    · rintro σ' H' ⟨F', ρ', S', s', q'⟩
      rw [List.drop_length] at q'
      exact ⟨ρ', F', S', Same.trans' s1.s s', q'⟩
  · cases m
theorem ss_while {c : CE} {x : CSs} (ix : SB b L N CL G XL fr x) : SS b L N CL G XL fr (.while_ c x) := by
  intro ct cm X all sc st hb C V m fre F ρ σ H D S hE h
  unfold mS at m
  split at m
  · simp only [Bool.and_eq_true] at m
    obtain ⟨⟨m1, m2⟩, m3⟩ := m
    obtain ⟨W, ⟨m0, w0⟩, hW⟩ := h
    refine ws_while (V m1) (fun n σ' H' => ∃ F' ρ', Stt X ct F' ρ' σ' H' ∧ Same F F' ∧ W n ρ') m0 ⟨F, ρ, S, fun _ _ z => z, w0⟩ ?_
    rintro n σ' H' ⟨F', ρ', S', s', w'⟩
    refine Wt.imp ?_ ((allE hL hG c).2.1 hb C m2 S' ((hE.up s').eok ρ' σ') (hW n ρ' w'))
    rintro k H1 ⟨F1, S1, s1, q1⟩
    refine ifB_mono q1 (fun q => ?_) fun q => ⟨ρ', F1, S1, Same.trans' s' s1.s, q⟩
    refine Wb.imp ?_ ?_ ?_ ?_ (ix (D := { D with nx := fun ρ => ∃ m', m' < n ∧ W m' ρ, ct := fun ρ => ∃ m', m' < n ∧ W m' ρ, bk := D.nx }) hb C V m3 fre S1 (hE.up (Same.trans' s' s1.s)) q)
    · rintro σ3 H3 ⟨ρ3, F3, S4, s4, n2, l, q4⟩
      exact ⟨n2, l, F3, ρ3, S4, Same.trans' (Same.trans' s' s1.s) s4, q4⟩
    · rintro w H3 q
      exact q
    · rintro σ3 H3 ⟨ρ3, F3, S4, s4, q4⟩
      exact ⟨ρ3, F3, S4, Same.trans' (Same.trans' s' s1.s) s4, q4⟩
    · rintro σ3 H3 ⟨ρ3, F3, S4, s4, n2, l, q4⟩
      exact ⟨n2, l, F3, ρ3, S4, Same.trans' (Same.trans' s' s1.s) s4, q4⟩
  · cases m
theorem ss_seto {i : Nat} {k v : CE} : SS b L N CL G XL fr (.seto i k v) := by
  intro ct cm X all sc st hb C V m fre F ρ σ H D S hE h
  unfold mS at m
  split at m
  · simp only [Bool.and_eq_true, decide_eq_true_eq] at m
    obtain ⟨⟨⟨⟨⟨⟨m1, m2⟩, m3⟩, m4⟩, m5⟩, m6⟩, m7⟩ := m
    obtain ⟨xs, e1, q0⟩ := getO_ok h
    refine ws_asg (sole_no m5) (by rfl) rfl (We.up ((allE hL hG v).1 hb C m7 S (hE.eok ρ σ) q0) ?_)
    rintro u H1 ⟨x, F1, S1, s1, r1, q1⟩
    obtain ⟨p, vs, a1, S1', o1, rs1⟩ := S1.takeO e1
    refine wg_sub (sub_plain m4) (e_var C (by simp [m1, m2, m3]) a1 (We.up ((allE hL hG k).1 hb C m6 S1 ((hE.eok ρ σ).up s1) q1) ?_))
    rintro w H2 ⟨y, F2, S2, s2, r2, q2⟩
    obtain ⟨n, rfl, q2'⟩ := asI_ok q2
    cases r2
    obtain ⟨p', vs', a2, S2', o2, rs2⟩ := S2.takeO e1
    rw [a1] at a2
    cases a2
    obtain ⟨j, rfl, hj, q3⟩ := setP_ok q2'
    obtain ⟨S3, o3⟩ := S2'.updAt (ws := vs'.set j u) o2
    refine st_l o2.at_ (j := j) ?_ ?_
    · unfold ixN
      rw [if_pos (by omega), if_pos (by rw [← rs2.len]; omega)]
      rfl
    · have S4 := S3.putO o3 (rs2.set (r1.mono s2.s) j) i (by rw [List.length_set]; exact getO_len e1)
      rw [List.set_set, set_self a1] at S4
      rw [put_eq, put_eq] at q3
      exact ⟨_, F2, S4, (s1.trans s2).s, q3⟩
  · cases m
theorem ss_app {i : Nat} {e : CE} : SS b L N CL G XL fr (.app i e) := by
  intro ct cm X all sc st hb C V m fre F ρ σ H D S hE h
  unfold mS at m
  split at m
  · rename_i x px mm ap y pp sp
    simp only [Bool.and_eq_true, decide_eq_true_eq] at m
    obtain ⟨⟨⟨⟨⟨⟨m1, m2⟩, m3⟩, rfl⟩, m5⟩, m6⟩, m7⟩ := m
    obtain ⟨xs, e1, q0⟩ := getO_ok h
    obtain ⟨p, vs, a1, S1', o1, rs1⟩ := S.takeO e1
    refine ws_expr (by rfl) (we_append (by rfl) ?_ m6 (star_cons m5) rfl (e_var C (by simp [m1, m2, m3]) a1 ⟨p, vs, rfl, o1.at_, We.up ((allE hL hG e).1 hb C m7 S (hE.eok ρ σ) q0) ?_⟩))
    · rw [star_cons m5]; rfl
    rintro u H1 ⟨x, F1, S1, s1, r1, sm, q1⟩
    obtain ⟨p', vs', a2, S2', o2, rs2⟩ := S1.takeO e1
    rw [a1] at a2
    cases a2
    obtain ⟨S3, o3⟩ := S2'.updAt (ws := vs' ++ [u]) o2
    refine ⟨vs', o2.at_, sizeOk' (by have : xs.length + 1 ≤ 100000 := sm; rw [← rs2.len]; omega), ?_⟩
    have S4 := S3.putO o3 (rs2.append (.cons r1 .nil)) i (by rw [List.length_set]; exact getO_len e1)
    rw [List.set_set, set_self a1] at S4
    rw [put_eq] at q1
    exact ⟨_, F1, S4, s1.s, q1⟩
  · cases m
theorem ss_raise (hX : ExOk b XL) {c : Cl} : SS b L N CL G XL fr (.raise_ c) := by
  intro ct cm X all sc st hb C V m fre F ρ σ H D S hE h
  unfold mS at m
  split at m
  · simp only [Bool.and_eq_true, decide_eq_true_eq] at m
    obtain ⟨⟨⟨m1, m2⟩, rfl⟩, m4⟩ := m
    have hX2 : ExOk (b6 X) XL := hb ▸ hX
    obtain ⟨g1, g2, g3⟩ := C.gl m4
    obtain ⟨f1, f2, f3, f4, f5⟩ := hX2 c m2
    exact ws_raiseT (V m1) PySem.F.excBase_ValueError f2 f1 f3 (raises_own f4 f5) g1 g2 (hE ⟨c, []⟩ ρ F σ H none S (fun _ _ z => z) rfl h)
  · cases m
theorem ss_pass : SS b L N CL G XL fr .pass := by
  intro ct cm X all sc st hb C V m fre F ρ σ H D S hE h
  unfold mS at m
  split at m
  · exact ws_pass ⟨ρ, F, S, fun _ _ z => z, h⟩
  · cases m
theorem ss_brk : SS b L N CL G XL fr .brk := by
  intro ct cm X all sc st hb C V m fre F ρ σ H D S hE h
  unfold mS at m
  split at m
  · exact ws_break ⟨ρ, F, S, fun _ _ z => z, h⟩
  · cases m
theorem ss_cont : SS b L N CL G XL fr .cont := by
  intro ct cm X all sc st hb C V m fre F ρ σ H D S hE h
  unfold mS at m
  split at m
  · exact ws_continue ⟨ρ, F, S, fun _ _ z => z, h⟩
  · cases m
theorem ss_doc : SS b L N CL G XL fr .doc := by
  intro ct cm X all sc st hb C V m fre F ρ σ H D S hE h
  unfold mS at m
  split at m
  · exact ws_doc ⟨ρ, F, S, fun _ _ z => z, h⟩
  · cases m
theorem ss_retN : SS b L N CL G XL fr .retN := by
  intro ct cm X all sc st hb C V m fre F ρ σ H D S hE h
  unfold mS at m
  split at m
  · exact ws_retN (.inl ⟨.non, F, ρ, σ, S, rfl, fun _ => newr_imm rfl rfl, h⟩)
  · cases m
theorem ss_aug {i : Nat} {op : Operator} {e : CE} : SS b L N CL G XL fr (.aug i op e) := by
  intro ct cm X all sc st hb C V m fre F ρ σ H D S hE h
  unfold mS at m
  split at m
  · simp only [Bool.and_eq_true, decide_eq_true_eq] at m
    obtain ⟨⟨⟨⟨rfl, m1⟩, m2⟩, m3⟩, m4⟩ := m
    obtain ⟨l1, l2⟩ := C.loc m2
    obtain ⟨x, e1, q1⟩ := getV_ok h
    obtain ⟨v, e2, r⟩ := S.get e1
    refine ws_augW (by rw [C.n]; exact C.nd) (by rw [C.n]; exact m1) l1 l2 ⟨v, e2, We.up ((allE hL hG e).1 hb C m4 S (hE.eok ρ σ) q1) ?_⟩
    rintro u H1 ⟨y, F1, S1, s1, r1, q2⟩
    refine Wo.imp ?_ (hL.opP (.ipl op) X hb ct F1 ρ σ H1 [x, y] [v, u] _ _ S1 (.cons (r.mono s1.s) (.cons r1 .nil)) q2 ((hE.eok ρ σ).up s1))
    rintro w H2 ⟨z, F2, S2, s2, r2, q3⟩
    rw [put_eq] at q3
    exact ⟨_, F2, S2.set r2 i, (s1.trans s2).s, q3⟩
  · cases m
theorem ss_par {i j : Nat} {x y : CE} : SS b L N CL G XL fr (.par i j x y) := by
  intro ct cm X all sc st hb C V m fre F ρ σ H D S hE h
  unfold mS at m
  split at m
  · simp only [Bool.and_eq_true, decide_eq_true_eq, Bool.not_eq_true'] at m
    obtain ⟨⟨⟨⟨⟨⟨⟨⟨⟨⟨⟨⟨⟨⟨⟨⟨m1, m2⟩, m3⟩, m4⟩, m5⟩, m6⟩, m7⟩, m8⟩, m9⟩, m10⟩, m11⟩, m12⟩, m13⟩, m14⟩, m15⟩, m16⟩, m17⟩ := m
    rename_i nx px ny py kt pt u v k2 pt2 pos
    have hsc := C.sc
    refine ws_of (ps_par (ta := Wa X [u, v]) (C.cm m1) (by rw [C.n]; exact C.nd) (by rw [C.n]; exact m2) (by rw [C.n]; exact m3) m4 (by rw [hsc]; exact m6) (by rw [hsc]; exact m7) Wa.pa ?_ rfl) ?_
    · exact par_stores (by rw [hsc]; exact m6) (by rw [hsc]; exact m7) (by rw [hsc]; exact m15) m5 m8 m11 m12 m13 m14
    · refine wa_cons (star_cons m11) (We.up ((allE hL hG x).1 hb C m16 S (hE.eok ρ σ) h) ?_)
      rintro w H1 ⟨a, F1, S1, s1, r1, q1⟩
      refine wa_cons (star_cons m12) (We.up ((allE hL hG y).1 hb C m17 S1 ((hE.eok ρ σ).up s1) q1) ?_)
      rintro w2 H2 ⟨c, F2, S2, s2, r2, q2⟩
      rw [put_eq, put_eq] at q2
      exact wa_nil ⟨w, w2, rfl, _, F2, (S2.set (r1.mono s2.s) i).set r2 j, (s1.trans s2).s, q2⟩
  · cases m
theorem compC_ok {t it cs el own} {ct : Ct} {cm : Bool} {X : Cx} {all : Bool} {sc scope : Scope} {elt : Expr} {gs : List Comprehension} {pos : Pos} (hb : b6 X = b) (C : Cok X N cm all sc ct.ex) (m : mO N G CL cm sc (.comp t it cs el own) (.ListComp elt gs scope pos) = true) {F : Hp} {ρ : Env} {σ : L2.St} {H : Hp} {Q : List PV → Prop} {E : KE} (S : Stt X ct F ρ σ H) (hE : Eok X ct F ρ σ E) (h : denO L (.comp t it cs el own) ρ Q E) :
    ∃ tg iter ifs own wi, gs = [⟨tg, iter, ifs, 0⟩] ∧ PI X tg iter wi ∧ X.calm = true ∧ BlkOk X.N X.env.scope scope own ∧ noSet iter = true ∧ ∀ Q' : VK, (∀ v H', PostO X ct F H ρ σ Q v H' → Q' v H') → tLc wi (gB X scope tg) (condTT X scope ifs) (eB X scope elt) (own.map (·.2)) σ H Q' := by
  have m9 := m
  unfold mO at m
  split at m
  · rename_i z1 elt2 tg iter ifs a scope2 pos2 heq
    injection heq with z1 z2 z3 z4
    subst z1 z2 z3 z4
    obtain ⟨wi, hPI, rfl, hc, bo, ns, hd⟩ := comp_ok hL hG (allIt hL hG it) (allC hL hG cs).2.2.2.2.2.1 (allE hL hG el).1 hb C m9 S hE h
    exact ⟨tg, iter, ifs, own, wi, rfl, hPI, hc, bo, ns, hd⟩
  · cases m
theorem compO_ok (o : CO) {ct : Ct} {cm : Bool} {X : Cx} {all : Bool} {sc scope : Scope} {elt : Expr} {gs : List Comprehension} {pos : Pos} (hb : b6 X = b) (C : Cok X N cm all sc ct.ex) (m : mO N G CL cm sc o (.ListComp elt gs scope pos) = true) {F : Hp} {ρ : Env} {σ : L2.St} {H : Hp} {Q : List PV → Prop} {E : KE} (S : Stt X ct F ρ σ H) (hE : Eok X ct F ρ σ E) (h : denO L o ρ Q E) (ic : isComp o = true) :
    ∃ tg iter ifs own wi, gs = [⟨tg, iter, ifs, 0⟩] ∧ PI X tg iter wi ∧ X.calm = true ∧ BlkOk X.N X.env.scope scope own ∧ noSet iter = true ∧ ∀ Q' : VK, (∀ v H', PostO X ct F H ρ σ Q v H' → Q' v H') → tLc wi (gB X scope tg) (condTT X scope ifs) (eB X scope elt) (own.map (·.2)) σ H Q' := by
  cases o with
  | comp t it cs el own => exact compC_ok hL hG hb C m S hE h
  | snapO o =>
    cases o with
    | comp t it cs el own =>
      unfold mO at m
      unfold denO at h
      obtain ⟨FS, s1, s2, SS⟩ := S.snap
      obtain ⟨tg, iter, ifs, own, wi, e, hPI, hc, bo, ns, hd⟩ := compC_ok hL hG (ct := ctS ct H FS) hb C m SS (hE.snap S s1 s2) h
      exact ⟨tg, iter, ifs, own, wi, e, hPI, hc, bo, ns, fun Q' k => hd Q' fun v H' q => k v H' (q.unsnap S s1 s2)⟩
    | _ => cases ic
  | _ => cases ic
theorem ss_ownC {i : Nat} {o : CO} : SS b L N CL G XL fr (.ownC i o) := by
  intro ct cm X all sc st hb C V m fre F ρ σ H D S hE h
  unfold mS at m
  split at m
  · simp only [Bool.and_eq_true, decide_eq_true_eq, Bool.not_eq_true'] at m
    obtain ⟨⟨⟨⟨⟨⟨⟨m1, m2⟩, m3⟩, m4⟩, m5⟩, m6⟩, m7⟩, m8⟩ := m
    rename_i x px elt gs scope lp sp
    obtain ⟨tg, iter, ifs, own, wi, rfl, hPI, hc, bo, ns, hd⟩ := compO_ok hL hG o hb C m8 S (hE.eok ρ σ) h m7
    have hsc := C.sc
    refine ws_of (ps_setLc (i := i) (g := gB X _ _) (tt := condTT X _ _) (te := eB X _ _) hc (by rw [C.n]; exact C.nd) (by rw [C.n]; exact m1) (by rw [hsc]; exact m2) (sw_true (by rw [hsc]; exact m4) (by rw [hsc]; exact m2) m5 m6) hPI bo (fun _ _ _ _ _ => gB.pg) (fun _ _ _ _ _ => condPT) (fun _ _ _ _ _ => eB.pe) (fun x => set_id ns x)) ?_
    refine hd _ ?_
    rintro v H1 ⟨p, xs, vs, F1, rfl, S1, s1, hp, oo, r1, q1⟩
    obtain ⟨hi, q1⟩ := ifB_f q1
    rw [put_eq] at q1
    exact ⟨_, F1, S1.putO oo r1 i (Nat.blt_eq.mp hi), s1.s, q1⟩
  · cases m
theorem ss_ownE {i : Nat} {e : CE} : SS b L N CL G XL fr (.ownE i e) := by
  intro ct cm X all sc st hb C V m fre F ρ σ H D S hE h
  unfold mS at m
  unfold denS at h
  obtain ⟨fr1, h⟩ := ifB_f h
  split at m
  · simp only [Bool.and_eq_true, decide_eq_true_eq] at m
    obtain ⟨⟨⟨⟨⟨m1, m2⟩, m3⟩, m4⟩, m5⟩, m6⟩ := m
    obtain ⟨l1, l2⟩ := C.loc m2
    refine ws_asg (sole_no m4) (stores_no (by rw [m5]; simp) (fun es p z => by cases z)) rfl (We.up ((allE hL hG e).2.2 fr1 hb C m6 S (hE.eok ρ σ) h) ?_)
    rintro v H1 ⟨x, F1, S1, s1, r1, n1, q1⟩
    refine wg_name (i := i) (by rw [C.n]; exact C.nd) (by rw [C.n]; exact m1) l1 l2 ?_
    unfold optS at q1
    split at q1
    · rename_i sv ht
      obtain ⟨hi, q1⟩ := ifB_f q1
      rw [put_eq] at q1
      obtain ⟨F2, S2, s2⟩ := S.thawT S1 s1 (n1 rfl) ht i (Nat.blt_eq.mp hi)
      exact ⟨_, F2, S2, s2, q1⟩
    · exact q1.elim
  · cases m
theorem ss_try (hX : ExOk b XL) {x : CSs} {c : Cl} {i : Nat} {y : CSs} (ix : SB b L N CL G XL fr x) (iy : ∀ b L G, LOk b L CL → G = L.G.map (·.1) → ExOk b XL → SB b L N CL G XL fr y) : SS b L N CL G XL fr (.tryX x c i y) := by
  intro ct cm X all sc st hb C V m fre F ρ σ H D S hE h
  unfold mS at m
  split at m
  · rename_i body cx cp n b0 suite hp sp
    simp only [Bool.and_eq_true, decide_eq_true_eq] at m
    obtain ⟨⟨⟨⟨⟨⟨⟨m0, m1⟩, rfl⟩, m3⟩, m4⟩, m5⟩, m6⟩, m7⟩ := m
    have hL2 : LOk (b6 X) L CL := hb ▸ hL
    have V1 := V m0
    have ex0 : ct.ex = none := C.cx m0
    obtain ⟨g1, g2, g3⟩ := C.gl m3
    refine ws_try V1 (by rw [C.n]; exact C.nd) (by rw [C.n]; exact m4) (by show X.env.scope.names.lookup n = _; rw [C.sc]; exact m5) ⟨g1, g2, .inl (hL2.cl c m1)⟩ fun pn xe hq ho => ?_
    have C' : Cok (X.tr pn xe) N cm all sc ct.ex := ⟨C.n, C.nd, C.sc, C.fn, C.cx, fun a e z => (by rw [ex0] at z; cases z), C.cm⟩
    have V' : cm = true → Env1 (X.tr pn xe) := fun _ => ⟨V1.calm, V1.stk, V1.fr, ho⟩
    have S' : Stt (X.tr pn xe) ct F ρ σ H := S.cast rfl
    have hb' : b6 (X.tr pn xe) = b := hb
    refine Wb.imp (D := lift fr (X.tr pn xe) ct F { D with ex := fun e ρ' => ifB (pairIn L.X e.c c) (ifB (subE e.c c) (denB L.hot y (put (some (.exc e)) ρ' i) { nx := fun ρ => D.nx (put none (noX ρ) i), rt := fun x ρ => D.rt x (noX ρ), rs := fun ρ => D.rs (noX ρ), bk := fun ρ => D.bk (put none (noX ρ) i), ct := fun ρ => D.ct (put none (noX ρ) i), ex := fun _ _ => False }) (D.ex e ρ')) False }) ?_ ?_ ?_ ?_ (ix hb' C' V' m6 (fun z => (ifT_ok (fre z)).1) S' ?_ h)
    · rintro σ' H' ⟨ρ', F', S2, s2, q⟩
      exact ⟨ρ', F', S2.cast rfl, s2, q⟩
    · rintro v H' (⟨x, F', ρ', σ', S2, r2, n2, q⟩ | ⟨p, F', ρ', σ', e2, e3, S2, q⟩)
      · exact .inl ⟨x, F', ρ', σ', S2.cast rfl, r2, n2, q⟩
      · exact .inr ⟨p, F', ρ', σ', e2, e3, S2.cast rfl, q⟩
    · rintro σ' H' ⟨ρ', F', S2, s2, q⟩
      exact ⟨ρ', F', S2.cast rfl, s2, q⟩
    · rintro σ' H' ⟨ρ', F', S2, s2, q⟩
      exact ⟨ρ', F', S2.cast rfl, s2, q⟩
    · intro e ρ' F' σ' H' d S2 sF xd q
      obtain ⟨pi, q⟩ := ifB_f q
      have S3 : Stt X ct F' ρ' σ' H' := S2.cast rfl
      refine hq _ _ _ _ ⟨subE e.c c, hL2.x _ (pairIn_mem pi), fun z a ha => ?_, fun z => ?_⟩
      · rw [z] at q
        intro oe pn2 hz hf
        have q : denB L.hot y (put (some (.exc e)) ρ' i) _ := q
        rw [put_eq] at q
        have C2 : Cok (X.suite a ((a, oe) :: pn2)) N false all sc (some (a, e)) := ⟨C.n, C.nd, C.sc, C.fn, fun z => (by cases z), fun a' e' z => (by
          cases z
          refine ⟨X, oe, pn2, d, rfl, hz, fun ed => ?_, hf⟩
          unfold XData at xd
          rw [ed] at xd
          exact xd), fun z => (by cases z)⟩
        have S4 : Stt (X.suite a ((a, oe) :: pn2)) { ct with ex := some (a, e) } F' ρ' σ' H' := (S3.anyX ex0 _).cast rfl
        have S5 := S4.put0 (o := some (.exc e)) (v := some (.ref a)) (.exc rfl .nil) i
        refine Wb.imp ?_ ?_ ?_ ?_ (iy (b6 (X.suite a ((a, oe) :: pn2))) L.hot G (hL2.hot _) (by rw [hG]; unfold Lang.hot; simp [Function.comp_def]) (by have h2 : ExOk (b6 X) XL := hb ▸ hX; exact h2) (ct := { ct with ex := some (a, e) }) (cm := false) (X := X.suite a ((a, oe) :: pn2)) rfl C2 (fun z => (by cases z)) (by rw [show L.hot.M.map (·.1) = L.M.map (·.1) by unfold Lang.hot; simp [Function.comp_def]]; exact m7) (fun z => (ifT_ok (fre z)).2) S5 (by intro _ _ _ _ _ _ _ _ _ z; exact z.elim) q)
        · rintro σ2 H2 ⟨ρ2, F2, S6, s6, q6⟩
          have q6 : D.nx (put none (noX ρ2) i) := q6
          rw [put_eq] at q6
          exact ⟨_, F2, ((S6.noX ct.ex).cast (X' := X) rfl).wipe1 none i, Same.trans' sF s6, q6⟩
        · rintro v H2 (⟨x, F2, ρ2, σ2, S6, r6, n6, q6⟩ | ⟨p, F2, ρ2, σ2, e2, e3, S6, q6⟩)
          · exact .inl ⟨x, F2, _, σ2, (S6.noX ct.ex).cast (X' := X) rfl, r6, n6, q6⟩
          · exact .inr ⟨p, F2, _, σ2, e2, e3, (S6.noX ct.ex).cast (X' := X) rfl, q6⟩
        · rintro σ2 H2 ⟨ρ2, F2, S6, s6, q6⟩
          have q6 : D.bk (put none (noX ρ2) i) := q6
          rw [put_eq] at q6
          exact ⟨_, F2, ((S6.noX ct.ex).cast (X' := X) rfl).wipe1 none i, Same.trans' sF s6, q6⟩
        · rintro σ2 H2 ⟨ρ2, F2, S6, s6, q6⟩
          have q6 : D.ct (put none (noX ρ2) i) := q6
          rw [put_eq] at q6
          exact ⟨_, F2, ((S6.noX ct.ex).cast (X' := X) rfl).wipe1 none i, Same.trans' sF s6, q6⟩
      · rw [z] at q
        exact hE e ρ' F' σ' H' d S3 sF xd q
  · cases m
theorem sb_nil : SB b L N CL G XL fr .nil := by
  intro ct cm X all sc body hb C V m fre F ρ σ H D S hE h
  unfold mB at m
  split at m
  · exact wb_nil ⟨ρ, F, S, fun _ _ z => z, h⟩
  · cases m
theorem sb_cons {s : CS} {cs : CSs} (is : (∀ i, s ≠ .frz i) → SS b L N CL G XL fr s) (ic : SB b L N CL G XL fr cs) : SB b L N CL G XL fr (.cons s cs) := by
  intro ct cm X all sc body hb C V m fre F ρ σ H D S hE h
  by_cases hf : ∃ i, s = .frz i
  · obtain ⟨i, rfl⟩ := hf
    unfold mB at m
    obtain ⟨ρ', F', S', s', q⟩ := frz_ok S h
    exact Wb.up s' (ic hb C V m (fun z => (ifT_ok (fre z)).2) S' (hE.up s') q)
  · have ne : ∀ i, s ≠ .frz i := fun i z => hf ⟨i, z⟩
    cases body with
    | nil => cases s <;> first | exact absurd rfl (ne _) | (simp [mB] at m)
    | cons st rest =>
      have m2 : (mS N G CL XL (L.M.map (·.1)) cm all sc s st && mB N G CL XL (L.M.map (·.1)) cm all sc cs rest) = true := by
        cases s <;> first | exact m | exact absurd rfl (ne _)
      simp only [Bool.and_eq_true] at m2
      refine wb_cons (Ws.imp (D := lift fr X ct F { D with nx := fun ρ => denB L cs ρ D }) ?_ (fun _ _ q => q) (fun _ _ q => q) (fun _ _ q => q) (is ne (D := { D with nx := fun ρ => denB L cs ρ D }) hb C V m2.1 (fun z => (ifT_ok (fre z)).1) S hE h))
      rintro σ' H' ⟨ρ', F', S', s', q'⟩
      exact Wb.up s' (ic hb C V m2.2 (fun z => (ifT_ok (fre z)).2) S' (hE.up s') q')
end
end Pu

/-! PI2: fields of one's own instances are stored. -/
namespace Pu
open PySem PySem.Spec PyProof.Rows L2 Ni
theorem fs_nodup (c : Cl) : c.fs.Nodup := by cases c <;> decide +kernel
theorem zip_putF : ∀ {fs : List Str} {vs : List V} {j : Nat} {f : Str} {v : V}, fs.Nodup → fs[j]? = some f → (j < vs.length → putF f v (fs.zip vs) = fs.zip (vs.set j v)) ∧ (j = vs.length → putF f v (fs.zip vs) = fs.zip (vs ++ [v]))
  | [], _, _, _, _, _, h => by simp at h
  | g :: fs, [], j, f, v, nd, h => by
    refine ⟨fun z => by simp at z, fun z => ?_⟩
    simp at z
    subst z
    simp at h
    subst h
    simp [putF]
  | g :: fs, w :: vs, 0, f, v, nd, h => by
    simp at h
    subst h
    refine ⟨fun _ => ?_, fun z => by simp at z⟩
    show (if g = g then (g, v) :: fs.zip vs else _) = _
    rw [if_pos rfl]
    rfl
  | g :: fs, w :: vs, j + 1, f, v, nd, h => by
    have h : fs[j]? = some f := by simpa using h
    have ne : g ≠ f := fun z => (List.nodup_cons.mp nd).1 (z ▸ List.mem_of_getElem? h)
    obtain ⟨h1, h2⟩ := zip_putF (vs := vs) (v := v) (List.nodup_cons.mp nd).2 h
    refine ⟨fun z => ?_, fun z => ?_⟩
    · show (if g = f then _ else (g, w) :: putF f v (fs.zip vs)) = _
      rw [if_neg ne, h1 (by simpa using z)]
      rfl
    · show (if g = f then _ else (g, w) :: putF f v (fs.zip vs)) = _
      rw [if_neg ne, h2 (by simpa using z)]
      rfl
section
variable {k : Kx} {F H H0 : Hp}
theorem FVs.snoc {fs : List FV} {vs : List V} {qs qx : List Addr} {x : FV} {v : V} (h : FVs k F H H0 fs vs qs) (hx : FVs k F H H0 [x] [v] qx) : FVs k F H H0 (fs ++ [x]) (vs ++ [v]) (qs ++ qx) := by
  induction h with
  | nil => exact hx
  | fr h1 _ ih => exact .fr h1 ih
  | nw h1 _ ih => exact .nw h1 ih
  | ow h1 h2 _ ih => exact .ow h1 h2 ih
theorem FVs.put1 {fs : List FV} {vs : List V} {qs qx : List Addr} {x : FV} {v : V} (h : FVs k F H H0 fs vs qs) (hx : FVs k F H H0 [x] [v] qx) (nx : qx.Nodup) : ∀ j, j < fs.length → ∃ qs', FVs k F H H0 (put x fs j) (vs.set j v) qs' ∧ (∀ q ∈ qs', q ∈ qs ∨ q ∈ qx) ∧ (qs.Nodup → (∀ q ∈ qs, q ∉ qx) → qs'.Nodup) := by
  have one : ∀ {fs : List FV} {vs : List V} {qs : List Addr}, FVs k F H H0 fs vs qs → FVs k F H H0 (x :: fs) (v :: vs) (qx ++ qs) := fun h => by
    cases hx with
    | fr a b => cases b; exact .fr a h
    | nw a b => cases b; exact .nw a h
    | ow a b c => cases c; exact .ow a b h
  induction h with
  | nil => intro j hj; simp at hj
  | @fr fs vs qs y w h1 h2 ih =>
    intro j hj
    cases j with
    | zero => exact ⟨qx ++ qs, one h2, fun q m => (List.mem_append.mp m).symm, fun nd d => List.nodup_append.mpr ⟨nx, nd, fun a ha b hb z => d b hb (z ▸ ha)⟩⟩
    | succ j =>
      obtain ⟨qs', a1, a2, a3⟩ := ih j (by simpa using hj)
      exact ⟨qs', .fr h1 a1, a2, a3⟩
  | @nw fs vs qs y w h1 h2 ih =>
    intro j hj
    cases j with
    | zero => exact ⟨qx ++ qs, one h2, fun q m => (List.mem_append.mp m).symm, fun nd d => List.nodup_append.mpr ⟨nx, nd, fun a ha b hb z => d b hb (z ▸ ha)⟩⟩
    | succ j =>
      obtain ⟨qs', a1, a2, a3⟩ := ih j (by simpa using hj)
      exact ⟨qs', .nw h1 a1, a2, a3⟩
  | @ow fs vs qs y ws q0 h0 h1 h2 ih =>
    intro j hj
    cases j with
    | zero => exact ⟨qx ++ qs, one h2, fun q m => (List.mem_append.mp m).symm.imp (fun z => .tail _ z) id, fun nd d => List.nodup_append.mpr ⟨nx, (List.nodup_cons.mp nd).2, fun a ha b hb z => d b (.tail _ hb) (z ▸ ha)⟩⟩
    | succ j =>
      obtain ⟨qs', a1, a2, a3⟩ := ih j (by simpa using hj)
      refine ⟨q0 :: qs', .ow h0 h1 a1, fun q m => ?_, fun nd d => List.nodup_cons.mpr ⟨fun m => ?_, a3 (List.nodup_cons.mp nd).2 fun q m => d q (.tail _ m)⟩⟩
      · cases m with
        | head => exact .inl (.head _)
        | tail _ m => exact (a2 q m).imp (fun z => .tail _ z) id
      · rcases a2 q0 m with z | z
        · exact (List.nodup_cons.mp nd).1 z
        · exact d q0 (.head _) z
end
def putFV (x : FV) (fs : List FV) (j : Nat) : List FV := if j < fs.length then put x fs j else fs ++ [x]
/-- a field is stored -/
theorem Stt.setFld {X : Cx} {ct : Ct} {F H : Hp} {ρ : Env} {σ : L2.St} (S : Stt X ct F ρ σ H) {i j : Nat} {m : Md} {c : Cl} {fs : List FV} {f : Str} (e : ρ[i]? = some (some (.obj m c fs))) (ef : c.fs[j]? = some f) (hj : j ≤ fs.length) {x : FV} {v : V} {qx : List Addr}
    (hx : FVs ⟨X.K, ct.pl⟩ F H ct.H0 [x] [v] qx) (nx : qx.Nodup) (h0 : ∀ q ∈ qx, F q = none ∧ ct.H0 q = none ∧ ∀ F' os, Slots ⟨X.K, ct.pl⟩ F' H ct.H0 ct.mu ct.ex ρ σ os → q ∉ os) :
    ∃ p dx vs, σ[i]? = some (some (.ref p)) ∧ H p = some (.ins (He.ga X.K c.nm) dx (c.fs.zip vs)) ∧ vs.length ≤ c.fs.length ∧ Stt X ct F (ρ.set i (some (.obj m c (putFV x fs j)))) σ (upd H p (.ins (He.ga X.K c.nm) dx (putF f v (c.fs.zip vs)))) := by
  obtain ⟨os, hs, nd, hf⟩ := S.slots
  have qno : ∀ q ∈ qx, q ∉ os := fun q mq => (h0 q mq).2.2 _ _ hs
  obtain ⟨u, q1, q2, q3, e1, rfl, h1, h2⟩ := hs.split e
  cases h1 with
  | @obj _ _ _ qs _ _ _ vs p dx a b c1 d w l h1 =>
    cases h1
    rw [List.append_nil] at *
    have hle := (List.getElem?_eq_some_iff.mp ef).1
    have pw : ct.H0 p = none ∨ p ∈ ct.mu := (hs.own_at p (by simp)).1
    have hsl : σ.set i (some (V.ref p)) = σ := set_self e1
    have nd0 := nd
    rw [List.nodup_append] at nd
    obtain ⟨n1, n2, n3⟩ := nd
    rw [List.nodup_append] at n2
    obtain ⟨m1, m2, m3⟩ := n2
    obtain ⟨pq, ndq⟩ := List.nodup_cons.mp m1
    have pqx : p ∉ qx := fun z => qno p z (by simp)
    -- the new heap
    generalize hH : upd H p (.ins (He.ga X.K c.nm) dx (putF f v (c.fs.zip vs))) = H'
    have at_p : H' p = some (.ins (He.ga X.K c.nm) dx (putF f v (c.fs.zip vs))) := by rw [← hH]; exact upd_same
    have at_o : ∀ a, a ≠ p → H' a = H a := fun a z => by rw [← hH]; exact upd_ne z
    have bK := b.keep (F' := F) (H' := H') (fun _ _ z => z) (fun q mq => at_o q fun z => pq (z ▸ mq))
    have xK := hx.keep (F' := F) (H' := H') (fun _ _ z => z) (fun q mq => at_o q fun z => pqx (z ▸ mq))
    obtain ⟨qs', vs', g1, g2, g3, g4, g5⟩ : ∃ qs' vs', FVs ⟨X.K, ct.pl⟩ F H' ct.H0 (putFV x fs j) vs' qs' ∧ putF f v (c.fs.zip vs) = c.fs.zip vs' ∧ (∀ q ∈ qs', q ∈ qs ∨ q ∈ qx) ∧ qs'.Nodup ∧ (putFV x fs j).length ≤ c.fs.length := by
      obtain ⟨z1, z2⟩ := zip_putF (vs := vs) (v := v) (fs_nodup c) ef
      unfold putFV
      by_cases lt : j < fs.length
      · rw [if_pos lt]
        obtain ⟨qs', a1, a2, a3⟩ := bK.put1 xK nx j lt
        exact ⟨qs', _, a1, z1 (by rw [← b.len]; exact lt), a2, a3 ndq fun q mq mx => qno q mx (by simp [mq]), by rw [put_eq, List.length_set]; exact c1⟩
      · rw [if_neg lt]
        have ej : j = fs.length := by omega
        exact ⟨qs ++ qx, _, bK.snoc xK, z2 (by rw [← b.len]; exact ej), fun q mq => List.mem_append.mp mq, List.nodup_append.mpr ⟨ndq, nx, fun a ha b hb z => qno b hb (by simp [← z, ha])⟩, by rw [List.length_append]; simp; omega⟩
    rw [g2] at at_p
    have own1 : ∀ q ∈ qs', Whose ct.H0 ct.mu m q := fun q mq => by
      rcases g3 q mq with z | z
      · exact w q (.tail _ z)
      · exact .new (h0 q z).2.1
    have sl := Slots.obj (k := ⟨X.K, ct.pl⟩) (ex := ct.ex) (mu := ct.mu) (m := m) at_p g1 g5 d (fun q mq => by
      rcases List.mem_cons.mp mq with rfl | mq
      · exact w _ (.head _)
      · exact own1 q mq) l .nil
    rw [List.append_nil] at sl
    have hz := h2 (F' := F) (H' := H') (fun _ _ z => z) (fun q mq => at_o q fun z => by
      subst z
      rcases List.mem_append.mp mq with mq | mq
      · exact n3 _ mq _ (List.mem_append_left _ (.head _)) rfl
      · exact m3 _ (.head _) _ mq rfl) sl
    rw [hsl] at hz
    suffices St : Stt X ct F (ρ.set i (some (.obj m c (putFV x fs j)))) σ H' from ⟨p, dx, vs, e1, a, by rw [← b.len]; exact c1, by rw [hH]; exact St⟩
    refine ⟨fun a' o' e' => ?_, S.gr, ⟨fun a' o' e' n' => ?_, fun P s e' => ?_, fun a' m' z => ?_⟩, fun P s e' => ?_, S.p1, S.m0, _, hz, ?_, fun a' mq => ?_⟩
    · have ne : a' ≠ p := fun z => by subst z; rw [hf a' (by simp)] at e'; cases e'
      rw [at_o _ ne]
      exact S.sub a' o' e'
    · have ne : a' ≠ p := fun z => by
        subst z
        rcases pw with z | z
        · rw [z] at e'; cases e'
        · exact n' (.inr z)
      rw [at_o _ ne]
      exact S.gua.keep a' o' e' n'
    · have nP : P ≠ p := fun z => by
        subst z
        rcases pw with z | z
        · exact (S.p0 _ s e').2.1 z
        · exact (S.p1 _ s e').2.1 z
      have ns : s ≠ p := fun z => by
        subst z
        rcases pw with z | z
        · exact (S.p1 P _ e').1 z
        · exact (S.p1 P _ e').2.2 z
      exact (S.gua.pool P s e').keep (at_o _ nP) (at_o _ ns)
    · by_cases z2 : a' = p
      · subst z2
        exact ⟨_, at_p, ins_nimm d⟩
      · rw [at_o _ z2]
        exact S.gua.live a' m' z
    · obtain ⟨h1, h2, h3⟩ := S.p0 P s e'
      have nP : P ≠ p := fun z => by
        subst z
        rcases pw with z | z
        · exact h2 z
        · exact (S.p1 _ s e').2.1 z
      have ns : s ≠ p := fun z => by
        subst z
        rcases pw with z | z
        · exact (S.p1 P _ e').1 z
        · exact (S.p1 P _ e').2.2 z
      exact ⟨h1, h2, h3.keep (at_o _ nP) (at_o _ ns)⟩
    · have dis : ∀ q ∈ qs', ∀ r, r ∈ q1 ∨ r ∈ q3 → q ≠ r := fun q mq r hr z => by
        subst z
        rcases g3 q mq with y | y
        · rcases hr with hr | hr
          · exact n3 q hr q (List.mem_append_left _ (.tail _ y)) rfl
          · exact m3 q (.tail _ y) q hr rfl
        · exact qno q y (by rcases hr with hr | hr <;> simp [hr])
      rw [List.nodup_append]
      refine ⟨n1, List.nodup_append.mpr ⟨List.nodup_cons.mpr ⟨fun mq => ?_, g4⟩, m2, fun a' ha b' hb => ?_⟩, fun a' ha b' hb => ?_⟩
      · rcases g3 p mq with y | y
        · exact pq y
        · exact pqx y
      · rcases List.mem_cons.mp ha with rfl | ha
        · exact m3 _ (.head _) _ hb
        · exact dis a' ha b' (.inr hb)
      · rcases List.mem_append.mp hb with hb | hb
        · rcases List.mem_cons.mp hb with rfl | hb
          · exact n3 a' ha _ (List.mem_append_left _ (.head _))
          · exact fun z => dis b' hb a' (.inl ha) z.symm
        · exact n3 a' ha b' (List.mem_append_right _ hb)
    · rcases List.mem_append.mp mq with mq | mq
      · exact hf a' (List.mem_append_left _ mq)
      · rcases List.mem_append.mp mq with mq | mq
        · rcases List.mem_cons.mp mq with rfl | mq
          · exact hf _ (by simp)
          · rcases g3 a' mq with y | y
            · exact hf a' (by simp [y])
            · exact (h0 a' y).1
        · exact hf a' (List.mem_append_right _ (List.mem_append_right _ mq))
theorem attrIn_mem : ∀ {l : List (Cl × Nat)} {c : Cl} {j : Nat}, attrIn l c j = true → (c, j) ∈ l
  | [], _, _, h => by cases h
  | q :: l, c, j, h => by
    unfold attrIn at h
    split at h
    · rename_i e
      obtain ⟨e1, e2⟩ := ifT_ok e
      have e1 := of_decide_eq_true e1
      have e2 := Nat.eq_of_beq_eq_true e2
      subst e1 e2
      exact .head _
    · exact .tail _ (attrIn_mem h)
theorem setF_ok {L : Lang} {ρ : Env} {i j : Nat} {c : Cl} {x : FV} {Q : Env → Prop} {f : Str} (ef : c.fs[j]? = some f) (h : setF L ρ i c j x Q) : ∃ m d fs, ρ[i]? = some (some (.obj m d fs)) ∧ d.fs[j]? = some f ∧ (d, j) ∈ L.S ∧ j ≤ fs.length ∧ Q (ρ.set i (some (.obj m d (putFV x fs j)))) := by
  unfold setF at h
  rw [nth_eq] at h
  split at h
  · rename_i m d fs e
    obtain ⟨g, h⟩ := ifB_f h
    obtain ⟨g1, g2⟩ := ifT_ok g
    have g1 := of_decide_eq_true g1
    refine ⟨m, d, fs, e, g1.trans ef, attrIn_mem g2, ?_⟩
    unfold putFV
    cases eb : Nat.beq j fs.length with
    | true =>
      rw [eb] at h
      have ej := Nat.eq_of_beq_eq_true eb
      rw [put_eq] at h
      rw [if_neg (by omega)]
      exact ⟨by omega, h⟩
    | false =>
      rw [eb] at h
      obtain ⟨l, h⟩ := ifB_f (show ifB (Nat.blt j fs.length) _ False from h)
      have l := Nat.blt_eq.mp l
      rw [put_eq] at h
      rw [if_pos l]
      exact ⟨by omega, h⟩
  · exact h.elim
theorem swaps_attr {o v : Expr} {f : Str} {p : Pos} {l : Nat} {env : PySem.Env} : swapsWith v (some (.Attribute o f p)) l env = pure false := by
  cases v <;> rfl
section
variable {b : B6} {L : Lang} {N : List Str} {CL : List Cl} {G : List GK} {XL : List Cl} {fr : Bool} (hL : LOk b L CL) (hG : G = L.G.map (·.1))
include hL hG
/-- the store itself, the value being there -/
theorem fld_ok {ct : Ct} {cm : Bool} {X : Cx} {all : Bool} {sc : Scope} (hb : b6 X = b) (C : Cok X N cm all sc ct.ex) {i j : Nat} {c : Cl} {x f : Str} {pos : Pos} (m : (decide (N[i]? = some x) && visB sc x && okN x) = true) (ef : c.fs[j]? = some f) {F F1 H1 : Hp} {ρ : Env} {σ : L2.St} {D : PEnds} {y : FV} {v : V} {qx : List Addr}
    (S1 : Stt X ct F1 ρ σ H1) (s1 : Same F F1) (hx : FVs ⟨X.K, ct.pl⟩ F1 H1 ct.H0 [y] [v] qx) (nx : qx.Nodup) (h0 : ∀ q ∈ qx, F1 q = none ∧ ct.H0 q = none ∧ ∀ F' os, Slots ⟨X.K, ct.pl⟩ F' H1 ct.H0 ct.mu ct.ex ρ σ os → q ∉ os) (h : setF L ρ i c j y D.nx) :
    We X (.Name x pos) σ H1 fun o H2 => Sf X o f v H2 fun H3 => (lift fr X ct F D).nx σ H3 := by
  have hL2 : LOk (b6 X) L CL := hb ▸ hL
  obtain ⟨m', d, fs, e, ed, ms, hj, q⟩ := setF_ok ef h
  obtain ⟨p, dx, vs, a1, a2, a3, S2⟩ := S1.setFld e ed hj hx nx h0
  obtain ⟨k1, k2⟩ := hL2.s _ ms
  have hle : d.fs.length ≤ 10 := by cases d <;> decide +kernel
  refine e_var C m a1 ⟨p, He.ga X.K d.nm, dx, _, rfl, a2, k1, k2 f ed, ?_, _, F1, S2, s1, q⟩
  rw [List.length_zip]
  omega
theorem ss_setf {i : Nat} {c : Cl} {j : Nat} {e : CE} : SS b L N CL G XL fr (.setf i c j e) := by
  intro ct cm X all sc st hb C V m fre F ρ σ H D S hE h
  unfold mS at m
  unfold denS at h
  split at m
  · simp only [Bool.and_eq_true, decide_eq_true_eq] at m
    obtain ⟨⟨⟨⟨m1, m2⟩, m3⟩, m4⟩, m5⟩ := m
    cases hf : frE L e with
    | false =>
      rw [hf] at h
      refine ws_fld swaps_attr (We.up ((allE hL hG e).1 hb C m5 S (hE.eok ρ σ) h) ?_)
      rintro v H1 ⟨x, F1, S1, s1, r1, q1⟩
      exact fld_ok hL hG hb C (by simp [m1, m2, m3]) m4 S1 s1.s (.fr r1 .nil) .nil nofun q1
    | true =>
      rw [hf] at h
      refine ws_fld swaps_attr (We.up ((allE hL hG e).2.2 hf hb C m5 S (hE.eok ρ σ) h) ?_)
      rintro v H1 ⟨x, F1, S1, s1, r1, n1, q1⟩
      exact fld_ok hL hG hb C (by simp [m1, m2, m3]) m4 S1 s1.s (.nw ((n1 rfl).back fun a z => S.h0 z) .nil) .nil nofun q1
  · cases m
theorem ss_setfO {i : Nat} {c : Cl} {j : Nat} {o : CO} : SS b L N CL G XL fr (.setfO i c j o) := by
  intro ct cm X all sc st hb C V m fre F ρ σ H D S hE h
  unfold mS at m
  unfold denS at h
  split at m
  · simp only [Bool.and_eq_true, decide_eq_true_eq] at m
    obtain ⟨⟨⟨⟨m1, m2⟩, m3⟩, m4⟩, m5⟩ := m
    refine ws_fld swaps_attr (We.up (allO hL hG o hb C m5 S (hE.eok ρ σ) h) ?_)
    rintro v H1 ⟨p, xs, vs, F1, rfl, S1, s1, hp, oo, r1, q1⟩
    exact fld_ok hL hG hb C (by simp [m1, m2, m3]) m4 S1 s1.s (.ow oo.at_ r1 .nil) (by simp) (fun q mq => by
      simp at mq
      subst mq
      exact ⟨oo.f, oo.h, oo.os⟩) q1
  · cases m
end
end Pu

/-! PI3: calls that change an instance of one's own. -/
namespace Pu
open PySem PySem.Spec PyProof.Rows L2 Ni
theorem FVs.backH {k : Kx} {F H H0 H1 : Hp} {fs : List FV} {vs : List V} {qs : List Addr} (h : FVs k F H H1 fs vs qs) (b : ∀ a, H1 a = none → H0 a = none) : FVs k F H H0 fs vs qs := by
  induction h with
  | nil => exact .nil
  | fr h1 _ ih => exact .fr h1 ih
  | nw h1 _ ih => exact .nw (h1.back b) ih
  | ow h1 h2 _ ih => exact .ow h1 h2 ih
theorem FVs.low {k : Kx} {F H H0 H1 : Hp} {fs : List FV} {vs : List V} {qs : List Addr} (h : FVs k F H H0 fs vs qs) : FVs k F H H1 (lowFs fs) vs qs := by
  induction h with
  | nil => exact .nil
  | fr h1 _ ih => exact .fr h1 ih
  | nw h1 _ ih => exact .fr h1.rep ih
  | ow h1 h2 _ ih => exact .ow h1 h2 ih
theorem lowFs_len : ∀ (fs : List FV), (lowFs fs).length = fs.length
  | [] => rfl
  | f :: fs => by
    show (lowFs fs).length + 1 = _
    rw [lowFs_len fs]
    rfl
/-- an instance of one's own is lent, and comes back -/
theorem Stt.lend {X : Cx} {ct : Ct} {F H : Hp} {ρ : Env} {σ : L2.St} (S : Stt X ct F ρ σ H) {i : Nat} {m : Md} {c : Cl} {fs : List FV} (e : ρ[i]? = some (some (.obj m c fs))) :
    ∃ p dx fvs qs, σ[i]? = some (some (.ref p)) ∧ H p = some (.ins (He.ga X.K c.nm) dx (c.fs.zip fvs)) ∧ FVs ⟨X.K, ct.pl⟩ F H H (lowFs fs) fvs qs ∧ ((lowFs fs).length ≤ c.fs.length ∧ c ≠ .ratio) ∧ (p :: qs).Nodup ∧ (∀ a ∈ p :: qs, F a = none) ∧
      (∀ P s, ct.pl = some (P, s) → P ∉ p :: qs ∧ s ∉ p :: qs) ∧ ∀ H' F' gs gvs qs', OwnAt X.K ct.pl c p F H F' H' qs gs gvs qs' → Stt X ct F' (ρ.set i (some (.obj m c gs))) σ H' ∧ Same F F' := by
  obtain ⟨os, hs, nd, hf⟩ := S.slots
  obtain ⟨u, q1, q2, q3, e1, rfl, h1, h2⟩ := hs.split e
  cases h1 with
  | @obj _ _ _ qs _ _ _ vs p dx a b c1 d w l h1 =>
    cases h1
    rw [List.append_nil] at *
    have hsl : σ.set i (some (V.ref p)) = σ := set_self e1
    have mem : ∀ x ∈ p :: qs, x ∈ q1 ++ (p :: qs ++ q3) := fun x m => List.mem_append_right _ (List.mem_append_left _ m)
    have nd0 := nd
    rw [List.nodup_append] at nd
    obtain ⟨n1, n2, n3⟩ := nd
    rw [List.nodup_append] at n2
    obtain ⟨m1, m2, m3⟩ := n2
    have oth : ∀ x ∈ q1 ++ q3, x ∈ q1 ++ (p :: qs ++ q3) := fun x m => by
      rcases List.mem_append.mp m with m | m
      · exact List.mem_append_left _ m
      · exact List.mem_append_right _ (List.mem_append_right _ m)
    have apart : ∀ x ∈ q1 ++ q3, x ∉ p :: qs := fun x m z => by
      rcases List.mem_append.mp m with m | m
      · exact n3 x m x (List.mem_append_left _ z) rfl
      · exact m3 x z x m rfl
    refine ⟨p, dx, vs, qs, e1, a, b.low, ⟨by rw [lowFs_len]; exact c1, d⟩, m1, fun x m => hf x (mem x m), fun P s ep => ⟨fun m => S.nexm hs (mem P m) (.inl ⟨s, ep⟩), fun m => ?_⟩, fun H' F' gs gvs qs' o => ⟨⟨o.sub, S.gr.trans S.gua S.m0 o.gr, ⟨fun x y hx n => ?_, o.gu.pool, fun x m hx => ?_⟩, fun P s ep => ?_, S.p1, S.m0, q1 ++ ((p :: qs') ++ q3), ?_, ?_, fun x m => ?_⟩, o.gr.s⟩⟩
    · rcases (hs.own_at s (mem s m)).1 with y | y
      · exact (S.p1 P s ep).1 y
      · exact (S.p1 P s ep).2.2 y
    · refine o.gu.keep x y (S.gua.keep x y hx n) fun z => ?_
      rcases z with z | z
      · exact n (.inl z)
      · rcases (hs.own_at x (mem x z)).1 with y2 | y2
        · rw [y2] at hx; cases hx
        · exact n (.inr y2)
    · by_cases z : x ∈ p :: qs
      · exact o.gu.live x z (hs.own_at x (mem x z)).2
      · obtain ⟨y, ey, ni⟩ := S.gua.live x m hx
        refine ⟨y, o.gu.keep x y ey fun q => ?_, ni⟩
        rcases q with ⟨s, q⟩ | q
        · exact S.pmu x s q m
        · exact z q
    · obtain ⟨z1, z2, z3⟩ := S.p0 P s ep
      refine ⟨?_, z2, o.gu.pool P s ep⟩
      cases z : F' P with
      | none => rfl
      | some y =>
        rcases o.gr.n P y z with k | k | ⟨k, r⟩
        · rw [z1] at k; cases k
        · obtain ⟨_, k2⟩ := z3.at1
          rw [k2] at k; cases k
        · exact absurd r (pool_nimm z3 k)
    · obtain ⟨dx', at'⟩ := o.at_
      have s1 : Slot1 ⟨X.K, ct.pl⟩ F' H' ct.H0 ct.mu ct.ex (some (.obj m c gs)) (some (.ref p)) (p :: qs') := by
        have z := Slots.obj (k := ⟨X.K, ct.pl⟩) (F := F') (H := H') (H0 := ct.H0) (mu := ct.mu) (ex := ct.ex) (m := m) at' (o.fv.backH fun x hx => S.h0 hx) o.len d (fun x mx => ?_) l .nil
        · rw [List.append_nil] at z
          exact z
        · rcases List.mem_cons.mp mx with rfl | mx
          · exact w _ (.head _)
          · rcases o.nw x mx with hx | hx
            · exact .new (S.h0 hx)
            · exact w x hx
      have hz := h2 (F' := F') (H' := H') o.gr.s (fun x mx => ?_) s1
      · rw [hsl] at hz
        exact hz
      · obtain ⟨_, y, ey, _⟩ := hs.own_at x (oth x mx)
        rw [ey]
        refine o.gu.keep x y ey fun z => ?_
        rcases z with ⟨s, z⟩ | z
        · exact S.nexm hs (oth x mx) (.inl ⟨s, z⟩)
        · exact apart x mx z
    · have ndq := o.nd
      have out : ∀ x ∈ p :: qs', ∀ y ∈ q1 ++ q3, x ≠ y := fun x mx y my z => by
        subst z
        rcases List.mem_cons.mp mx with rfl | mx
        · exact apart _ my (.head _)
        · rcases o.nw x mx with hx | hx
          · obtain ⟨_, y, ey, _⟩ := hs.own_at x (oth x my)
            rw [hx] at ey; cases ey
          · exact apart x my hx
      rw [List.nodup_append]
      refine ⟨n1, List.nodup_append.mpr ⟨ndq, m2, fun x mx y my => out x mx y (List.mem_append_right _ my)⟩, fun x mx y my => ?_⟩
      rcases List.mem_append.mp my with my | my
      · exact (out y my x (List.mem_append_left _ mx)).symm
      · exact n3 x mx y (List.mem_append_right _ my)
    · have old : ∀ x ∈ q1 ++ q3, F' x = none := fun x mx => by
        obtain ⟨_, y, ey, nr⟩ := hs.own_at x (oth x mx)
        cases z : F' x with
        | none => rfl
        | some y2 =>
          rcases o.gr.n x y2 z with k | k | ⟨k, r⟩
          · rw [hf x (oth x mx)] at k; cases k
          · rw [ey] at k; cases k
          · rw [ey] at k; cases k; exact absurd r nr
      rcases List.mem_append.mp m with m | m
      · exact old x (List.mem_append_left _ m)
      · rcases List.mem_append.mp m with m | m
        · exact o.no x m
        · exact old x (List.mem_append_right _ m)
section
variable {X : Cx} {ct : Ct} {F H : Hp} {ρ : Env} {σ : L2.St} {i : Nat} {m : Md} {c : Cl} {fs : List FV} {f : Value} {p : MSpec} {xs : List PV} {vs : List V} {Q : PV → List FV → Prop} {E : Exc → List FV → Prop} {DE : Exc → Env → Prop}
theorem mut_call (S : Stt X ct F ρ σ H) (e1 : ρ[i]? = some (some (.obj m c fs))) (M : CalS (b6 X) f (lowM X.K p)) (hE : Xok X ct F DE) (r : Reps ⟨X.K, ct.pl⟩ F xs vs) (h : p.run c (lowFs fs) xs Q E) (he : ∀ e gs, E e gs → DE e (ρ.set i (some (.obj m c gs)))) :
    ∃ a dx fvs, σ[i]? = some (some (.ref a)) ∧ H a = some (.ins (He.ga X.K c.nm) dx (c.fs.zip fvs)) ∧ fvs.length ≤ c.fs.length ∧ Wf X f (.ref a :: vs) σ H fun v H' => ∃ y gs F', Stt X ct F' (ρ.set i (some (.obj m c gs))) σ H' ∧ Same F F' ∧ Rep ⟨X.K, ct.pl⟩ F' y v ∧ Q y gs := by
  obtain ⟨a, dx, fvs, qs, a1, ha, fv, l, nd, no, np, back⟩ := S.lend e1
  refine ⟨a, dx, fvs, a1, ha, by rw [← fv.len]; exact l.1, M X rfl σ H _ _ ⟨ct.pl, F, c, lowFs fs, xs, a, vs, dx, fvs, qs, rfl, S.sub, fun P s e => ⟨(S.p0 P s e).1, (S.p0 P s e).2.2⟩, np, r, ha, fv, l, nd, no, p.mono ?_ ?_ h⟩⟩
  · intro y gs q v H' F' gvs qs' o rv
    obtain ⟨S3, s3⟩ := back _ _ _ _ _ o
    exact ⟨y, gs, F', S3, s3, rv, q⟩
  · intro e gs q d H' F' gvs qs' o xd
    obtain ⟨S3, s3⟩ := back _ _ _ _ _ o
    exact hE e _ F' σ H' d S3 s3 xd (he e gs q)
theorem mut_callI (S : Stt X ct F ρ σ H) (e1 : ρ[i]? = some (some (.obj m c fs))) (M : CalS (b6 X) f (lowI X.K p)) (hE : Xok X ct F DE) (r : Reps ⟨X.K, ct.pl⟩ F xs vs) (h : p.run c (lowFs fs) xs Q E) (he : ∀ e gs, E e gs → DE e (ρ.set i (some (.obj m c gs)))) :
    ∃ a dx fvs, σ[i]? = some (some (.ref a)) ∧ H a = some (.ins (He.ga X.K c.nm) dx (c.fs.zip fvs)) ∧ Wf X f (.ref a :: vs) σ H fun v H' => v = .ref a ∧ ∃ y gs F', Stt X ct F' (ρ.set i (some (.obj m c gs))) σ H' ∧ Same F F' ∧ Q y gs := by
  obtain ⟨a, dx, fvs, qs, a1, ha, fv, l, nd, no, np, back⟩ := S.lend e1
  refine ⟨a, dx, fvs, a1, ha, M X rfl σ H _ _ ⟨ct.pl, F, c, lowFs fs, xs, a, vs, dx, fvs, qs, rfl, S.sub, fun P s e => ⟨(S.p0 P s e).1, (S.p0 P s e).2.2⟩, np, r, ha, fv, l, nd, no, p.mono ?_ ?_ h⟩⟩
  · intro y gs q H' F' gvs qs' o
    obtain ⟨S3, s3⟩ := back _ _ _ _ _ o
    exact ⟨rfl, y, gs, F', S3, s3, q⟩
  · intro e gs q d H' F' gvs qs' o xd
    obtain ⟨S3, s3⟩ := back _ _ _ _ _ o
    exact hE e _ F' σ H' d S3 s3 xd (he e gs q)
end
theorem callM_ok {L : Lang} {m : Nat} {c : Cl} {fs : List FV} {xs : List PV} {Q : PV → List FV → Prop} {E : Exc → List FV → Prop} {k : MK} {p : MSpec} (hp : nth L.M m = some (k, p)) (h : callM L m c fs xs Q E) : mkC k = c ∧ p.run c fs xs Q E := by
  unfold callM at h
  rw [hp] at h
  obtain ⟨h1, h2⟩ := ifB_f h
  exact ⟨of_decide_eq_true h1, h2⟩
theorem clM_ok {L : Lang} {m : Nat} {c : Cl} {Q : Prop} {k : MK} {p : MSpec} (hp : nth L.M m = some (k, p)) (h : clM L m c Q) : mkC k = c ∧ Q := by
  unfold clM at h
  rw [hp] at h
  obtain ⟨h1, h2⟩ := ifB_f h
  exact ⟨of_decide_eq_true h1, h2⟩
theorem mkeys_at {L : Lang} {m : Nat} {k : MK} (h : nth (L.M.map (·.1)) m = some k) : ∃ p, nth L.M m = some (k, p) := by
  rw [nth_eq, List.getElem?_map] at h
  obtain ⟨⟨k0, p⟩, e1, e2⟩ := Option.map_eq_some_iff.mp h
  cases e2
  exact ⟨p, by rw [nth_eq]; exact e1⟩
theorem isMk_ok {M : List MK} {m : Nat} {x : Str} (h : isMk M m x = true) : ∃ c, nth M m = some (.met c x) := by
  unfold isMk at h
  split at h
  · rename_i c y e
    exact ⟨c, by rw [e, of_decide_eq_true h]⟩
  · cases h
theorem isMs_ok {M : List MK} {m : Nat} (h : isMs M m = true) : ∃ c, nth M m = some (.set c) := by
  unfold isMs at h
  split at h
  · rename_i c e
    exact ⟨c, e⟩
  · cases h
theorem isMi_ok {M : List MK} {m : Nat} {op : Operator} (h : isMi M m op = true) : ∃ c, nth M m = some (.iop c op) := by
  unfold isMi at h
  split at h
  · rename_i c y e
    exact ⟨c, by rw [e, of_decide_eq_true h]⟩
  · cases h
theorem zip_take {fs : List Str} {vs : List V} (h : vs.length ≤ fs.length) : ∃ n, (fs.zip vs).map (·.1) = fs.take n := ⟨vs.length, zip_map' h rfl⟩
theorem FVs.getO {k : Kx} {F H H0 : Hp} {fs : List FV} {vs : List V} {qs : List Addr} (h : FVs k F H H0 fs vs qs) : ∀ {j : Nat} {xs : List PV}, fs[j]? = some (.ow xs) → ∃ q ws, vs[j]? = some (.ref q) ∧ q ∈ qs ∧ H q = some (.lst ws) ∧ Reps k F xs ws := by
  induction h with
  | nil => intro j xs e; simp at e
  | fr h1 _ ih =>
    intro j xs e
    cases j with
    | zero => simp at e
    | succ j => simpa using ih (by simpa using e)
  | nw h1 _ ih =>
    intro j xs e
    cases j with
    | zero => simp at e
    | succ j => simpa using ih (by simpa using e)
  | @ow fs vs qs ys ws q h1 h2 _ ih =>
    intro j xs e
    cases j with
    | zero =>
      simp at e
      subst e
      exact ⟨q, ws, rfl, .head _, h1, h2⟩
    | succ j =>
      obtain ⟨q', ws', a1, a2, a3, a4⟩ := ih (show fs[j]? = some (.ow xs) by simpa using e)
      exact ⟨q', ws', by simpa using a1, .tail _ a2, a3, a4⟩
theorem FVs.setO {k : Kx} {F H H0 : Hp} {fs : List FV} {vs : List V} {qs : List Addr} (h : FVs k F H H0 fs vs qs) : ∀ {j : Nat} {xs ys : List PV} {q : Addr} {ws : List V}, qs.Nodup → fs[j]? = some (.ow xs) → vs[j]? = some (.ref q) → Reps k F ys ws → FVs k F (upd H q (.lst ws)) H0 (put (.ow ys) fs j) vs qs := by
  induction h with
  | nil => intro j xs ys q ws nd e; simp at e
  | fr h1 _ ih =>
    intro j xs ys q ws nd e e2 r
    cases j with
    | zero => simp at e
    | succ j => exact .fr h1 (ih nd (by simpa using e) (by simpa using e2) r)
  | nw h1 _ ih =>
    intro j xs ys q ws nd e e2 r
    cases j with
    | zero => simp at e
    | succ j => exact .nw h1 (ih nd (by simpa using e) (by simpa using e2) r)
  | @ow fs vs qs zs us q0 h1 h2 h3 ih =>
    intro j xs ys q ws nd e e2 r
    obtain ⟨n1, n2⟩ := List.nodup_cons.mp nd
    cases j with
    | zero =>
      simp at e2
      subst e2
      exact .ow upd_same r (h3.keep (fun _ _ z => z) fun p hp => upd_ne fun z => n1 (z ▸ hp))
    | succ j =>
      have e3 : vs[j]? = some (.ref q) := by simpa using e2
      obtain ⟨q', _, a1, a2, _⟩ := h3.getO (show fs[j]? = some (.ow xs) by simpa using e)
      rw [e3] at a1
      cases a1
      exact .ow ((upd_ne fun z => n1 (by rw [z]; exact a2)).trans h1) h2 (ih n2 (by simpa using e) e3 r)
theorem lowFs_at : ∀ {fs : List FV} {j : Nat} {xs : List PV}, fs[j]? = some (.ow xs) → (lowFs fs)[j]? = some (.ow xs)
  | [], _, _, h => by simp at h
  | f :: fs, 0, xs, h => by
    simp at h
    subst h
    rfl
  | f :: fs, j + 1, xs, h => by
    show (lowF f :: lowFs fs)[j + 1]? = _
    rw [List.getElem?_cons_succ]
    exact lowFs_at (by simpa using h)
/-- an item of a list of an instance of one's own -/
theorem Stt.setItm {X : Cx} {ct : Ct} {F H : Hp} {ρ : Env} {σ : L2.St} (S : Stt X ct F ρ σ H) {i j : Nat} {m : Md} {c : Cl} {fs : List FV} {xs : List PV} {f : Str} (e : ρ[i]? = some (some (.obj m c fs))) (ej : fs[j]? = some (.ow xs)) (ef : c.fs[j]? = some f) :
    ∃ p dx fvs q vs, σ[i]? = some (some (.ref p)) ∧ H p = some (.ins (He.ga X.K c.nm) dx (c.fs.zip fvs)) ∧ (c.fs.zip fvs).lookup f = some (.ref q) ∧ H q = some (.lst vs) ∧ Reps ⟨X.K, ct.pl⟩ F xs vs ∧ ∀ ys ws, Reps ⟨X.K, ct.pl⟩ F ys ws → Stt X ct F (ρ.set i (some (.obj m c (put (.ow ys) (lowFs fs) j)))) σ (upd H q (.lst ws)) := by
  obtain ⟨p, dx, fvs, qs, a1, ha, fv, l, nd, no, np, back⟩ := S.lend e
  obtain ⟨q, vs, b1, b2, b3, b4⟩ := fv.getO (lowFs_at ej)
  obtain ⟨n1, n2⟩ := List.nodup_cons.mp nd
  have pq : p ≠ q := fun z => n1 (z ▸ b2)
  refine ⟨p, dx, fvs, q, vs, a1, ha, zip_look (fs_nodup c) ef b1, b3, b4, fun ys ws r => (back _ _ _ _ _ ⟨.refl, ⟨fun a o h n => ?_, fun P s ep => ?_, fun a ma h => ?_⟩, fun a o h => ?_, ⟨dx, (upd_ne pq).trans ha⟩, fv.setO n2 (lowFs_at ej) b1 r, ?_, nd, no, fun a ma => .inr (.tail _ ma)⟩).1⟩
  · rw [upd_ne fun z => n (.inr (by rw [z]; exact .tail _ b2))]
    exact h
  · have h1 : P ≠ q := fun z => (np P s ep).1 (by rw [z]; exact .tail _ b2)
    have h2 : s ≠ q := fun z => (np P s ep).2 (by rw [z]; exact .tail _ b2)
    exact (S.p0 P s ep).2.2.keep (upd_ne h1) (upd_ne h2)
  · by_cases z : a = q
    · subst z
      exact ⟨_, upd_same, imm_lst⟩
    · rw [upd_ne z]
      exact h
  · rw [upd_ne fun z => by rw [z, no q (.tail _ b2)] at h; cases h]
    exact S.sub a o h
  · rw [put_eq, List.length_set]
    exact l.1
section
variable {b : B6} {L : Lang} {N : List Str} {CL : List Cl} {G : List GK} {XL : List Cl} {fr : Bool} (hL : LOk b L CL) (hG : G = L.G.map (·.1))
include hL hG
theorem ss_muts {i mm : Nat} {k v : CE} : SS b L N CL G XL fr (.muts i mm k v) := by
  intro ct cm X all sc st hb C V m fre F ρ σ H D S hE h
  unfold mS at m
  split at m
  · simp only [Bool.and_eq_true, decide_eq_true_eq] at m
    obtain ⟨⟨⟨⟨⟨⟨⟨m0, m1⟩, m2⟩, m3⟩, m4⟩, m5⟩, m6⟩, m7⟩ := m
    have hL2 : LOk (b6 X) L CL := hb ▸ hL
    obtain ⟨c0, hk⟩ := isMs_ok m0
    obtain ⟨p, hp⟩ := mkeys_at hk
    obtain ⟨f, f1, f2, f3⟩ := hL2.mu _ _ _ hp
    have h : getM ρ i _ := h
    obtain ⟨bb, c, fs, e1, q0⟩ := getM_ok hL hG h
    refine ws_asg (sole_no m5) (by rfl) rfl (We.up ((allE hL hG v).1 hb C m7 S (hE.eok ρ σ) q0) ?_)
    rintro u H1 ⟨z, F1, S1, s1, r1, q1⟩
    obtain ⟨p1, _, _, _, a1, _⟩ := S1.lend e1
    refine wg_subS (sub_plain m4) (e_var C (by simp [m1, m2, m3]) a1 (We.up ((allE hL hG k).1 hb C m6 S1 ((hE.eok ρ σ).up s1) q1) ?_))
    rintro w H2 ⟨y, F2, S2, s2, r2, q2⟩
    obtain ⟨hc, q3⟩ := callM_ok hp q2
    have hc : c0 = c := hc
    subst hc
    obtain ⟨a, dx, fvs, a2, ha, _, run⟩ := mut_call (DE := D.ex) S2 e1 f3 (hE.up (s1.trans s2).s) (.cons r2 (.cons (r1.mono s2.s) .nil)) q3 (fun e gs q => by rw [put_eq] at q; exact q)
    rw [a1] at a2
    cases a2
    refine wset_own ha f1 f2.hs f2.hf ?_
    intro pins s us I rv
    refine thn (run pins s us I rv) fun _ s' ⟨v', H', I', rv', y', gs, F', S', s', _, q'⟩ => ⟨v', H', I', rv', ?_⟩
    rw [put_eq] at q'
    exact ⟨_, F', S', Same.trans' (s1.trans s2).s s', q'⟩
  · cases m
theorem ss_seti {i : Nat} {c : Cl} {j : Nat} {k v : CE} : SS b L N CL G XL fr (.seti i c j k v) := by
  intro ct cm X all sc st hb C V m fre F ρ σ H D S hE h
  unfold mS at m
  split at m
  · simp only [Bool.and_eq_true, decide_eq_true_eq] at m
    obtain ⟨⟨⟨⟨⟨⟨⟨m1, m2⟩, m3⟩, mf⟩, m4⟩, m5⟩, m6⟩, m7⟩ := m
    have hL2 : LOk (b6 X) L CL := hb ▸ hL
    have h : getM ρ i _ := h
    obtain ⟨bb, d, fs, e1, q0⟩ := getM_ok hL hG h
    obtain ⟨hcc, qq⟩ := ifB_f q0
    clear q0
    obtain ⟨hcd, ha⟩ := ifT_ok hcc
    have hcd := of_decide_eq_true hcd
    subst hcd
    obtain ⟨g1, g2⟩ := hL2.s _ (attrIn_mem ha)
    unfold getFO at qq
    rw [nth_eq] at qq
    split at qq
    · rename_i xs ej
      refine ws_asg (sole_no m5) (by rfl) rfl (We.up ((allE hL hG v).1 hb C m7 S (hE.eok ρ σ) qq) ?_)
      rintro u H1 ⟨x, F1, S1, s1, r1, q1⟩
      obtain ⟨p, dx, fvs, q, vs, a1, hp, lk, hq, rs1, _⟩ := S1.setItm e1 ej mf
      refine wg_sub (sub_plain m4) (we_fld rfl (e_var C (by simp [m1, m2, m3]) a1 ⟨p, _, dx, _, _, rfl, hp, g1, g2 _ mf, lk, We.up ((allE hL hG k).1 hb C m6 S1 ((hE.eok ρ σ).up s1) q1) ?_⟩))
      rintro w H2 ⟨y, F2, S2, s2, r2, q2⟩
      obtain ⟨n, rfl, q2'⟩ := asI_ok q2
      cases r2
      obtain ⟨p', dx', fvs', q', vs', a2, hp', lk', hq', rs2, fin⟩ := S2.setItm e1 ej mf
      rw [a1] at a2
      cases a2
      have hq2 : q' = q := by
        have k := s2.gu.keep p _ hp fun z => by
          rcases z with ⟨s, z⟩ | z
          · obtain ⟨_, _, _, _, e, _⟩ := (S1.p0 p s z).2.2
            rw [hp] at e
            cases e
          · cases z
        rw [hp'] at k
        injection k with k
        injection k with _ _ k
        rw [k, lk] at lk'
        cases lk'
        rfl
      subst hq2
      obtain ⟨jj, rfl, hj, q3⟩ := setP_ok q2'
      refine st_l hq' (j := jj) ?_ ?_
      · unfold ixN
        rw [if_pos (by omega), if_pos (by rw [← rs2.len]; omega)]
        rfl
      · have S4 := fin _ _ (rs2.set (r1.mono s2.s) jj)
        rw [put_eq] at S4
        rw [put_eq, put_eq, put_eq] at q3
        exact ⟨_, F2, S4, (s1.trans s2).s, q3⟩
    · exact qq.elim
  · cases m
theorem ss_muti {i mm : Nat} {op : Operator} {e : CE} : SS b L N CL G XL fr (.muti i mm op e) := by
  intro ct cm X all sc st hb C V m fre F ρ σ H D S hE h
  unfold mS at m
  split at m
  · simp only [Bool.and_eq_true, decide_eq_true_eq] at m
    obtain ⟨⟨⟨⟨⟨m0, rfl⟩, m1⟩, m2⟩, m3⟩, m4⟩ := m
    obtain ⟨l1, l2⟩ := C.loc m2
    have hL2 : LOk (b6 X) L CL := hb ▸ hL
    obtain ⟨c0, hk⟩ := isMi_ok m0
    obtain ⟨p, hp⟩ := mkeys_at hk
    obtain ⟨f, f1, f2, f3⟩ := hL2.mu _ _ _ hp
    have h : getM ρ i _ := h
    obtain ⟨bb, c, fs, e1, q0⟩ := getM_ok hL hG h
    obtain ⟨p1, _, _, _, a1, _⟩ := S.lend e1
    refine ws_augW (by rw [C.n]; exact C.nd) (by rw [C.n]; exact m1) l1 l2 ⟨_, a1, We.up ((allE hL hG e).1 hb C m4 S (hE.eok ρ σ) q0) ?_⟩
    rintro u H1 ⟨y, F1, S1, s1, r1, q1⟩
    obtain ⟨hc, q3⟩ := callM_ok hp q1
    have hc : c0 = c := hc
    subst hc
    obtain ⟨a, dx, fvs, a2, ha, run⟩ := mut_callI (DE := D.ex) S1 e1 f3 (hE.up s1.s) (.cons r1 .nil) q3 (fun e gs q => by rw [put_eq] at q; exact q)
    rw [a1] at a2
    cases a2
    refine wi_own ha f1 f2.hs f2.hf (Wf.imp ?_ run)
    rintro v' H' ⟨rfl, y', gs, F', S', s', q'⟩
    rw [put_eq] at q'
    rw [set_self a1]
    exact ⟨_, F', S', Same.trans' s1.s s', q'⟩
  · cases m
theorem ss_mut {t : Option Nat} {i mm : Nat} {es : CEs} : SS b L N CL G XL fr (.mut t i mm es) := by
  intro ct cm X all sc st hb C V m fre F ρ σ H D S hE h
  have hL2 : LOk (b6 X) L CL := hb ▸ hL
  -- the call
  have go : ∀ {x m' : Str} {px pa pc : Pos} {xs : List Expr} {DN : PV → Env → Prop}, isMk (L.M.map (·.1)) mm m' = true → (decide (N[i]? = some x) && visB sc x && okN x) = true → (pa.endLine == pc.line) = true → xs.length ≤ 20 → mEs N G CL cm sc es xs = true →
      getM ρ i (fun b c fs => clM L mm c <| denEs L es ρ (fun xs => callM L mm c (lowFs fs) xs (fun y gs => ifB (immP y) (DN y (put (some (.obj b c gs)) ρ i)) False) fun e gs => D.ex e (put (some (.obj b c gs)) ρ i)) fun e => D.ex e ρ) →
      We X (.Call (.Attribute (.Name x px) m' pa) xs [] pc) σ H fun v H' => ∃ y ρ' F', Stt X ct F' ρ' σ H' ∧ Same F F' ∧ Rep ⟨X.K, ct.pl⟩ F' y v ∧ DN y ρ' := by
    intro x m' px pa pc xs DN m0 mx m4 m5 m6 h
    obtain ⟨c0, hk⟩ := isMk_ok m0
    obtain ⟨p, hp⟩ := mkeys_at hk
    obtain ⟨f, f1, f2, f3, f4⟩ := hL2.mu _ _ _ hp
    obtain ⟨bb, c, fs, e1, q0⟩ := getM_ok hL hG h
    obtain ⟨p1, dx, fvs, qs, a1, ha, fv, l, _⟩ := S.lend e1
    have st := mEs_star m6
    have fin : ∀ {F2 H2 : Hp} {ys : List PV} {vs : List L2.V}, Stt X ct F2 ρ σ H2 → Same F F2 → Reps ⟨X.K, ct.pl⟩ F2 ys vs → callM L mm c (lowFs fs) ys (fun y gs => ifB (immP y) (DN y (put (some (.obj bb c gs)) ρ i)) False) (fun e gs => D.ex e (put (some (.obj bb c gs)) ρ i)) →
        Wf X (.ref f) (.ref p1 :: vs) σ H2 fun v H' => ∃ y ρ' F', Stt X ct F' ρ' σ H' ∧ Same F F' ∧ Rep ⟨X.K, ct.pl⟩ F' y v ∧ DN y ρ' := by
      intro F2 H2 ys vs S2 s2 r2 q2
      obtain ⟨hc, q3⟩ := callM_ok hp q2
      have hc : c0 = c := hc
      subst hc
      obtain ⟨a, dx, fvs, a2, ha, _, run⟩ := mut_call (DE := D.ex) S2 e1 f4 (hE.up s2) r2 q3 (fun e gs q => by rw [put_eq] at q; exact q)
      rw [a1] at a2
      cases a2
      refine Wf.imp ?_ run
      rintro v' H' ⟨y', gs, F', S', s', rv, q'⟩
      obtain ⟨_, q'⟩ := ifB_f q'
      rw [put_eq] at q'
      exact ⟨y', _, F', S', Same.trans' s2 s', rv, q'⟩
    obtain ⟨hc, q0⟩ := clM_ok hp q0
    have hc : c0 = c := hc
    have lk : ∀ (H1 : Hp), H1 p1 = some (.ins (He.ga X.K c.nm) dx (c.fs.zip fvs)) → c0 = c → ∃ a dx fs', L2.V.ref p1 = .ref a ∧ H1 a = some (.ins (He.ga X.K c0.nm) dx fs') ∧ fs'.lookup m' = none := fun H1 e z => by
      subst z
      exact ⟨p1, dx, _, rfl, e, f3 _ (zip_take (by rw [← fv.len]; exact l.1))⟩
    cases xs with
    | nil =>
      cases es with
      | nil =>
        have q0' : callM L mm c (lowFs fs) [] _ _ := q0
        refine we_meth0 f1 f2 rfl m4 (e_var C mx a1 ?_)
        obtain ⟨a, dx', fs', z1, z2, z3⟩ := lk H ha hc
        cases z1
        exact ⟨p1, dx', fs', rfl, z2, z3, fin S (fun _ _ z => z) .nil q0'⟩
      | cons e es => simp [mEs] at m6
    | cons y ys =>
      refine we_meth f1 f2 rfl m4 st m5 (e_var C mx a1 ?_)
      obtain ⟨a, dx', fs', z1, z2, z3⟩ := lk H ha hc
      cases z1
      refine ⟨p1, dx', fs', rfl, z2, z3, Wa.up ((allC hL hG es).1 hb C m6 S (hE.eok ρ σ) q0) ?_⟩
      rintro vs H2 ⟨_, ys', F2, S2, s2, r2, q2⟩
      exact fin S2 s2.s r2 q2
  unfold mS at m
  cases t with
  | none =>
    dsimp only at m
    split at m
    · simp only [Bool.and_eq_true, decide_eq_true_eq] at m
      obtain ⟨⟨⟨⟨⟨⟨m0, m1⟩, m2⟩, m3⟩, m4⟩, m5⟩, m6⟩ := m
      have h : getM ρ i _ := h
      refine ws_expr (sws_no rfl) (We.up (go (DN := fun _ ρ' => D.nx ρ') m0 (by simp [m1, m2, m3]) m4 m5 m6 h) ?_)
      rintro v H1 ⟨y, ρ', F1, S1, s1, r1, q1⟩
      exact ⟨ρ', F1, S1, s1, q1⟩
    · cases m
  | some k =>
    dsimp only at m
    split at m
    · simp only [Bool.and_eq_true, decide_eq_true_eq] at m
      obtain ⟨⟨⟨⟨⟨⟨⟨⟨⟨⟨m0, m1⟩, m2⟩, m3⟩, m4⟩, m5⟩, m6⟩, m7⟩, m8⟩, m9⟩, m10⟩ := m
      obtain ⟨l1, l2⟩ := C.loc m8
      have h : getM ρ i _ := h
      refine ws_asg (sole_no rfl) (stores_no (by simp [noTup]) (fun es p z => by cases z)) rfl (We.up (go (DN := fun y ρ' => D.nx (put (some (.val y)) ρ' k)) m0 (by simp [m1, m2, m3]) m4 m5 m6 h) ?_)
      rintro v H1 ⟨y, ρ', F1, S1, s1, r1, q1⟩
      refine wg_name (i := k) (by rw [C.n]; exact C.nd) (by rw [C.n]; exact m7) l1 l2 ?_
      rw [put_eq] at q1
      exact ⟨_, F1, S1.set r1 k, s1, q1⟩
    · cases m
end
end Pu

/-! PI4: what is never reached; a walk over new things that may be changed. -/
namespace Pu
open PySem PySem.Spec PyProof.Rows L2 Ni
/-- two stores that differ at slots g .. g + n alone -/
def GEq (g n : Nat) (σ σ' : L2.St) : Prop := σ.length = σ'.length ∧ ∀ j, (j < g ∨ g + n ≤ j) → σ[j]? = σ'[j]?
theorem GEq.refl {g n : Nat} {σ : L2.St} : GEq g n σ σ := ⟨rfl, fun _ _ => rfl⟩
theorem GEq.symm {g n : Nat} {σ σ' : L2.St} (h : GEq g n σ σ') : GEq g n σ' σ := ⟨h.1.symm, fun j l => (h.2 j l).symm⟩
theorem GEq.trans {g n : Nat} {σ σ' σ2 : L2.St} (h : GEq g n σ σ') (k : GEq g n σ' σ2) : GEq g n σ σ2 := ⟨h.1.trans k.1, fun j l => (h.2 j l).trans (k.2 j l)⟩
theorem GEq.put {g n i : Nat} {σ : L2.St} {v : Option V} (h1 : g ≤ i) (h2 : i < g + n) : GEq g n σ (σ.set i v) := ⟨by simp, fun j l => by
  rw [List.getElem?_set, if_neg (by omega)]⟩
theorem GEq.mono {g n m : Nat} {σ σ' : L2.St} (h : GEq (g + 1) n σ σ') (l : m = n + 1) : GEq g m σ σ' := ⟨h.1, fun j hj => h.2 j (by omega)⟩
theorem GEq.set {g n t : Nat} {σ σ' : L2.St} {v : Option V} (h : GEq g n σ σ') : GEq g n (σ.set t v) (σ'.set t v) := ⟨by simp [h.1], fun j l => by
  rw [List.getElem?_set, List.getElem?_set, h.1]
  by_cases e : t = j
  · rw [if_pos e, if_pos e]
  · rw [if_neg e, if_neg e]
    exact h.2 j l⟩
/-- names that stand for nothing -/
def Gho (X : Cx) (g n : Nat) : Prop := ∀ j x, g ≤ j → j < g + n → X.N[j]? = some x → ¬ Vis X.env.scope x
theorem gho_of {X : Cx} {N : List Str} {sc : Scope} {g : Nat} (e1 : X.N = N) (e2 : X.env.scope = sc) : ∀ {n : Nat}, ghoB N sc g n = true → Gho X g n
  | 0, _ => fun j x h1 h2 => absurd h2 (by omega)
  | n + 1, h => by
    unfold ghoB at h
    obtain ⟨h1, h2⟩ := Bool.and_eq_true_iff.mp h
    intro j x l1 l2 e v
    by_cases z : j < g + n
    · exact gho_of e1 e2 h1 j x l1 z e v
    · have z : j = g + n := by omega
      subst z
      rw [e1] at e
      rw [e] at h2
      have h2 := of_decide_eq_true h2
      rw [e2] at v
      unfold Vis at v
      rw [h2] at v
      rcases v with v | v | v <;> cases v
section
variable {X : Cx} {pins : List (Addr × Obj)} {σ σ' : L2.St} {H : Hp} {s : Shared} {g n : Nat}
theorem inv_gho (I : Inv X pins σ H s) (gh : Gho X g n) (e : GEq g n σ σ') : Inv X pins σ' H s := by
  obtain ⟨m, hm, hl⟩ := I.loc
  exact { I with
    loc := ⟨m, hm, fun i x v h1 h2 h3 => by
      by_cases z : i < g ∨ g + n ≤ i
      · rw [← e.2 i z] at h2
        exact hl i x v h1 h2 h3
      · exact absurd h3 (gh i x (by omega) (by omega) h1)⟩
    len := e.1.symm.trans I.len }
theorem EP.gho {Q : VK} {u : Value} (gh : Gho X g n) (e : GEq g n σ σ') (h : EP X pins σ Q u s) : EP X pins σ' Q u s :=
  let ⟨v, H', I, r, q⟩ := h
  ⟨v, H', inv_gho I gh e, r, q⟩
theorem We.gho {ex : Expr} {Q : VK} (gh : Gho X g n) (e : GEq g n σ σ') (h : We X ex σ' H Q) : We X ex σ H Q := fun pins s I => thn (h pins s (inv_gho I gh e)) fun _ _ q => EP.gho gh e.symm q
theorem Wa.gho {es : List Expr} {Q : List V → Hp → Prop} (gh : Gho X g n) (e : GEq g n σ σ') (h : Wa X es σ' H Q) : Wa X es σ H Q := fun pos pins s I => thn (h pos pins s (inv_gho I gh e)) fun _ _ q => by
  obtain ⟨vs, H', I', r, q⟩ := q
  exact ⟨vs, H', inv_gho I' gh e.symm, r, q⟩
theorem Wb.gho {b : List Stmt} {D : Ends} (gh : Gho X g n) (e : GEq g n σ σ') (h : Wb X b D σ' H) : Wb X b D σ H := fun pins s I => h pins s (inv_gho I gh e)
end
section
variable {X : Cx} {ct : Ct} {F F1 H H1 : Hp} {ρ : Env} {σ : L2.St}
/-- an instance of one's own is taken out of its slot -/
theorem Stt.takeI (S : Stt X ct F ρ σ H) {i : Nat} {m : Md} {c : Cl} {fs : List FV} (e : ρ[i]? = some (some (.obj m c fs))) (hm : m.lentB = false) : ∃ p qs, σ[i]? = some (some (.ref p)) ∧ HdOk ct.mu m p ∧ Stt X ct F (ρ.set i none) σ H ∧ Slot1 ⟨X.K, ct.pl⟩ F H ct.H0 ct.mu ct.ex (some (.obj .own c fs)) (some (.ref p)) qs ∧ qs.Nodup ∧ (∀ a ∈ qs, F a = none) ∧
    ∀ F' os, Slots ⟨X.K, ct.pl⟩ F' H ct.H0 ct.mu ct.ex (ρ.set i none) σ os → ∀ a ∈ qs, a ∉ os := by
  obtain ⟨os, hs, nd, hf⟩ := S.slots
  obtain ⟨v, q1, q2, q3, e1, rfl, h1, h2⟩ := hs.split e
  have h1' := h1
  cases h1 with
  | @obj _ _ _ qs _ _ _ vs p dx a b c1 d w hd h1 =>
    cases h1
    have hz := h2 (F' := F) (H' := H) (o' := none) (v' := some (.ref p)) (q' := []) (fun _ _ z => z) (fun _ _ => rfl) (.free .nil)
    rw [set_self e1] at hz
    rw [List.nodup_append] at nd
    obtain ⟨n1, n2, n3⟩ := nd
    rw [List.nodup_append] at n2
    obtain ⟨m1, m2, m3⟩ := n2
    refine ⟨p, p :: (qs ++ []), e1, hd, ⟨S.sub, S.gr, S.gua, S.p0, S.p1, S.m0, _, hz, ?_, fun a m => hf a ?_⟩, .obj a b c1 d (fun a m => .new ((w a m).own hm)) trivial .nil, m1, fun a m => hf a (List.mem_append_right _ (List.mem_append_left _ m)), fun F' os2 h3 a m z => ?_⟩
    · rw [List.nil_append, List.nodup_append]
      exact ⟨n1, m2, fun a ha b hb => n3 a ha b (List.mem_append_right _ hb)⟩
    · rcases List.mem_append.mp m with m | m
      · exact List.mem_append_left _ m
      · exact List.mem_append_right _ (List.mem_append_right _ (by simpa using m))
    · rw [h3.uniq hz] at z
      rcases List.mem_append.mp z with z | z
      · exact n3 a z a (List.mem_append_left _ m) rfl
      · exact m3 a m a (by simpa using z) rfl
/-- .. and put into another one -/
theorem Stt.move (S : Stt X ct F ρ σ H) {g t : Nat} {m : Md} {c : Cl} {fs : List FV} (e : ρ[g]? = some (some (.obj m c fs))) (hm : m.lentB = false) (ht : t < ρ.length) : ∃ p, σ[g]? = some (some (.ref p)) ∧ HdOk ct.mu m p ∧ Stt X ct F ((ρ.set g none).set t (some (.obj .own c fs))) (σ.set t (some (.ref p))) H := by
  obtain ⟨p, qs, e1, hd, S1, h1, nd, hf, no⟩ := S.takeI e hm
  exact ⟨p, e1, hd, S1.putS h1 nd hf no t (by rw [List.length_set]; exact ht)⟩
/-- it is held at its place -/
theorem Stt.hold (S : Stt X ct F ρ σ H) {i : Nat} {c : Cl} {fs : List FV} (e : ρ[i]? = some (some (.obj .own c fs))) : ∃ p, σ[i]? = some (some (.ref p)) ∧ Stt X ct F (ρ.set i (some (.obj (.held p) c fs))) σ H := by
  obtain ⟨os, hs, nd, hf⟩ := S.slots
  obtain ⟨v, q1, q2, q3, e1, rfl, h1, h2⟩ := hs.split e
  cases h1 with
  | @obj _ _ _ qs _ _ _ vs p dx a b c1 d w hd h1 =>
    cases h1
    have hz := h2 (F' := F) (H' := H) (o' := some (.obj (.held p) c fs)) (v' := some (.ref p)) (fun _ _ z => z) (fun _ _ => rfl) (.obj a b c1 d (fun a m => .new (w a m)) rfl .nil)
    rw [set_self e1] at hz
    exact ⟨p, e1, S.sub, S.gr, S.gua, S.p0, S.p1, S.m0, _, hz, nd, hf⟩
theorem Stt.wipeN : ∀ {n g : Nat} {ρ : Env} {σ σ' : L2.St}, Stt X ct F ρ σ H → GEq g n σ' σ → Stt X ct F (wipeN n g ρ) σ' H
  | 0, g, ρ, σ, σ', S, e => by
    have : σ' = σ := List.ext_getElem? fun j => e.2 j (by omega)
    rw [this]
    exact S
  | n + 1, g, ρ, σ, σ', S, e => by
    have S1 := S.wipe1 ((σ'[g]?).getD none) g
    rw [← put_eq] at S1
    refine Stt.wipeN (n := n) (g := g + 1) S1 ⟨by simp [e.1], fun j l => ?_⟩
    rw [List.getElem?_set]
    by_cases z : g = j
    · subst z
      rw [if_pos rfl]
      by_cases l2 : g < σ.length
      · rw [if_pos l2]
        have l3 : g < σ'.length := by rw [e.1]; exact l2
        rw [List.getElem?_eq_getElem l3]
        rfl
      · rw [if_neg l2, List.getElem?_eq_none (by rw [e.1]; omega)]
    · rw [if_neg z]
      exact e.2 j (by omega)
end
theorem optS_ok {o : Option SV} {Q : SV → Prop} (h : optS o Q) : ∃ x, o = some x ∧ Q x := by
  cases o with
  | none => exact h.elim
  | some x => exact ⟨x, rfl, h⟩
theorem hldS_ok {sv : SV} {p : Addr} {sv2 : SV} (h : hldS sv p = some sv2) : ∃ c fs, sv = .obj .own c fs ∧ sv2 = .obj (.held p) c fs := by
  unfold hldS at h
  split at h
  · cases h
    exact ⟨_, _, rfl, rfl⟩
  · cases h
section
variable {b : B6} {L : Lang} {N : List Str} {CL : List Cl} {G : List GK} {XL : List Cl} {fr : Bool} (hL : LOk b L CL) (hG : G = L.G.map (·.1))
include hL hG
theorem ss_never : SS b L N CL G XL fr .never := by
  intro ct cm X all sc st hb C V m fre F ρ σ H D S hE h
  exact h.elim
theorem denEO_ok {ct : Ct} {cm : Bool} {X : Cx} {all : Bool} {sc : Scope} (hb : b6 X = b) (C : Cok X N cm all sc ct.ex) : ∀ {es : CEs} {xs : List Expr} {g : Nat} {F : Hp} {ρ : Env} {σ : L2.St} {H : Hp} {Q : List Addr → Env → Prop} {E : Exc → Env → Prop}, mEs N G CL cm sc es xs = true → Gho X g xs.length → Stt X ct F ρ σ H → Xok X ct F E → denEO L es g ρ Q E →
    Wa X xs σ H fun vs H' => ∃ ps F' ρ' σ', vs = ps.map L2.V.ref ∧ ps.length = xs.length ∧ Stt X ct F' ρ' σ' H' ∧ Same F F' ∧ GEq g xs.length σ σ' ∧ Q ps ρ'
  | .nil, xs, g, F, ρ, σ, H, Q, E, m, gh, S, hE, h => by
    unfold mEs at m
    split at m
    · exact wa_nil ⟨[], F, ρ, σ, rfl, rfl, S, fun _ _ z => z, .refl, h⟩
    · cases m
  | .cons e es, xs, g, F, ρ, σ, H, Q, E, m, gh, S, hE, h => by
    unfold mEs at m
    split at m
    · rename_i x xs
      simp only [Bool.and_eq_true] at m
      obtain ⟨⟨m1, m2⟩, m3⟩ := m
      unfold denEO at h
      obtain ⟨fr1, h⟩ := ifB_f h
      refine wa_cons (star_cons m1) (We.up ((allE hL hG e).2.2 fr1 hb C m2 S (hE.eok ρ σ) h) ?_)
      rintro v H1 ⟨y, F1, S1, s1, r1, n1, q1⟩
      obtain ⟨sv, ht, q1⟩ := optS_ok q1
      obtain ⟨hi, q1⟩ := ifB_f q1
      have hi := Nat.blt_eq.mp hi
      obtain ⟨F2, S2, s2⟩ := S.thawT S1 s1 (n1 rfl) ht g hi
      -- its place
      obtain ⟨p, rfl⟩ : ∃ p, v = .ref p := by
        obtain ⟨sv2, e2, _⟩ := optS_ok (q1 0)
        obtain ⟨c, fs, rfl, _⟩ := hldS_ok e2
        obtain ⟨p, e3, _⟩ := S2.hold (i := g) (c := c) (fs := fs) (by rw [List.getElem?_set, if_pos rfl, if_pos hi])
        rw [List.getElem?_set, if_pos rfl, if_pos (by rw [← S.len0]; exact hi)] at e3
        cases e3
        exact ⟨p, rfl⟩
      obtain ⟨sv2, e2, q2⟩ := optS_ok (q1 p)
      obtain ⟨c, fs, rfl, rfl⟩ := hldS_ok e2
      obtain ⟨p', e3, S3⟩ := S2.hold (i := g) (c := c) (fs := fs) (by rw [List.getElem?_set, if_pos rfl, if_pos hi])
      rw [List.getElem?_set, if_pos rfl, if_pos (by rw [← S.len0]; exact hi)] at e3
      cases e3
      rw [List.set_set] at S3
      rw [put_eq] at q2
      have gh1 : Gho X (g + 1) xs.length := fun j x l1 l2 => gh j x (by omega) (by rw [List.length_cons]; omega)
      have ge : GEq g (xs.length + 1) σ (σ.set g (some (.ref p))) := .put (by omega) (by omega)
      refine Wa.gho gh ge (Wa.up (denEO_ok hb C m3 gh1 S3 (hE.up s2) q2) ?_)
      rintro vs H2 ⟨ps, F4, ρ4, σ4, rfl, l4, S4, s4, e4, q4⟩
      exact ⟨p :: ps, F4, ρ4, σ4, rfl, by simp [l4], S4, Same.trans' s2 s4, ge.trans (e4.mono rfl), q4⟩
    · cases m
theorem ss_forO {t g : Nat} {es : CEs} {x : CSs} (ix : SB b L N CL G XL fr x) : SS b L N CL G XL fr (.forO t g es x) := by
  intro ct cm X all sc st hb C V m fre F ρ σ H D S hE h
  unfold mS at m
  split at m
  · rename_i nm np xs lp body fp
    simp only [Bool.and_eq_true, decide_eq_true_eq] at m
    obtain ⟨⟨⟨⟨⟨⟨⟨⟨m1, m2⟩, m3⟩, m4⟩, m5⟩, m6⟩, m7⟩, m8⟩, m9⟩ := m
    have V1 := V m1
    obtain ⟨l1, l2⟩ := C.loc m3
    have gh : Gho X g xs.length := gho_of C.n C.sc m7
    refine ws_of (ps_for V1.pass V1.calm (pi_list We.pe) Wg.pg Wb.pss (fun x => set_id rfl x)) ?_
    show We X _ σ H _
    refine we_lst (Wa.up (denEO_ok hL hG hb C m5 gh S hE h) ?_)
    rintro vs H1 ⟨ps, F1, ρ1, σ1, rfl, lp1, S1, s1, ge1, q1⟩
    refine ⟨by rw [List.length_map, lp1]; exact Nat.le_trans m6 (by decide), fun l hl => ?_⟩
    have o1 := Own.new (vs := ps.map L2.V.ref) S1 hl
    have S2 := S1.same (same_new (o := .lst (ps.map L2.V.ref)) hl)
    obtain ⟨S3, s3⟩ := S2.frzAt o1
    refine ⟨l, rfl, ⟨_, .of upd_same⟩, ?_⟩
    have w : Walk (Itl X.K l) (ps.map L2.V.ref).length (fun H => SqL X.K H l (ps.map L2.V.ref)) _ := walk_list
    refine for_it w (fun i σ' H' => ∃ F' ρ' σ2, GEq g xs.length σ' σ2 ∧ Stt X ct F' ρ' σ2 H' ∧ Same (upd F1 l (.lst (ps.map L2.V.ref))) F' ∧ denGo (fun ρ K => denB L x ρ { D with nx := K, ct := K, bk := fun _ => False }) t (ps.drop i) (g + i) ρ' fun ρ => D.nx (wipeN ps.length g ρ)) ⟨_, ρ1, σ1, ge1, S3, fun _ _ z => z, q1⟩ ?_ ?_ ?_
    · rintro i σ' H' hi ⟨F', ρ', σ2, ge, S', s', q'⟩
      exact .of (S'.sub _ _ (s' _ _ upd_same))
    · rintro i v σ' Ha Hb hi ⟨F', ρ', σ2, ge, S', s', q'⟩ ⟨rfl, ev⟩
      rw [List.getElem?_map] at ev
      obtain ⟨p, ep, rfl⟩ := Option.map_eq_some_iff.mp ev
      have ed : ps.drop i = p :: ps.drop (i + 1) := by
        obtain ⟨l1, l2⟩ := List.getElem?_eq_some_iff.mp ep
        rw [List.drop_eq_getElem_cons l1, l2]
      rw [ed] at q'
      have qq : moveV ρ' (g + i) t p _ := q'
      clear q'
      unfold moveV at qq
      rw [nth_eq] at qq
      split at qq
      · rename_i a c fs er
        obtain ⟨rfl, qq⟩ := qq
        obtain ⟨ht, q'⟩ := ifB_f qq
        clear qq
        have ht := Nat.blt_eq.mp ht
        obtain ⟨p', e3, hd, S4⟩ := S'.move er rfl ht
        have hd : a = p' := hd
        subst hd
        refine wg_name (i := t) (by rw [C.n]; exact C.nd) (by rw [C.n]; exact m2) l1 l2 ?_
        rw [put_eq, put_eq] at q'
        refine Wb.gho gh ge.set (Wb.imp ?_ ?_ ?_ ?_ (ix (D := { D with nx := fun ρ => denGo (fun ρ K => denB L x ρ { D with nx := K, ct := K, bk := fun _ => False }) t (ps.drop (i + 1)) (g + i + 1) ρ fun ρ => D.nx (wipeN ps.length g ρ), ct := fun ρ => denGo (fun ρ K => denB L x ρ { D with nx := K, ct := K, bk := fun _ => False }) t (ps.drop (i + 1)) (g + i + 1) ρ fun ρ => D.nx (wipeN ps.length g ρ), bk := fun _ => False }) hb C V m9 fre S4 (hE.up (Same.trans' s1 (Same.trans' s3 s'))) q'))
        · rintro σ3 H3 ⟨ρ3, F3, S5, s5, q5⟩
          exact ⟨F3, ρ3, σ3, .refl, S5, Same.trans' s' s5, q5⟩
        · exact fun w H3 q => q
        · rintro σ3 H3 ⟨ρ3, F3, S5, s5, q5⟩
          exact q5.elim
        · rintro σ3 H3 ⟨ρ3, F3, S5, s5, q5⟩
          exact ⟨F3, ρ3, σ3, .refl, S5, Same.trans' s' s5, q5⟩
      · exact qq.elim
    · rintro σ' H' ⟨F', ρ', σ2, ge, S', s', q'⟩
      rw [List.length_map, List.drop_length] at q'
      have q' : D.nx (wipeN ps.length g ρ') := q'
      rw [lp1] at q'
      exact ⟨_, F', S'.wipeN ge, Same.trans' s1 (Same.trans' s3 s'), q'⟩
  · cases m
end
end Pu

/-! PJ: blocks as a whole; a def's entry; a def's call. -/
namespace Pu
open PySem PySem.Spec PyProof.Rows L2 Ni
theorem allB {N : List Str} {CL XL : List Cl} {fr : Bool} (c : CSs) : ∀ (b : B6) (L : Lang) (G : List GK), LOk b L CL → G = L.G.map (·.1) → ExOk b XL → SB b L N CL G XL fr c :=
  CSs.rec (motive_1 := fun s => (∀ i, s ≠ .frz i) → ∀ (b : B6) (L : Lang) (G : List GK), LOk b L CL → G = L.G.map (·.1) → ExOk b XL → SS b L N CL G XL fr s) (motive_2 := fun cs => ∀ (b : B6) (L : Lang) (G : List GK), LOk b L CL → G = L.G.map (·.1) → ExOk b XL → SB b L N CL G XL fr cs)
    (fun _ _ _ _ _ _ hL hG hX => ss_asg hL hG)
    (fun _ _ _ _ _ _ hL hG hX => ss_own hL hG)
    (fun i h => absurd rfl (h i))
    (fun _ _ _ _ _ _ _ hL hG hX => ss_seto hL hG)
    (fun _ _ _ _ _ _ hL hG hX => ss_app hL hG)
    (fun _ _ _ _ _ _ _ _ hL hG hX => ss_setf hL hG)
    (fun _ _ _ _ _ _ _ _ hL hG hX => ss_setfO hL hG)
    (fun _ _ _ _ _ _ hL hG hX => ss_ownE hL hG)
    (fun _ _ _ _ _ hL hG hX => ss_retI hL hG)
    (fun _ _ _ _ _ hL hG hX => ss_retO hL hG)
    (fun _ _ _ _ _ _ _ _ _ hL hG hX => ss_seti hL hG)
    (fun _ _ _ _ _ _ hL hG hX => ss_ownC hL hG)
    (fun _ _ _ _ _ _ _ _ hL hG hX => ss_par hL hG)
    (fun _ _ _ _ _ _ _ hL hG hX => ss_aug hL hG)
    (fun _ _ _ _ _ hL hG hX => ss_ret hL hG)
    (fun _ _ _ _ hL hG hX => ss_retN hL hG)
    (fun _ _ _ _ hL hG hX => ss_pass hL hG)
    (fun _ _ _ _ hL hG hX => ss_brk hL hG)
    (fun _ _ _ _ hL hG hX => ss_cont hL hG)
    (fun _ _ _ _ hL hG hX => ss_doc hL hG)
    (fun _ _ _ _ _ hL hG hX => ss_expr hL hG)
    (fun _ _ _ ia ib _ b L G hL hG hX => ss_ite hL hG (ia b L G hL hG hX) (ib b L G hL hG hX))
    (fun _ _ _ ib _ b L G hL hG hX => ss_for hL hG (ib b L G hL hG hX))
    (fun _ _ ib _ b L G hL hG hX => ss_while hL hG (ib b L G hL hG hX))
    (fun _ _ _ _ _ hL hG hX => ss_raise hL hG hX)
    (fun _ _ _ _ _ _ hL hG hX => by intro ct cm X all sc st hb C V m; unfold mS at m; cases m)
    (fun _ _ _ _ ia ib _ b L G hL hG hX => ss_try hL hG hX (ia b L G hL hG hX) ib)
    (fun _ _ _ _ _ _ _ _ hL hG hX => ss_mut hL hG)
    (fun _ _ _ _ _ _ _ hL hG hX => ss_setv hL hG)
    (fun _ _ _ _ _ _ _ _ hL hG hX => ss_muts hL hG)
    (fun _ _ _ _ _ _ _ _ hL hG hX => ss_muti hL hG)
    (fun _ _ _ _ hL hG hX => ss_retM hL hG)
    (fun _ _ _ _ hL hG hX => ss_never hL hG)
    (fun _ _ _ _ ib _ b L G hL hG hX => ss_forO hL hG (ib b L G hL hG hX))
    (fun _ _ _ hL hG hX => sb_nil hL hG)
    (fun s cs is ic b L G hL hG hX => sb_cons hL hG (fun h => is h b L G hL hG hX) (ic b L G hL hG hX)) c
/-- a promise over values, told of a heap -/
def lowSp (K : PySem.W.Frag) (sp : PSpec) : Sp := fun vs H Q E => ∃ pl F xs, Same F H ∧ PoolAt pl F H ∧ Reps ⟨K, pl⟩ F xs vs ∧
  sp.run xs (fun y => ∀ v H' F', Fwd pl F H F' H' → Same F' H' → Rep ⟨K, pl⟩ F' y v → (sp.fresh = true → NewR ⟨K, pl⟩ F' H y v) → Q v H') fun e => ∀ d H' F', Fwd pl F H F' H' → Same F' H' → XDK ⟨K, pl⟩ F' H' e d → E (.ref (He.ga K e.c.nm)) d H'
def startE (n : Nat) (xs : List PV) : Env := xs.map (fun x => some (.val x)) ++ List.replicate (n - xs.length) none
theorem Slots.frees {k : Kx} {F H H0 : Hp} {mu : List Addr} {ex : Option (Addr × Exc)} : ∀ n, Slots k F H H0 mu ex (List.replicate n none) (List.replicate n none) []
  | 0 => .nil
  | n + 1 => by
    rw [List.replicate_succ, List.replicate_succ]
    exact .free (Slots.frees n)
theorem Slots.start {k : Kx} {F H H0 : Hp} {mu : List Addr} {ex : Option (Addr × Exc)} : ∀ {xs : List PV} {vs : List V} {n : Nat}, Reps k F xs vs → Slots k F H H0 mu ex (xs.map (fun x => some (.val x)) ++ List.replicate n none) (vs.map some ++ List.replicate n none) []
  | [], _, n, h => by cases h; exact Slots.frees n
  | x :: xs, _, n, h => by
    obtain ⟨v, ws, rfl, h1, h2⟩ := h
    exact .val h1 (Slots.start h2)
abbrev ct0 (pl : Option (Addr × Addr)) (H F : Hp) : Ct := ⟨pl, [], none, H, F⟩
theorem Stt.start {X : Cx} {pl : Option (Addr × Addr)} {F H : Hp} {N : List Str} {xs : List PV} {vs : List V} (sub : Same F H) (p : PoolAt pl F H) (r : Reps ⟨X.K, pl⟩ F xs vs) : Stt X (ct0 pl H F) F (startE N.length xs) (L2.start N vs) H := by
  refine ⟨sub, .refl, gua_refl fun P s e => (p P s e).2, fun P s e => ⟨(p P s e).1, ?_, (p P s e).2⟩, fun P s e => ⟨?_, nofun, nofun⟩, nofun, [], ?_, .nil, nofun⟩
  · obtain ⟨o, e⟩ := (p P s e).2.at1
    exact fun z => by
      have z : H P = none := z
      rw [z] at e; cases e
  · obtain ⟨o, e⟩ := (p P s e).2.at2
    exact fun z => by
      have z : H s = none := z
      rw [z] at e; cases e
  · unfold startE L2.start
    rw [r.len]
    exact Slots.start r
section
variable {P : Program} {w : World} {K : PySem.W.Frag} {mg : Str → Option Value} {base : Heap}
theorem fn_goP {x qual : Str} {params : Arguments} {body : List Stmt} {scope : Scope} {dvs : List V} {kws : List (Str × V)} {f : Addr} {fd : FuncData} {N ps : List Str} {k : Nat} {sp : Sp}
    (F : FunD K x qual params body scope dvs kws f fd) (S : FnScope N ps scope) (len : ∀ vs H Q E, sp vs H Q E → vs.length = ps.length)
    (hb : ∀ (X : Cx), X.prog = P → X.w = w → X.K = K → X.mg = mg → X.base = base → X.env.scope = scope → X.N = N → (∀ y, X.fn y = true) → Env1 X → Room k X.A → ∀ (vs : List V) (H : Hp) (Q : VK) (E : XK),
      (∀ cls d σ H', E cls d H' → XW X cls d σ H') → sp vs H Q E → Wb X body { nx := fun _ H' => Q .non H', rt := Q } (L2.start N vs) H) :
    FnOk P w K mg base (L2.CX P w) (k + 1) f fd ps sp := by
  refine F.ok S len fun cdv A outer s H vs Q E hr h => ?_
  refine ⟨_, Wb.pss, hb (cxOf (L2.CX P w) P w K mg base N qual scope f cdv A outer s H E) rfl rfl rfl rfl rfl rfl rfl (fun _ => rfl) ⟨rfl, rfl, rfl, passes_of rfl⟩ hr vs H Q E (fun cls d σ H' q => ?_) h⟩
  exact xw_of (takes_of (E := E) rfl rfl rfl rfl) q
/-- a def keeps a promise over values, by its code -/
theorem pfn {x qual : Str} {params : Arguments} {body : List Stmt} {scope : Scope} {dvs : List V} {kws : List (Str × V)} {f : Addr} {fd : FuncData} {N ps : List Str} {k : Nat} {sp : PSpec} {L : Lang} {CL XL : List Cl} {code : CSs}
    (F : FunD K x qual params body scope dvs kws f fd) (S : FnScope N ps scope) (hL : ∀ A, Room k A → LOk ⟨P, w, K, mg, base, A⟩ L CL) (hX : ∀ A, ExOk ⟨P, w, K, mg, base, A⟩ XL)
    (hm : mB N (L.G.map (·.1)) CL XL (L.M.map (·.1)) true true scope code body = true) (hf : sp.fresh = true → retsB L code = true) (hd : ∀ xs Q E, sp.run xs Q E → xs.length = ps.length ∧ denB L code (startE N.length xs) { nx := fun _ => Q .non, rt := fun x _ => Q x, ex := fun e _ => E e }) : FnOk P w K mg base (L2.CX P w) (k + 1) f fd ps (lowSp K sp) := by
  refine fn_goP F S ?_ ?_
  · rintro vs H Q E ⟨pl, F, xs, h1, h2, h3, h4⟩
    rw [← h3.len]
    exact (hd _ _ _ h4).1
  · intro X e1 e2 e3 e4 e5 e6 e7 e8 V1 hr vs H Q E hE h
    subst e1 e2 e3 e4 e5
    obtain ⟨pl, F, xs, h1, h2, h3, h4⟩ := h
    obtain ⟨_, hden⟩ := hd _ _ _ h4
    have St := Stt.start (N := N) h1 h2 h3
    refine Wb.imp (D := lift sp.fresh X (ct0 pl H F) F _) ?_ ?_ ?_ ?_ (allB code (b6 X) L _ (hL X.A hr) rfl (hX X.A) (ct := ct0 pl H F) rfl ⟨e7, S.nd, e6, fun _ => e8, fun _ => rfl, fun _ _ z => (nomatch z), fun _ => V1.calm⟩ (fun _ => V1) hm hf St ?_ hden)
    · rintro σ' H' ⟨ρ', F', S', s', q⟩
      exact q .non H' F' ⟨S'.gr, S'.gua⟩ S'.sub rfl fun _ => newr_imm rfl rfl
    · rintro v H' (⟨y, F', ρ', σ', S', a3, n3, q⟩ | ⟨_, _, _, _, _, _, _, q⟩)
      · exact q v H' F' ⟨S'.gr, S'.gua⟩ S'.sub a3 n3
      · exact q.elim
    · rintro σ' H' ⟨ρ', F', S', s', q⟩
      exact q.elim
    · rintro σ' H' ⟨ρ', F', S', s', q⟩
      exact q.elim
    · intro e ρ' F' σ' H' d S' _ xd q
      exact hE _ _ _ _ (q d H' F' ⟨S'.gr, S'.gua⟩ S'.sub xd)
end
/-- a def, called -/
theorem cal_fn {b : B6} {k : Nat} {f : Addr} {ps : List Str} {sp : PSpec} (O : OkD b.prog b.w b.K b.mg b.base k f ps [] (lowSp b.K sp)) (hr : Room k b.A) : Cal b (.ref f) sp := by
  intro X hb ct F ρ σ H xs vs Q E S r h hE
  subst hb
  refine wf_ok O hr ⟨ct.pl, F, xs, S.sub, fun P s e => ⟨(S.p0 P s e).1, (S.p0 P s e).2.2⟩, by rw [List.append_nil]; exact r, sp.mono ?_ ?_ h⟩
  · intro y q v H' F' g sub rep n
    exact ⟨y, F', S.called g.gu g.gr sub, g, rep, n, q⟩
  · intro e q d H' F' g sub xd
    exact hE e d F' H' (S.called g.gu g.gr sub) g.s xd q
/-- .. with defaults -/
def PSpec.dflt (sp : PSpec) (ds : List PV) : PSpec where
  fresh := sp.fresh
  run := fun xs Q E => sp.run (xs ++ ds) Q E
  mono := fun h1 h2 h => sp.mono h1 h2 h
theorem cal_fnD {b : B6} {k : Nat} {f : Addr} {ps : List Str} {sp : PSpec} {dvs : List V} {dxs : List PV} (hd : ∀ k F, Reps k F dxs dvs) (O : OkD b.prog b.w b.K b.mg b.base k f ps dvs (lowSp b.K sp)) (hr : Room k b.A) : Cal b (.ref f) (sp.dflt dxs) := by
  intro X hb ct F ρ σ H xs vs Q E S r h hE
  subst hb
  refine wf_ok O hr ⟨ct.pl, F, xs ++ dxs, S.sub, fun P s e => ⟨(S.p0 P s e).1, (S.p0 P s e).2.2⟩, r.append (hd _ _), sp.mono ?_ ?_ h⟩
  · intro y q v H' F' g sub rep n
    exact ⟨y, F', S.called g.gu g.gr sub, g, rep, n, q⟩
  · intro e q d H' F' g sub xd
    exact hE e d F' H' (S.called g.gu g.gr sub) g.s xd q
/-- a promise by cases of the arguments, without errors: p says what may come back -/
def PSpec.fn (p : List PV → (PV → Prop) → Prop) (m : ∀ {xs Q Q'}, (∀ x, Q x → Q' x) → p xs Q → p xs Q') : PSpec where
  run := fun xs Q _ => p xs Q
  mono := fun h1 _ h => m h1 h
end Pu

/-! PJ2: defs that change their first argument; instances made. -/
namespace Pu
open PySem PySem.Spec PyProof.Rows L2 Ni
def startM (n : Nat) (c : Cl) (fs : List FV) (xs : List PV) : Env := some (.obj .lent c fs) :: startE (n - 1) xs
/-- the first argument, at the end -/
def selfAt (ρ : Env) (c : Cl) (Q : List FV → Prop) : Prop := match ρ with
  | some (.obj .lent d gs) :: _ => ifB (decide (d = c)) (Q gs) False
  | _ => False
abbrev ctM (pl : Option (Addr × Addr)) (mu : List Addr) (H F : Hp) : Ct := ⟨pl, mu, none, H, F⟩
section
variable {X : Cx} {pl : Option (Addr × Addr)} {F H : Hp} {c : Cl} {fs : List FV} {fvs : List V} {p dx : Addr} {qs : List Addr}
theorem Stt.startM {N : List Str} {xs : List PV} {ws : List V} (hN : 0 < N.length) (sub : Same F H) (hp : PoolAt pl F H) (np : ∀ P s, pl = some (P, s) → P ∉ p :: qs ∧ s ∉ p :: qs) (r : Reps ⟨X.K, pl⟩ F xs ws) (ha : H p = some (.ins (He.ga X.K c.nm) dx (c.fs.zip fvs))) (hf : FVs ⟨X.K, pl⟩ F H H fs fvs qs)
    (l : fs.length ≤ c.fs.length) (nr : c ≠ .ratio) (nd : (p :: qs).Nodup) (no : ∀ a ∈ p :: qs, F a = none) : Stt X (ctM pl (p :: qs) H F) F (Pu.startM N.length c fs xs) (L2.start N (.ref p :: ws)) H := by
  refine ⟨sub, .refl, ⟨fun _ _ z _ => z, fun P s e => (hp P s e).2, fun a _ z => z⟩, fun P s e => ⟨(hp P s e).1, ?_, (hp P s e).2⟩, fun P s e => ⟨?_, np P s e⟩, fun a m => ?_, p :: (qs ++ []), ?_, by rw [List.append_nil]; exact nd, by rw [List.append_nil]; exact no⟩
  · obtain ⟨o, e⟩ := (hp P s e).2.at1
    exact fun z => by
      have z : H P = none := z
      rw [z] at e; cases e
  · obtain ⟨o, e⟩ := (hp P s e).2.at2
    exact fun z => by
      have z : H s = none := z
      rw [z] at e; cases e
  · rcases List.mem_cons.mp m with rfl | m
    · exact ⟨_, ha, ins_nimm nr⟩
    · obtain ⟨us, e⟩ := hf.at_ a m
      exact ⟨_, e, imm_lst⟩
  · have e1 : L2.start N (.ref p :: ws) = some (.ref p) :: (ws.map some ++ List.replicate (N.length - 1 - ws.length) none) := by
      unfold L2.start
      rw [List.map_cons, List.cons_append, List.length_cons, Nat.sub_sub, Nat.add_comm]
    rw [e1]
    unfold Pu.startM startE
    rw [r.len]
    exact .obj ha hf l nr (fun a m => .inr m) (rfl) (Slots.start r)
theorem selfAt_ok {ct : Ct} {F' H' : Hp} {ρ : Env} {σ : L2.St} {Q : List FV → Prop} (hc : ct = ctM pl (p :: qs) H F) (S : Stt X ct F' ρ σ H') (h : selfAt ρ c Q) : ∃ gs gvs qs', OwnAt X.K pl c p F H F' H' qs gs gvs qs' ∧ Q gs := by
  subst hc
  unfold selfAt at h
  split at h
  · rename_i d gs ρ'
    obtain ⟨e, q⟩ := ifB_f h
    have e := of_decide_eq_true e
    subst e
    obtain ⟨os, hs, nd, no⟩ := S.slots
    cases hs with
    | obj a b l nr w hd h' =>
      have e1 := hd
      cases e1
      have nd2 := (List.nodup_append (l₁ := _ :: _)).mp nd
      refine ⟨gs, _, _, ⟨S.gr, S.gua, S.sub, ⟨_, a⟩, b, l, nd2.1, fun a' m => no a' (List.mem_append_left _ (as := _ :: _) m), fun a' m => ?_⟩, q⟩
      exact w a' (.tail _ m)
  · exact h.elim
end
section
variable {P : Program} {w : World} {K : PySem.W.Frag} {mg : Str → Option Value} {base : Heap}
/-- a def that changes its first argument keeps a promise, by its code -/
theorem pfnM {x qual : Str} {params : Arguments} {body : List Stmt} {scope : Scope} {dvs : List V} {kws : List (Str × V)} {f : Addr} {fd : FuncData} {N ps : List Str} {k : Nat} {mp : MSpec} {L : Lang} {CL XL : List Cl} {code : CSs}
    (F : FunD K x qual params body scope dvs kws f fd) (S : FnScope N ps scope) (hN : 0 < N.length) (hL : ∀ A, Room k A → LOk ⟨P, w, K, mg, base, A⟩ L CL) (hX : ∀ A, ExOk ⟨P, w, K, mg, base, A⟩ XL)
    (hm : mB N (L.G.map (·.1)) CL XL (L.M.map (·.1)) true true scope code body = true) (hd : ∀ c fs xs Q E, mp.run c fs xs Q E → xs.length + 1 = ps.length ∧ denB L code (Pu.startM N.length c fs xs) { nx := fun ρ => selfAt ρ c (Q .non), rt := fun y ρ => selfAt ρ c (Q y), ex := fun e ρ => selfAt ρ c (E e) }) : FnOk P w K mg base (L2.CX P w) (k + 1) f fd ps (lowM K mp) := by
  refine fn_goP F S ?_ ?_
  · rintro vs H Q E ⟨pl, F, c, fs, xs, p, ws, dx, fvs, qs, rfl, h1, h2, h3, h4, h5, h6, h7, h8, h9, h10⟩
    rw [← (hd _ _ _ _ _ h10).1, List.length_cons, h4.len]
  · intro X e1 e2 e3 e4 e5 e6 e7 e8 V1 hr vs H Q E hE h
    subst e1 e2 e3 e4 e5
    obtain ⟨pl, F, c, fs, xs, p, ws, dx, fvs, qs, rfl, h1, h2, h3, h4, h5, h6, ⟨h7, h7'⟩, h8, h9, h10⟩ := h
    obtain ⟨_, hden⟩ := hd _ _ _ _ _ h10
    have St := Stt.startM (N := N) hN h1 h2 h3 h4 h5 h6 h7 h7' h8 h9
    refine Wb.imp (D := lift false X (ctM pl (p :: qs) H F) F _) ?_ ?_ ?_ ?_ (allB (fr := false) code (b6 X) L _ (hL X.A hr) rfl (hX X.A) (ct := ctM pl (p :: qs) H F) rfl ⟨e7, S.nd, e6, fun _ => e8, fun _ => rfl, fun _ _ z => (nomatch z), fun _ => V1.calm⟩ (fun _ => V1) hm (fun z => (by cases z)) St ?_ hden)
    · rintro σ' H' ⟨ρ', F', S', s', q⟩
      obtain ⟨gs, gvs, qs', o, q⟩ := selfAt_ok rfl S' q
      exact q .non H' F' gvs qs' o rfl
    · rintro v H' (⟨y, F', ρ', σ', S', a3, _, q⟩ | ⟨_, _, _, _, _, _, _, q⟩)
      · obtain ⟨gs, gvs, qs', o, q⟩ := selfAt_ok rfl S' q
        exact q v H' F' gvs qs' o a3
      · exact q.elim
    · rintro σ' H' ⟨ρ', F', S', s', q⟩
      exact q.elim
    · rintro σ' H' ⟨ρ', F', S', s', q⟩
      exact q.elim
    · intro e ρ' F' σ' H' d S' _ xd q
      obtain ⟨gs, gvs, qs', o, q⟩ := selfAt_ok rfl S' q
      exact hE _ _ _ _ (q d H' F' gvs qs' o xd)
/-- a def of an in-place sign: it gives its first argument back -/
theorem pfnI {x qual : Str} {params : Arguments} {body : List Stmt} {scope : Scope} {dvs : List V} {kws : List (Str × V)} {f : Addr} {fd : FuncData} {N ps : List Str} {k : Nat} {mp : MSpec} {L : Lang} {CL XL : List Cl} {code : CSs}
    (F : FunD K x qual params body scope dvs kws f fd) (S : FnScope N ps scope) (hN : 0 < N.length) (hL : ∀ A, Room k A → LOk ⟨P, w, K, mg, base, A⟩ L CL) (hX : ∀ A, ExOk ⟨P, w, K, mg, base, A⟩ XL)
    (hm : mB N (L.G.map (·.1)) CL XL (L.M.map (·.1)) true true scope code body = true) (hd : ∀ c fs xs Q E, mp.run c fs xs Q E → xs.length + 1 = ps.length ∧ denB L code (Pu.startM N.length c fs xs) { nx := fun _ => False, rt := fun _ _ => False, ex := fun e ρ => selfAt ρ c (E e), rs := fun ρ => selfAt ρ c (Q .non) }) : FnOk P w K mg base (L2.CX P w) (k + 1) f fd ps (lowI K mp) := by
  refine fn_goP F S ?_ ?_
  · rintro vs H Q E ⟨pl, F, c, fs, xs, p, ws, dx, fvs, qs, rfl, h1, h2, h3, h4, h5, h6, h7, h8, h9, h10⟩
    rw [← (hd _ _ _ _ _ h10).1, List.length_cons, h4.len]
  · intro X e1 e2 e3 e4 e5 e6 e7 e8 V1 hr vs H Q E hE h
    subst e1 e2 e3 e4 e5
    obtain ⟨pl, F, c, fs, xs, p, ws, dx, fvs, qs, rfl, h1, h2, h3, h4, h5, h6, ⟨h7, h7'⟩, h8, h9, h10⟩ := h
    obtain ⟨_, hden⟩ := hd _ _ _ _ _ h10
    have St := Stt.startM (N := N) hN h1 h2 h3 h4 h5 h6 h7 h7' h8 h9
    refine Wb.imp (D := lift false X (ctM pl (p :: qs) H F) F _) ?_ ?_ ?_ ?_ (allB (fr := false) code (b6 X) L _ (hL X.A hr) rfl (hX X.A) (ct := ctM pl (p :: qs) H F) rfl ⟨e7, S.nd, e6, fun _ => e8, fun _ => rfl, fun _ _ z => (nomatch z), fun _ => V1.calm⟩ (fun _ => V1) hm (fun z => (by cases z)) St ?_ hden)
    · rintro σ' H' ⟨ρ', F', S', s', q⟩
      exact q.elim
    · rintro v H' (⟨y, F', ρ', σ', S', a3, _, q⟩ | ⟨p2, F', ρ', σ', e2, rfl, S', q⟩)
      · exact q.elim
      · obtain ⟨gs, gvs, qs', o, q⟩ := selfAt_ok rfl S' q
        have e2 : some p = some p2 := e2
        cases e2
        exact q H' F' gvs qs' o
    · rintro σ' H' ⟨ρ', F', S', s', q⟩
      exact q.elim
    · rintro σ' H' ⟨ρ', F', S', s', q⟩
      exact q.elim
    · intro e ρ' F' σ' H' d S' _ xd q
      obtain ⟨gs, gvs, qs', o, q⟩ := selfAt_ok rfl S' q
      exact hE _ _ _ _ (q d H' F' gvs qs' o xd)
end
/-- an instance made, by its class's __init__ -/
def MSpec.new (mp : MSpec) (c : Cl) : PSpec where
  fresh := true
  run := fun xs Q E => mp.run c [] xs (fun y gs => y = .non ∧ freshFVs gs = true ∧ Q (.obj c (gs.map FV.pv))) fun e _ => E e
  mono := fun h1 h2 h => mp.mono (fun _ _ q => ⟨q.1, q.2.1, h1 _ q.2.2⟩) (fun _ _ q => h2 _ q) h
theorem cal_new {b : B6} {k : Nat} {f : Addr} {ps : List Str} {mp : MSpec} {c : Cl} (M : Mk b.K (He.ga b.K c.nm) f) (O : OkD b.prog b.w b.K b.mg b.base k f ps [] (lowM b.K mp)) (hr : Room (k + 1) b.A) (nr : c ≠ .ratio) : Cal b (.ref (He.ga b.K c.nm)) (mp.new c) := by
  classical
  intro X hb ct F ρ σ H xs vs Q E S r h hE
  subst hb
  refine wf_new M O hr fun x dx hx hdx ne => ?_
  have n1 : ∀ a, a ≠ x → a ≠ dx → upd (upd H dx (.own x)) x (.ins (He.ga X.K c.nm) dx []) a = H a := fun a y z => by rw [upd_ne y, upd_ne z]
  have sF : Same F (upd (upd H dx (.own x)) x (.ins (He.ga X.K c.nm) dx [])) := fun a o e => by
    have e2 := S.sub a o e
    rw [n1 a (fun z => by subst z; rw [hx] at e2; cases e2) (fun z => by subst z; rw [hdx] at e2; cases e2)]
    exact e2
  have bk : ∀ a, upd (upd H dx (.own x)) x (.ins (He.ga X.K c.nm) dx []) a = none → H a = none := fun a e => by
    by_cases y : a = x
    · subst y; exact hx
    · by_cases z : a = dx
      · subst z; exact hdx
      · rw [n1 a y z] at e; exact e
  have pne : ∀ P s, ct.pl = some (P, s) → (P ≠ x ∧ P ≠ dx) ∧ s ≠ x ∧ s ≠ dx := fun P s e => by
    obtain ⟨o1, e1⟩ := (S.p0 P s e).2.2.at1
    obtain ⟨o2, e2⟩ := (S.p0 P s e).2.2.at2
    refine ⟨⟨fun z => ?_, fun z => ?_⟩, fun z => ?_, fun z => ?_⟩
    · subst z; rw [hx] at e1; cases e1
    · subst z; rw [hdx] at e1; cases e1
    · subst z; rw [hx] at e2; cases e2
    · subst z; rw [hdx] at e2; cases e2
  -- back at the caller
  have back : ∀ {H' F' : Hp}, Gua ct.pl [x] (upd (upd H dx (.own x)) x (.ins (He.ga X.K c.nm) dx [])) H' → Grow F (upd (upd H dx (.own x)) x (.ins (He.ga X.K c.nm) dx [])) F' → Gua ct.pl [] H H' ∧ Grow F H F' := fun {H' F'} g gr => by
    refine ⟨⟨fun a o e n => ?_, g.pool, nofun⟩, gr.s, fun a o e => ?_⟩
    · have y : a ≠ x := fun z => by subst z; rw [hx] at e; cases e
      have z : a ≠ dx := fun z => by subst z; rw [hdx] at e; cases e
      refine g.keep a o (by rw [n1 a y z]; exact e) fun q => n ?_
      rcases q with q | q
      · exact .inl q
      · simp at q; exact absurd q y
    · rcases gr.n a o e with z | z | ⟨z, i⟩
      · exact .inl z
      · exact .inr (.inl (bk a z))
      · have y : a ≠ x := fun y => by
          subst y
          rw [upd_same] at z
          cases z
          exact ins_nimm (vs := []) nr (by simpa using i)
        have y2 : a ≠ dx := fun y2 => by
          subst y2
          rw [upd_ne ne, upd_same] at z
          cases z
          rcases i with ⟨_, _, _, i⟩ | ⟨_, i⟩ <;> cases i
        rw [n1 a y y2] at z
        exact .inr (.inr ⟨z, i⟩)
  refine ⟨ct.pl, F, c, [], xs, x, vs ++ [], dx, [], [], rfl, sF, fun P s e => ?_, fun P s e => ?_, by rw [List.append_nil]; exact r, by rw [upd_same, List.zip_nil_right], .nil, ⟨Nat.zero_le _, nr⟩, by simp, fun a m => ?_, mp.mono ?_ ?_ h⟩
  · obtain ⟨⟨a1, a2⟩, a3, a4⟩ := pne P s e
    exact ⟨(S.p0 P s e).1, (S.p0 P s e).2.2.keep (n1 P a1 a2) (n1 s a3 a4)⟩
  · obtain ⟨⟨a1, a2⟩, a3, a4⟩ := pne P s e
    exact ⟨by simpa using a1, by simpa using a3⟩
  · simp at m
    subst m
    exact S.fnone hx
  · rintro y gs ⟨rfl, ff, q⟩ v H' F' gvs qs' o rv
    cases rv
    refine ⟨rfl, ?_⟩
    obtain ⟨g1, g2⟩ := back o.gu o.gr
    obtain ⟨dx', a'⟩ := o.at_
    have new : ∀ a ∈ x :: qs', H a = none := fun a m => by
      rcases List.mem_cons.mp m with rfl | m
      · exact hx
      · rcases o.nw a m with z | z
        · exact bk a z
        · simp at z; subst z; exact hx
    let FS : Hp := fun a => if a ∈ x :: qs' then H' a else F' a
    have sm : Same F' FS := fun a u e => by
      have n : a ∉ x :: qs' := fun m => by rw [o.no a m] at e; cases e
      exact (if_neg n).trans e
    have at1 : ∀ a ∈ x :: qs', FS a = H' a := fun a m => if_pos m
    have sub : Same FS H' := fun a u e => by
      by_cases m : a ∈ x :: qs'
      · exact (at1 a m).symm.trans e
      · exact o.sub a u ((if_neg m).symm.trans e)
    have gr : Grow F H FS := ⟨Same.trans' g2.s sm, fun a u e => by
      by_cases m : a ∈ x :: qs'
      · exact .inr (.inl (new a m))
      · exact g2.n a u ((if_neg m).symm.trans e)⟩
    have fv := o.fv.backH bk
    have len : (gs.map FV.pv).length ≤ c.fs.length := by rw [List.length_map]; exact o.len
    have atx : FS x = some (.ins (He.ga X.K c.nm) dx' (c.fs.zip gvs)) := (at1 x (.head _)).trans a'
    obtain ⟨Fn, m1, m2, m3⟩ := fv.newr sm ff fun q mq => ⟨at1 q (.tail _ mq), new q (.tail _ mq)⟩
    have so : Same (oneH x (HO.ins (He.ga X.K c.nm) dx' (c.fs.zip gvs))) FS := fun a u e => by
      obtain ⟨rfl, rfl⟩ := oneH_of e
      exact atx
    refine ⟨.obj c (gs.map FV.pv), FS, S.called g1 gr sub, ⟨gr, g1⟩, ⟨x, dx', gvs, rfl, atx, ⟨len, nr⟩, fv.reps sm fun q mq => at1 q (.tail _ mq)⟩, fun _ => ⟨unionH (oneH x (HO.ins (He.ga X.K c.nm) dx' (c.fs.zip gvs))) Fn, fun a u e => (unionH_or e).elim (so a u) (m1 a u), fun a u e => ?_, ⟨x, dx', gvs, rfl, unionH_l x _ oneH_at, ⟨len, nr⟩, m3.mono (unionH_r so m1)⟩⟩, q⟩
    rcases unionH_or e with y | y
    · obtain ⟨rfl, _⟩ := oneH_of y
      exact .inl hx
    · exact m2 a u y
  · intro e gs q d H' F' gvs qs' o xd
    obtain ⟨g1, g2⟩ := back o.gu o.gr
    exact hE e d F' H' (S.called g1 g2 o.sub) g2.s xd q
end Pu

/-! PK: what the operators do, over values. -/
namespace Rt
open PySem PySem.Spec PyProof.Rows L2 Ni
/-- the size of a fraction -/
def Sz (q : Rat) (k : Nat) : Prop := Bd q.num k ∧ Bd (q.den : Int) k
theorem sz_of {t b : Int} {k : Nat} (h : b ≠ 0) (ht : Bd t k) (hb : Bd b k) : Sz (Rat.divInt t b) k := ⟨ht.of_abs (sz_top h), hb.of_abs (sz_bot h)⟩
theorem Sz.mono {q : Rat} {k m : Nat} (h : Sz q k) (l : k ≤ m) : Sz q m := ⟨h.1.mono l, h.2.mono l⟩
/-- two fractions small enough to be reckoned with -/
def Mz (q r : Rat) : Prop := ∃ k m, Sz q k ∧ Sz r m ∧ k + m ≤ 8990
end Rt
namespace Pu
open PySem PySem.Spec PyProof.Rows L2 Ni Rt
def MulOk (a b : Int) : Prop := ∃ k m, Bd a k ∧ Bd b m ∧ k + m < 999990
def DivOk (b : Int) : Prop := b ≠ 0 ∧ ∃ k, Bd b k ∧ 0 < k ∧ k ≤ 9000
/-- a number's value -/
def numP : PV → Option Rat
  | .int n => some n
  | .rat q => some q
  | _ => none
mutual
def pd : PV → PyData
  | .bl b => .bool b
  | .int n => .int n
  | .str s => .str s
  | .lst xs => .list (pds xs)
  | .tup xs => .tuple (pds xs)
  | _ => .none
def pds : List PV → List PyData
  | [] => []
  | x :: xs => pd x :: pds xs
end
mutual
/-- plain data -/
def datP : Nat → PV → Bool
  | _, .non => true
  | _, .bl _ => true
  | _, .int _ => true
  | _, .str s => PyData.strOk s
  | n + 1, .lst xs => datPs n xs
  | n + 1, .tup xs => datPs n xs
  | _, _ => false
def datPs : Nat → List PV → Bool
  | _, [] => true
  | n, x :: xs => datP n x && datPs n xs
end
def eqP (x y : PV) : Bool := PyData.eqv (pd x) (pd y)
inductive TK where
  | int | bool | str | tuple | list | non | cl (c : Cl)
  deriving DecidableEq
def tkOf : PV → Option TK
  | .non => some .non
  | .bl _ => some .bool
  | .int _ => some .int
  | .str _ => some .str
  | .lst _ => some .list
  | .tup _ => some .tuple
  | .rat _ => some (.cl .ratio)
  | .obj c _ => some (.cl c)
  | _ => none
def tkTy : PV → Option TK
  | .ty .int => some .int
  | .ty .bool => some .bool
  | .ty .str => some .str
  | .ty .tuple => some .tuple
  | .cls c => some (.cl c)
  | _ => none
/-- the signs between numbers of which one at least is a fraction -/
def binR (op : Operator) (q r : Rat) (Q : PV → Prop) : Prop := match op with
  | .Add => Mz q r ∧ Q (.rat (q + r))
  | .Sub => Mz q r ∧ Q (.rat (q - r))
  | .Mult => Mz q r ∧ Q (.rat (q * r))
  | _ => False
def cmpR (op : CmpOp) (q r : Rat) (Q : PV → Prop) : Prop := match op with
  | .Lt => Mz q r ∧ Q (.bl (decide (q < r)))
  | .LtE => Mz q r ∧ Q (.bl (decide (q ≤ r)))
  | .Gt => Mz q r ∧ Q (.bl (decide (r < q)))
  | .GtE => Mz q r ∧ Q (.bl (decide (r ≤ q)))
  | .Eq => Mz q r ∧ Q (.bl (decide (q = r)))
  | .NotEq => Mz q r ∧ Q (.bl (!decide (q = r)))
  | _ => False
def binI (op : Operator) (a b : Int) (Q : PV → Prop) : Prop := match op with
  | .Add => Q (.int (a + b))
  | .Sub => Q (.int (a - b))
  | .Mult => MulOk a b ∧ Q (.int (a * b))
  | .FloorDiv => DivOk b ∧ Q (.int (a.fdiv b))
  | .Mod => 0 < b ∧ Q (.int (a % b))
  | .Pow => (0 ≤ b ∧ b ≤ 1000000 ∧ a.natAbs < 2 ^ 64) ∧ Q (.int (a ^ b.toNat))
  | _ => False
def cmpI (op : CmpOp) (a b : Int) (Q : PV → Prop) : Prop := match op with
  | .Lt => Q (.bl (decide (a < b)))
  | .LtE => Q (.bl (decide (a ≤ b)))
  | .Gt => Q (.bl (decide (b < a)))
  | .GtE => Q (.bl (decide (b ≤ a)))
  | .Eq => Q (.bl (decide (a = b)))
  | .NotEq => Q (.bl (!decide (a = b)))
  | _ => False
def isNonP : PV → Bool
  | .non => true
  | _ => false
def cmpD (op : CmpOp) (x y : PV) (Q : PV → Prop) : Prop := match op with
  | .Eq => (datP 60 x = true ∧ datP 60 y = true) ∧ Q (.bl (eqP x y))
  | .NotEq => (datP 60 x = true ∧ datP 60 y = true) ∧ Q (.bl (!eqP x y))
  | .Is => isNonP y = true ∧ Q (.bl (isNonP x))
  | .IsNot => isNonP y = true ∧ Q (.bl (!isNonP x))
  | _ => False
def tabO (tab : TK → TK → Option Bool) (a b : Option TK) : Option Bool := match a with
  | some a => (match b with
    | some b => tab a b
    | none => none)
  | none => none
def isi3 (o : Option Bool) (Q : PV → Prop) : Prop := match o with
  | some r => Q (.bl r)
  | none => False
variable (tab : TK → TK → Option Bool)
/-- what is no number -/
def nonN (y : PV) : Bool := match tkOf y with
  | some .non => true
  | some .str => true
  | some .list => true
  | some .tuple => true
  | _ => false
def nonNOk : Bool := [TK.non, .str, .list, .tuple].all fun a => decide (tab a .int = some false) && decide (tab a (.cl .ratio) = some false)
def cmpN (op : CmpOp) (y : PV) (Q : PV → Prop) : Prop := match op with
  | .Eq => (nonNOk tab = true ∧ nonN y = true) ∧ Q (.bl false)
  | .NotEq => (nonNOk tab = true ∧ nonN y = true) ∧ Q (.bl true)
  | _ => False
def opB (b : Bi) (xs : List PV) (Q : PV → Prop) : Prop := match b, xs with
  | .len, [.lst xs] => Q (.int xs.length)
  | .len, [.tup xs] => Q (.int xs.length)
  | .abs, [.int n] => Q (.int (if n < 0 then -n else n))
  | .abs, [.rat q] => Sz q 8990 ∧ Q (.rat q.abs)
  | .int, [.int n] => Q (.int n)
  | .int, [.bl c] => Q (.int (if c = true then 1 else 0))
  | .bool, [.bl c] => Q (.bl c)
  | .bool, [.rat q] => Q (.bl (!decide (q = 0)))
  | .str, [.int n] => Bd n 1920 ∧ Q (.str (toString n))
  | .gcd, [.int a, .int b] => Q (.int (Nat.gcd a.natAbs b.natAbs : Nat))
  | .tuple, [.lst xs] => Q (.tup xs)
  | .isi, [x, t] => isi3 (tabO tab (tkOf x) (tkTy t)) Q
  | _, _ => False
def opP (k : OpK) (xs : List PV) (Q : PV → Prop) : Prop := match k, xs with
  | .bin op, [.int a, .int b] => binI op a b Q
  | .bin op, [.rat q, .rat r] => binR op q r Q
  | .bin op, [.rat q, .int n] => binR op q n Q
  | .bin op, [.int n, .rat r] => binR op n r Q
  | .ipl op, [.int a, .int b] => (match op with
    | .Add => Q (.int (a + b))
    | .Sub => Q (.int (a - b))
    | _ => False)
  | .ipl op, [.rat q, .rat r] => (match op with
    | .Add => Mz q r ∧ Q (.rat (q + r))
    | .Mult => Mz q r ∧ Q (.rat (q * r))
    | _ => False)
  | .cmp op, [.int a, .int b] => cmpI op a b Q
  | .cmp op, [.rat q, .rat r] => cmpR op q r Q
  | .cmp op, [.rat q, .int n] => cmpR op q n Q
  | .cmp op, [.int n, .rat r] => cmpR op n r Q
  | .cmp op, [.rat q, y] => cmpN tab op y Q
  | .cmp op, [x, y] => cmpD op x y Q
  | .neg, [.int n] => Q (.int (-n))
  | .neg, [.rat q] => Sz q 8990 ∧ Q (.rat (-q))
  | .bi b, xs => opB tab b xs Q
  | .ix, [.lst xs, .int n] => atP xs n Q
  | .ix, [.tup xs, .int n] => atP xs n Q
  | .fld c j, [.rat q] => (match c, j with
    | .ratio, 0 => Q (.int q.num)
    | .ratio, 1 => Q (.int q.den)
    | _, _ => False)
  | .fld _ _, [.obj _ _] => False
  | _, _ => False
section
variable {Q Q' : PV → Prop} (h1 : ∀ x, Q x → Q' x)
include h1
theorem binI_mono {op : Operator} {a b : Int} (h : binI op a b Q) : binI op a b Q' := by
  cases op <;> first | exact h1 _ h | exact ⟨h.1, h1 _ h.2⟩ | exact h.elim
theorem binR_mono {op : Operator} {a b : Rat} (h : binR op a b Q) : binR op a b Q' := by
  cases op <;> first | exact ⟨h.1, h1 _ h.2⟩ | exact h.elim
theorem cmpI_mono {op : CmpOp} {a b : Int} (h : cmpI op a b Q) : cmpI op a b Q' := by
  cases op <;> first | exact h1 _ h | exact h.elim
theorem cmpR_mono {op : CmpOp} {a b : Rat} (h : cmpR op a b Q) : cmpR op a b Q' := by
  cases op <;> first | exact ⟨h.1, h1 _ h.2⟩ | exact h.elim
theorem cmpD_mono {op : CmpOp} {a b : PV} (h : cmpD op a b Q) : cmpD op a b Q' := by
  cases op <;> first | exact ⟨h.1, h1 _ h.2⟩ | exact h.elim
theorem cmpN_mono {op : CmpOp} {b : PV} (h : cmpN tab op b Q) : cmpN tab op b Q' := by
  cases op <;> first | exact ⟨h.1, h1 _ h.2⟩ | exact h.elim
theorem optP_mono {o : Option PV} (h : optP o Q) : optP o Q' := by
  cases o with
  | none => exact h.elim
  | some x => exact h1 _ h
theorem atP_mono {xs : List PV} {n : Int} (h : atP xs n Q) : atP xs n Q' := by
  cases n with
  | ofNat k => exact optP_mono h1 h
  | negSucc k =>
    obtain ⟨l, q⟩ := ifB_f h
    show ifB _ _ _
    rw [l]
    exact optP_mono h1 q
theorem opB_mono {b : Bi} {xs : List PV} (h : opB tab b xs Q) : opB tab b xs Q' := by
  unfold opB at h ⊢
  split at h
  all_goals first | exact h1 _ h | exact ⟨h.1, h1 _ h.2⟩ | exact h.elim | skip
  rename_i x t
  cases e : tabO tab (tkOf x) (tkTy t) with
  | none => rw [e] at h; exact h.elim
  | some r => rw [e] at h; exact h1 _ h
theorem opP_mono {k : OpK} {xs : List PV} (h : opP tab k xs Q) : opP tab k xs Q' := by
  unfold opP at h ⊢
  split at h
  all_goals first | exact binI_mono h1 h | exact binR_mono h1 h | exact cmpI_mono h1 h | exact cmpR_mono h1 h | exact cmpN_mono tab h1 h | exact opB_mono tab h1 h | exact atP_mono h1 h | exact h1 _ h | exact ⟨h.1, h1 _ h.2⟩ | exact h.elim | skip
  · rename_i op a b
    cases op <;> first | exact h1 _ h | exact h.elim
  · rename_i op a b
    cases op <;> first | exact ⟨h.1, h1 _ h.2⟩ | exact h.elim
  · rename_i op x y n1 n2 n3 n4 n5
    exact cmpD_mono h1 h
  · rename_i c j q
    split at h
    all_goals first | exact h1 _ h | exact h.elim
end
/-- which operators' results are never changed -/
def opFr : OpK → Bool
  | .bin _ => true
  | .ipl _ => true
  | .cmp _ => true
  | .neg => true
  | .bi .tuple => false
  | .bi _ => true
  | _ => false
theorem ifB_and {b : Bool} {A : Prop} (h : ifB b A False) : b = true ∧ A := ifB_f h
section
variable {Q : PV → Prop}
theorem binI_imm {op : Operator} {a b : Int} (h : binI op a b Q) : binI op a b fun x => immP x = true ∧ Q x := by
  cases op <;> first | exact ⟨rfl, h⟩ | exact ⟨h.1, rfl, h.2⟩ | exact h.elim
theorem binR_imm {op : Operator} {a b : Rat} (h : binR op a b Q) : binR op a b fun x => immP x = true ∧ Q x := by
  cases op <;> first | exact ⟨h.1, rfl, h.2⟩ | exact h.elim
theorem cmpI_imm {op : CmpOp} {a b : Int} (h : cmpI op a b Q) : cmpI op a b fun x => immP x = true ∧ Q x := by
  cases op <;> first | exact ⟨rfl, h⟩ | exact h.elim
theorem cmpR_imm {op : CmpOp} {a b : Rat} (h : cmpR op a b Q) : cmpR op a b fun x => immP x = true ∧ Q x := by
  cases op <;> first | exact ⟨h.1, rfl, h.2⟩ | exact h.elim
theorem cmpD_imm {op : CmpOp} {a b : PV} (h : cmpD op a b Q) : cmpD op a b fun x => immP x = true ∧ Q x := by
  cases op <;> first | exact ⟨h.1, rfl, h.2⟩ | exact h.elim
theorem cmpN_imm {op : CmpOp} {b : PV} (h : cmpN tab op b Q) : cmpN tab op b fun x => immP x = true ∧ Q x := by
  cases op <;> first | exact ⟨h.1, rfl, h.2⟩ | exact h.elim
theorem opB_imm {b : Bi} {xs : List PV} (hb : b ≠ .tuple) (h : opB tab b xs Q) : opB tab b xs fun x => immP x = true ∧ Q x := by
  unfold opB at h ⊢
  split at h
  all_goals first | exact absurd rfl hb | exact ⟨rfl, h⟩ | exact ⟨h.1, rfl, h.2⟩ | exact h.elim | skip
  rename_i x t
  cases e : tabO tab (tkOf x) (tkTy t) with
  | none => rw [e] at h; exact h.elim
  | some r => rw [e] at h; exact ⟨rfl, h⟩
theorem opP_imm {k : OpK} {xs : List PV} (hk : opFr k = true) (h : opP tab k xs Q) : opP tab k xs fun x => immP x = true ∧ Q x := by
  unfold opP at h ⊢
  split at h
  all_goals first | exact binI_imm h | exact binR_imm h | exact cmpI_imm h | exact cmpR_imm h | exact cmpN_imm tab h | exact ⟨rfl, h⟩ | exact ⟨h.1, rfl, h.2⟩ | exact h.elim | (cases hk; done) | skip
  · rename_i op a b
    cases op <;> first | exact ⟨rfl, h⟩ | exact h.elim
  · rename_i op a b
    cases op <;> first | exact ⟨h.1, rfl, h.2⟩ | exact h.elim
  · rename_i op x y n1 n2 n3 n4 n5
    exact cmpD_imm h
  · rename_i b xs
    exact opB_imm tab (by intro z; subst z; cases hk) h
end
/-- what is never changed is as good as new -/
theorem OpOk.of {b : B6} {k : OpK} {p : PSpec} (hi : p.fresh = true → ∀ {xs Q E}, p.run xs Q E → p.run xs (fun x => immP x = true ∧ Q x) E) (h : ∀ X, b6 X = b → ∀ ct F ρ σ H xs vs Q E, Stt X ct F ρ σ H → Reps ⟨X.K, ct.pl⟩ F xs vs → p.run xs Q E → Eok X ct F ρ σ E → OpSem X k vs σ H (Post X ct F H ρ σ Q)) : OpOk b k p := by
  intro X hb ct F ρ σ H xs vs Q E S r q hE
  cases hf : p.fresh with
  | false => exact OpSem.imp (fun v H' ⟨x, F', S', s', r', q'⟩ => ⟨x, F', S', s', r', nofun, q'⟩) (h X hb ct F ρ σ H xs vs Q E S r q hE)
  | true => exact OpSem.imp (fun v H' ⟨x, F', S', s', r', im, q'⟩ => ⟨x, F', S', s', r', fun _ => newr_imm im r', q'⟩) (h X hb ct F ρ σ H xs vs _ E S r (hi hf q) hE)
theorem Cal.of {b : B6} {f : Value} {p : PSpec} (hi : p.fresh = true → ∀ {xs Q E}, p.run xs Q E → p.run xs (fun x => immP x = true ∧ Q x) E) (h : ∀ X, b6 X = b → ∀ ct F ρ σ H xs vs Q E, Stt X ct F ρ σ H → Reps ⟨X.K, ct.pl⟩ F xs vs → p.run xs Q E → Eok X ct F ρ σ E → Wf X f vs σ H (Post X ct F H ρ σ Q)) : Cal b f p := by
  intro X hb ct F ρ σ H xs vs Q E S r q hE
  cases hf : p.fresh with
  | false => exact Wf.imp (fun v H' ⟨x, F', S', s', r', q'⟩ => ⟨x, F', S', s', r', nofun, q'⟩) (h X hb ct F ρ σ H xs vs Q E S r q hE)
  | true => exact Wf.imp (fun v H' ⟨x, F', S', s', r', im, q'⟩ => ⟨x, F', S', s', r', fun _ => newr_imm im r', q'⟩) (h X hb ct F ρ σ H xs vs _ E S r (hi hf q) hE)
/-- the operators' promises -/
def opS (k : OpK) : PSpec where
  fresh := opFr k
  run := fun xs Q _ => opP tab k xs Q
  mono := fun h1 _ h => opP_mono tab h1 h
end Pu

/-! PL: the operators on ints and plain data. -/
namespace Pu
open PySem PySem.Spec PyProof.Rows L2 Ni Rt
section
variable {X : Cx} {ct : Ct} {F H H' : Hp} {ρ : Env} {σ : L2.St} {Q : PV → Prop}
theorem Post.val (S : Stt X ct F ρ σ H) (s : Same H H') {x : PV} {v : V} (r : Rep ⟨X.K, ct.pl⟩ F x v) (q : Q x) : Post X ct F H ρ σ Q v H' := ⟨x, F, S.same s, ⟨.refl, S.gself.same s⟩, r, q⟩
theorem Post.at_ (S : Stt X ct F ρ σ H) {x : PV} {v : V} (r : Rep ⟨X.K, ct.pl⟩ F x v) (q : Q x) : Post X ct F H ρ σ Q v H := ⟨x, F, S, .refl S, r, q⟩
theorem Post.rat (S : Stt X ct F ρ σ H) (s : Same H H') {p dx : Addr} {r : Rat} (e : H' p = some (.ins (He.ga X.K "Ratio") dx (ratF r))) (q : Q (.rat r)) : Post X ct F H ρ σ Q (.ref p) H' := by
  cases hf : F p with
  | some o =>
    have e2 := s _ _ (S.sub p o hf)
    rw [e] at e2
    cases e2
    exact Post.val S s (x := .rat r) ⟨p, dx, rfl, hf⟩ q
  | none =>
    obtain ⟨S2, e2⟩ := S.ext (F' := upd F p (.ins (He.ga X.K "Ratio") dx (ratF r))) s ⟨same_new hf, fun a o z => by
      by_cases y : a = p
      · subst y
        rw [upd_same] at z
        cases z
        cases hh : H a with
        | none => exact .inr (.inl rfl)
        | some o2 =>
          have := s _ _ hh
          rw [e] at this
          cases this
          exact .inr (.inr ⟨rfl, .inl ⟨_, _, _, rfl⟩⟩)
      · rw [upd_ne y] at z; exact .inl z⟩ (fun a o z => by
      by_cases y : a = p
      · subst y; rw [upd_same] at z; rw [← z]; exact e
      · rw [upd_ne y] at z; exact s _ _ (S.sub a o z))
    exact ⟨.rat r, _, S2, e2, ⟨p, dx, rfl, upd_same⟩, q⟩
theorem rep_rat {K : Kx} {r : Rat} {v : V} (s : Same F H) (h : Rep K F (.rat r) v) : ∃ a dx, v = .ref a ∧ H a = some (.ins (He.ga K.K "Ratio") dx (ratF r)) := by
  unfold Rep at h
  obtain ⟨a, dx, rfl, e⟩ := h
  exact ⟨a, dx, rfl, s _ _ e⟩
theorem o_binI {op : Operator} {a b : Int} (S : Stt X ct F ρ σ H) (h : binI op a b Q) : Wo X (binaryOp op) (.int a) (.int b) σ H (Post X ct F H ρ σ Q) := by
  cases op with
  | Add => exact wo_add (Post.at_ S (x := .int _) rfl h)
  | Sub => exact wo_sub (Post.at_ S (x := .int _) rfl h)
  | Mult =>
    obtain ⟨⟨k, m, h1, h2, h3⟩, h⟩ := h
    exact wo_mul (bd_mulW h1 h2 h3) (Post.at_ S (x := .int _) rfl h)
  | FloorDiv =>
    obtain ⟨⟨h0, k, h1, h2⟩, h⟩ := h
    exact wo_fdiv h0 h1 h2 (Post.at_ S (x := .int _) rfl h)
  | Mod => exact wo_mod h.1 (Post.at_ S (x := .int _) rfl h.2)
  | Pow => exact wo_pow h.1 (Post.at_ S (x := .int _) rfl h.2)
  | _ => exact h.elim
theorem o_cmpI {op : CmpOp} {a b : Int} (S : Stt X ct F ρ σ H) (h : cmpI op a b Q) : Wo X (compareOp op) (.int a) (.int b) σ H (Post X ct F H ρ σ Q) := by
  cases op with
  | Lt => exact wo_lt (Post.at_ S (x := .bl _) rfl h)
  | LtE => exact wo_le (Post.at_ S (x := .bl _) rfl h)
  | Gt => exact wo_gt (Post.at_ S (x := .bl _) rfl h)
  | GtE => exact wo_ge (Post.at_ S (x := .bl _) rfl h)
  | Eq => exact wo_eqI (Post.at_ S (x := .bl _) rfl h)
  | NotEq => exact wo_neI (Post.at_ S (x := .bl _) rfl h)
  | _ => exact h.elim
mutual
theorem dat_dp {k : Kx} (s : Same F H) : ∀ {n : Nat} {x : PV} {v : V}, datP n x = true → Rep k F x v → Dp k.K H v (pd x)
  | _, .non, _, _, r => by cases r; exact .non
  | _, .bl b, _, _, r => by cases r; exact .bl b
  | _, .int i, _, _, r => by cases r; exact .int i
  | _, .str i, _, _, r => by cases r; exact .str i
  | 0, .lst xs, _, d, r => by simp [datP] at d
  | 0, .tup xs, _, d, r => by simp [datP] at d
  | n + 1, .lst xs, _, d, r => by
    unfold Rep at r
    obtain ⟨a, vs, rfl, e, rs⟩ := r
    unfold datP at d
    exact .lst (.of (s _ _ e)) (dats_dp s d rs)
  | n + 1, .tup xs, _, d, r => by
    unfold Rep at r
    obtain ⟨a, vs, rfl, e, rs⟩ := r
    unfold datP at d
    exact .tup (.of (s _ _ e)) (dats_dp s d rs)
  | n, .ty b, _, d, r => by cases n <;> simp [datP] at d
  | n, .cls b, _, d, r => by cases n <;> simp [datP] at d
  | n, .pool, _, d, r => by cases n <;> simp [datP] at d
  | n, .rat b, _, d, r => by cases n <;> simp [datP] at d
  | n, .obj b c, _, d, r => by cases n <;> simp [datP] at d
theorem dats_dp {k : Kx} (s : Same F H) : ∀ {n : Nat} {xs : List PV} {vs : List V}, datPs n xs = true → Reps k F xs vs → DpAll k.K H vs (pds xs)
  | _, [], _, _, r => by cases r; exact .nil
  | n, x :: xs, _, d, r => by
    obtain ⟨v, ws, rfl, r1, r2⟩ := r
    unfold datPs at d
    obtain ⟨d1, d2⟩ := Bool.and_eq_true_iff.mp d
    exact .cons (dat_dp s d1 r1) (dats_dp s d2 r2)
end
mutual
theorem dat_lay : ∀ {n : Nat} {x : PV}, datP n x = true → (pd x).canLay0 = true ∧ (pd x).depth ≤ n
  | n, .non, _ => by simp [pd, PyData.canLay0, PyData.depth]
  | n, .bl b, _ => by simp [pd, PyData.canLay0, PyData.depth]
  | n, .int b, _ => by simp [pd, PyData.canLay0, PyData.depth]
  | n, .str b, d => by
    have d : PyData.strOk b = true := by cases n <;> exact d
    simp [pd, PyData.canLay0, PyData.depth, d]
  | 0, .lst xs, d => by simp [datP] at d
  | 0, .tup xs, d => by simp [datP] at d
  | n + 1, .lst xs, d => by
    unfold datP at d
    obtain ⟨a, c⟩ := dats_lay d
    simp [pd, PyData.canLay0, PyData.depth, a, c]
  | n + 1, .tup xs, d => by
    unfold datP at d
    obtain ⟨a, c⟩ := dats_lay d
    simp [pd, PyData.canLay0, PyData.depth, a, c]
  | n, .ty b, d => by cases n <;> simp [datP] at d
  | n, .cls b, d => by cases n <;> simp [datP] at d
  | n, .pool, d => by cases n <;> simp [datP] at d
  | n, .rat b, d => by cases n <;> simp [datP] at d
  | n, .obj b c, d => by cases n <;> simp [datP] at d
theorem dats_lay : ∀ {n : Nat} {xs : List PV}, datPs n xs = true → PyData.canLayAll0 (pds xs) = true ∧ PyData.depthAll (pds xs) ≤ n
  | n, [], _ => by simp [pds, PyData.canLayAll0, PyData.depthAll]
  | n, x :: xs, d => by
    unfold datPs at d
    obtain ⟨d1, d2⟩ := Bool.and_eq_true_iff.mp d
    obtain ⟨a1, a2⟩ := dat_lay d1
    obtain ⟨c1, c2⟩ := dats_lay d2
    simp [pds, PyData.canLayAll0, PyData.depthAll, a1, c1]
    omega
end
theorem dat_sh {x : PV} (h : datP 60 x = true) : SeqAt.shaped (pd x) = true := by
  obtain ⟨a, c⟩ := dat_lay h
  unfold SeqAt.shaped
  rw [a, decide_eq_true (by omega : (pd x).depth ≤ 64)]
  rfl
theorem eqP_self {x : PV} (h : datP 60 x = true) : eqP x x = true := SeqAt.eqv_refl _ (dat_lay h).1
theorem o_cmpD {k : Nat} {op : CmpOp} {x y : PV} {v u : V} (hr : Room k X.A) (S : Stt X ct F ρ σ H) (rx : Rep ⟨X.K, ct.pl⟩ F x v) (ry : Rep ⟨X.K, ct.pl⟩ F y u) (h : cmpD op x y Q) : Wo X (compareOp op) v u σ H (Post X ct F H ρ σ Q) := by
  have nn : isNonP y = true → u = .non := fun z => by
    cases y <;> first | exact ry | cases z
  have nx : decide (v = .non) = isNonP x := by
    cases x <;> (unfold Rep at rx; first | (subst rx; rfl) | (obtain ⟨_, _, _, rfl, _⟩ := rx; rfl) | (obtain ⟨_, _, rfl, _⟩ := rx; rfl) | (obtain ⟨_, _, rfl⟩ := rx; rfl) | (obtain ⟨_, _, _, _, rfl⟩ := rx; rfl))
  cases op with
  | Eq => exact wo_eqD hr (dat_dp S.sub h.1.1 rx) (dat_dp S.sub h.1.2 ry) (dat_sh h.1.1) (dat_sh h.1.2) rfl (Post.at_ S (x := .bl _) rfl h.2)
  | NotEq => exact wo_neD hr (dat_dp S.sub h.1.1 rx) (dat_dp S.sub h.1.2 ry) (dat_sh h.1.1) (dat_sh h.1.2) rfl (Post.at_ S (x := .bl _) rfl h.2)
  | Is =>
    rw [nn h.1]
    exact wo_isN (Post.at_ S (x := .bl _) (by rw [nx]; rfl) h.2)
  | IsNot =>
    rw [nn h.1]
    exact wo_notN (Post.at_ S (x := .bl _) (by rw [nx]; rfl) h.2)
  | _ => exact h.elim
end
def tkV (K : PySem.W.Frag) : TK → Value
  | .int => .type "int"
  | .bool => .type "bool"
  | .str => .type "str"
  | .tuple => .type "tuple"
  | .list => .type "list"
  | .non => .type "NoneType"
  | .cl c => .ref (He.ga K c.nm)
/-- what isinstance leans on -/
structure TabOk (K : PySem.W.Frag) (tab : TK → TK → Option Bool) : Prop where
  kit : ∀ a c r, tab a c = some r → PySem.W.kitOne K (tkV K a) (tkV K c) = some r
  ty : ∀ d c r, tab (.cl d) c = some r → tyxB K (He.ga K d.nm) = true ∧ L2.Cls K (He.ga K d.nm)
theorem tk_ty {k : Kx} {F H : Hp} {tab : TK → TK → Option Bool} (hT : TabOk k.K tab) (s : Same F H) {x : PV} {v : V} {a c : TK} {r : Bool} (rx : Rep k F x v) (h : tkOf x = some a) (ht : tab a c = some r) : TyX k.K H v (tkV k.K a) := by
  cases x with
  | non => cases h; cases rx; exact .base .non
  | bl b => cases h; cases rx; exact .base (.bl b)
  | int b => cases h; cases rx; exact .base (.int b)
  | str b => cases h; cases rx; exact .base (.str b)
  | lst xs =>
    cases h
    unfold Rep at rx
    obtain ⟨p, vs, rfl, e, _⟩ := rx
    exact .base (.lst (s _ _ e))
  | tup xs =>
    cases h
    unfold Rep at rx
    obtain ⟨p, vs, rfl, e, _⟩ := rx
    exact .base (.tup (s _ _ e))
  | rat q =>
    cases h
    obtain ⟨p, dx, rfl, e⟩ := rep_rat s rx
    obtain ⟨t1, t2⟩ := hT.ty .ratio c r ht
    exact tyx_of t1 t2 e
  | obj d xs =>
    cases h
    unfold Rep at rx
    obtain ⟨p, dx, vs, rfl, e, _⟩ := rx
    obtain ⟨t1, t2⟩ := hT.ty d c r ht
    exact tyx_of t1 t2 (s _ _ e)
  | _ => cases h
theorem tk_cls {k : Kx} {F : Hp} {x : PV} {v : V} {a : TK} (rx : Rep k F x v) (h : tkTy x = some a) : ClsV v (tkV k.K a) := by
  cases x with
  | ty b =>
    unfold Rep at rx
    obtain ⟨n, e, rfl⟩ := rx
    cases b <;> cases h
    all_goals (cases e; exact .ty _)
  | cls c =>
    cases h
    cases rx
    exact .own _
  | _ => cases h
section
variable {X : Cx} {ct : Ct} {F H H' : Hp} {ρ : Env} {σ : L2.St} {Q : PV → Prop} {tab : TK → TK → Option Bool}
theorem tabO_ok {a c : Option TK} {r : Bool} (h : tabO tab a c = some r) : ∃ x y, a = some x ∧ c = some y ∧ tab x y = some r := by
  unfold tabO at h
  split at h
  · split at h
    · exact ⟨_, _, rfl, rfl, h⟩
    · cases h
  · cases h
theorem o_isi (hT : TabOk X.K tab) (S : Stt X ct F ρ σ H) {x t : PV} {v u : V} (rx : Rep ⟨X.K, ct.pl⟩ F x v) (rt : Rep ⟨X.K, ct.pl⟩ F t u) (h : isi3 (tabO tab (tkOf x) (tkTy t)) Q) : Wcb X (.builtin "isinstance") [v, u] H (Post X ct F H ρ σ Q) := by
  cases e : tabO tab (tkOf x) (tkTy t) with
  | none => rw [e] at h; exact h.elim
  | some r =>
    rw [e] at h
    obtain ⟨a, c, e1, e2, e3⟩ := tabO_ok e
    exact wcb_isi (tk_cls rt e2) (tk_ty hT S.sub rx e1 e3) (hT.kit a c r e3) (Post.at_ S (x := .bl r) rfl h)
theorem o_ix (S : Stt X ct F ρ σ H) {xs : List PV} {n : Int} {v : V} (rx : Rep ⟨X.K, ct.pl⟩ F (.lst xs) v ∨ Rep ⟨X.K, ct.pl⟩ F (.tup xs) v) (h : atP xs n Q) : Ixn X v (.int n) σ H (Post X ct F H ρ σ Q) := by
  obtain ⟨x, e, q⟩ := atP_ok h
  refine Ixn.of ?_
  rcases rx with rx | rx
  · unfold Rep at rx
    obtain ⟨p, vs, rfl, ep, rs⟩ := rx
    obtain ⟨w, e2, rw'⟩ := at_rep rs e
    exact ix_lh (S.sub _ _ ep) e2 (Post.at_ S rw' q)
  · unfold Rep at rx
    obtain ⟨p, vs, rfl, ep, rs⟩ := rx
    obtain ⟨w, e2, rw'⟩ := at_rep rs e
    exact ix_th (S.sub _ _ ep) e2 (Post.at_ S rw' q)
theorem wi_ip {op : Operator} {t : TIp} {x y : V} {R : VK} (h : PIp X op t) (q : t x y H R) : Wo X (inplaceOp op) x y σ H R := fun pins s v u I rx ry => h pins s σ H x y v u R I rx ry q
theorem ipl_int {op : Operator} {a b : Int} (S : Stt X ct F ρ σ H) (h : match op with
    | .Add => Q (.int (a + b))
    | .Sub => Q (.int (a - b))
    | _ => False) : Wo X (inplaceOp op) (.int a) (.int b) σ H (Post X ct F H ρ σ Q) := by
  cases op with
  | Add => exact wi_ip ip_add ⟨a, b, rfl, rfl, Post.at_ S (x := .int _) rfl h⟩
  | Sub => exact wi_ip ip_sub ⟨a, b, rfl, rfl, Post.at_ S (x := .int _) rfl h⟩
  | _ => exact h.elim
end
/-- what the callees promise -/
def GOk1 (b : B6) : GK → PSpec → Prop
  | .glo x, p => ∃ f, b.mg x = some (.ref f) ∧ PySem.W.keepIn b.K (.ref f) = true ∧ Cal b (.ref f) p
  | .met c m, p => CalM b c m p
  | .sta c m, p => ∃ f, Sta b.K (He.ga b.K c.nm) m f ∧ b.mg c.nm = some (.ref (He.ga b.K c.nm)) ∧ Cal b (.ref f) p
  | .frm f, p => FrmR b f ∧ FrmP b f p
inductive GOk (b : B6) : List (GK × PSpec) → Prop
  | nil : GOk b []
  | cons {k : GK} {p : PSpec} {G : List (GK × PSpec)} : GOk1 b k p → GOk b G → GOk b ((k, p) :: G)
theorem GOk.at_ {b : B6} {G : List (GK × PSpec)} (h : GOk b G) : ∀ {i : Nat} {k : GK} {p : PSpec}, nth G i = some (k, p) → GOk1 b k p := by
  induction h with
  | nil => intro i k p e; cases e
  | cons h1 h2 ih =>
    intro i k p e
    cases i with
    | zero => cases e; exact h1
    | succ i => exact ih e
/-- .. of what changes an instance -/
inductive MOkL (b : B6) : List (MK × MSpec) → Prop
  | nil : MOkL b []
  | cons {k : MK} {p : MSpec} {M : List (MK × MSpec)} : MOk b k p → MOkL b M → MOkL b ((k, p) :: M)
theorem MOkL.at_ {b : B6} {M : List (MK × MSpec)} (h : MOkL b M) : ∀ {i : Nat} {k : MK} {p : MSpec}, nth M i = some (k, p) → MOk b k p := by
  induction h with
  | nil => intro i k p e; cases e
  | cons h1 h2 ih =>
    intro i k p e
    cases i with
    | zero => cases e; exact h1
    | succ i => exact ih e
/-- one class at a time -/
theorem all1 {α : Type} {P : α → Prop} {c : α} (h : P c) : ∀ d ∈ [c], P d := fun d hd => by
  cases hd with
  | head => exact h
  | tail _ z => cases z
theorem allS {α : Type} {P : α → Prop} {c : α} {l : List α} (h : P c) (k : ∀ d ∈ l, P d) : ∀ d ∈ c :: l, P d := fun d hd => by
  cases hd with
  | head => exact h
  | tail _ z => exact k d z
theorem allN {α : Type} {P : α → Prop} : ∀ d ∈ ([] : List α), P d := fun d hd => by cases hd
theorem look_no {l : List Str} {m : Str} {fs : List (Str × V)} (h : (l.contains m) = false) (hf : ∃ n, fs.map (·.1) = l.take n) : fs.lookup m = none := by
  obtain ⟨n, e⟩ := hf
  have nm : m ∉ fs.map (·.1) := fun z => by
    rw [e] at z
    have := List.mem_of_mem_take z
    rw [← List.contains_iff_mem] at this
    rw [h] at this
    cases this
  clear e h
  induction fs with
  | nil => rfl
  | cons p fs ih =>
    rw [List.map_cons, List.mem_cons, not_or] at nm
    unfold List.lookup
    rw [beq_eq_false_iff_ne.mpr nm.1]
    exact ih nm.2
/-- isinstance's answers, written -/
def tabF : List (TK × TK × Bool) → TK → TK → Option Bool
  | [], _, _ => none
  | (a, c, r) :: l, x, y => match decide (a = x) && decide (c = y) with
    | true => some r
    | false => tabF l x y
inductive TabL (K : PySem.W.Frag) : List (TK × TK × Bool) → Prop
  | nil : TabL K []
  | cons {a c : TK} {r : Bool} {l : List (TK × TK × Bool)} : PySem.W.kitOne K (tkV K a) (tkV K c) = some r → (∀ d, a = .cl d → tyxB K (He.ga K d.nm) = true ∧ L2.Cls K (He.ga K d.nm)) → TabL K l → TabL K ((a, c, r) :: l)
theorem TabL.ok {K : PySem.W.Frag} {l : List (TK × TK × Bool)} (h : TabL K l) : TabOk K (tabF l) := by
  induction h with
  | nil => exact ⟨fun _ _ _ h => (by cases h), fun _ _ _ h => (by cases h)⟩
  | @cons a c r l h1 h2 h3 ih =>
    refine ⟨fun x y s h => ?_, fun d y s h => ?_⟩
    · unfold tabF at h
      split at h
      · rename_i e
        simp only [Bool.and_eq_true, decide_eq_true_eq] at e
        obtain ⟨rfl, rfl⟩ := e
        cases h
        exact h1
      · exact ih.kit x y s h
    · unfold tabF at h
      split at h
      · rename_i e
        simp only [Bool.and_eq_true, decide_eq_true_eq] at e
        exact h2 d e.1
      · exact ih.ty d y s h
end Pu

/-! PJ3: promises weakened; calls from within a built-in. -/
namespace Pu
open PySem PySem.Spec PyProof.Rows L2 Ni
theorem Cal.weak {b : B6} {f : Value} {p q : PSpec} (hf : p.fresh = q.fresh) (h : ∀ {xs Q E}, q.run xs Q E → p.run xs Q E) (c : Cal b f p) : Cal b f q := by
  intro X hb ct F ρ σ H xs vs Q E S r q' hE
  have z := c X hb ct F ρ σ H xs vs Q E S r (h q') hE
  rw [hf] at z
  exact z
/-- a def, called from elsewhere -/
theorem cal_fnA {X : Cx} {A : Around} {k : Nat} {f : Addr} {ps : List Str} {sp : PSpec} (O : OkD X.prog X.w X.K X.mg X.base k f ps [] (lowSp X.K sp)) (hr : Room k A) (hA : A.frames = X.A.frames) {ct : Ct} {F H : Hp} {ρ : Env} {σ : L2.St} {xs : List PV} {vs : List V} {Q : PV → Prop} {E : KE} (S : Stt X ct F ρ σ H) (r : Reps ⟨X.K, ct.pl⟩ F xs vs) (h : sp.run xs Q E) (hE : Eok X ct F ρ σ E) : WfA X A (.ref f) vs σ H (PostC sp.fresh X ct F H ρ σ Q) := by
  refine wfA_ok O hr hA ⟨ct.pl, F, xs, S.sub, fun P s e => ⟨(S.p0 P s e).1, (S.p0 P s e).2.2⟩, by rw [List.append_nil]; exact r, sp.mono ?_ ?_ h⟩
  · intro y q v H' F' g sub rep n
    exact ⟨y, F', S.called g.gu g.gr sub, g, rep, n, q⟩
  · intro e q d H' F' g sub xd
    exact hE e d F' H' (S.called g.gu g.gr sub) g.s xd q
theorem WfA.imp {X : Cx} {A : Around} {f : Value} {vs : List V} {σ : L2.St} {H : Hp} {Q Q' : VK} (k : ∀ v H', Q v H' → Q' v H') (h : WfA X A f vs σ H Q) : WfA X A f vs σ H Q' := fun pins s us I r => thn (h pins s us I r) fun _ _ q => EP.imp k q
theorem typ_ins {X : Cx} {σ : L2.St} {H : Hp} {a C dx : Addr} {fs : List (Str × V)} (e : H a = some (.ins C dx fs)) : ∀ (pins : List (Addr × Obj)) (s : Shared) (u : Value), Inv X pins σ H s → RelV (.ref a) u → PySem.W.Looks (model X.prog X.w) s.heap (typeOf u) (.ref C) := by
  intro pins s u I r
  cases r
  obtain ⟨od, J⟩ := inst_at I e
  exact J.type
theorem Post.frame {X : Cx} {ct : Ct} {F H : Hp} {ρ : Env} {σ : L2.St} {Q Q' : PV → Prop} {v : V} {H' : Hp} (k : ∀ x, Q x → Q' x) (h : Post X ct F H ρ σ Q v H') : Post X ct F H ρ σ Q' v H' := by
  obtain ⟨x, F', S, s, r, q⟩ := h
  exact ⟨x, F', S, s, r, k x q⟩
theorem fn_in {K : PySem.W.Frag} {x qual : Str} {params : Arguments} {body : List Stmt} {scope : Scope} {dvs : List V} {kws : List (Str × V)} {f : Addr} {fd : FuncData} (F : FunD K x qual params body scope dvs kws f fd) : PySem.W.fnIn K f = true := by
  obtain ⟨oc, od, dV, kV, doc, pm, an, cdv, ct, osl, rfl, lk, hcd, _, _⟩ := F.ex
  unfold PySem.W.fnIn
  rw [lk]
/-- .. without errors, at any store -/
theorem cal_fnN {X : Cx} {A : Around} {k : Nat} {f : Addr} {ps : List Str} {sp : PSpec} (O : OkD X.prog X.w X.K X.mg X.base k f ps [] (lowSp X.K sp)) (hr : Room k A) (hA : A.frames = X.A.frames) {ct : Ct} {F H : Hp} {ρ : Env} {σ σ' : L2.St} {xs : List PV} {vs : List V} {Q : PV → Prop} (S : Stt X ct F ρ σ H) (r : Reps ⟨X.K, ct.pl⟩ F xs vs) (h : sp.run xs Q fun _ => False) : WfA X A (.ref f) vs σ' H (PostC sp.fresh X ct F H ρ σ Q) := by
  refine wfA_ok O hr hA ⟨ct.pl, F, xs, S.sub, fun P s e => ⟨(S.p0 P s e).1, (S.p0 P s e).2.2⟩, by rw [List.append_nil]; exact r, sp.mono ?_ ?_ h⟩
  · intro y q v H' F' g sub rep n
    exact ⟨y, F', S.called g.gu g.gr sub, g, rep, n, q⟩
  · intro e q d H' F' g sub xd
    exact q.elim
theorem Reps.three {k : Kx} {F : Hp} {x y z : PV} {vs : List V} (h : Reps k F [x, y, z] vs) : ∃ v w u, vs = [v, w, u] ∧ Rep k F x v ∧ Rep k F y w ∧ Rep k F z u := by
  obtain ⟨v, ws, rfl, h, r⟩ := h
  obtain ⟨w, u, rfl, h2, h3⟩ := Reps.two r
  exact ⟨v, w, u, rfl, h, h2, h3⟩
end Pu

/-! PM: the type of what is no number. -/
namespace Pu
open PySem PySem.Spec PyProof.Rows L2 Ni
theorem typ_at {M : Model} {h : Heap} {y : Addr} {o : Obj} {t : Value} (ho : h.get? y = some o) (hc : o.cls = t) : PySem.W.Looks M h (typeOf (.ref y)) t :=
  (PySem.W.Looks.ld ho).andThen (by rw [hc]; exact .now)
def tyN : PV → String
  | .non => "NoneType"
  | .str _ => "str"
  | .lst _ => "list"
  | _ => "tuple"
theorem typ_non {X : Cx} {ct : Ct} {F H : Hp} {ρ : Env} {σ : L2.St} (S : Stt X ct F ρ σ H) {y : PV} {v : V} (r : Rep ⟨X.K, ct.pl⟩ F y v) (n : nonN y = true) :
    ∀ (pins : List (Addr × Obj)) (s : Shared) (u : Value), Inv X pins σ H s → RelV v u → PySem.W.Looks (model X.prog X.w) s.heap (typeOf u) (.type (tyN y)) := by
  intro pins s u I rv
  cases y with
  | non => cases r; cases (show u = Value.none from rv); exact PySem.W.Looks.of_pure rfl
  | str z => cases r; obtain ⟨t, q⟩ := (show ∃ t, u = Value.str z t from rv); cases q; exact PySem.W.Looks.of_pure rfl
  | lst xs =>
    unfold Rep at r
    obtain ⟨a, vs, rfl, e, _⟩ := r
    cases (show u = Value.ref a from rv)
    obtain ⟨_, _, n, _, h1⟩ := (show ObjOk X.prog X.w H s.heap a (.lst vs) from I.hok a _ (S.sub _ _ e))
    exact typ_at h1 rfl
  | tup xs =>
    unfold Rep at r
    obtain ⟨a, vs, rfl, e, _⟩ := r
    cases (show u = Value.ref a from rv)
    obtain ⟨_, _, _, o, h1, h2, _⟩ := (show ObjOk X.prog X.w H s.heap a (.tup vs) from I.hok a _ (S.sub _ _ e))
    exact typ_at h1 h2
  | _ => cases n
end Pu

/-! PN: a law's body after the pool is made. -/
namespace Pu
open PySem PySem.Spec PyProof.Rows L2 Ni
def F0 : Hp := fun _ => none
theorem Stt.pool {X : Cx} {P s a : Addr} {H : Hp} (h : PoolS H P s) (n : Nat) : Stt X (ct0 (some (P, s)) H F0) F0 (none :: some (.val .pool) :: List.replicate n none) (some (.ref a) :: some (.ref P) :: List.replicate n none) H := by
  refine ⟨nofun, .refl, gua_refl fun P2 s2 e => ?_, ?_, ?_, nofun, [], ?_, .nil, nofun⟩
  · cases e; exact h
  · intro P2 s2 e
    cases e
    obtain ⟨o, e⟩ := h.at1
    exact ⟨rfl, fun z => (by
      have z : H P = none := z
      rw [z] at e; cases e), h⟩
  · intro P2 s2 e
    cases e
    obtain ⟨o, e⟩ := h.at2
    exact ⟨fun z => (by
      have z : H s = none := z
      rw [z] at e; cases e), nofun, nofun⟩
  · exact .free (.val ⟨P, s, rfl, rfl⟩ (Slots.frees n))
theorem law_tail {X : Cx} {N : List Str} {L : Lang} {CL XL : List Cl} {code : CSs} {body : List Stmt} {sc : Scope} {a P s : Addr} {H : Hp} {D : Ends} (n : Nat) (hP : PoolS H P s)
    (e7 : X.N = N) (nd : N.Nodup) (e6 : X.env.scope = sc) (e8 : ∀ y, X.fn y = true) (V1 : Env1 X) (hL : LOk (b6 X) L CL) (hX : ExOk (b6 X) XL) (hm : mB N (L.G.map (·.1)) CL XL (L.M.map (·.1)) true true sc code body = true)
    (hd : denB L code (none :: some (.val .pool) :: List.replicate n none) { nx := fun _ => False, rt := fun v _ => v = .bl true, ex := fun _ _ => False }) (k : ∀ H', D.rt (.bl true) H') :
    Wb X body D (some (.ref a) :: some (.ref P) :: List.replicate n none) H := by
  refine Wb.imp (D := lift false X (ct0 (some (P, s)) H F0) F0 _) ?_ ?_ ?_ ?_ (allB (fr := false) code (b6 X) L _ hL rfl hX (ct := ct0 (some (P, s)) H F0) rfl ⟨e7, nd, e6, fun _ => e8, fun _ => rfl, fun _ _ z => (nomatch z), fun _ => V1.calm⟩ (fun _ => V1) hm (fun z => (by cases z)) (Stt.pool hP n) ?_ hd)
  · rintro σ' H' ⟨ρ', F', S', s', q⟩
    exact q.elim
  · rintro v H' (⟨y, F', ρ', σ', S', a3, _, rfl⟩ | ⟨_, _, _, _, _, _, _, q⟩)
    · cases a3
      exact k H'
    · exact q.elim
  · rintro σ' H' ⟨ρ', F', S', s', q⟩
    exact q.elim
  · rintro σ' H' ⟨ρ', F', S', s', q⟩
    exact q.elim
  · intro e ρ' F' σ' H' d S' _ xd q
    exact q.elim
end Pu

/-! PN2: a law's def as a whole: its pool is made, then its code. -/
namespace Pu
open PySem PySem.Spec PyProof.Rows L2 Ni
def poolB (sc : Scope) : Stmt → Bool
  | .Assign [.Name x _] (.List [.Call (.Name l _) [.Name y _] [] _, .Constant (.int a) _ _, .Constant (.int b) _ _, .Constant (.int c) _ _] _) _ =>
    decide (x = "_law_pool") && decide (l = "list") && decide (y = "_law_script") && decide (a = 0) && decide (b = 0) && decide (c = 0) && locB true sc x && okN x && visB sc y && okN y && gloB sc l
  | _ => false
def spLaw (K : PySem.W.Frag) : Sp := fun vs H Q _ => ∃ (a : Addr) (ns : List Int), vs = [.ref a] ∧ SqL K H a (ns.map V.int) ∧ ∀ H', Q (.bl true) H'
/-- a statement list whose first one makes the pool -/
def poolM (N : List Str) (G : List GK) (CL XL : List Cl) (M : List MK) (sc : Scope) (code : CSs) : List Stmt → Bool
  | st :: rest => poolB sc st && mB N G CL XL M true true sc code rest
  | [] => false
variable {P : Program} {w : World} {K : PySem.W.Frag} {mg : Str → Option Value} {base : Heap}
theorem fn_lawP {x qual : Str} {params : Arguments} {body : List Stmt} {scope : Scope} {dvs : List V} {kws : List (Str × V)} {f : Addr} {fd : FuncData} {N ps : List Str} {k n : Nat} {L : Lang} {CL XL : List Cl} {code : CSs}
    (F : FunD K x qual params body scope dvs kws f fd) (S : FnScope N ps scope) (hps : ps.length = 1) (hN : N.length = n + 2) (h0 : N[0]? = some ("_law_script" : Str)) (h1 : N[1]? = some ("_law_pool" : Str)) (hL : ∀ A, Room k A → LOk ⟨P, w, K, mg, base, A⟩ L CL) (hX : ∀ A, ExOk ⟨P, w, K, mg, base, A⟩ XL)
    (hm : poolM N (L.G.map (·.1)) CL XL (L.M.map (·.1)) scope code body = true)
    (hd : denB L code (none :: some (.val .pool) :: List.replicate n none) { nx := fun _ => False, rt := fun v _ => v = .bl true, ex := fun _ _ => False }) : FnOk P w K mg base (L2.CX P w) (k + 1) f fd ps (spLaw K) := by
  refine fn_goP F S ?_ ?_
  · rintro vs H Q E ⟨a, ns, rfl, _⟩
    exact hps.symm
  · intro X e1 e2 e3 e4 e5 e6 e7 e8 V1 hr vs H Q E hE h
    subst e1 e2 e3 e4 e5
    obtain ⟨a, ns, rfl, hS, q⟩ := h
    cases body with
    | nil => cases hm
    | cons st rest =>
      obtain ⟨hp, hm2⟩ := Bool.and_eq_true_iff.mp (show (poolB scope st && mB N _ CL XL _ true true scope code rest) = true from hm)
      unfold poolB at hp
      split at hp
      · rename_i x px l pl y py pc a0 _ _ b0 _ _ c0 _ _ pL pA
        simp only [Bool.and_eq_true, decide_eq_true_eq] at hp
        obtain ⟨⟨⟨⟨⟨⟨⟨⟨⟨⟨rfl, rfl⟩, rfl⟩, rfl⟩, rfl⟩, rfl⟩, g1⟩, g2⟩, g3⟩, g4⟩, g5⟩ := hp
        have C : Cok X N true true scope none := ⟨e7, S.nd, e6, fun _ => e8, fun _ => rfl, fun _ _ z => (nomatch z), fun _ => V1.calm⟩
        obtain ⟨l1, l2⟩ := C.loc g1
        obtain ⟨v1, v2, v3⟩ := C.gl g5
        have hL2 : LOk (b6 X) L CL := hL X.A hr
        have est : L2.start N [V.ref a] = some (.ref a) :: none :: List.replicate n none := by
          unfold L2.start
          rw [hN]
          rfl
        rw [est]
        refine wb_cons (ws_asg (sole_no rfl) (stores_no rfl (fun es p z => by cases z)) rfl (we_lst (wa_cons (star_cons rfl) ?_)))
        refine we_callTy (T := "list") v1 hL2.it.2.2.2 (by decide +kernel) v3 v2 (star_cons rfl) rfl (wa_cons (star_cons rfl) ?_)
        refine e_var (ct := ct0 none H F0) C (by simp only [Bool.and_eq_true, decide_eq_true_eq]; exact ⟨⟨h0, g3⟩, g4⟩) rfl (wa_nil (wcb_listL hS fun l hl => ?_))
        refine wa_cons (star_cons rfl) (we_int (wa_cons (star_cons rfl) (we_int (wa_cons (star_cons rfl) (we_int (wa_nil ⟨show 4 ≤ sizeLine by decide, fun p hp => ?_⟩))))))
        refine wg_name (i := 1) (by rw [C.n]; exact C.nd) (by rw [C.n]; exact h1) l1 l2 ?_
        have lp : l ≠ p := ne_of_none upd_same hp
        have hP : PoolS (upd (upd H l (HO.lst (List.map V.int ns))) p (HO.lst [V.ref l, V.int 0, V.int 0, V.int 0])) p l := ⟨ns, 0, 0, 0, upd_same, by rw [upd_ne lp]; exact upd_same, lp, by decide, by decide⟩
        exact law_tail (L := L) (CL := CL) (XL := XL) (code := code) (N := N) (sc := scope) n hP e7 S.nd e6 e8 V1 hL2 (hX X.A) hm2 hd q
      · cases hp
end Pu

/-! QL: the laws' own helpers, over values. -/
namespace Qw
open PySem PySem.Spec PyProof.Rows L2 Ni Rt Pu
local macro_rules | `(tactic| exists "wh") => `(tactic| conv => whnf)
/-- a pair of the top and the bottom -/
def pairP (q : Rat) : PV := .tup [.int q.num, .int (q.den : Int)]
def rLow : List PV → (PV → Prop) → Prop
  | [.int t, .int b], Q => (0 < b ∧ Bd b 8999) ∧ Q (pairP (Rat.divInt t b))
  | _, _ => False
def spLow : PSpec := .fn rLow fun {xs Q Q'} h1 h => by
  unfold rLow at h ⊢
  split at h
  · exact ⟨h.1, h1 _ h.2⟩
  · exact h.elim
def k__law_low : CSs := (.cons (.asg (.nm 2) (.bi .abs (.cons (.var 0) .nil))) (.cons (.asg (.nm 3) (.var 1)) (.cons (.while_ (.cmp .Gt (.var 3) (.int 0)) (.cons (.asg (.nm 4) (.bin .Mod (.bi .int (.cons (.var 2) .nil)) (.var 3))) (.cons (.asg (.nm 2) (.var 3)) (.cons (.asg (.nm 3) (.var 4)) .nil)))) (.cons (.ret (.tup (.cons (.bin .FloorDiv (.var 0) (.var 2)) (.cons (.bin .FloorDiv (.var 1) (.var 2)) .nil)))) .nil))))
theorem gcd_step {a b : Int} (h0 : 0 ≤ a) (hb : 0 < b) : Nat.gcd b.toNat (a % b).toNat = Nat.gcd a.toNat b.toNat := by
  have e : (a % b).toNat = a.toNat % b.toNat := by
    rw [Int.toNat_emod h0 (by omega)]
  rw [e, Nat.gcd_comm, ← Nat.gcd_rec, Nat.gcd_comm]
theorem com_bdP {t b : Int} {k : Nat} (h : b ≠ 0) (hb : Bd b k) : Bd (com t b) k := by
  refine hb.of_abs ?_
  have l : Nat.gcd t.natAbs b.natAbs ≤ b.natAbs := Nat.gcd_le_right _ (by omega)
  unfold com
  split <;> omega
theorem ifB_d {c : Prop} [Decidable c] {A B : Prop} (h1 : c → A) (h2 : ¬ c → B) : ifB (decide c) A B := by
  by_cases h : c
  · rw [decide_eq_true h]; exact h1 h
  · rw [decide_eq_false h]; exact h2 h
theorem ifB_nd {c : Prop} [Decidable c] {A B : Prop} (h1 : ¬ c → A) (h2 : c → B) : ifB (!decide c) A B := by
  by_cases h : c
  · rw [decide_eq_true h]; exact h2 h
  · rw [decide_eq_false h]; exact h1 h
theorem ifB_t {b : Bool} {A B : Prop} (h : b = true) (a : A) : ifB b A B := by rw [h]; exact a
theorem ifB_fl {b : Bool} {A B : Prop} (h : b = false) (a : B) : ifB b A B := by rw [h]; exact a
variable {tab : TK → TK → Option Bool}
theorem sem_low {xs : List PV} {Q : PV → Prop} {E : KE} (h0 : spLow.run xs Q E) : xs.length = 2 ∧ denB (Lang.of [] (opS tab)) k__law_low (startE 5 xs) { nx := fun _ => Q .non, rt := fun x _ => Q x, ex := fun e _ => E e } := by
  have h : rLow xs Q := h0
  clear h0
  unfold rLow at h
  split at h
  · rename_i t b
    obtain ⟨⟨b0, bb⟩, q⟩ := h
    refine ⟨rfl, ?_⟩
    have et : (if t < 0 then -t else t) = ((t.natAbs : Nat) : Int) := by
      split <;> omega
    show denB _ (.cons (.while_ _ _) _) [some (.val (.int t)), some (.val (.int b)), some (.val (.int (if t < 0 then -t else t))), some (.val (.int b)), none] _
    rw [et]
    refine ⟨fun m ρ => ∃ (one two : Int) (rest : Option SV), ρ = [some (.val (.int t)), some (.val (.int b)), some (.val (.int one)), some (.val (.int two)), rest] ∧ 0 ≤ one ∧ 0 ≤ two ∧ Nat.gcd one.toNat two.toNat = Nat.gcd t.natAbs b.natAbs ∧ m = two.toNat,
      ⟨b.toNat, _, b, none, rfl, by omega, by omega, by rw [Int.toNat_natCast, show b.toNat = b.natAbs by omega], rfl⟩, ?_⟩
    rintro m ρ ⟨one, two, rest, rfl, h1, h2, hg, rfl⟩
    show ifB (decide (0 < two)) _ _
    refine ifB_d (fun z => ?_) (fun z => ?_)
    · refine ⟨z, ?_⟩
      exists "wh"
      refine ⟨(one % two).toNat, ?_, two, one % two, _, rfl, by omega, Int.emod_nonneg _ (by omega), ?_, rfl⟩
      · have := Int.emod_lt_of_pos one z
        have := Int.emod_nonneg one (show two ≠ 0 by omega)
        omega
      · rw [gcd_step h1 z]
        exact hg
    · have e0 : two = 0 := by omega
      subst e0
      have eo : one = com t b := by
        rw [show Int.toNat 0 = 0 from rfl, Nat.gcd_zero_right] at hg
        unfold com
        rw [if_neg (by omega)]
        omega
      have bc : Bd (com t b) 8999 := com_bdP (by omega) bb
      have nc : com t b ≠ 0 := com_ne (by omega)
      rw [eo]
      refine ⟨⟨nc, _, bc, by decide⟩, ?_⟩
      refine ⟨⟨nc, _, bc, by decide⟩, ?_⟩
      show Q (.tup [.int (t.fdiv (com t b)), .int (b.fdiv (com t b))])
      rw [com_top (by omega), com_bot (by omega)]
      exact q
  · exact h.elim
end Qw

/-! QM: the laws' own helpers, over values: whole numbers, pairs, signs, draws. -/
namespace Qw
open PySem PySem.Spec PyProof.Rows L2 Ni Rt Pu
local macro_rules | `(tactic| exists "wh") => `(tactic| conv => whnf)
def tabB : List (TK × TK × Bool) := [(.int, .int, true), (.int, .bool, false), (.bool, .bool, true), (.int, .cl .ratio, false), (.cl .ratio, .cl .ratio, true), (.cl .ratio, .int, false), (.non, .int, false), (.str, .int, false), (.list, .int, false), (.tuple, .int, false), (.non, .cl .ratio, false), (.str, .cl .ratio, false), (.list, .cl .ratio, false), (.tuple, .cl .ratio, false)]
abbrev tab : TK → TK → Option Bool := tabF tabB
def rRatio : List PV → (PV → Prop) → (Exc → Prop) → Prop
  | [.int t, .int b], Q, E => Bd b 8999 ∧ (b = 0 → E ⟨.zeroBottom, []⟩) ∧ (b ≠ 0 → Q (.rat (Rat.divInt t b)))
  | [.int n], Q, _ => Q (.rat n)
  | _, _, _ => False
def spRatio : PSpec where
  fresh := true
  run := rRatio
  mono := by
    intro xs Q Q' E E' h1 h2 h
    unfold rRatio at h ⊢
    split at h
    · exact ⟨h.1, fun z => h2 _ (h.2.1 z), fun z => h1 _ (h.2.2 z)⟩
    · exact h1 _ h
    · exact h.elim
def rWhole : List PV → (PV → Prop) → Prop
  | [.int _], Q => Q (.bl true)
  | _, _ => False
def spWhole : PSpec := .fn rWhole fun {xs Q Q'} h1 h => by
  unfold rWhole at h ⊢
  split at h
  · exact h1 _ h
  · exact h.elim
def k__law_whole : CSs := (.cons (.ret (.and (.cons (.bi .isi (.cons (.var 0) (.cons (.ty .int) .nil))) (.cons (.inot (.bi .isi (.cons (.var 0) (.cons (.ty .bool) .nil)))) .nil)))) .nil)
theorem sem_whole {xs : List PV} {Q : PV → Prop} {E : KE} (h0 : spWhole.run xs Q E) : xs.length = 1 ∧ denB (Lang.of [] (opS tab)) k__law_whole (startE 1 xs) { nx := fun _ => Q .non, rt := fun x _ => Q x, ex := fun e _ => E e } := by
  have h : rWhole xs Q := h0
  clear h0
  unfold rWhole at h
  split at h
  · refine ⟨rfl, ?_⟩
    exists "wh"
    exact h
  · exact h.elim
def rPair : List PV → (PV → Prop) → Prop
  | [.rat q], Q => Bd (q.den : Int) 8999 ∧ Q (pairP q)
  | _, _ => False
def spPairP : PSpec := .fn rPair fun {xs Q Q'} h1 h => by
  unfold rPair at h ⊢
  split at h
  · exact ⟨h.1, h1 _ h.2⟩
  · exact h.elim
def k__law_pair : CSs := (.cons (.ite (.or (.cons (.inot (.bi .isi (.cons (.var 0) (.cons (.cls .ratio) .nil)))) (.cons (.inot (.call 0 (.cons (.fld .ratio 0 (.var 0)) .nil))) (.cons (.inot (.call 0 (.cons (.fld .ratio 1 (.var 0)) .nil))) .nil)))) (.cons (.ret .non) .nil) .nil) (.cons (.ite (.or (.cons (.cmp .Lt (.fld .ratio 1 (.var 0)) (.int 1)) (.cons (.cmp .NotEq (.call 1 (.cons (.fld .ratio 0 (.var 0)) (.cons (.fld .ratio 1 (.var 0)) .nil))) (.tup (.cons (.fld .ratio 0 (.var 0)) (.cons (.fld .ratio 1 (.var 0)) .nil)))) .nil))) (.cons (.ret .non) .nil) .nil) (.cons (.ret (.tup (.cons (.fld .ratio 0 (.var 0)) (.cons (.fld .ratio 1 (.var 0)) .nil)))) .nil)))
abbrev L__law_pair : Lang := (Lang.of [(.glo "_law_whole", spWhole), (.glo "_law_low", spLow)] (opS tab))
theorem sem_pair {xs : List PV} {Q : PV → Prop} {E : KE} (h0 : spPairP.run xs Q E) : xs.length = 1 ∧ denB L__law_pair k__law_pair (startE 1 xs) { nx := fun _ => Q .non, rt := fun x _ => Q x, ex := fun e _ => E e } := by
  have h : rPair xs Q := h0
  clear h0
  unfold rPair at h
  split at h
  · rename_i q
    obtain ⟨hb, h⟩ := h
    refine ⟨rfl, ?_⟩
    have d0 : (0 : Int) < q.den := by
      have := q.den_pos
      omega
    show ifB (decide ((q.den : Int) < 1)) _ _
    refine ifB_d (fun z => absurd z (by omega)) (fun _ => ?_)
    refine ⟨⟨d0, hb⟩, ?_⟩
    rw [Rat.num_divInt_den]
    refine ⟨⟨rfl, rfl⟩, ?_⟩
    refine ifB_fl ?_ ?_
    · rw [show eqP (pairP q) (.tup [.int q.num, .int (q.den : Int)]) = true from eqP_self (show datP 60 _ = true from rfl)]
      rfl
    · exists "wh"
      exact h
  · exact h.elim
def sixP (t u : Int) : PV := .lst [.bl (decide (t < u)), .bl (decide (t ≤ u)), .bl (decide (u < t)), .bl (decide (u ≤ t)), .bl (decide (t = u)), .bl (!decide (t = u))]
def rSigns : List PV → (PV → Prop) → Prop
  | [.lst ys, .int t, .int u], Q => PV.lst ys = sixP t u ∧ Q (.bl true)
  | _, _ => False
def spSigns : PSpec := .fn rSigns fun {xs Q Q'} h1 h => by
  unfold rSigns at h ⊢
  split at h
  · exact ⟨h.1, h1 _ h.2⟩
  · exact h.elim
def k__law_signs : CSs := (.cons (.for_ (.nm 3) (.seqV 0) (.cons (.ite (.inot (.bi .isi (.cons (.var 3) (.cons (.ty .bool) .nil)))) (.cons (.ret (.bl false)) .nil) .nil) .nil)) (.cons (.ret (.cmp .Eq (.var 0) (.fr (.lst (.cons (.cmp .Lt (.var 1) (.var 2)) (.cons (.cmp .LtE (.var 1) (.var 2)) (.cons (.cmp .Gt (.var 1) (.var 2)) (.cons (.cmp .GtE (.var 1) (.var 2)) (.cons (.cmp .Eq (.var 1) (.var 2)) (.cons (.cmp .NotEq (.var 1) (.var 2)) .nil)))))))))) .nil))
theorem eqP_six (a b c d e f : Bool) : eqP (.lst [.bl a, .bl b, .bl c, .bl d, .bl e, .bl f]) (.lst [.bl a, .bl b, .bl c, .bl d, .bl e, .bl f]) = true := eqP_self (show datP 60 _ = true from rfl)
theorem sem_signs {xs : List PV} {Q : PV → Prop} {E : KE} (h0 : spSigns.run xs Q E) : xs.length = 3 ∧ denB (Lang.of [] (opS tab)) k__law_signs (startE 4 xs) { nx := fun _ => Q .non, rt := fun x _ => Q x, ex := fun e _ => E e } := by
  have h : rSigns xs Q := h0
  clear h0
  unfold rSigns at h
  split at h
  · rename_i ys t u
    obtain ⟨e, h⟩ := h
    cases e
    refine ⟨rfl, ?_⟩
    exists "wh"
    refine ⟨⟨rfl, rfl⟩, ?_⟩
    show Q (.bl (eqP _ _))
    rw [eqP_six]
    exact h
  · exact h.elim
def rDraw : List PV → (PV → Prop) → Prop
  | [.pool, .int m], Q => (0 < m ∧ Bd m 8999) ∧ ∀ d : Int, 0 ≤ d → d < m → Q (.int d)
  | _, _ => False
def spDrawP : PSpec := .fn rDraw fun {xs Q Q'} h1 h => by
  unfold rDraw at h ⊢
  split at h
  · exact ⟨h.1, fun d a b => h1 _ (h.2 d a b)⟩
  · exact h.elim
def numQ : PV → Option Rat
  | .rat q => some q
  | .int n => some n
  | _ => none
def numsQ : List PV → Option (List Rat)
  | [] => some []
  | x :: xs => match numQ x with
    | some q => (match numsQ xs with
      | some qs => some (q :: qs)
      | none => none)
    | none => none
theorem numsQ_ok : ∀ {xs : List PV} {qs : List Rat}, numsQ xs = some qs → xs.length = qs.length ∧ ∀ (i : Nat) (x : PV) (q : Rat), xs[i]? = some x → qs[i]? = some q → numQ x = some q
  | [], _, h => by cases h; exact ⟨rfl, fun i x q h => by simp at h⟩
  | x :: xs, qs, h => by
    unfold numsQ at h
    split at h
    · rename_i q e
      split at h
      · rename_i qs2 e2
        cases h
        obtain ⟨l, g⟩ := numsQ_ok e2
        refine ⟨by simp [l], fun i y r h1 h2 => ?_⟩
        cases i with
        | zero => simp at h1 h2; subst h1 h2; exact e
        | succ i => simp at h1 h2; exact g i y r h1 h2
      · cases h
    · cases h
def rGreat (xs : List PV) (Q : PV → Prop) (E : KE) : Prop := ∃ qs, numsQ xs = some qs ∧ xs.length ≤ 1000 ∧ (∀ q ∈ qs, Sz q 4000) ∧ (qs = [] → E ⟨.badLength, []⟩) ∧ (qs ≠ [] → ∀ r ∈ qs, (∀ q ∈ qs, q ≤ r) → Q (.rat r))
def spGreatP : PSpec where
  run := rGreat
  mono := fun h1 h2 ⟨qs, e, l, s, a, b⟩ => ⟨qs, e, l, s, fun z => h2 _ (a z), fun z r m g => h1 _ (b z r m g)⟩
def rTrue0 : List PV → (PV → Prop) → Prop
  | [], Q => Q (.bl true)
  | _, _ => False
def spTrue0 : PSpec := .fn rTrue0 fun {xs Q Q'} h1 h => by
  unfold rTrue0 at h ⊢
  split at h
  · exact h1 _ h
  · exact h.elim
end Qw

/-! QO: what value proofs lean on: loops, sizes, order of fractions. -/
namespace Qw
open PySem PySem.Spec PyProof.Rows L2 Ni Rt Pu
local macro_rules | `(tactic| exists "wh") => `(tactic| conv => whnf)
theorem denFor_ind {step : PV → Pu.Env → (Pu.Env → Prop) → Prop} {K : Pu.Env → Prop} (I : List PV → Pu.Env → Prop) (h0 : ∀ ρ, I [] ρ → K ρ) (h1 : ∀ x xs ρ (K2 : Pu.Env → Prop), I (x :: xs) ρ → (∀ ρ', I xs ρ' → K2 ρ') → step x ρ K2) : ∀ {xs : List PV} {ρ : Pu.Env}, I xs ρ → denFor step xs ρ K
  | [], ρ, h => h0 ρ h
  | x :: xs, ρ, h => h1 x xs ρ _ h fun _ h' => denFor_ind I h0 h1 h'
theorem denComp_map {step : PV → (Option PV → Prop) → Prop} {K : List PV → Prop} (f : PV → PV) : ∀ {xs acc : List PV}, (∀ x ∈ xs, ∀ K2 : Option PV → Prop, K2 (some (f x)) → step x K2) → K (acc ++ xs.map f) → denComp step xs acc K
  | [], acc, _, h => by rw [List.map_nil, List.append_nil] at h; exact h
  | x :: xs, acc, h1, h => h1 x (.head _) _ (denComp_map f (fun y m => h1 y (.tail _ m)) (by simpa using h))
theorem rangeP_len : ∀ (n : Nat) (lo : Int), (rangeP lo n).length = n
  | 0, _ => rfl
  | n + 1, lo => by
    show (rangeP (lo + 1) n).length + 1 = n + 1
    rw [rangeP_len n]
theorem wide_of {W : Int} (h : W ≤ 10 ^ 40) (h0 : 0 ≤ W) (n : Int) (l : n.natAbs ≤ 100 * W.natAbs + 100) : Bd n 200 := by
  have e : (100 * 10 ^ 40 + 100 : Nat) < 2 ^ 200 := by decide +kernel
  have e2 : (10 ^ 40 : Int) = ((10 ^ 40 : Nat) : Int) := by decide +kernel
  rw [e2] at h
  unfold Bd
  omega
theorem bd_lit {n : Int} {k : Nat} (h : n.natAbs < 8) (l : 3 ≤ k) : Bd n k := Bd.mono (k := 3) h l
theorem mul_small {a b : Int} (h1 : Bd a 200) (h2 : Bd b 200) : MulOk a b := ⟨200, 200, h1, h2, by decide⟩
theorem div_le {a b c d : Int} (hb : 0 < b) (hd : 0 < d) (h : a * d ≤ c * b) : Rat.divInt a b ≤ Rat.divInt c d := by
  have hp : (0 : Rat) < ((b * d : Int) : Rat) := Rat.intCast_lt_intCast.mpr (Int.mul_pos hb hd)
  refine Rat.le_of_mul_le_mul_right (c := ((b * d : Int) : Rat)) ?_ hp
  rw [Rat.intCast_mul]
  have e1 : Rat.divInt a b * ((b : Rat) * (d : Rat)) = ((a * d : Int) : Rat) := by
    rw [← Rat.mul_assoc, div_mul (by omega), Rat.intCast_mul]
  have e2 : Rat.divInt c d * ((b : Rat) * (d : Rat)) = ((c * b : Int) : Rat) := by
    rw [Rat.mul_comm (b : Rat), ← Rat.mul_assoc, div_mul (by omega), Rat.intCast_mul]
  rw [e1, e2]
  exact Rat.intCast_le_intCast.mpr h
theorem le_step {a b c d e f : Int} (hb : 0 < b) (hd : 0 < d) (hf : 0 < f) (h1 : a * d ≤ c * b) (h2 : c * f ≤ e * d) : a * f ≤ e * b := by
  have h3 : a * d * f ≤ c * b * f := Int.mul_le_mul_of_nonneg_right h1 (by omega)
  have h4 : c * f * b ≤ e * d * b := Int.mul_le_mul_of_nonneg_right h2 (by omega)
  have h5 : (a * f) * d ≤ (e * b) * d := by
    rw [show a * f * d = a * d * f by rw [Int.mul_assoc, Int.mul_comm f d, ← Int.mul_assoc], show e * b * d = e * d * b by rw [Int.mul_assoc, Int.mul_comm b d, ← Int.mul_assoc]]
    refine Int.le_trans h3 ?_
    rw [show c * b * f = c * f * b by rw [Int.mul_assoc, Int.mul_comm b f, ← Int.mul_assoc]]
    exact h4
  exact Int.le_of_mul_le_mul_right h5 hd
theorem bd_den {r : Rat} {k : Nat} (h : Sz r 4000) (l : 4000 ≤ k) : Bd (r.den : Int) k := h.2.mono l
theorem div1 (n : Int) : Rat.divInt n 1 = (n : Rat) := (is_div (by decide) (by rw [show ((1 : Int) : Rat) = 1 from rfl, Rat.mul_one])).symm
theorem sz_intP {n : Int} {k : Nat} (h : Bd n k) (l : 3 ≤ k) : Sz (n : Rat) k := by
  rw [← div1 n]
  exact sz_of (by decide) h (bd_lit (by decide) l)
theorem eqP_pair {q r : Rat} (h : q = r) : eqP (pairP q) (pairP r) = true := by
  rw [h]
  exact eqP_self (show datP 60 _ = true from rfl)
theorem eqP_pairI {q : Rat} {W : Int} (h : q = (W : Rat)) : eqP (pairP q) (.tup [.int W, .int 1]) = true := by
  rw [h]
  exact eqP_self (show datP 60 _ = true from rfl)
theorem atP_at {xs : List PV} {d : Int} {x : PV} {Q : PV → Prop} (h0 : 0 ≤ d) (h : nth xs d.toNat = some x) (q : Q x) : atP xs d Q := by
  obtain ⟨j, rfl⟩ := Int.eq_ofNat_of_zero_le h0
  show optP (nth xs j) Q
  rw [Int.toNat_natCast] at h
  rw [h]
  exact q
theorem ite_join {c : Prop} [Decidable c] {L : Lang} {b1 b2 : CSs} {ρ : Pu.Env} {K rt bk ct} {ex : Exc → Pu.Env → Prop} {rs : Pu.Env → Prop} (J : Pu.Env → Prop) (h1 : c → ∀ K, (∀ ρ', J ρ' → K ρ') → denB L b1 ρ ⟨K, rt, bk, ct, ex, rs⟩) (h2 : ¬ c → ∀ K, (∀ ρ', J ρ' → K ρ') → denB L b2 ρ ⟨K, rt, bk, ct, ex, rs⟩) (h : ∀ ρ', J ρ' → K ρ') :
    ifB (decide c) (denB L b1 ρ ⟨K, rt, bk, ct, ex, rs⟩) (denB L b2 ρ ⟨K, rt, bk, ct, ex, rs⟩) := ifB_d (fun z => h1 z K h) (fun z => h2 z K h)
theorem ite_joinN {c : Prop} [Decidable c] {L : Lang} {b1 b2 : CSs} {ρ : Pu.Env} {K rt bk ct} {ex : Exc → Pu.Env → Prop} {rs : Pu.Env → Prop} (J : Pu.Env → Prop) (h1 : ¬ c → ∀ K, (∀ ρ', J ρ' → K ρ') → denB L b1 ρ ⟨K, rt, bk, ct, ex, rs⟩) (h2 : c → ∀ K, (∀ ρ', J ρ' → K ρ') → denB L b2 ρ ⟨K, rt, bk, ct, ex, rs⟩) (h : ∀ ρ', J ρ' → K ρ') :
    ifB (!decide c) (denB L b1 ρ ⟨K, rt, bk, ct, ex, rs⟩) (denB L b2 ρ ⟨K, rt, bk, ct, ex, rs⟩) := ifB_nd (fun z => h1 z K h) (fun z => h2 z K h)
theorem div_lt {a b c d : Int} (hb : 0 < b) (hd : 0 < d) (h : a * d < c * b) : Rat.divInt a b < Rat.divInt c d := by
  have hp : (0 : Rat) ≤ ((b * d : Int) : Rat) := Rat.le_of_lt (Rat.intCast_lt_intCast.mpr (Int.mul_pos hb hd))
  refine Rat.lt_of_mul_lt_mul_right (c := ((b * d : Int) : Rat)) ?_ hp
  rw [Rat.intCast_mul]
  have e1 : Rat.divInt a b * ((b : Rat) * (d : Rat)) = ((a * d : Int) : Rat) := by
    rw [← Rat.mul_assoc, div_mul (by omega), Rat.intCast_mul]
  have e2 : Rat.divInt c d * ((b : Rat) * (d : Rat)) = ((c * b : Int) : Rat) := by
    rw [Rat.mul_comm (b : Rat), ← Rat.mul_assoc, div_mul (by omega), Rat.intCast_mul]
  rw [e1, e2]
  exact Rat.intCast_lt_intCast.mpr h
theorem div_le_iff {a b c d : Int} (hb : 0 < b) (hd : 0 < d) : Rat.divInt a b ≤ Rat.divInt c d ↔ a * d ≤ c * b := by
  refine ⟨fun h => ?_, div_le hb hd⟩
  by_cases z : a * d ≤ c * b
  · exact z
  · exact absurd h (Rat.not_le.mpr (div_lt hd hb (by omega)))
theorem six_of {q r : Rat} {t u : Int} (h1 : q ≤ r ↔ t ≤ u) (h2 : r ≤ q ↔ u ≤ t) : PV.lst [.bl (decide (q < r)), .bl (decide (q ≤ r)), .bl (decide (r < q)), .bl (decide (r ≤ q)), .bl (decide (q = r)), .bl (!decide (q = r))] = sixP t u := by
  have a1 : q < r ↔ t < u := by rw [← Rat.not_le, h2]; omega
  have a2 : r < q ↔ u < t := by rw [← Rat.not_le, h1]; omega
  have a3 : q = r ↔ t = u := ⟨fun e => by
    have := h1.mp (by rw [e]; exact Rat.le_refl)
    have := h2.mp (by rw [e]; exact Rat.le_refl)
    omega, fun e => Rat.le_antisymm (h1.mpr (by omega)) (h2.mpr (by omega))⟩
  unfold sixP
  rw [decide_eq_decide.mpr a1, decide_eq_decide.mpr h1, decide_eq_decide.mpr a2, decide_eq_decide.mpr h2, decide_eq_decide.mpr a3]
theorem fdiv_small {a b : Int} (h : 0 < b) : (a.fdiv b).natAbs ≤ a.natAbs := by
  rw [Int.fdiv_eq_ediv_of_nonneg _ (by omega)]
  exact Int.natAbs_ediv_le_natAbs a b
theorem eqB (b : Bool) : eqP (.bl b) (.bl b) = true := eqP_self (show datP 60 _ = true from rfl)
theorem div_zero {a b : Int} (h : 0 < b) : Rat.divInt a b = 0 ↔ a = 0 := by
  have e : (0 : Rat) = Rat.divInt 0 1 := (div1 0).symm
  have h1 := div_le_iff (a := a) (c := 0) h (show (0 : Int) < 1 by decide)
  have h2 := div_le_iff (c := a) (a := 0) (show (0 : Int) < 1 by decide) h
  rw [← e] at h1 h2
  refine ⟨fun z => ?_, fun z => ?_⟩
  · have := h1.mp (by rw [z]; exact Rat.le_refl)
    have := h2.mp (by rw [z]; exact Rat.le_refl)
    omega
  · exact Rat.le_antisymm (h1.mpr (by omega)) (h2.mpr (by omega))
end Qw

/-! QN: quotients, rests and powers of fractions, over values. -/
namespace Qw
open PySem PySem.Spec PyProof.Rows L2 Ni Rt Pu
local macro_rules | `(tactic| exists "wh") => `(tactic| conv => whnf)
def rAs : List PV → (PV → Prop) → Prop
  | [x], Q => ∃ q, numQ x = some q ∧ Q (.rat q)
  | _, _ => False
def spAs : PSpec := .fn rAs fun {xs Q Q'} h1 h => by
  unfold rAs at h ⊢
  split at h
  · obtain ⟨q, e, h⟩ := h
    exact ⟨q, e, h1 _ h⟩
  · exact h.elim
/-- the greatest integer not above the quotient -/
def quoQ (q r : Rat) : Int := (q.num * (r.den : Int)).fdiv ((q.den : Int) * r.num)
def floorR (q r : Rat) (Q : PV → Prop) (E : KE) : Prop := (Sz q 4000 ∧ Sz r 4000) ∧ (r = 0 → E ⟨.zeroBottom, []⟩) ∧ (r ≠ 0 → Q (.int (quoQ q r)))
theorem floorR_mono {q r : Rat} {Q Q' : PV → Prop} {E E' : KE} (h1 : ∀ x, Q x → Q' x) (h2 : ∀ e, E e → E' e) (h : floorR q r Q E) : floorR q r Q' E' := ⟨h.1, fun z => h2 _ (h.2.1 z), fun z => h1 _ (h.2.2 z)⟩
def modR (q r : Rat) (Q : PV → Prop) (E : KE) : Prop := (Sz q 1000 ∧ Sz r 1000) ∧ (r = 0 → E ⟨.zeroBottom, []⟩) ∧ (r ≠ 0 → Q (.rat (q - r * (quoQ q r : Rat))))
theorem modR_mono {q r : Rat} {Q Q' : PV → Prop} {E E' : KE} (h1 : ∀ x, Q x → Q' x) (h2 : ∀ e, E e → E' e) (h : modR q r Q E) : modR q r Q' E' := ⟨h.1, fun z => h2 _ (h.2.1 z), fun z => h1 _ (h.2.2 z)⟩
def rOpF0 (tab : TK → TK → Option Bool) (k : OpK) (xs : List PV) (Q : PV → Prop) (E : KE) : Prop := match k, xs with
  | .bin .FloorDiv, [.rat q, .rat r] => floorR q r Q E
  | k, xs => opP tab k xs Q
/-- with the quotient of two fractions -/
def opF0 (tab : TK → TK → Option Bool) (k : OpK) : PSpec where
  run := rOpF0 tab k
  mono := by
    intro xs Q Q' E E' h1 h2 h
    unfold rOpF0 at h ⊢
    split at h
    · exact floorR_mono h1 h2 h
    · exact opP_mono tab h1 h
def rOpF (tab : TK → TK → Option Bool) (k : OpK) (xs : List PV) (Q : PV → Prop) (E : KE) : Prop := match k, xs with
  | .bin .FloorDiv, [.rat q, .rat r] => floorR q r Q E
  | .bin .FloorDiv, [.rat q, .int n] => floorR q n Q E
  | .bin .FloorDiv, [.int n, .rat r] => floorR n r Q E
  | k, xs => opP tab k xs Q
/-- with the quotients of fractions -/
def opF (tab : TK → TK → Option Bool) (k : OpK) : PSpec where
  run := rOpF tab k
  mono := by
    intro xs Q Q' E E' h1 h2 h
    unfold rOpF at h ⊢
    split at h
    · exact floorR_mono h1 h2 h
    · exact floorR_mono h1 h2 h
    · exact floorR_mono h1 h2 h
    · exact opP_mono tab h1 h
def rOpM (tab : TK → TK → Option Bool) (k : OpK) (xs : List PV) (Q : PV → Prop) (E : KE) : Prop := match k, xs with
  | .bin .Mod, [.rat q, .rat r] => modR q r Q E
  | .bin .Mod, [.rat q, .int n] => modR q n Q E
  | .bin .Mod, [.int n, .rat r] => modR n r Q E
  | .bin .Pow, [.rat q, .int n] => (Sz q 130 ∧ 0 ≤ n ∧ n ≤ 64) ∧ Q (.rat (q ^ n.toNat))
  | k, xs => rOpF tab k xs Q E
def opM (tab : TK → TK → Option Bool) (k : OpK) : PSpec where
  run := rOpM tab k
  mono := by
    intro xs Q Q' E E' h1 h2 h
    unfold rOpM at h ⊢
    split at h
    · exact modR_mono h1 h2 h
    · exact modR_mono h1 h2 h
    · exact modR_mono h1 h2 h
    · exact ⟨h.1, h1 _ h.2⟩
    · exact (opF tab _).mono h1 h2 h
def rFl : List PV → (PV → Prop) → KE → Prop
  | [.rat q, y], Q, E => ∃ r, numQ y = some r ∧ floorR q r Q E
  | _, _, _ => False
def spFl : PSpec where
  run := rFl
  mono := by
    intro xs Q Q' E E' h1 h2 h
    unfold rFl at h ⊢
    split at h
    · obtain ⟨r, e, h⟩ := h
      exact ⟨r, e, floorR_mono h1 h2 h⟩
    · exact h.elim
def k_Ratio___floordiv__ : CSs := (.cons (.asg (.nm 1) (.call 0 (.cons (.var 1) .nil))) (.cons (.ite (.cmp .Eq (.fld .ratio 0 (.var 1)) (.int 0)) (.cons (.raise_ .zeroBottom) .nil) .nil) (.cons (.ret (.bin .FloorDiv (.bin .Mult (.fld .ratio 0 (.var 0)) (.fld .ratio 1 (.var 1))) (.bin .Mult (.fld .ratio 1 (.var 0)) (.fld .ratio 0 (.var 1))))) .nil)))
theorem sem_fl {xs : List PV} {Q : PV → Prop} {E : KE} (h0 : spFl.run xs Q E) : xs.length = 2 ∧ denB (Lang.of [(.glo "as_ratio", spAs)] (opS tab)) k_Ratio___floordiv__ (startE 2 xs) { nx := fun _ => Q .non, rt := fun x _ => Q x, ex := fun e _ => E e } := by
  have h : rFl xs Q E := h0
  clear h0
  unfold rFl at h
  split at h
  · rename_i q y
    obtain ⟨r, ey, ⟨s1, s2⟩, he, hq⟩ := h
    refine ⟨rfl, ?_⟩
    exists "wh"
    refine ⟨r, ey, ?_⟩
    exists "wh"
    refine ifB_d (fun z => ?_) (fun z => ?_)
    · exists "wh"
      exact he (Rat.num_eq_zero.mp z)
    · exists "wh"
      refine ⟨⟨4000, 4000, s1.1, s2.2, by decide⟩, ?_⟩
      exists "wh"
      refine ⟨⟨4000, 4000, s1.2, s2.1, by decide⟩, ?_⟩
      exists "wh"
      refine ⟨⟨Int.mul_ne_zero (by have := q.den_nz; omega) z, 8000, s1.2.mul s2.1, by decide, by decide⟩, ?_⟩
      exact hq fun e => z (Rat.num_eq_zero.mpr e)
  · exact h.elim
theorem quo_bd {q r : Rat} (s1 : Sz q 1000) (s2 : Sz r 1000) : Bd (quoQ q r) 2000 := (s1.1.mul s2.2).of_abs (Int.natAbs_fdiv_le_natAbs _ _)
theorem sz_q {q : Rat} {n : Int} (s : Sz q 1000) (h : Bd n 2000) : Sz (q * (n : Rat)) 3000 := by
  rw [← q_mul q n, Rat.num_intCast, Rat.den_intCast]
  exact sz_of (by have := q.den_nz; simp; omega) (s.1.mul h) (by
    rw [show (q.den : Int) * ((1 : Nat) : Int) = (q.den : Int) by simp]
    exact s.2.mono (by decide))
def rMd : List PV → (PV → Prop) → KE → Prop
  | [.rat q, .rat r], Q, E => modR q r Q E
  | [.rat q, .int n], Q, E => modR q n Q E
  | _, _, _ => False
def spMd : PSpec where
  run := rMd
  mono := by
    intro xs Q Q' E E' h1 h2 h
    unfold rMd at h ⊢
    split at h
    · exact modR_mono h1 h2 h
    · exact modR_mono h1 h2 h
    · exact h.elim
def k_Ratio___mod__ : CSs := (.cons (.ret (.bin .Sub (.var 0) (.bin .Mult (.var 1) (.bin .FloorDiv (.var 0) (.var 1))))) .nil)
theorem sem_md {xs : List PV} {Q : PV → Prop} {E : KE} (h0 : spMd.run xs Q E) : xs.length = 2 ∧ denB (Lang.of [] (opF tab)) k_Ratio___mod__ (startE 2 xs) { nx := fun _ => Q .non, rt := fun x _ => Q x, ex := fun e _ => E e } := by
  have h : rMd xs Q E := h0
  clear h0
  unfold rMd at h
  split at h
  · rename_i q r
    obtain ⟨⟨s1, s2⟩, he, hq⟩ := h
    refine ⟨rfl, ?_⟩
    have bq := quo_bd s1 s2
    exists "wh"
    refine ⟨⟨s1.mono (by decide), s2.mono (by decide)⟩, he, fun z => ?_⟩
    exists "wh"
    refine ⟨⟨1000, 2000, s2, sz_intP bq (by decide), by decide⟩, ?_⟩
    exists "wh"
    refine ⟨⟨1000, 3000, s1, sz_q s2 bq, by decide⟩, ?_⟩
    exact hq z
  · rename_i q n
    obtain ⟨⟨s1, s2⟩, he, hq⟩ := h
    refine ⟨rfl, ?_⟩
    have bq := quo_bd s1 s2
    have bn : Bd n 1000 := s2.1
    exists "wh"
    refine ⟨⟨s1.mono (by decide), s2.mono (by decide)⟩, he, fun z => ?_⟩
    exists "wh"
    refine ⟨⟨1000, 2000, bn, bq, by decide⟩, ?_⟩
    exists "wh"
    refine ⟨⟨1000, 3000, s1, sz_intP (bn.mul bq) (by decide), by decide⟩, ?_⟩
    have := hq z
    rw [← Rat.intCast_mul] at this
    exact this
  · exact h.elim
def rRfl : List PV → (PV → Prop) → KE → Prop
  | [.rat q, .int n], Q, E => floorR n q Q E
  | _, _, _ => False
def spRfl : PSpec where
  run := rRfl
  mono := by
    intro xs Q Q' E E' h1 h2 h
    unfold rRfl at h ⊢
    split at h
    · exact floorR_mono h1 h2 h
    · exact h.elim
def k_Ratio___rfloordiv__ : CSs := (.cons (.ret (.bin .FloorDiv (.call 0 (.cons (.var 1) .nil)) (.var 0))) .nil)
theorem sem_rfl {xs : List PV} {Q : PV → Prop} {E : KE} (h0 : spRfl.run xs Q E) : xs.length = 2 ∧ denB (Lang.of [(.glo "as_ratio", spAs)] (opF0 tab)) k_Ratio___rfloordiv__ (startE 2 xs) { nx := fun _ => Q .non, rt := fun x _ => Q x, ex := fun e _ => E e } := by
  have h : rRfl xs Q E := h0
  clear h0
  unfold rRfl at h
  split at h
  · rename_i q n
    obtain ⟨s, he, hq⟩ := h
    refine ⟨rfl, ?_⟩
    exists "wh"
    refine ⟨(n : Rat), rfl, ?_⟩
    exists "wh"
    exact ⟨s, he, hq⟩
  · exact h.elim
def rRmd : List PV → (PV → Prop) → KE → Prop
  | [.rat q, .int n], Q, E => modR n q Q E
  | _, _, _ => False
def spRmd : PSpec where
  run := rRmd
  mono := by
    intro xs Q Q' E E' h1 h2 h
    unfold rRmd at h ⊢
    split at h
    · exact modR_mono h1 h2 h
    · exact h.elim
def k_Ratio___rmod__ : CSs := (.cons (.ret (.bin .Sub (.var 1) (.bin .Mult (.var 0) (.bin .FloorDiv (.var 1) (.var 0))))) .nil)
theorem sem_rmd {xs : List PV} {Q : PV → Prop} {E : KE} (h0 : spRmd.run xs Q E) : xs.length = 2 ∧ denB (Lang.of [] (opF tab)) k_Ratio___rmod__ (startE 2 xs) { nx := fun _ => Q .non, rt := fun x _ => Q x, ex := fun e _ => E e } := by
  have h : rRmd xs Q E := h0
  clear h0
  unfold rRmd at h
  split at h
  · rename_i q n
    obtain ⟨⟨s1, s2⟩, he, hq⟩ := h
    refine ⟨rfl, ?_⟩
    have bq := quo_bd s1 s2
    exists "wh"
    refine ⟨⟨s1.mono (by decide), s2.mono (by decide)⟩, he, fun z => ?_⟩
    exists "wh"
    refine ⟨⟨1000, 2000, s2, sz_intP bq (by decide), by decide⟩, ?_⟩
    exists "wh"
    refine ⟨⟨1000, 3000, s1, sz_q s2 bq, by decide⟩, ?_⟩
    exact hq z
  · exact h.elim
/-- the exact quotient -/
def overR (q r : Rat) (Q : PV → Prop) (E : KE) : Prop := (Sz q 4000 ∧ Sz r 4000) ∧ (r = 0 → E ⟨.zeroBottom, []⟩) ∧ (r ≠ 0 → Q (.rat (q / r)))
def rOver : List PV → (PV → Prop) → KE → Prop
  | [.rat q, y], Q, E => ∃ r, numQ y = some r ∧ overR q r Q E
  | _, _, _ => False
def spOver : PSpec where
  run := rOver
  mono := by
    intro xs Q Q' E E' h1 h2 h
    unfold rOver at h ⊢
    split at h
    · obtain ⟨r, e, h⟩ := h
      exact ⟨r, e, h.1, fun z => h2 _ (h.2.1 z), fun z => h1 _ (h.2.2 z)⟩
    · exact h.elim
theorem q_over {q r : Rat} (h : r ≠ 0) : Rat.divInt (q.num * (r.den : Int)) ((q.den : Int) * r.num) = q / r := by
  have hn : (q.den : Int) * r.num ≠ 0 := Int.mul_ne_zero (by have := q.den_nz; omega) fun z => h (Rat.num_eq_zero.mp z)
  refine (is_div hn ?_).symm
  have e1 : q * ((q.den : Int) : Rat) = (q.num : Rat) := by
    have := div_mul (t := q.num) (b := (q.den : Int)) (den_ne q)
    rw [Rat.num_divInt_den] at this
    exact this
  have e2 : r * ((r.den : Int) : Rat) = (r.num : Rat) := by
    have := div_mul (t := r.num) (b := (r.den : Int)) (den_ne r)
    rw [Rat.num_divInt_den] at this
    exact this
  rw [Rat.intCast_mul, Rat.intCast_mul, ← e1, ← e2]
  generalize ((q.den : Int) : Rat) = x
  generalize ((r.den : Int) : Rat) = y
  grind
def k_Ratio_over : CSs := (.cons (.asg (.nm 1) (.call 0 (.cons (.var 1) .nil))) (.cons (.ret (.call 1 (.cons (.bin .Mult (.fld .ratio 0 (.var 0)) (.fld .ratio 1 (.var 1))) (.cons (.bin .Mult (.fld .ratio 1 (.var 0)) (.fld .ratio 0 (.var 1))) .nil)))) .nil))
theorem sem_over {xs : List PV} {Q : PV → Prop} {E : KE} (h0 : spOver.run xs Q E) : xs.length = 2 ∧ denB (Lang.of [(.glo "as_ratio", spAs), (.glo "Ratio", spRatio)] (opS tab)) k_Ratio_over (startE 2 xs) { nx := fun _ => Q .non, rt := fun x _ => Q x, ex := fun e _ => E e } := by
  have h : rOver xs Q E := h0
  clear h0
  unfold rOver at h
  split at h
  · rename_i q y
    obtain ⟨r, ey, ⟨s1, s2⟩, he, hq⟩ := h
    refine ⟨rfl, ?_⟩
    exists "wh"
    refine ⟨r, ey, ?_⟩
    exists "wh"
    refine ⟨⟨4000, 4000, s1.1, s2.2, by decide⟩, ?_⟩
    exists "wh"
    refine ⟨⟨4000, 4000, s1.2, s2.1, by decide⟩, ?_⟩
    exists "wh"
    refine ⟨(s1.2.mul s2.1).mono (by decide), fun z => ?_, fun z => ?_⟩
    · refine he (Rat.num_eq_zero.mp ?_)
      rcases Int.mul_eq_zero.mp z with z | z
      · exact absurd z (by have := q.den_nz; omega)
      · exact z
    · have hr : r ≠ 0 := fun e => z (by rw [e]; simp)
      have := hq hr
      rw [← q_over hr] at this
      exact this
  · exact h.elim
theorem q_pow (q : Rat) : ∀ k : Nat, Rat.divInt (q.num ^ k) ((q.den : Int) ^ k) = q ^ k
  | 0 => by rw [Int.pow_zero, Int.pow_zero, div1, Rat.pow_zero]; rfl
  | k + 1 => by
    have h := q_pow q k
    have n0 : (q.den : Int) ^ k ≠ 0 := Int.pow_ne_zero (den_ne q)
    have e1 := div_mul (t := q.num ^ k) n0
    rw [h] at e1
    have e2 := div_mul (t := q.num) (b := (q.den : Int)) (den_ne q)
    rw [Rat.num_divInt_den] at e2
    refine (is_div (Int.pow_ne_zero (den_ne q)) ?_).symm
    rw [Int.pow_succ, Int.pow_succ, Rat.intCast_mul, Rat.intCast_mul, ← e1, ← e2, Rat.pow_succ]
    grind
def rPow : List PV → (PV → Prop) → Prop
  | [.rat q, .int n], Q => (Sz q 130 ∧ 0 ≤ n ∧ n ≤ 64) ∧ Q (.rat (q ^ n.toNat))
  | _, _ => False
def spPow : PSpec := .fn rPow fun {xs Q Q'} h1 h => by
  unfold rPow at h ⊢
  split at h
  · exact ⟨h.1, h1 _ h.2⟩
  · exact h.elim
theorem bd_one : Bd 1 1 := by unfold Bd; decide
theorem bd_pow {n : Int} {j : Nat} (h : Bd n j) : ∀ k : Nat, Bd (n ^ k) (j * k + 1)
  | 0 => by rw [Int.pow_zero]; exact bd_one.mono (by omega)
  | k + 1 => by
    rw [Int.pow_succ]
    exact ((bd_pow h k).mul h).mono (by rw [Nat.mul_succ]; omega)
def k_Ratio___pow__ : CSs := (.cons (.asg (.tup (.cons (.nm 2) (.cons (.nm 3) .nil))) (.tup (.cons (.int 1) (.cons (.int 1) .nil)))) (.cons (.for_ (.nm 4) (.range (.var 1)) (.cons (.par 2 3 (.bin .Mult (.var 2) (.fld .ratio 0 (.var 0))) (.bin .Mult (.var 3) (.fld .ratio 1 (.var 0)))) .nil)) (.cons (.ret (.call 0 (.cons (.var 2) (.cons (.var 3) .nil)))) .nil)))
theorem sem_pow {xs : List PV} {Q : PV → Prop} {E : KE} (h0 : spPow.run xs Q E) : xs.length = 2 ∧ denB (Lang.of [(.glo "Ratio", spRatio)] (opS tab)) k_Ratio___pow__ (startE 5 xs) { nx := fun _ => Q .non, rt := fun x _ => Q x, ex := fun e _ => E e } := by
  have h : rPow xs Q := h0
  clear h0
  unfold rPow at h
  split at h
  · rename_i q n
    obtain ⟨⟨s, n0, n1⟩, hq⟩ := h
    refine ⟨rfl, ?_⟩
    exists "wh"
    refine ⟨⟨by omega, by omega⟩, ?_⟩
    refine denFor_ind (fun xs ρ => ∃ (k : Nat) (o : Option SV), ρ = [some (.val (.rat q)), some (.val (.int n)), some (.val (.int (q.num ^ k))), some (.val (.int ((q.den : Int) ^ k))), o] ∧ k + xs.length = n.toNat) ?_ ?_ ⟨0, none, (by rw [Int.pow_zero, Int.pow_zero]; rfl), by rw [rangeP_len]; omega⟩
    · rintro ρ ⟨k, o, rfl, hk⟩
      have hk : k = n.toNat := by simpa using hk
      exists "wh"
      have hb : Bd ((q.den : Int) ^ k) 8999 := (bd_pow s.2 k).mono (by omega)
      refine ⟨hb, fun z => absurd z (Int.pow_ne_zero (den_ne q)), fun _ => ?_⟩
      rw [q_pow, hk]
      exact hq
    · rintro x xs ρ K2 ⟨k, o, rfl, hk0⟩ k2
      simp only [List.length_cons] at hk0
      have hk : k < 64 := by omega
      exists "wh"
      refine ⟨⟨_, _, bd_pow s.1 k, s.1, by omega⟩, ?_⟩
      exists "wh"
      refine ⟨⟨_, _, bd_pow s.2 k, s.2, by omega⟩, ?_⟩
      exists "wh"
      refine k2 _ ⟨k + 1, some (.val x), ?_, ?_⟩
      · rw [Int.pow_succ, Int.pow_succ]
        rfl
      · omega
  · exact h.elim
end Qw

/-! QV: sizes of fractions: a bound of the value, a bound of the bottom. -/
namespace Qw
open PySem PySem.Spec PyProof.Rows L2 Ni Rt Pu
def Vz (q : Rat) (M D : Nat) : Prop := q.num.natAbs ≤ M * q.den ∧ q.den ≤ D
theorem vz_of {t b : Int} {M D : Nat} (hb : 0 < b) (h1 : t.natAbs ≤ M * b.natAbs) (h2 : b.natAbs ≤ D) : Vz (Rat.divInt t b) M D := by
  have nb : b ≠ 0 := by omega
  have e1 := com_top (t := t) nb
  have e2 := com_bot (t := t) nb
  obtain ⟨x, ex⟩ := com_dvd_top t b
  obtain ⟨y, ey⟩ := com_dvd_bot t b
  have cn := com_ne (t := t) nb
  have f1 : t.fdiv (com t b) = x := by
    rw [Int.fdiv_eq_ediv_of_dvd (com_dvd_top t b)]
    exact Int.ediv_eq_of_eq_mul_right cn ex
  have f2 : b.fdiv (com t b) = y := by
    rw [Int.fdiv_eq_ediv_of_dvd (com_dvd_bot t b)]
    exact Int.ediv_eq_of_eq_mul_right cn ey
  refine ⟨?_, ?_⟩
  · rw [← e1, f1]
    have dy : (Rat.divInt t b).den = y.natAbs := by
      have : ((Rat.divInt t b).den : Int) = y := by rw [← e2, f2]
      omega
    rw [dy]
    have h3 : t.natAbs = (com t b).natAbs * x.natAbs := by
      have := congrArg Int.natAbs ex
      rw [Int.natAbs_mul] at this
      exact this
    have h4 : b.natAbs = (com t b).natAbs * y.natAbs := by
      have := congrArg Int.natAbs ey
      rw [Int.natAbs_mul] at this
      exact this
    rw [h3, h4] at h1
    have cp : 0 < (com t b).natAbs := by omega
    have h5 : (com t b).natAbs * x.natAbs ≤ (com t b).natAbs * (M * y.natAbs) := by
      rw [show (com t b).natAbs * (M * y.natAbs) = M * ((com t b).natAbs * y.natAbs) by rw [← Nat.mul_assoc, Nat.mul_comm _ M, Nat.mul_assoc]]
      exact h1
    exact Nat.le_of_mul_le_mul_left h5 cp
  · have := sz_bot (t := t) nb
    omega
theorem Vz.sz {q : Rat} {M D k : Nat} (h : Vz q M D) (l : (M + 1) * D < 2 ^ k) : Sz q k := by
  have h1 : M * q.den ≤ M * D := Nat.mul_le_mul_left _ h.2
  have h2 : (M + 1) * D = M * D + D := Nat.succ_mul M D
  have h3 := h.1
  have h4 := h.2
  constructor
  · show q.num.natAbs < 2 ^ k
    omega
  · show (q.den : Int).natAbs < 2 ^ k
    omega
theorem Vz.mono {q : Rat} {M D M' D' : Nat} (h : Vz q M D) (l : M ≤ M') (l2 : D ≤ D') : Vz q M' D' := ⟨Nat.le_trans h.1 (Nat.mul_le_mul_right _ l), Nat.le_trans h.2 l2⟩
theorem Vz.add {q r : Rat} {M D M' D' : Nat} (h : Vz q M D) (k : Vz r M' D') : Vz (q + r) (M + M') (D * D') := by
  rw [← q_add q r]
  refine vz_of (Int.mul_pos (den_pos q) (den_pos r)) ?_ ?_
  · rw [Int.natAbs_mul]
    refine Nat.le_trans (Int.natAbs_add_le _ _) ?_
    rw [Int.natAbs_mul, Int.natAbs_mul, Int.natAbs_natCast, Int.natAbs_natCast, Nat.add_mul]
    have a1 : q.num.natAbs * r.den ≤ M * q.den * r.den := Nat.mul_le_mul_right _ h.1
    have a2 : r.num.natAbs * q.den ≤ M' * r.den * q.den := Nat.mul_le_mul_right _ k.1
    rw [← Nat.mul_assoc, ← Nat.mul_assoc, show M' * q.den * r.den = M' * r.den * q.den by rw [Nat.mul_assoc, Nat.mul_comm q.den, ← Nat.mul_assoc]]
    omega
  · rw [Int.natAbs_mul, Int.natAbs_natCast, Int.natAbs_natCast]
    exact Nat.mul_le_mul h.2 k.2
theorem Vz.neg {q : Rat} {M D : Nat} (h : Vz q M D) : Vz (-q) M D := by
  refine ⟨?_, ?_⟩
  · show (-q.num).natAbs ≤ M * q.den
    rw [Int.natAbs_neg]; exact h.1
  · exact h.2
theorem Vz.sub {q r : Rat} {M D M' D' : Nat} (h : Vz q M D) (k : Vz r M' D') : Vz (q - r) (M + M') (D * D') := by
  rw [Rat.sub_eq_add_neg]
  exact h.add k.neg
theorem Vz.mul {q r : Rat} {M D M' D' : Nat} (h : Vz q M D) (k : Vz r M' D') : Vz (q * r) (M * M') (D * D') := by
  rw [← q_mul q r]
  refine vz_of (Int.mul_pos (den_pos q) (den_pos r)) ?_ ?_
  · rw [Int.natAbs_mul, Int.natAbs_mul, Int.natAbs_natCast, Int.natAbs_natCast]
    refine Nat.le_trans (Nat.mul_le_mul h.1 k.1) (Nat.le_of_eq ?_)
    rw [Nat.mul_assoc, Nat.mul_assoc]
    congr 1
    rw [← Nat.mul_assoc, ← Nat.mul_assoc, Nat.mul_comm q.den]
  · rw [Int.natAbs_mul, Int.natAbs_natCast, Int.natAbs_natCast]
    exact Nat.mul_le_mul h.2 k.2
theorem Vz.zero {M D : Nat} (h : 1 ≤ D) : Vz 0 M D := ⟨Nat.zero_le _, h⟩
theorem Vz.int {n : Int} {M D : Nat} (h : n.natAbs ≤ M) (l : 1 ≤ D) : Vz (n : Rat) M D := ⟨by rw [Rat.num_intCast, Rat.den_intCast]; omega, by rw [Rat.den_intCast]; exact l⟩
theorem mz_of {q r : Rat} (h : Sz q 4490) (k : Sz r 4490) : Mz q r := ⟨4490, 4490, h, k, by decide⟩
theorem Vz.mz {q r : Rat} {M D M' D' : Nat} (h : Vz q M D) (k : Vz r M' D') (l : (M + 1) * D < 2 ^ 4490) (l2 : (M' + 1) * D' < 2 ^ 4490) : Mz q r := mz_of (h.sz l) (k.sz l2)
end Qw

/-! QP: Amounts, over values: promises. -/
namespace Qw
open PySem PySem.Spec PyProof.Rows L2 Ni Rt Pu
inductive Out where
  | ret (x : PV) | err (e : Exc)
def outQ (o : Out) (Q : PV → Prop) (E : KE) : Prop := match o with
  | .ret x => Q x
  | .err e => E e
/-- a promise by what comes out -/
def _root_.Pu.PSpec.det (fr : Bool) (R : List PV → Out → Prop) : PSpec where
  fresh := fr
  run := fun xs Q E => ∃ o, R xs o ∧ outQ o Q E
  mono := fun h1 h2 ⟨o, r, h⟩ => ⟨o, r, by
    cases o with
    | ret x => exact h1 _ h
    | err e => exact h2 _ h⟩
inductive MOut where
  | ret (x : PV) (gs : List FV) | err (e : Exc) (gs : List FV)
def moutQ (o : MOut) (Q : PV → List FV → Prop) (E : Exc → List FV → Prop) : Prop := match o with
  | .ret x gs => Q x gs
  | .err e gs => E e gs
def _root_.Pu.MSpec.det (R : Cl → List FV → List PV → MOut → Prop) : MSpec where
  run := fun c fs xs Q E => ∃ o, R c fs xs o ∧ moutQ o Q E
  mono := fun h1 h2 ⟨o, r, h⟩ => ⟨o, r, by
    cases o with
    | ret x => exact h1 _ _ h
    | err e => exact h2 _ _ h⟩
/-- fractions as a list's items -/
def ratsP (qs : List Rat) : List PV := qs.map .rat
def am (qs : List Rat) : PV := .obj .amounts [.lst (ratsP qs)]
theorem imm_rats : ∀ (qs : List Rat), immPs (ratsP qs) = true
  | [] => rfl
  | _ :: qs => imm_rats qs
theorem nums_rats : ∀ (qs : List Rat), numsQ (ratsP qs) = some qs
  | [] => rfl
  | q :: qs => by
    show (match numsQ (ratsP qs) with
      | some qs => some (q :: qs)
      | none => none) = _
    rw [nums_rats qs]
theorem rats_len (qs : List Rat) : (ratsP qs).length = qs.length := List.length_map ..
theorem rats_inj : ∀ {ps qs : List Rat}, ratsP ps = ratsP qs → ps = qs
  | [], [], _ => rfl
  | [], _ :: _, h => by cases h
  | _ :: _, [], h => by cases h
  | p :: ps, q :: qs, h => by
    have h : PV.rat p :: ratsP ps = PV.rat q :: ratsP qs := h
    injection h with h1 h2
    injection h1 with h1
    rw [h1, rats_inj h2]
theorem nth_rats : ∀ (qs : List Rat) (i : Nat), nth (ratsP qs) i = (qs[i]?).map .rat
  | [], i => by simp [ratsP, nth_eq]
  | q :: qs, i => by rw [nth_eq, ratsP, List.getElem?_map]
/-- what one goes over -/
def seqP : PV → Option (List PV)
  | .lst xs => some xs
  | .tup xs => some xs
  | .obj .amounts [.lst xs] => some xs
  | _ => none
def lenP : PV → Option Nat
  | .lst xs => some xs.length
  | .tup xs => some xs.length
  | .obj .amounts [.lst xs] => some xs.length
  | _ => none
def tabC : List (TK × TK × Bool) := tabB ++ [(.cl .amounts, .cl .amounts, true), (.cl .amounts, .int, false), (.cl .amounts, .cl .ratio, false), (.list, .cl .amounts, false), (.tuple, .cl .amounts, false), (.int, .cl .amounts, false), (.cl .ratio, .cl .amounts, false), (.non, .cl .amounts, false), (.tuple, .tuple, true), (.list, .tuple, false), (.cl .amounts, .tuple, false)]
abbrev tabA : TK → TK → Option Bool := tabF tabC
/-- pairs small enough -/
def PMz (ps qs : List Rat) : Prop := ∀ (i : Nat) (p q : Rat), ps[i]? = some p → qs[i]? = some q → Mz p q
/-! ### what a method of Amounts leans on: its list, == of lists of fractions -/
def rOpL (k : OpK) (xs : List PV) (Q : PV → Prop) (E : KE) : Prop := match k, xs with
  | .fld .amounts 0, [.obj .amounts [x]] => Q x
  | .cmp .Eq, [.lst xs, .lst ys] => ∃ ps qs, (xs = ratsP ps ∧ ys = ratsP qs ∧ PMz ps qs) ∧ Q (.bl (decide (ps = qs)))
  | k, xs => opP tabA k xs Q
def opL (k : OpK) : PSpec where
  fresh := opFr k
  run := rOpL k
  mono := by
    intro xs Q Q' E E' h1 h2 h
    unfold rOpL at h ⊢
    split at h
    · exact h1 _ h
    · obtain ⟨ps, qs, e, h⟩ := h
      exact ⟨ps, qs, e, h1 _ h⟩
    · exact opP_mono tabA h1 h
/-! ### promises -/
def Lm {α : Type} (l : List α) : Prop := l.length ≤ 1000
theorem Lm.small {α : Type} {l : List α} (h : Lm l) : SmallL l.length := Nat.le_trans h (by decide)
def isNum : PV → Option Bool
  | .int _ => some true
  | .rat _ => some true
  | .lst _ => some false
  | .tup _ => some false
  | .obj .amounts _ => some false
  | _ => none
def rIsNum : List PV → (PV → Prop) → Prop
  | [x], Q => ∃ b, isNum x = some b ∧ Q (.bl b)
  | _, _ => False
def spIsNum : PSpec := .fn rIsNum fun {xs Q Q'} h1 h => by
  unfold rIsNum at h ⊢
  split at h
  · obtain ⟨q, e, h⟩ := h
    exact ⟨q, e, h1 _ h⟩
  · exact h.elim
def eBL : Exc := ⟨.badLength, []⟩
def eBK : Exc := ⟨.badKind, []⟩
inductive RCheck : List PV → Out → Prop
  | ok {x y : PV} {n : Nat} : lenP x = some n → lenP y = some n → RCheck [x, y] (.ret .non)
  | bad {x y : PV} {n m : Nat} : lenP x = some n → lenP y = some m → n ≠ m → RCheck [x, y] (.err eBL)
/-- for two lists -/
inductive RCheckL : List PV → Out → Prop
  | ok {xs ys : List PV} : xs.length = ys.length → RCheckL [.lst xs, .lst ys] (.ret .non)
  | bad {xs ys : List PV} : xs.length ≠ ys.length → RCheckL [.lst xs, .lst ys] (.err eBL)
def spCheckL : PSpec := .det false RCheckL
def spCheck : PSpec := .det false RCheck
inductive RNew : List PV → Out → Prop
  | ok {x : PV} {ys : List PV} {qs : List Rat} : seqP x = some ys → numsQ ys = some qs → Lm qs → RNew [x] (.ret (am qs))
def spNew : PSpec := .det true RNew
inductive RIni : Cl → List FV → List PV → MOut → Prop
  | ok {x : PV} {ys : List PV} {qs : List Rat} : seqP x = some ys → numsQ ys = some qs → Lm qs → RIni .amounts [] [x] (.ret .non [.ow (ratsP qs)])
def mIni : MSpec := .det RIni
inductive RZeros : List PV → Out → Prop
  | ok {n : Nat} : n ≤ 1000 → RZeros [.int n] (.ret (am (List.replicate n 0)))
def spZeros : PSpec := .det true RZeros
def dotQ : Rat → List Rat → List Rat → Rat
  | a, p :: ps, q :: qs => dotQ (a + p * q) ps qs
  | a, _, _ => a
def sumQ : Rat → List Rat → Rat
  | a, p :: ps => sumQ (a + p) ps
  | a, [] => a
/-- all that is reckoned on the way is small -/
def DotOk : Rat → List Rat → List Rat → Prop
  | a, p :: ps, q :: qs => (Mz p q ∧ Mz a (p * q)) ∧ DotOk (a + p * q) ps qs
  | _, _, _ => True
def SumOk : Rat → List Rat → Prop
  | a, p :: ps => Mz a p ∧ SumOk (a + p) ps
  | _, [] => True
inductive RDot : List PV → Out → Prop
  | ok {ps qs : List Rat} {x : PV} {ys : List PV} : seqP x = some ys → numsQ ys = some qs → Lm qs → ps.length = qs.length → DotOk 0 ps qs → RDot [am ps, x] (.ret (.rat (dotQ 0 ps qs)))
  | bad {ps qs : List Rat} {x : PV} {ys : List PV} : seqP x = some ys → numsQ ys = some qs → Lm qs → ps.length ≠ qs.length → RDot [am ps, x] (.err eBL)
def spDot : PSpec := .det false RDot
inductive RTotal : List PV → Out → Prop
  | ok {ps : List Rat} : SumOk 0 ps → RTotal [am ps] (.ret (.rat (sumQ 0 ps)))
def spTotal : PSpec := .det false RTotal
inductive RLen : List PV → Out → Prop
  | ok {ps : List Rat} : Lm ps → RLen [am ps] (.ret (.int ps.length))
def spLen : PSpec := .det true RLen
inductive RGet : List PV → Out → Prop
  | ok {ps : List Rat} {k : Nat} {q : Rat} : ps[k]? = some q → RGet [am ps, .int k] (.ret (.rat q))
  | bad {ps : List Rat} {n : Int} : ¬ (0 ≤ n ∧ n < ps.length) → RGet [am ps, .int n] (.err eBK)
def spGet : PSpec := .det false RGet
inductive RSetF : List PV → Out → Prop
  | bad {ps : List Rat} {n : Int} {y : PV} : ¬ (0 ≤ n ∧ n < ps.length) → RSetF [am ps, .int n, y] (.err eBK)
def spSetF : PSpec := .det false RSetF
inductive RSet : Cl → List FV → List PV → MOut → Prop
  | ok {ps : List Rat} {k : Nat} {q : Rat} {y : PV} : k < ps.length → numQ y = some q → RSet .amounts [.ow (ratsP ps)] [.int k, y] (.ret .non [.ow (ratsP (ps.set k q))])
  | bad {ps : List Rat} {n : Int} {y : PV} : ¬ (0 ≤ n ∧ n < ps.length) → RSet .amounts [.ow (ratsP ps)] [.int n, y] (.err eBK [.ow (ratsP ps)])
def mSet : MSpec := .det RSet
inductive RAdd : List PV → Out → Prop
  | ok {ps qs : List Rat} : Lm ps → ps.length = qs.length → PMz ps qs → RAdd [am ps, am qs] (.ret (am (List.zipWith (· + ·) ps qs)))
  | bad {ps qs : List Rat} : ps.length ≠ qs.length → RAdd [am ps, am qs] (.err eBL)
def spAdd : PSpec := .det true RAdd
inductive RSub : List PV → Out → Prop
  | ok {ps qs : List Rat} : Lm ps → ps.length = qs.length → PMz ps qs → RSub [am ps, am qs] (.ret (am (List.zipWith (· - ·) ps qs)))
  | bad {ps qs : List Rat} : ps.length ≠ qs.length → RSub [am ps, am qs] (.err eBL)
def spSub : PSpec := .det true RSub
inductive RIaddF : List PV → Out → Prop
  | bad {ps qs : List Rat} : ps.length ≠ qs.length → RIaddF [am ps, am qs] (.err eBL)
def spIaddF : PSpec := .det true RIaddF
inductive RIadd : Cl → List FV → List PV → MOut → Prop
  | ok {ps qs : List Rat} : Lm ps → ps.length = qs.length → PMz ps qs → RIadd .amounts [.ow (ratsP ps)] [am qs] (.ret .non [.ow (ratsP (List.zipWith (· + ·) ps qs))])
  | bad {ps qs : List Rat} : ps.length ≠ qs.length → RIadd .amounts [.ow (ratsP ps)] [am qs] (.err eBL [.ow (ratsP ps)])
def mIadd : MSpec := .det RIadd
inductive RMulA : List PV → Out → Prop
  | ok {ps : List Rat} {y : PV} {q : Rat} : numQ y = some q → Lm ps → (∀ p ∈ ps, Mz p q) → RMulA [am ps, y] (.ret (am (ps.map (· * q))))
def spMulA : PSpec := .det true RMulA
inductive RNeg : List PV → Out → Prop
  | ok {ps : List Rat} : Lm ps → (∀ p ∈ ps, Sz p 8990) → RNeg [am ps] (.ret (am (ps.map (- ·))))
def spNeg : PSpec := .det true RNeg
def notB (Q : PV → Prop) (x : PV) : Prop := match x with
  | .bl b => Q (.bl (!b))
  | _ => False
inductive REqA : List PV → Out → Prop
  | am {ps qs : List Rat} : PMz ps qs → REqA [am ps, am qs] (.ret (.bl (decide (ps = qs))))
  | lst {ps : List Rat} {ys : List PV} : REqA [am ps, .lst ys] (.ret (.bl false))
  | tup {ps : List Rat} {ys : List PV} : REqA [am ps, .tup ys] (.ret (.bl false))
def spEqA : PSpec := .det false REqA
theorem eq_imm {xs : List PV} {Q : PV → Prop} {E : KE} (h : spEqA.run xs Q E) : spEqA.run xs (fun x => immP x = true ∧ Q x) E := by
  obtain ⟨o, r, q⟩ := h
  exact ⟨o, r, by cases r <;> exact ⟨rfl, q⟩⟩
theorem eq_not {xs : List PV} {Q : PV → Prop} {E : KE} (h : spEqA.run xs (notB Q) E) : spEqA.run xs (fun x => ∃ b, x = .bl b ∧ Q (.bl (!b))) E := by
  obtain ⟨o, r, q⟩ := h
  exact ⟨o, r, by cases r <;> exact ⟨_, rfl, q⟩⟩
theorem iaddF_no {xs : List PV} {Q : PV → Prop} {E : KE} (h : spIaddF.run xs Q E) : spIaddF.run xs (fun _ => False) E := by
  obtain ⟨o, r, q⟩ := h
  exact ⟨o, r, by cases r; exact q⟩
theorem setF_no {xs : List PV} {Q : PV → Prop} {E : KE} (h : spSetF.run xs Q E) : spSetF.run xs (fun _ => False) E := by
  obtain ⟨o, r, q⟩ := h
  exact ⟨o, r, by cases r; exact q⟩
theorem len_small {xs : List PV} {Q : PV → Prop} {E : KE} (h : spLen.run xs Q E) : spLen.run xs (fun x => ∃ n : Nat, x = .int n ∧ n ≤ 1000 ∧ Q (.int n)) fun _ => False := by
  obtain ⟨o, r, q⟩ := h
  exact ⟨o, r, by cases r with | ok l => exact ⟨_, rfl, l, q⟩⟩
/-! ### the signs of Amounts -/
def rOpA (k : OpK) (xs : List PV) (Q : PV → Prop) (E : KE) : Prop := match k, xs with
  | .bin .Add, [.obj .amounts a, .obj .amounts b] => spAdd.run [.obj .amounts a, .obj .amounts b] Q E
  | .bin .Sub, [.obj .amounts a, .obj .amounts b] => spSub.run [.obj .amounts a, .obj .amounts b] Q E
  | .bin .Mult, [.obj .amounts a, y] => spMulA.run [.obj .amounts a, y] Q E
  | .bin .Mult, [.int n, .obj .amounts a] => spMulA.run [.obj .amounts a, .int n] Q E
  | .bin .Mult, [.rat q, .obj .amounts a] => spMulA.run [.obj .amounts a, .rat q] Q E
  | .ipl .Add, [.obj .amounts a, .obj .amounts b] => spIaddF.run [.obj .amounts a, .obj .amounts b] Q E
  | .ipl .Sub, [.obj .amounts a, .obj .amounts b] => spSub.run [.obj .amounts a, .obj .amounts b] Q E
  | .ipl .Mult, [.obj .amounts a, y] => spMulA.run [.obj .amounts a, y] Q E
  | .cmp .Eq, [.obj .amounts a, y] => spEqA.run [.obj .amounts a, y] Q E
  | .cmp .NotEq, [.obj .amounts a, y] => spEqA.run [.obj .amounts a, y] (notB Q) E
  | .neg, [.obj .amounts a] => spNeg.run [.obj .amounts a] Q E
  | .bi .len, [.obj .amounts a] => spLen.run [.obj .amounts a] Q E
  | .ix, [.obj .amounts a, y] => spGet.run [.obj .amounts a, y] Q E
  | .sti, [.obj .amounts a, y, z] => spSetF.run [.obj .amounts a, y, z] Q E
  | .fld .amounts 0, [.obj .amounts [x]] => Q x
  | k, xs => opP tabA k xs Q
theorem notB_mono {Q Q' : PV → Prop} (h : ∀ x, Q x → Q' x) (x : PV) (k : notB Q x) : notB Q' x := by
  unfold notB at k ⊢
  split at k
  · exact h _ k
  · exact k
def opA (k : OpK) : PSpec where
  fresh := opFr k
  run := rOpA k
  mono := by
    intro xs Q Q' E E' h1 h2 h
    unfold rOpA at h ⊢
    split at h
    all_goals first | exact spAdd.mono h1 h2 h | exact spSub.mono h1 h2 h | exact spMulA.mono h1 h2 h | exact spIaddF.mono h1 h2 h | exact spEqA.mono h1 h2 h | exact spEqA.mono (notB_mono h1) h2 h | exact spNeg.mono h1 h2 h | exact spLen.mono h1 h2 h | exact spGet.mono h1 h2 h | exact spSetF.mono h1 h2 h | exact opP_mono tabA h1 h | exact h1 _ h
end Qw

/-! CA: Amounts, codes. -/
namespace Qw
open PySem PySem.Spec PyProof.Rows L2 Ni Rt Pu
def k_as_ratio : CSs := (.cons (.ite (.bi .isi (.cons (.var 0) (.cons (.cls .ratio) .nil))) (.cons (.ret (.var 0)) .nil) .nil) (.cons (.ret (.call 0 (.cons (.var 0) .nil))) .nil))
abbrev L_as_ratio : Lang := { G := [(.glo "Ratio", spRatio)], op := opS tab, M := [], X := [], I := [], S := [], T := [] }
-- slots of as_ratio: 0 number
def k_is_number : CSs := (.cons (.ret (.or (.cons (.bi .isi (.cons (.var 0) (.cons (.ty .int) .nil))) (.cons (.bi .isi (.cons (.var 0) (.cons (.cls .ratio) .nil))) .nil)))) .nil)
abbrev L_is_number : Lang := { G := [], op := opS tabA, M := [], X := [], I := [], S := [], T := [] }
-- slots of is_number: 0 thing
def k_check_lengths : CSs := (.cons (.ite (.cmp .NotEq (.bi .len (.cons (.var 0) .nil)) (.bi .len (.cons (.var 1) .nil))) (.cons (.raise_ .badLength) .nil) .nil) .nil)
abbrev L_check_lengths : Lang := { G := [], op := opS tabA, M := [], X := [], I := [], S := [], T := [] }
-- slots of check_lengths: 0 first, 1 second
def k_Amounts___init__ : CSs := (.cons (.setfO 0 .amounts 0 (.comp (.nm 2) (.seqV 1) .nil (.call 0 (.cons (.var 2) .nil)) [("value", 2)])) .nil)
abbrev L_Amounts___init__ : Lang := { G := [(.glo "as_ratio", spAs)], op := opS tabA, M := [], X := [], I := [], S := [(.amounts, 0)], T := [(.amounts, 0)] }
-- slots of Amounts___init__: 0 self, 1 values, 2 value
def k_Amounts_zeros : CSs := (.cons (.ret (.call 0 (.cons (.fr (.rep (.fr (.lst (.cons (.int 0) .nil))) (.var 0))) .nil))) .nil)
abbrev L_Amounts_zeros : Lang := { G := [(.glo "Amounts", spNew)], op := opS tab, M := [], X := [], I := [], S := [], T := [] }
-- slots of Amounts_zeros: 0 count
def k_Amounts_dot : CSs := (.cons (.ownC 2 (.comp (.nm 6) (.seqV 1) .nil (.call 0 (.cons (.var 6) .nil)) [("amount", 6)])) (.cons (.frz 2) (.cons (.expr (.call 1 (.cons (.fld .amounts 0 (.var 0)) (.cons (.var 2) .nil)))) (.cons (.asg (.nm 3) (.call 2 (.cons (.int 0) .nil))) (.cons (.for_ (.tup (.cons (.nm 4) (.cons (.nm 5) .nil))) (.zip (.fld .amounts 0 (.var 0)) (.var 2)) (.cons (.asg (.nm 3) (.bin .Add (.var 3) (.bin .Mult (.var 4) (.var 5)))) .nil)) (.cons (.ret (.var 3)) .nil))))))
abbrev L_Amounts_dot : Lang := { G := [(.glo "as_ratio", spAs), (.glo "check_lengths", spCheckL), (.glo "Ratio", spRatio)], op := opL, M := [], X := [], I := [], S := [], T := [(.amounts, 0)] }
-- slots of Amounts_dot: 0 self, 1 other, 2 others, 3 found, 4 one, 5 two, 6 amount
def k_Amounts_total : CSs := (.cons (.asg (.nm 1) (.call 0 (.cons (.int 0) .nil))) (.cons (.for_ (.nm 2) (.seqL (.fld .amounts 0 (.var 0))) (.cons (.asg (.nm 1) (.bin .Add (.var 1) (.var 2))) .nil)) (.cons (.ret (.var 1)) .nil)))
abbrev L_Amounts_total : Lang := { G := [(.glo "Ratio", spRatio)], op := opL, M := [], X := [], I := [], S := [], T := [] }
-- slots of Amounts_total: 0 self, 1 found, 2 number
def k_Amounts___len__ : CSs := (.cons (.ret (.bi .len (.cons (.fld .amounts 0 (.var 0)) .nil))) .nil)
abbrev L_Amounts___len__ : Lang := { G := [], op := opL, M := [], X := [], I := [], S := [], T := [] }
-- slots of Amounts___len__: 0 self
def k_Amounts___getitem__ : CSs := (.cons (.ite (.inot (.cmp2 .LtE .Lt (.int 0) (.var 1) (.bi .len (.cons (.fld .amounts 0 (.var 0)) .nil)))) (.cons (.raise_ .badKind) .nil) .nil) (.cons (.ret (.ix (.fld .amounts 0 (.var 0)) (.var 1))) .nil))
abbrev L_Amounts___getitem__ : Lang := { G := [], op := opL, M := [], X := [], I := [], S := [], T := [] }
-- slots of Amounts___getitem__: 0 self, 1 at
def k_Amounts___setitem__F : CSs := (.cons (.ite (.inot (.cmp2 .LtE .Lt (.int 0) (.var 1) (.bi .len (.cons (.fld .amounts 0 (.var 0)) .nil)))) (.cons (.raise_ .badKind) .nil) .nil) (.cons .never .nil))
abbrev L_Amounts___setitem__F : Lang := { G := [], op := opL, M := [], X := [], I := [], S := [], T := [] }
-- slots of Amounts___setitem__F: 0 self, 1 at, 2 worth
def k_Amounts___setitem__ : CSs := (.cons (.ite (.snap (.inot (.cmp2 .LtE .Lt (.int 0) (.var 1) (.bi .len (.cons (.fld .amounts 0 (.var 0)) .nil))))) (.cons (.raise_ .badKind) .nil) .nil) (.cons (.seti 0 .amounts 0 (.var 1) (.call 0 (.cons (.var 2) .nil))) .nil))
abbrev L_Amounts___setitem__ : Lang := { G := [(.glo "as_ratio", spAs)], op := opL, M := [], X := [], I := [], S := [(.amounts, 0)], T := [] }
-- slots of Amounts___setitem__: 0 self, 1 at, 2 worth
def k_Amounts___add__ : CSs := (.cons (.ite (.inot (.bi .isi (.cons (.var 1) (.cons (.cls .amounts) .nil)))) (.cons .never .nil) .nil) (.cons (.expr (.call 0 (.cons (.fld .amounts 0 (.var 0)) (.cons (.fld .amounts 0 (.var 1)) .nil)))) (.cons (.ret (.call 1 (.cons (.fr (.comp (.tup (.cons (.nm 2) (.cons (.nm 3) .nil))) (.zip (.fld .amounts 0 (.var 0)) (.fld .amounts 0 (.var 1))) .nil (.bin .Add (.var 2) (.var 3)) [("one", 2), ("two", 3)])) .nil))) .nil)))
abbrev L_Amounts___add__ : Lang := { G := [(.glo "check_lengths", spCheckL), (.glo "Amounts", spNew)], op := opL, M := [], X := [], I := [], S := [], T := [] }
-- slots of Amounts___add__: 0 self, 1 other, 2 one, 3 two
def k_Amounts___iadd__F : CSs := (.cons (.ite (.inot (.bi .isi (.cons (.var 1) (.cons (.cls .amounts) .nil)))) (.cons .never .nil) .nil) (.cons (.expr (.call 0 (.cons (.fld .amounts 0 (.var 0)) (.cons (.fld .amounts 0 (.var 1)) .nil)))) (.cons .never (.cons .never .nil))))
abbrev L_Amounts___iadd__F : Lang := { G := [(.glo "check_lengths", spCheckL)], op := opL, M := [], X := [], I := [], S := [], T := [] }
-- slots of Amounts___iadd__F: 0 self, 1 other, 2 one, 3 two
def k_Amounts___iadd__ : CSs := (.cons (.ite (.inot (.bi .isi (.cons (.var 1) (.cons (.cls .amounts) .nil)))) (.cons .never .nil) .nil) (.cons (.expr (.snap (.call 0 (.cons (.fld .amounts 0 (.var 0)) (.cons (.fld .amounts 0 (.var 1)) .nil))))) (.cons (.setfO 0 .amounts 0 (.snapO (.comp (.tup (.cons (.nm 2) (.cons (.nm 3) .nil))) (.zip (.fld .amounts 0 (.var 0)) (.fld .amounts 0 (.var 1))) .nil (.bin .Add (.var 2) (.var 3)) [("one", 2), ("two", 3)]))) (.cons .retM .nil))))
abbrev L_Amounts___iadd__ : Lang := { G := [(.glo "check_lengths", spCheckL)], op := opL, M := [], X := [], I := [], S := [(.amounts, 0)], T := [] }
-- slots of Amounts___iadd__: 0 self, 1 other, 2 one, 3 two
def k_Amounts___sub__ : CSs := (.cons (.ite (.inot (.bi .isi (.cons (.var 1) (.cons (.cls .amounts) .nil)))) (.cons .never .nil) .nil) (.cons (.expr (.call 0 (.cons (.fld .amounts 0 (.var 0)) (.cons (.fld .amounts 0 (.var 1)) .nil)))) (.cons (.ret (.call 1 (.cons (.fr (.comp (.tup (.cons (.nm 2) (.cons (.nm 3) .nil))) (.zip (.fld .amounts 0 (.var 0)) (.fld .amounts 0 (.var 1))) .nil (.bin .Sub (.var 2) (.var 3)) [("one", 2), ("two", 3)])) .nil))) .nil)))
abbrev L_Amounts___sub__ : Lang := { G := [(.glo "check_lengths", spCheckL), (.glo "Amounts", spNew)], op := opL, M := [], X := [], I := [], S := [], T := [] }
-- slots of Amounts___sub__: 0 self, 1 other, 2 one, 3 two
def k_Amounts___mul__ : CSs := (.cons (.ite (.inot (.call 0 (.cons (.var 1) .nil))) (.cons .never .nil) .nil) (.cons (.ret (.call 1 (.cons (.fr (.comp (.nm 2) (.seqL (.fld .amounts 0 (.var 0))) .nil (.bin .Mult (.var 2) (.var 1)) [("number", 2)])) .nil))) .nil))
abbrev L_Amounts___mul__ : Lang := { G := [(.glo "is_number", spIsNum), (.glo "Amounts", spNew)], op := opL, M := [], X := [], I := [], S := [], T := [] }
-- slots of Amounts___mul__: 0 self, 1 other, 2 number
def k_Amounts___rmul__ : CSs := (.cons (.ite (.inot (.call 0 (.cons (.var 1) .nil))) (.cons .never .nil) .nil) (.cons (.ret (.call 1 (.cons (.fr (.comp (.nm 2) (.seqL (.fld .amounts 0 (.var 0))) .nil (.bin .Mult (.var 2) (.var 1)) [("number", 2)])) .nil))) .nil))
abbrev L_Amounts___rmul__ : Lang := { G := [(.glo "is_number", spIsNum), (.glo "Amounts", spNew)], op := opL, M := [], X := [], I := [], S := [], T := [] }
-- slots of Amounts___rmul__: 0 self, 1 other, 2 number
def k_Amounts___neg__ : CSs := (.cons (.ret (.call 0 (.cons (.fr (.comp (.nm 1) (.seqL (.fld .amounts 0 (.var 0))) .nil (.neg (.var 1)) [("number", 1)])) .nil))) .nil)
abbrev L_Amounts___neg__ : Lang := { G := [(.glo "Amounts", spNew)], op := opL, M := [], X := [], I := [], S := [], T := [] }
-- slots of Amounts___neg__: 0 self, 1 number
def k_Amounts___eq__ : CSs := (.cons (.ret (.and (.cons (.bi .isi (.cons (.var 1) (.cons (.cls .amounts) .nil))) (.cons (.cmp .Eq (.fld .amounts 0 (.var 0)) (.fld .amounts 0 (.var 1))) .nil)))) .nil)
abbrev L_Amounts___eq__ : Lang := { G := [], op := opL, M := [], X := [], I := [], S := [], T := [] }
-- slots of Amounts___eq__: 0 self, 1 other
end Qw

/-! QA: Amounts, over values: its methods keep their promises. -/
namespace Qw
open PySem PySem.Spec PyProof.Rows L2 Ni Rt Pu
local macro_rules | `(tactic| exists "wh") => `(tactic| conv => whnf)
theorem sem_as {xs : List PV} {Q : PV → Prop} {E : KE} (h0 : spAs.run xs Q E) : xs.length = 1 ∧ denB L_as_ratio k_as_ratio (startE 1 xs) { nx := fun _ => Q .non, rt := fun x _ => Q x, ex := fun e _ => E e } := by
  have h : rAs xs Q := h0
  clear h0
  unfold rAs at h
  split at h
  · rename_i x
    obtain ⟨q, e, h⟩ := h
    refine ⟨rfl, ?_⟩
    cases x with
    | rat r =>
      cases e
      exists "wh"
      exact h
    | int n =>
      cases e
      exists "wh"
      exact h
    | _ => cases e
  · exact h.elim
theorem sem_isnum {xs : List PV} {Q : PV → Prop} {E : KE} (h0 : spIsNum.run xs Q E) : xs.length = 1 ∧ denB L_is_number k_is_number (startE 1 xs) { nx := fun _ => Q .non, rt := fun x _ => Q x, ex := fun e _ => E e } := by
  have h : rIsNum xs Q := h0
  clear h0
  unfold rIsNum at h
  split at h
  · rename_i x
    obtain ⟨q, e, h⟩ := h
    refine ⟨rfl, ?_⟩
    unfold isNum at e
    split at e
    all_goals first | (cases e; done) | (cases e; exists "wh"; exact h)
  · exact h.elim
theorem len_ne {a b : Nat} {A B : Prop} (h1 : a ≠ b → A) (h2 : a = b → B) : ifB (!decide ((a : Int) = (b : Int))) A B := ifB_nd (fun z => h1 fun e => z (by rw [e])) (fun z => h2 (by omega))
theorem sem_checkL {xs : List PV} {Q : PV → Prop} {E : KE} (h0 : spCheckL.run xs Q E) : xs.length = 2 ∧ denB L_check_lengths k_check_lengths (startE 2 xs) { nx := fun _ => Q .non, rt := fun x _ => Q x, ex := fun e _ => E e } := by
  obtain ⟨o, r, q⟩ := h0
  cases r with
  | ok e =>
    refine ⟨rfl, ?_⟩
    exists "wh"
    exact len_ne (fun z => absurd e z) (fun _ => q)
  | bad e =>
    refine ⟨rfl, ?_⟩
    exists "wh"
    exact len_ne (fun _ => q) (fun z => absurd z e)
/-- numbers become fractions, one by one -/
theorem comp_nums {step : PV → (Option PV → Prop) → Prop} {K : List PV → Prop} (h1 : ∀ x q (K2 : Option PV → Prop), numQ x = some q → K2 (some (.rat q)) → step x K2) : ∀ {xs acc : List PV} {qs : List Rat}, numsQ xs = some qs → K (acc ++ ratsP qs) → denComp step xs acc K
  | [], acc, qs, e, h => by
    cases e
    rw [show ratsP [] = [] from rfl, List.append_nil] at h
    exact h
  | x :: xs, acc, qs, e, h => by
    unfold numsQ at e
    split at e
    · rename_i q eq
      split at e
      · rename_i qs2 e2
        cases e
        exact h1 x q _ eq (comp_nums h1 e2 (by rw [List.append_assoc]; exact h))
      · cases e
    · cases e
/-- fractions, one by one -/
theorem comp_rats {step : PV → (Option PV → Prop) → Prop} {K : List PV → Prop} {f : Rat → Rat} : ∀ {ps : List Rat} {acc : List PV}, (∀ q (K2 : Option PV → Prop), q ∈ ps → K2 (some (.rat (f q))) → step (.rat q) K2) → K (acc ++ ratsP (ps.map f)) → denComp step (ratsP ps) acc K
  | [], acc, h1, h => by
    rw [show ratsP (List.map f []) = [] from rfl, List.append_nil] at h
    exact h
  | p :: ps, acc, h1, h => h1 p _ (.head _) (comp_rats (fun q K2 m => h1 q K2 (.tail _ m)) (by rw [List.append_assoc]; exact h))
/-- pairs of fractions, one by one -/
theorem comp_zip {step : PV → (Option PV → Prop) → Prop} {K : List PV → Prop} {f : Rat → Rat → Rat} : ∀ {ps qs : List Rat} {acc : List PV}, PMz ps qs → (∀ p q (K2 : Option PV → Prop), Mz p q → K2 (some (.rat (f p q))) → step (.tup [.rat p, .rat q]) K2) → K (acc ++ ratsP (List.zipWith f ps qs)) → denComp step (zipP (ratsP ps) (ratsP qs)) acc K
  | [], qs, acc, _, h1, h => by
    rw [show ratsP (List.zipWith f [] qs) = [] from rfl, List.append_nil] at h
    cases qs <;> exact h
  | p :: ps, [], acc, _, h1, h => by
    rw [show ratsP (List.zipWith f (p :: ps) []) = [] from rfl, List.append_nil] at h
    exact h
  | p :: ps, q :: qs, acc, z, h1, h => h1 p q _ (z 0 p q rfl rfl) (comp_zip (fun i p' q' e1 e2 => z (i + 1) p' q' (by simpa using e1) (by simpa using e2)) h1 (by rw [List.append_assoc]; exact h))
theorem numsQ_len {xs : List PV} {qs : List Rat} (h : numsQ xs = some qs) : xs.length = qs.length := (numsQ_ok h).1
theorem zip_len {f : Rat → Rat → Rat} {ps qs : List Rat} (h : ps.length = qs.length) : (List.zipWith f ps qs).length = ps.length := by
  rw [List.length_zipWith]; omega
theorem zipP_len' (xs ys : List PV) : (zipP xs ys).length = min xs.length ys.length := Pu.zipP_len xs ys
theorem seq_case {x : PV} {ys : List PV} (h : seqP x = some ys) : x = .lst ys ∨ x = .tup ys ∨ x = .obj .amounts [.lst ys] := by
  unfold seqP at h
  split at h <;> first | (cases h; done) | (cases h; simp)
theorem sem_ini {c : Cl} {fs : List FV} {xs : List PV} {Q : PV → List FV → Prop} {E : Exc → List FV → Prop} (h0 : mIni.run c fs xs Q E) : xs.length + 1 = 2 ∧ denB L_Amounts___init__ k_Amounts___init__ (Pu.startM 3 c fs xs) { nx := fun ρ => selfAt ρ c (Q .non), rt := fun y ρ => selfAt ρ c (Q y), ex := fun e ρ => selfAt ρ c (E e) } := by
  obtain ⟨o, r, q⟩ := h0
  cases r with
  | @ok x ys qs e1 e2 l =>
    refine ⟨rfl, ?_⟩
    have main : SmallL ys.length ∧ denComp (fun x K => ∃ q, numQ x = some q ∧ K (some (.rat q))) ys [] fun xs => Q .non [.ow xs] := by
      refine ⟨by rw [numsQ_len e2]; exact l.small, comp_nums (fun x q K2 e k => ⟨q, e, k⟩) e2 q⟩
    rcases seq_case e1 with rfl | rfl | rfl
    · exists "wh"
      exact main
    · exists "wh"
      exact main
    · exists "wh"
      exact main
theorem new_ini {xs : List PV} {Q : PV → Prop} {E : KE} (h : spNew.run xs Q E) : (mIni.new .amounts).run xs Q E := by
  obtain ⟨o, r, q⟩ := h
  cases r with
  | @ok x ys qs e1 e2 l =>
    refine ⟨_, .ok e1 e2 l, rfl, ?_, q⟩
    show ifT (immPs (ratsP qs)) true = true
    rw [imm_rats]
    rfl
theorem nums_zeros : ∀ n : Nat, numsQ (List.replicate n (PV.int 0)) = some (List.replicate n 0)
  | 0 => rfl
  | n + 1 => by
    rw [List.replicate_succ]
    show (match numsQ (List.replicate n (PV.int 0)) with
      | some qs => some (((0 : Int) : Rat) :: qs)
      | none => none) = _
    rw [nums_zeros n, List.replicate_succ]
    rfl
theorem flat_rep {α : Type} (x : α) : ∀ n : Nat, (List.replicate n [x]).flatten = List.replicate n x
  | 0 => rfl
  | n + 1 => by
    rw [List.replicate_succ, List.replicate_succ, List.flatten_cons, flat_rep x n]
    rfl
theorem sem_zeros {xs : List PV} {Q : PV → Prop} {E : KE} (h0 : spZeros.run xs Q E) : xs.length = 1 ∧ denB L_Amounts_zeros k_Amounts_zeros (startE 1 xs) { nx := fun _ => Q .non, rt := fun x _ => Q x, ex := fun e _ => E e } := by
  obtain ⟨o, r, q⟩ := h0
  cases r with
  | @ok n hn =>
    refine ⟨rfl, ?_⟩
    exists "wh"
    refine ⟨by omega, by omega, ?_, _, .ok rfl ?_ ?_, q⟩
    · show 1 * (n : Int).toNat ≤ 100000
      omega
    · rw [flat_rep]
      exact nums_zeros n
    · show (List.replicate n (0 : Rat)).length ≤ 1000
      rw [List.length_replicate]
      exact hn
theorem sum_loop {step : PV → Pu.Env → (Pu.Env → Prop) → Prop} {K : Pu.Env → Prop} {ρ0 : Rat → Option SV → Pu.Env} (h1 : ∀ p a v (K2 : Pu.Env → Prop), Mz a p → K2 (ρ0 (a + p) (some (.val (.rat p)))) → step (.rat p) (ρ0 a v) K2) : ∀ {ps : List Rat} {a : Rat} {v : Option SV}, SumOk a ps → (∀ v, K (ρ0 (sumQ a ps) v)) → denFor step (ratsP ps) (ρ0 a v) K
  | [], a, v, _, h => h v
  | p :: ps, a, v, s, h => h1 p a v _ s.1 (sum_loop h1 s.2 h)
theorem dot_loop {step : PV → Pu.Env → (Pu.Env → Prop) → Prop} {K : Pu.Env → Prop} {ρ0 : Rat → Option SV → Option SV → Pu.Env} (h1 : ∀ p q a v w (K2 : Pu.Env → Prop), Mz p q → Mz a (p * q) → K2 (ρ0 (a + p * q) (some (.val (.rat p))) (some (.val (.rat q)))) → step (.tup [.rat p, .rat q]) (ρ0 a v w) K2) : ∀ {ps qs : List Rat} {a : Rat} {v w : Option SV}, DotOk a ps qs → (∀ v w, K (ρ0 (dotQ a ps qs) v w)) → denFor step (zipP (ratsP ps) (ratsP qs)) (ρ0 a v w) K
  | [], qs, a, v, w, _, h => by cases qs <;> exact h v w
  | p :: ps, [], a, v, w, _, h => h v w
  | p :: ps, q :: qs, a, v, w, s, h => h1 p q a v w _ s.1.1 s.1.2 (dot_loop h1 s.2 h)
theorem sem_total {xs : List PV} {Q : PV → Prop} {E : KE} (h0 : spTotal.run xs Q E) : xs.length = 1 ∧ denB L_Amounts_total k_Amounts_total (startE 3 xs) { nx := fun _ => Q .non, rt := fun x _ => Q x, ex := fun e _ => E e } := by
  obtain ⟨o, r, q⟩ := h0
  cases r with
  | @ok ps hs =>
    refine ⟨rfl, ?_⟩
    exists "wh"
    refine sum_loop (ρ0 := fun a v => [some (.val (am ps)), some (.val (.rat a)), v]) (a := ((0 : Int) : Rat)) (fun p a v K2 m k => ?_) hs fun v => q
    exists "wh"
    exact ⟨m, k⟩
theorem sem_len {xs : List PV} {Q : PV → Prop} {E : KE} (h0 : spLen.run xs Q E) : xs.length = 1 ∧ denB L_Amounts___len__ k_Amounts___len__ (startE 1 xs) { nx := fun _ => Q .non, rt := fun x _ => Q x, ex := fun e _ => E e } := by
  obtain ⟨o, r, q⟩ := h0
  cases r with
  | @ok ps l =>
    refine ⟨rfl, ?_⟩
    show Q (.int ((ratsP ps).length : Nat))
    rw [rats_len]
    exact q
theorem ifB_dd {c d : Prop} [Decidable c] [Decidable d] {A B : Prop} (h1 : (c ∧ d) → A) (h2 : ¬ (c ∧ d) → B) : ifB (decide c) (ifB (decide d) A B) B := ifB_d (fun x => ifB_d (fun y => h1 ⟨x, y⟩) (fun y => h2 fun z => y z.2)) (fun x => h2 fun z => x z.1)
theorem sem_get {xs : List PV} {Q : PV → Prop} {E : KE} (h0 : spGet.run xs Q E) : xs.length = 2 ∧ denB L_Amounts___getitem__ k_Amounts___getitem__ (startE 2 xs) { nx := fun _ => Q .non, rt := fun x _ => Q x, ex := fun e _ => E e } := by
  obtain ⟨o, r, q⟩ := h0
  cases r with
  | @ok ps k y e =>
    have lk : k < ps.length := (List.getElem?_eq_some_iff.mp e).1
    refine ⟨rfl, ?_⟩
    exists "wh"
    show ifB (!decide ((k : Int) < ((ratsP ps).length : Nat))) _ _
    refine ifB_nd (fun z => absurd (by rw [rats_len]; omega) z) fun _ => ?_
    show optP (nth (ratsP ps) k) Q
    rw [nth_rats, e]
    exact q
  | @bad ps n z =>
    refine ⟨rfl, ?_⟩
    exists "wh"
    show ifB (decide (0 ≤ n)) _ _
    refine ifB_d (fun z1 => ?_) fun z1 => q
    show ifB (!decide (n < ((ratsP ps).length : Nat))) _ _
    exact ifB_nd (fun z2 => q) fun z2 => absurd ⟨z1, by rw [rats_len] at z2; exact z2⟩ z
theorem sem_setF {xs : List PV} {Q : PV → Prop} {E : KE} (h0 : spSetF.run xs Q E) : xs.length = 3 ∧ denB L_Amounts___setitem__F k_Amounts___setitem__F (startE 3 xs) { nx := fun _ => Q .non, rt := fun x _ => Q x, ex := fun e _ => E e } := by
  obtain ⟨o, r, q⟩ := h0
  cases r with
  | @bad ps n y z =>
    refine ⟨rfl, ?_⟩
    exists "wh"
    show ifB (decide (0 ≤ n)) _ _
    refine ifB_d (fun z1 => ?_) fun z1 => q
    show ifB (!decide (n < ((ratsP ps).length : Nat))) _ _
    exact ifB_nd (fun z2 => q) fun z2 => absurd ⟨z1, by rw [rats_len] at z2; exact z2⟩ z
theorem sem_dot {xs : List PV} {Q : PV → Prop} {E : KE} (h0 : spDot.run xs Q E) : xs.length = 2 ∧ denB L_Amounts_dot k_Amounts_dot (startE 7 xs) { nx := fun _ => Q .non, rt := fun x _ => Q x, ex := fun e _ => E e } := by
  obtain ⟨o, r, q⟩ := h0
  have main : ∀ {ps qs : List Rat} {x : PV} {ys : List PV} {o : Out}, numsQ ys = some qs → Lm qs → outQ o Q E → ((ps.length = qs.length ∧ DotOk 0 ps qs ∧ o = .ret (.rat (dotQ 0 ps qs))) ∨ (ps.length ≠ qs.length ∧ o = .err eBL)) →
      SmallL ys.length ∧ denComp (fun x K => ∃ q, numQ x = some q ∧ K (some (.rat q))) ys [] fun xs => denB L_Amounts_dot (.cons (.frz 2) (.cons (.expr (.call 1 (.cons (.fld .amounts 0 (.var 0)) (.cons (.var 2) .nil)))) (.cons (.asg (.nm 3) (.call 2 (.cons (.int 0) .nil))) (.cons (.for_ (.tup (.cons (.nm 4) (.cons (.nm 5) .nil))) (.zip (.fld .amounts 0 (.var 0)) (.var 2)) (.cons (.asg (.nm 3) (.bin .Add (.var 3) (.bin .Mult (.var 4) (.var 5)))) .nil)) (.cons (.ret (.var 3)) .nil))))) [some (.val (am ps)), some (.val x), some (.own xs), none, none, none, none] { nx := fun _ => Q .non, rt := fun x _ => Q x, ex := fun e _ => E e } := by
    intro ps qs x ys o e2 l q cs
    refine ⟨by rw [numsQ_len e2]; exact l.small, comp_nums (fun x q K2 e k => ⟨q, e, k⟩) e2 ?_⟩
    show denB _ _ [some (.val (am ps)), some (.val x), some (.own (ratsP qs)), none, none, none, none] _
    rcases cs with ⟨el, dk, rfl⟩ | ⟨ne, rfl⟩
    · exists "wh"
      refine ⟨_, .ok (by rw [rats_len, rats_len]; exact el), ?_⟩
      exists "wh"
      refine dot_loop (ρ0 := fun a v w => [some (.val (am ps)), some (.val x), some (.val (.lst (ratsP qs))), some (.val (.rat a)), v, w, none]) (a := ((0 : Int) : Rat)) (fun p q a v w K2 m m2 k => ?_) dk fun v w => q
      exists "wh"
      refine ⟨m, ?_⟩
      exists "wh"
      exact ⟨m2, k⟩
    · exists "wh"
      exact ⟨_, .bad (by rw [rats_len, rats_len]; exact ne), q⟩
  cases r with
  | @ok ps qs x ys e1 e2 l el dk =>
    refine ⟨rfl, ?_⟩
    have m := main (ps := ps) (x := x) e2 l q (.inl ⟨el, dk, rfl⟩)
    rcases seq_case e1 with rfl | rfl | rfl
    · exists "wh"
      exact m
    · exists "wh"
      exact m
    · exists "wh"
      exact m
  | @bad ps qs x ys e1 e2 l ne =>
    refine ⟨rfl, ?_⟩
    have m := main (ps := ps) (x := x) e2 l q (.inr ⟨ne, rfl⟩)
    rcases seq_case e1 with rfl | rfl | rfl
    · exists "wh"
      exact m
    · exists "wh"
      exact m
    · exists "wh"
      exact m
theorem small_zip {ps qs : List Rat} (l : Lm ps) : SmallL (zipP (ratsP ps) (ratsP qs)).length := by
  rw [zipP_len', rats_len]
  exact Nat.le_trans (Nat.min_le_left _ _) l.small
theorem lm_zip {f : Rat → Rat → Rat} {ps qs : List Rat} (l : Lm ps) : Lm (List.zipWith f ps qs) := by
  show (List.zipWith f ps qs).length ≤ 1000
  rw [List.length_zipWith]
  exact Nat.le_trans (Nat.min_le_left _ _) l
theorem sem_add {xs : List PV} {Q : PV → Prop} {E : KE} (h0 : spAdd.run xs Q E) : xs.length = 2 ∧ denB L_Amounts___add__ k_Amounts___add__ (startE 4 xs) { nx := fun _ => Q .non, rt := fun x _ => Q x, ex := fun e _ => E e } := by
  obtain ⟨o, r, q⟩ := h0
  cases r with
  | @ok ps qs l el m =>
    refine ⟨rfl, ?_⟩
    exists "wh"
    refine ⟨_, .ok (by rw [rats_len, rats_len]; exact el), ?_⟩
    exists "wh"
    refine ⟨small_zip l, comp_zip (f := (· + ·)) m (fun p q K2 mz k => ?_) ?_⟩
    · exists "wh"
      exact ⟨mz, k⟩
    · exact ⟨_, .ok rfl (nums_rats _) (lm_zip l), q⟩
  | @bad ps qs ne =>
    refine ⟨rfl, ?_⟩
    exists "wh"
    exact ⟨_, .bad (by rw [rats_len, rats_len]; exact ne), q⟩
theorem sem_sub {xs : List PV} {Q : PV → Prop} {E : KE} (h0 : spSub.run xs Q E) : xs.length = 2 ∧ denB L_Amounts___sub__ k_Amounts___sub__ (startE 4 xs) { nx := fun _ => Q .non, rt := fun x _ => Q x, ex := fun e _ => E e } := by
  obtain ⟨o, r, q⟩ := h0
  cases r with
  | @ok ps qs l el m =>
    refine ⟨rfl, ?_⟩
    exists "wh"
    refine ⟨_, .ok (by rw [rats_len, rats_len]; exact el), ?_⟩
    exists "wh"
    refine ⟨small_zip l, comp_zip (f := (· - ·)) m (fun p q K2 mz k => ?_) ?_⟩
    · exists "wh"
      exact ⟨mz, k⟩
    · exact ⟨_, .ok rfl (nums_rats _) (lm_zip l), q⟩
  | @bad ps qs ne =>
    refine ⟨rfl, ?_⟩
    exists "wh"
    exact ⟨_, .bad (by rw [rats_len, rats_len]; exact ne), q⟩
theorem sem_iaddF {xs : List PV} {Q : PV → Prop} {E : KE} (h0 : spIaddF.run xs Q E) : xs.length = 2 ∧ denB L_Amounts___iadd__F k_Amounts___iadd__F (startE 4 xs) { nx := fun _ => Q .non, rt := fun x _ => Q x, ex := fun e _ => E e } := by
  obtain ⟨o, r, q⟩ := h0
  cases r with
  | @bad ps qs ne =>
    refine ⟨rfl, ?_⟩
    exists "wh"
    exact ⟨_, .bad (by rw [rats_len, rats_len]; exact ne), q⟩
theorem sem_mulG {k : CSs} {L : Lang} {xs : List PV} {Q : PV → Prop} {E : KE} (h0 : spMulA.run xs Q E) (ek : k = k_Amounts___mul__) (eL : L = L_Amounts___mul__) : xs.length = 2 ∧ denB L k (startE 3 xs) { nx := fun _ => Q .non, rt := fun x _ => Q x, ex := fun e _ => E e } := by
  subst ek eL
  obtain ⟨o, r, q⟩ := h0
  cases r with
  | @ok ps y r e l m =>
    refine ⟨rfl, ?_⟩
    have main : ∀ y, numQ y = some r → (∃ b, isNum y = some b ∧ b = true) := fun y e => by
      cases y <;> first | (cases e; done) | exact ⟨_, rfl, rfl⟩
    obtain ⟨b, eb, rfl⟩ := main y e
    exists "wh"
    refine ⟨true, eb, ?_⟩
    exists "wh"
    refine ⟨by rw [rats_len]; exact l.small, comp_rats (f := (· * r)) (fun p K2 mp k => ?_) ?_⟩
    · cases y with
      | rat s =>
        cases e
        exists "wh"
        exact ⟨m p mp, k⟩
      | int n =>
        cases e
        exists "wh"
        exact ⟨m p mp, k⟩
      | _ => cases e
    · refine ⟨_, .ok rfl (nums_rats _) ?_, q⟩
      show (List.map (· * r) ps).length ≤ 1000
      rw [List.length_map]
      exact l
theorem sem_mulA {xs : List PV} {Q : PV → Prop} {E : KE} (h0 : spMulA.run xs Q E) : xs.length = 2 ∧ denB L_Amounts___mul__ k_Amounts___mul__ (startE 3 xs) { nx := fun _ => Q .non, rt := fun x _ => Q x, ex := fun e _ => E e } := sem_mulG h0 rfl rfl
theorem sem_rmulA {xs : List PV} {Q : PV → Prop} {E : KE} (h0 : spMulA.run xs Q E) : xs.length = 2 ∧ denB L_Amounts___rmul__ k_Amounts___rmul__ (startE 3 xs) { nx := fun _ => Q .non, rt := fun x _ => Q x, ex := fun e _ => E e } := sem_mulG h0 rfl rfl
theorem sem_neg {xs : List PV} {Q : PV → Prop} {E : KE} (h0 : spNeg.run xs Q E) : xs.length = 1 ∧ denB L_Amounts___neg__ k_Amounts___neg__ (startE 2 xs) { nx := fun _ => Q .non, rt := fun x _ => Q x, ex := fun e _ => E e } := by
  obtain ⟨o, r, q⟩ := h0
  cases r with
  | @ok ps l m =>
    refine ⟨rfl, ?_⟩
    exists "wh"
    refine ⟨by rw [rats_len]; exact l.small, comp_rats (f := (- ·)) (fun p K2 mp k => ?_) ?_⟩
    · exists "wh"
      exact ⟨m p mp, k⟩
    · refine ⟨_, .ok rfl (nums_rats _) ?_, q⟩
      show (List.map (- ·) ps).length ≤ 1000
      rw [List.length_map]
      exact l
theorem sem_eqA {xs : List PV} {Q : PV → Prop} {E : KE} (h0 : spEqA.run xs Q E) : xs.length = 2 ∧ denB L_Amounts___eq__ k_Amounts___eq__ (startE 2 xs) { nx := fun _ => Q .non, rt := fun x _ => Q x, ex := fun e _ => E e } := by
  obtain ⟨o, r, q⟩ := h0
  cases r with
  | @am ps qs m =>
    refine ⟨rfl, ?_⟩
    exists "wh"
    exact ⟨ps, qs, ⟨rfl, rfl, m⟩, q⟩
  | lst =>
    refine ⟨rfl, ?_⟩
    exists "wh"
    exact q
  | tup =>
    refine ⟨rfl, ?_⟩
    exists "wh"
    exact q
theorem rats_set : ∀ (ps : List Rat) (k : Nat) (q : Rat), put (PV.rat q) (ratsP ps) k = ratsP (ps.set k q)
  | [], _, _ => rfl
  | _ :: _, 0, _ => rfl
  | p :: ps, k + 1, q => by
    show PV.rat p :: put (PV.rat q) (ratsP ps) k = _
    rw [rats_set ps k q]
    rfl
theorem sem_set {c : Cl} {fs : List FV} {xs : List PV} {Q : PV → List FV → Prop} {E : Exc → List FV → Prop} (h0 : mSet.run c fs xs Q E) : xs.length + 1 = 3 ∧ denB L_Amounts___setitem__ k_Amounts___setitem__ (Pu.startM 3 c fs xs) { nx := fun ρ => selfAt ρ c (Q .non), rt := fun y ρ => selfAt ρ c (Q y), ex := fun e ρ => selfAt ρ c (E e) } := by
  obtain ⟨o, r, q⟩ := h0
  cases r with
  | @ok ps k r y lk e =>
    refine ⟨rfl, ?_⟩
    exists "wh"
    show ifB (!decide ((k : Int) < ((ratsP ps).length : Nat))) _ _
    refine ifB_nd (fun z => absurd (by rw [rats_len]; omega) z) fun _ => ?_
    exists "wh"
    refine ⟨r, e, ?_⟩
    show ifB (Nat.blt k (ratsP ps).length) _ _
    refine ifB_t (Nat.blt_eq.mpr (by rw [rats_len]; exact lk)) ?_
    rw [rats_set]
    exact q
  | @bad ps n y z =>
    refine ⟨rfl, ?_⟩
    exists "wh"
    show ifB (decide (0 ≤ n)) _ _
    refine ifB_d (fun z1 => ?_) fun z1 => q
    show ifB (!decide (n < ((ratsP ps).length : Nat))) _ _
    exact ifB_nd (fun z2 => q) fun z2 => absurd ⟨z1, by rw [rats_len] at z2; exact z2⟩ z
theorem sem_iadd {c : Cl} {fs : List FV} {xs : List PV} {Q : PV → List FV → Prop} {E : Exc → List FV → Prop} (h0 : mIadd.run c fs xs Q E) : xs.length + 1 = 2 ∧ denB L_Amounts___iadd__ k_Amounts___iadd__ (Pu.startM 4 c fs xs) { nx := fun _ => False, rt := fun _ _ => False, ex := fun e ρ => selfAt ρ c (E e), rs := fun ρ => selfAt ρ c (Q .non) } := by
  obtain ⟨o, r, q⟩ := h0
  cases r with
  | @ok ps qs l el m =>
    refine ⟨rfl, ?_⟩
    exists "wh"
    refine ⟨_, .ok (by rw [rats_len, rats_len]; exact el), ?_⟩
    exists "wh"
    refine ⟨small_zip l, comp_zip (f := (· + ·)) m (fun p q K2 mz k => ?_) ?_⟩
    · exists "wh"
      exact ⟨mz, k⟩
    · show ifB (immPs (ratsP _)) _ _
      rw [imm_rats]
      exact q
  | @bad ps qs ne =>
    refine ⟨rfl, ?_⟩
    exists "wh"
    exact ⟨_, .bad (by rw [rats_len, rats_len]; exact ne), q⟩
end Qw

/-! QBs: the laws' helpers over pairs: promises. -/
namespace Qw
open PySem PySem.Spec PyProof.Rows L2 Ni Rt Pu
def prsP (qs : List Rat) : List PV := qs.map pairP
theorem prs_len (qs : List Rat) : (prsP qs).length = qs.length := List.length_map ..
theorem nth_prs (qs : List Rat) (i : Nat) : nth (prsP qs) i = (qs[i]?).map pairP := by rw [nth_eq, prsP, List.getElem?_map]
theorem dat_prs : ∀ (qs : List Rat), datPs 59 (prsP qs) = true
  | [] => rfl
  | q :: qs => by
    show (datP 59 (pairP q) && datPs 59 (prsP qs)) = true
    rw [dat_prs qs]
    rfl
theorem dat_lprs (qs : List Rat) : datP 60 (.lst (prsP qs)) = true := dat_prs qs
theorem eqv_pair (p q : Rat) : PyData.eqv (pd (pairP p)) (pd (pairP q)) = decide (p = q) := by
  show PyData.eqv (.tuple [.int p.num, .int (p.den : Int)]) (.tuple [.int q.num, .int (q.den : Int)]) = _
  rw [eqv_t2]
  exact decide_eq_decide.mpr ⟨fun h => Rat.ext h.1 (by omega), fun h => by rw [h]; exact ⟨rfl, rfl⟩⟩
theorem eqv_prs : ∀ (ps qs : List Rat), PyData.eqvAll (pds (prsP ps)) (pds (prsP qs)) = decide (ps = qs)
  | [], [] => rfl
  | [], _ :: _ => rfl
  | _ :: _, [] => rfl
  | p :: ps, q :: qs => by
    show (PyData.eqv (pd (pairP p)) (pd (pairP q)) && PyData.eqvAll (pds (prsP ps)) (pds (prsP qs))) = _
    rw [eqv_pair, eqv_prs ps qs, ← Bool.decide_and]
    exact decide_eq_decide.mpr ⟨fun h => by rw [h.1, h.2], fun h => by cases h; exact ⟨rfl, rfl⟩⟩
theorem eqP_prs (ps qs : List Rat) : eqP (.lst (prsP ps)) (.lst (prsP qs)) = decide (ps = qs) := by
  show PyData.eqv (.list (pds (prsP ps))) (.list (pds (prsP qs))) = _
  rw [← eqv_prs]
  rfl
theorem eqP_pr (p q : Rat) : eqP (pairP p) (pairP q) = decide (p = q) := eqv_pair p q
inductive RAddP : List PV → Out → Prop
  | ok {p q : Rat} : Mz p q → RAddP [pairP p, pairP q] (.ret (pairP (p + q)))
def spAddP : PSpec := .det false RAddP
inductive RMinusP : List PV → Out → Prop
  | ok {p q : Rat} : Mz p q → RMinusP [pairP p, pairP q] (.ret (pairP (p - q)))
def spMinusP : PSpec := .det false RMinusP
inductive RTimesP : List PV → Out → Prop
  | ok {p q : Rat} : Mz p q → RTimesP [pairP p, pairP q] (.ret (pairP (p * q)))
def spTimesP : PSpec := .det false RTimesP
def Dz (ps : List Rat) : Prop := ∀ p ∈ ps, Bd (p.den : Int) 8999
inductive RShows : List PV → Out → Prop
  | ok {ps : List Rat} : Lm ps → Dz ps → RShows [am ps, .lst (prsP ps)] (.ret (.bl true))
def spShows : PSpec := .det false RShows
def made (q : Rat) : PV := if q.den = 1 then .int q.num else .rat q
def mades (qs : List Rat) : List PV := qs.map made
theorem num_made (q : Rat) : numQ (made q) = some q := by
  unfold made
  split
  · rename_i h
    show some ((q.num : Int) : Rat) = _
    congr 1
    exact Rat.ext (Rat.num_intCast _) (by rw [Rat.den_intCast, h])
  · rfl
theorem nums_made : ∀ (qs : List Rat), numsQ (mades qs) = some qs
  | [] => rfl
  | q :: qs => by
    show (match numQ (made q) with
      | some p => (match numsQ (mades qs) with
        | some ps => some (p :: ps)
        | none => none)
      | none => none) = _
    rw [num_made, nums_made qs]
inductive RMade : List PV → Out → Prop
  | ok {ps : List Rat} : Lm ps → Dz ps → RMade [.lst (prsP ps)] (.ret (.lst (mades ps)))
def spMade : PSpec := .det false RMade
/-- drawn numbers -/
def NumOk (n : Nat) (qs : List Rat) : Prop := qs.length = n ∧ ∀ q ∈ qs, Vz q (10 ^ 30) 6
def spNumbers : PSpec where
  run := fun xs Q E => ∃ n : Nat, xs = [.pool, .int n] ∧ n ≤ 1000 ∧ ∀ qs, NumOk n qs → Q (.lst (prsP qs))
  mono := fun h1 _ ⟨n, e, l, h⟩ => ⟨n, e, l, fun qs k => h1 _ (h qs k)⟩
theorem vz_den {q : Rat} {M D k : Nat} (h : Vz q M D) (l : D < 2 ^ k) : Bd (q.den : Int) k := by
  have := h.2
  show (q.den : Int).natAbs < 2 ^ k
  omega
theorem NumOk.lm {n : Nat} {qs : List Rat} (h : NumOk n qs) (l : n ≤ 1000) : Lm qs := by
  show qs.length ≤ 1000
  rw [h.1]; exact l
theorem NumOk.dz {n : Nat} {qs : List Rat} (h : NumOk n qs) : Dz qs := fun p m => vz_den (k := 8999) (h.2 p m) (Nat.lt_of_lt_of_le (show 6 < 2 ^ 3 by decide) (Nat.pow_le_pow_right (by decide) (by decide)))
end Qw

/-! CB: codes. -/
namespace Qw
open PySem PySem.Spec PyProof.Rows L2 Ni Rt Pu
-- slots of _law_low: 0 _law_top, 1 _law_bottom, 2 _law_one, 3 _law_two, 4 _law_rest
-- slots of _law_whole: 0 _law_thing
-- slots of _law_pair: 0 _law_thing
def k__law_add : CSs := (.cons (.ret (.call 0 (.cons (.bin .Add (.bin .Mult (.ix (.var 0) (.int 0)) (.ix (.var 1) (.int 1))) (.bin .Mult (.ix (.var 1) (.int 0)) (.ix (.var 0) (.int 1)))) (.cons (.bin .Mult (.ix (.var 0) (.int 1)) (.ix (.var 1) (.int 1))) .nil)))) .nil)
abbrev L__law_add : Lang := { G := [(.glo "_law_low", spLow)], op := opS tab, M := [], X := [], I := [], S := [], T := [] }
-- slots of _law_add: 0 _law_one, 1 _law_two
def k__law_times : CSs := (.cons (.ret (.call 0 (.cons (.bin .Mult (.ix (.var 0) (.int 0)) (.ix (.var 1) (.int 0))) (.cons (.bin .Mult (.ix (.var 0) (.int 1)) (.ix (.var 1) (.int 1))) .nil)))) .nil)
abbrev L__law_times : Lang := { G := [(.glo "_law_low", spLow)], op := opS tab, M := [], X := [], I := [], S := [], T := [] }
-- slots of _law_times: 0 _law_one, 1 _law_two
def k__law_minus : CSs := (.cons (.ret (.call 0 (.cons (.bin .Sub (.bin .Mult (.ix (.var 0) (.int 0)) (.ix (.var 1) (.int 1))) (.bin .Mult (.ix (.var 1) (.int 0)) (.ix (.var 0) (.int 1)))) (.cons (.bin .Mult (.ix (.var 0) (.int 1)) (.ix (.var 1) (.int 1))) .nil)))) .nil)
abbrev L__law_minus : Lang := { G := [(.glo "_law_low", spLow)], op := opS tab, M := [], X := [], I := [], S := [], T := [] }
-- slots of _law_minus: 0 _law_one, 1 _law_two
def k__law_shows : CSs := (.cons (.ite (.or (.cons (.inot (.bi .isi (.cons (.var 0) (.cons (.cls .amounts) .nil)))) (.cons (.cmp .NotEq (.bi .len (.cons (.var 0) .nil)) (.bi .len (.cons (.var 1) .nil))) .nil))) (.cons (.ret (.bl false)) .nil) .nil) (.cons (.ownC 2 (.comp (.nm 3) (.seqV 0) .nil (.call 0 (.cons (.var 3) .nil)) [("_law_number", 3)])) (.cons (.frz 2) (.cons (.ret (.and (.cons (.cmp .Eq (.var 2) (.var 1)) (.cons (.cmp .Eq (.fr (.comp (.nm 4) (.range (.bi .len (.cons (.var 1) .nil))) .nil (.call 0 (.cons (.ix (.var 0) (.var 4)) .nil)) [("_law_k", 4)])) (.var 1)) .nil)))) .nil))))
abbrev L__law_shows : Lang := { G := [(.glo "_law_pair", spPairP)], op := opA, M := [], X := [], I := [], S := [], T := [(.amounts, 0)] }
-- slots of _law_shows: 0 _law_thing, 1 _law_due, 2 _law_told, 3 _law_number, 4 _law_k
def k__law_made : CSs := (.cons (.ret (.fr (.comp (.nm 1) (.seqV 0) .nil (.ite (.cmp .NotEq (.ix (.var 1) (.int 1)) (.int 1)) (.call 0 (.cons (.ix (.var 1) (.int 0)) (.cons (.ix (.var 1) (.int 1)) .nil))) (.ix (.var 1) (.int 0))) [("_law_one", 1)]))) .nil)
abbrev L__law_made : Lang := { G := [(.glo "Ratio", spRatio)], op := opS tab, M := [], X := [], I := [], S := [], T := [] }
-- slots of _law_made: 0 _law_pairs, 1 _law_one
def k__law_numbers : CSs := (.cons (.asg (.nm 2) (.ix (.fr (.lst (.cons (.int 9) (.cons (.int 1000) (.cons (.bin .Pow (.int 10) (.int 30)) .nil))))) (.call 0 (.cons (.var 0) (.cons (.int 3) .nil))))) (.cons (.own 3 (.lst .nil)) (.cons (.for_ (.nm 4) (.range (.var 1)) (.cons (.app 3 (.call 1 (.cons (.bin .Sub (.call 0 (.cons (.var 0) (.cons (.bin .Add (.bin .Mult (.int 2) (.var 2)) (.int 1)) .nil))) (.var 2)) (.cons (.bin .Add (.int 1) (.call 0 (.cons (.var 0) (.cons (.int 6) .nil)))) .nil)))) .nil)) (.cons (.frz 3) (.cons (.ret (.var 3)) .nil)))))
abbrev L__law_numbers : Lang := { G := [(.glo "_law_draw", spDrawP), (.glo "_law_low", spLow)], op := opS tab, M := [], X := [], I := [], S := [], T := [] }
-- slots of _law_numbers: 0 _law_pool, 1 _law_size, 2 _law_width, 3 _law_found, 4 _law_k
end Qw

/-! QB: the laws' helpers over pairs keep their promises. -/
namespace Qw
open PySem PySem.Spec PyProof.Rows L2 Ni Rt Pu
local macro_rules | `(tactic| exists "wh") => `(tactic| conv => whnf)
theorem mz_mul {p q : Rat} (h : Mz p q) : MulOk p.num q.num ∧ MulOk p.num (q.den : Int) ∧ MulOk q.num (p.den : Int) ∧ MulOk (p.den : Int) (q.den : Int) ∧ Bd ((p.den : Int) * (q.den : Int)) 8999 := by
  obtain ⟨k, m, a, b, l⟩ := h
  exact ⟨⟨k, m, a.1, b.1, by omega⟩, ⟨k, m, a.1, b.2, by omega⟩, ⟨m, k, b.1, a.2, by omega⟩, ⟨k, m, a.2, b.2, by omega⟩, (a.2.mul b.2).mono (by omega)⟩
theorem sem_addP {xs : List PV} {Q : PV → Prop} {E : KE} (h0 : spAddP.run xs Q E) : xs.length = 2 ∧ denB L__law_add k__law_add (startE 2 xs) { nx := fun _ => Q .non, rt := fun x _ => Q x, ex := fun e _ => E e } := by
  obtain ⟨o, r, h⟩ := h0
  cases r with
  | @ok p q m =>
    obtain ⟨m1, m2, m3, m4, m5⟩ := mz_mul m
    refine ⟨rfl, ?_⟩
    exists "wh"
    refine ⟨m2, ?_⟩
    exists "wh"
    refine ⟨m3, ?_⟩
    exists "wh"
    refine ⟨m4, ?_⟩
    exists "wh"
    refine ⟨⟨Int.mul_pos (den_pos p) (den_pos q), m5⟩, ?_⟩
    rw [q_add]
    exact h
theorem sem_minusP {xs : List PV} {Q : PV → Prop} {E : KE} (h0 : spMinusP.run xs Q E) : xs.length = 2 ∧ denB L__law_minus k__law_minus (startE 2 xs) { nx := fun _ => Q .non, rt := fun x _ => Q x, ex := fun e _ => E e } := by
  obtain ⟨o, r, h⟩ := h0
  cases r with
  | @ok p q m =>
    obtain ⟨m1, m2, m3, m4, m5⟩ := mz_mul m
    refine ⟨rfl, ?_⟩
    exists "wh"
    refine ⟨m2, ?_⟩
    exists "wh"
    refine ⟨m3, ?_⟩
    exists "wh"
    refine ⟨m4, ?_⟩
    exists "wh"
    refine ⟨⟨Int.mul_pos (den_pos p) (den_pos q), m5⟩, ?_⟩
    rw [q_sub]
    exact h
theorem sem_timesP {xs : List PV} {Q : PV → Prop} {E : KE} (h0 : spTimesP.run xs Q E) : xs.length = 2 ∧ denB L__law_times k__law_times (startE 2 xs) { nx := fun _ => Q .non, rt := fun x _ => Q x, ex := fun e _ => E e } := by
  obtain ⟨o, r, h⟩ := h0
  cases r with
  | @ok p q m =>
    obtain ⟨m1, m2, m3, m4, m5⟩ := mz_mul m
    refine ⟨rfl, ?_⟩
    exists "wh"
    refine ⟨m1, ?_⟩
    exists "wh"
    refine ⟨m4, ?_⟩
    exists "wh"
    refine ⟨⟨Int.mul_pos (den_pos p) (den_pos q), m5⟩, ?_⟩
    rw [q_mul]
    exact h
/-- values, one by one, by their place -/
theorem comp_f {step : PV → (Option PV → Prop) → Prop} {K : List PV → Prop} {α : Type} {g : α → PV} {f : α → PV} : ∀ {ps : List α} {acc : List PV}, (∀ q (K2 : Option PV → Prop), q ∈ ps → K2 (some (f q)) → step (g q) K2) → K (acc ++ ps.map f) → denComp step (ps.map g) acc K
  | [], acc, h1, h => by
    rw [List.map_nil, List.append_nil] at h
    exact h
  | p :: ps, acc, h1, h => h1 p _ (.head _) (comp_f (fun q K2 m => h1 q K2 (.tail _ m)) (by rw [List.append_assoc]; exact h))
/-- .. over range(len(..)) -/
theorem comp_range {step : PV → (Option PV → Prop) → Prop} {K : List PV → Prop} {f : Nat → PV} : ∀ {n : Nat} {lo : Nat} {acc : List PV}, (∀ i (K2 : Option PV → Prop), lo ≤ i → i < lo + n → K2 (some (f i)) → step (.int (i : Nat)) K2) → K (acc ++ (List.range' lo n).map f) → denComp step (rangeP (lo : Nat) n) acc K
  | 0, lo, acc, h1, h => by
    rw [show List.range' lo 0 = [] from rfl, List.map_nil, List.append_nil] at h
    exact h
  | n + 1, lo, acc, h1, h => h1 lo _ (Nat.le_refl _) (by omega) (by
    have e : ((lo : Int) + 1) = ((lo + 1 : Nat) : Int) := by omega
    show denComp step (rangeP ((lo : Int) + 1) n) _ K
    rw [e]
    refine comp_range (fun i K2 l1 l2 => h1 i K2 (by omega) (by omega)) ?_
    rw [List.append_assoc]
    exact h)
theorem map_range {α : Type} {f : Nat → PV} {g : α → PV} {qs : List α} (h : ∀ i q, qs[i]? = some q → f i = g q) : (List.range' 0 qs.length).map f = qs.map g := by
  apply List.ext_getElem?
  intro i
  rw [List.getElem?_map, List.getElem?_map]
  by_cases l : i < qs.length
  · rw [List.getElem?_range' l, List.getElem?_eq_getElem l]
    simp only [Option.map_some, Nat.zero_add, Nat.one_mul]
    rw [h i _ (List.getElem?_eq_getElem l)]
  · rw [List.getElem?_eq_none (by rw [List.length_range']; omega), List.getElem?_eq_none (by omega)]
    rfl
/-- a comprehension over range(len(qs)) whose items are told by those of qs -/
theorem comp_idx {step : PV → (Option PV → Prop) → Prop} {K : List PV → Prop} {α : Type} {g : α → PV} {qs : List α} {n : Int} (hn : n = qs.length) (h : ∀ i q (K2 : Option PV → Prop), qs[i]? = some q → K2 (some (g q)) → step (.int (i : Nat)) K2) (k : K (qs.map g)) : denComp step (rangeP 0 n.toNat) [] K := by
  subst hn
  rw [Int.toNat_natCast]
  have z := comp_range (step := step) (K := K) (f := fun i => match qs[i]? with
    | some q => g q
    | none => .non) (n := qs.length) (lo := 0) (acc := []) (fun i K2 l1 l2 k2 => by
      have l : i < qs.length := by omega
      rw [List.getElem?_eq_getElem l] at k2
      exact h i _ K2 (List.getElem?_eq_getElem l) k2) (by
      rw [List.nil_append, map_range (g := g) (fun i q e => by rw [e])]
      exact k)
  exact z
theorem far_len {n : Nat} (h : n ≤ 100000) : FarI (n : Int) := by
  unfold FarI
  have : (2 : Int) ^ 62 > 100000 := by decide
  omega
theorem eqP_refl_prs (ps : List Rat) : eqP (.lst (prsP ps)) (.lst (prsP ps)) = true := by rw [eqP_prs, decide_eq_true rfl]
theorem rangeP_lenI (lo : Int) (n : Nat) : (rangeP lo n).length = n := Pu.rangeP_len lo n
theorem sem_shows {xs : List PV} {Q : PV → Prop} {E : KE} (h0 : spShows.run xs Q E) : xs.length = 2 ∧ denB L__law_shows k__law_shows (startE 5 xs) { nx := fun _ => Q .non, rt := fun x _ => Q x, ex := fun e _ => E e } := by
  obtain ⟨o, r, h⟩ := h0
  cases r with
  | @ok ps l d =>
    refine ⟨rfl, ?_⟩
    exists "wh"
    refine ⟨_, .ok l, ?_⟩
    show ifB (!decide ((ps.length : Int) = ((prsP ps).length : Nat))) _ _
    refine ifB_nd (fun z => absurd (by rw [prs_len]) z) fun _ => ?_
    exists "wh"
    refine ⟨by rw [rats_len]; exact l.small, ?_⟩
    refine comp_f (g := PV.rat) (f := pairP) (ps := ps) (fun q K2 m k => ?_) ?_
    · exists "wh"
      exact ⟨d q m, k⟩
    · exists "wh"
      refine ⟨⟨dat_prs ps, dat_prs ps⟩, ?_⟩
      show ifB (eqP (.lst (prsP ps)) (.lst (prsP ps))) _ _
      rw [eqP_refl_prs]
      exists "wh"
      refine ⟨far_len (by rw [prs_len]; exact l.small), ?_⟩
      refine ⟨by rw [rangeP_lenI, prs_len]; exact l.small, ?_⟩
      refine comp_idx (qs := ps) (g := pairP) (by rw [prs_len]) (fun i q K2 e k => ?_) ?_
      · exists "wh"
        refine ⟨_, .ok e, ?_⟩
        exists "wh"
        exact ⟨d q (List.mem_of_getElem? e), k⟩
      · exists "wh"
        refine ⟨⟨dat_prs ps, dat_prs ps⟩, ?_⟩
        show Q (.bl (eqP (.lst (prsP ps)) (.lst (prsP ps))))
        rw [eqP_refl_prs]
        exact h
theorem sem_made {xs : List PV} {Q : PV → Prop} {E : KE} (h0 : spMade.run xs Q E) : xs.length = 1 ∧ denB L__law_made k__law_made (startE 2 xs) { nx := fun _ => Q .non, rt := fun x _ => Q x, ex := fun e _ => E e } := by
  obtain ⟨o, r, h⟩ := h0
  cases r with
  | @ok ps l d =>
    refine ⟨rfl, ?_⟩
    exists "wh"
    refine ⟨by rw [prs_len]; exact l.small, ?_⟩
    refine comp_f (g := pairP) (f := made) (ps := ps) (fun q K2 m k => ?_) h
    exists "wh"
    show ifB (!decide ((q.den : Int) = 1)) _ _
    unfold made at k
    refine ifB_nd (fun z => ?_) fun z => ?_
    · rw [if_neg (by omega)] at k
      exists "wh"
      refine ⟨d q m, fun z => absurd z (den_ne q), fun _ => ?_⟩
      rw [Rat.num_divInt_den]
      exact k
    · rw [if_pos (by omega)] at k
      exact k
theorem pick30' {d : Int} (h0 : 0 ≤ d) (h1 : d < 3) : ∃ W : Int, nth [PV.int 9, .int 1000, .int (10 ^ Int.toNat 30)] d.toNat = some (.int W) ∧ 9 ≤ W ∧ W ≤ 10 ^ 30 := by
  have h : d = 0 ∨ d = 1 ∨ d = 2 := by omega
  rcases h with rfl | rfl | rfl
  · exact ⟨_, rfl, by decide, by decide⟩
  · exact ⟨_, rfl, by decide, by decide⟩
  · exact ⟨_, rfl, by decide, by decide⟩
theorem bd_w {W n : Int} (h : W ≤ 10 ^ 30) (h0 : 0 ≤ W) (l : n.natAbs ≤ 2 * W.natAbs + 1) : Bd n 110 := by
  unfold Bd
  have e : (2 : Nat) ^ 110 > 2 * 10 ^ 30 + 1 := by decide
  have h2 : W.natAbs ≤ 10 ^ 30 := by omega
  omega
/-- lists that grow, one item for each turn -/
theorem for_app {step : PV → Pu.Env → (Pu.Env → Prop) → Prop} {K : Pu.Env → Prop} {ρ0 : List PV → Option SV → Pu.Env} {P : PV → Prop} (h1 : ∀ x acc v (K2 : Pu.Env → Prop), acc.length ≤ 99999 → (∀ y w, P y → K2 (ρ0 (acc ++ [y]) w)) → step x (ρ0 acc v) K2) : ∀ {xs acc : List PV} {v : Option SV}, acc.length + xs.length ≤ 99999 → (∀ ys v, ys.length = xs.length → (∀ y ∈ ys, P y) → K (ρ0 (acc ++ ys) v)) → denFor step xs (ρ0 acc v) K
  | [], acc, v, _, h => by
    have z := h [] v rfl (fun _ m => by cases m)
    rw [List.append_nil] at z
    exact z
  | x :: xs, acc, v, l, h => h1 x acc v _ (by omega) fun y w py => for_app h1 (by rw [List.length_append]; simp at l ⊢; omega) fun ys v2 e m => by
    rw [List.append_assoc]
    exact h (y :: ys) v2 (by simp [e]) fun z mz => by
      cases mz with
      | head => exact py
      | tail _ mz => exact m z mz
theorem prs_of {ys : List PV} {P : Rat → Prop} (h : ∀ y ∈ ys, ∃ q, y = pairP q ∧ P q) : ∃ qs, ys = prsP qs ∧ qs.length = ys.length ∧ ∀ q ∈ qs, P q := by
  induction ys with
  | nil => exact ⟨[], rfl, rfl, fun _ m => by cases m⟩
  | cons y ys ih =>
    obtain ⟨q, rfl, hq⟩ := h y (.head _)
    obtain ⟨qs, rfl, l, hqs⟩ := ih fun z m => h z (.tail _ m)
    exact ⟨q :: qs, rfl, by simp [l], fun z m => by
      cases m with
      | head => exact hq
      | tail _ m => exact hqs z m⟩
theorem sem_numbers {xs : List PV} {Q : PV → Prop} {E : KE} (h0 : spNumbers.run xs Q E) : xs.length = 2 ∧ denB L__law_numbers k__law_numbers (startE 5 xs) { nx := fun _ => Q .non, rt := fun x _ => Q x, ex := fun e _ => E e } := by
  obtain ⟨n, rfl, l, h⟩ := h0
  refine ⟨rfl, ?_⟩
  exists "wh"
  refine ⟨⟨by decide, by decide, by decide⟩, ?_⟩
  exists "wh"
  refine ⟨⟨by decide, bd_lit (by decide) (by decide)⟩, fun x x0 x1 => ?_⟩
  exists "wh"
  obtain ⟨W, hW, w1, w2⟩ := pick30' x0 x1
  refine atP_at x0 hW ?_
  clear hW x0 x1 x
  exists "wh"
  refine ⟨far_len (n := n) (by omega), ?_⟩
  refine for_app (ρ0 := fun acc v => [some (.val .pool), some (.val (.int n)), some (.val (.int W)), some (.own acc), v]) (P := fun y => ∃ q, y = pairP q ∧ Vz q (10 ^ 30) 6) (fun x acc v K2 la k => ?_) (by rw [rangeP_lenI]; simp; omega) fun ys v e m => ?_
  · exists "wh"
    refine ⟨⟨2, 110, (by unfold Bd; decide : Bd 2 2), bd_w w2 (by omega) (by omega), by decide⟩, ?_⟩
    exists "wh"
    refine ⟨⟨by omega, (bd_w w2 (by omega) (by omega)).mono (by decide)⟩, fun y y0 y1 => ?_⟩
    exists "wh"
    refine ⟨⟨by decide, bd_lit (by decide) (by decide)⟩, fun z z0 z1 => ?_⟩
    exists "wh"
    refine ⟨⟨by omega, bd_lit (by omega) (by decide)⟩, ?_⟩
    exists "wh"
    refine ⟨by show acc.length + 1 ≤ 100000; omega, k _ _ ⟨_, rfl, vz_of (by omega) ?_ (by omega)⟩⟩
    have a1 : (y - W).natAbs ≤ 10 ^ 30 := by omega
    exact Nat.le_trans a1 (Nat.le_mul_of_pos_right _ (by omega))
  · obtain ⟨qs, rfl, e2, m2⟩ := prs_of m
    exists "wh"
    rw [rangeP_lenI, Int.toNat_natCast] at e
    exact h qs ⟨e2.trans e, m2⟩
end Qw

/-! Q6s: law k06, promises. -/
namespace Qw
open PySem PySem.Spec PyProof.Rows L2 Ni Rt Pu
inductive RRefused6 : List PV → Out → Prop
  | ok {ps qs : List Rat} {w : Int} : Lm qs → ps.length ≠ qs.length → (w = 0 ∨ w = 1 ∨ w = 2 ∨ w = 3) → RRefused6 [am ps, am qs, .int w] (.ret (.bl true))
def spRefused6 : PSpec := .det false RRefused6
/-- all numbers are small -/
def Av (ps : List Rat) : Prop := ∀ p ∈ ps, Vz p (10 ^ 30) 6
inductive RSums6 : List PV → Out → Prop
  | ok {ps qs : List Rat} : ps.length ≤ 60 → ps.length = qs.length → Av ps → Av qs → RSums6 [am ps, am qs, .lst (prsP ps), .lst (prsP qs)] (.ret (.bl true))
def spSums6 : PSpec := .det false RSums6
end Qw

/-! C6: codes. -/
namespace Qw
open PySem PySem.Spec PyProof.Rows L2 Ni Rt Pu
-- slots of _law_low: 0 _law_top, 1 _law_bottom, 2 _law_one, 3 _law_two, 4 _law_rest
-- slots of _law_whole: 0 _law_thing
-- slots of _law_pair: 0 _law_thing
-- slots of _law_add: 0 _law_one, 1 _law_two
-- slots of _law_times: 0 _law_one, 1 _law_two
-- slots of _law_minus: 0 _law_one, 1 _law_two
-- slots of _law_shows: 0 _law_thing, 1 _law_due, 2 _law_told, 3 _law_number, 4 _law_k
-- slots of _law_made: 0 _law_pairs, 1 _law_one
-- slots of _law_numbers: 0 _law_pool, 1 _law_size, 2 _law_width, 3 _law_found, 4 _law_k
def k__law_refused : CSs := (.cons (.asg (.nm 3) .non) (.cons (.tryX (.cons (.ite (.cmp .Eq (.var 2) (.int 0)) (.cons (.asg (.nm 3) (.bin .Add (.var 0) (.var 1))) .nil) .nil) (.cons (.ite (.cmp .Eq (.var 2) (.int 1)) (.cons (.asg (.nm 3) (.bin .Sub (.var 0) (.var 1))) .nil) .nil) (.cons (.ite (.cmp .Eq (.var 2) (.int 2)) (.cons (.asg (.nm 3) (.meth 0 (.var 0) (.cons (.var 1) .nil))) .nil) .nil) (.cons (.ite (.cmp .Eq (.var 2) (.int 3)) (.cons (.aug 0 .Add (.var 1)) .nil) .nil) .nil)))) .badLength 4 (.cons (.ret (.and (.cons (.isX 4 .neverIdle) (.cons (.inot (.isX 4 .badKind)) .nil)))) .nil)) (.cons (.ret (.bl false)) .nil)))
abbrev L__law_refused : Lang := { G := [(.met .amounts "dot", spDot)], op := opA, M := [], X := [(.badLength, .badLength)], I := [(.badLength, .badKind), (.badLength, .neverIdle)], S := [], T := [] }
-- slots of _law_refused: 0 _law_one, 1 _law_two, 2 _law_way, 3 _law_told, 4 e
def k__law_sums : CSs := (.cons (.ite (.inot (.call 0 (.cons (.bin .Add (.var 0) (.var 1)) (.cons (.fr (.comp (.nm 6) (.range (.bi .len (.cons (.var 2) .nil))) .nil (.call 1 (.cons (.ix (.var 2) (.var 6)) (.cons (.ix (.var 3) (.var 6)) .nil))) [("_law_k", 6)])) .nil)))) (.cons (.ret (.bl false)) .nil) .nil) (.cons (.ite (.inot (.call 0 (.cons (.bin .Sub (.var 0) (.var 1)) (.cons (.fr (.comp (.nm 6) (.range (.bi .len (.cons (.var 2) .nil))) .nil (.call 2 (.cons (.ix (.var 2) (.var 6)) (.cons (.ix (.var 3) (.var 6)) .nil))) [("_law_k", 6)])) .nil)))) (.cons (.ret (.bl false)) .nil) .nil) (.cons (.asg (.nm 4) (.tup (.cons (.int 0) (.cons (.int 1) .nil)))) (.cons (.asg (.nm 5) (.tup (.cons (.int 0) (.cons (.int 1) .nil)))) (.cons (.for_ (.nm 6) (.range (.bi .len (.cons (.var 2) .nil))) (.cons (.asg (.nm 4) (.call 1 (.cons (.var 4) (.cons (.call 3 (.cons (.ix (.var 2) (.var 6)) (.cons (.ix (.var 3) (.var 6)) .nil))) .nil)))) (.cons (.asg (.nm 5) (.call 1 (.cons (.var 5) (.cons (.ix (.var 2) (.var 6)) .nil)))) .nil))) (.cons (.ite (.or (.cons (.cmp .NotEq (.call 4 (.cons (.meth 5 (.var 0) (.cons (.var 1) .nil)) .nil)) (.var 4)) (.cons (.cmp .NotEq (.call 4 (.cons (.meth 5 (.var 0) (.cons (.call 6 (.cons (.var 3) .nil)) .nil)) .nil)) (.var 4)) .nil))) (.cons (.ret (.bl false)) .nil) .nil) (.cons (.ite (.or (.cons (.cmp .NotEq (.call 4 (.cons (.meth 5 (.var 1) (.cons (.bi .tuple (.cons (.call 6 (.cons (.var 2) .nil)) .nil)) .nil)) .nil)) (.var 4)) (.cons (.cmp .NotEq (.call 4 (.cons (.meth 7 (.var 0) .nil) .nil)) (.var 5)) .nil))) (.cons (.ret (.bl false)) .nil) .nil) (.cons (.ret (.call 0 (.cons (.neg (.var 0)) (.cons (.fr (.comp (.nm 7) (.seqV 2) .nil (.tup (.cons (.neg (.ix (.var 7) (.int 0))) (.cons (.ix (.var 7) (.int 1)) .nil))) [("_law_pair_here", 7)])) .nil)))) .nil))))))))
abbrev L__law_sums : Lang := { G := [(.glo "_law_shows", spShows), (.glo "_law_add", spAddP), (.glo "_law_minus", spMinusP), (.glo "_law_times", spTimesP), (.glo "_law_pair", spPairP), (.met .amounts "dot", spDot), (.glo "_law_made", spMade), (.met .amounts "total", spTotal)], op := opA, M := [], X := [], I := [], S := [], T := [] }
-- slots of _law_sums: 0 _law_one, 1 _law_two, 2 _law_a, 3 _law_b, 4 _law_due, 5 _law_total, 6 _law_k, 7 _law_pair_here
def k_law : CSs := (.cons (.asg (.nm 2) (.call 0 (.cons (.var 1) (.cons (.int 8) .nil)))) (.cons (.ite (.cmp .Eq (.call 0 (.cons (.var 1) (.cons (.int 6) .nil))) (.int 5)) (.cons (.asg (.nm 2) (.int 60)) .nil) .nil) (.cons (.asg (.nm 3) (.call 1 (.cons (.var 1) (.cons (.var 2) .nil)))) (.cons (.asg (.nm 4) (.call 1 (.cons (.var 1) (.cons (.var 2) .nil)))) (.cons (.ite (.cmp .Eq (.call 0 (.cons (.var 1) (.cons (.int 3) .nil))) (.int 2)) (.cons (.own 4 (.ofL (.var 3))) (.cons (.ite (.cmp .Gt (.var 2) (.int 0)) (.cons (.seto 4 (.call 0 (.cons (.var 1) (.cons (.var 2) .nil))) (.ix (.call 1 (.cons (.var 1) (.cons (.int 1) .nil))) (.int 0))) .nil) .nil) (.cons (.frz 4) .nil))) .nil) (.cons (.asg (.nm 5) (.ix (.call 1 (.cons (.var 1) (.cons (.int 1) .nil))) (.int 0))) (.cons (.asg (.nm 6) (.call 1 (.cons (.var 1) (.cons (.bin .Add (.var 2) (.int 1)) .nil)))) (.cons (.asg (.nm 7) (.call 2 (.cons (.call 3 (.cons (.var 3) .nil)) .nil))) (.cons (.asg (.nm 8) (.call 2 (.cons (.bi .tuple (.cons (.call 3 (.cons (.var 4) .nil)) .nil)) .nil))) (.cons (.asg (.nm 9) (.call 2 (.cons (.call 2 (.cons (.call 3 (.cons (.var 6) .nil)) .nil)) .nil))) (.cons (.asg (.nm 10) (.ix (.call 3 (.cons (.fr (.lst (.cons (.var 5) .nil))) .nil)) (.int 0))) (.cons (.ownC 11 (.comp (.nm 15) (.seqV 3) .nil (.call 4 (.cons (.var 15) (.cons (.var 5) .nil))) [("_law_pair_here", 15)])) (.cons (.frz 11) (.cons (.ite (.or (.cons (.inot (.call 5 (.cons (.bin .Mult (.var 7) (.var 10)) (.cons (.var 11) .nil)))) (.cons (.inot (.call 5 (.cons (.bin .Mult (.var 10) (.var 7)) (.cons (.var 11) .nil)))) .nil))) (.cons (.ret (.bl false)) .nil) .nil) (.cons (.ite (.or (.cons (.inot (.call 5 (.cons (.bin .Mult (.call 7 (.cons (.ix (.var 5) (.int 0)) (.cons (.ix (.var 5) (.int 1)) .nil))) (.var 7)) (.cons (.var 11) .nil)))) (.cons (.inot (.call 6 (.cons (.var 7) (.cons (.var 8) (.cons (.var 3) (.cons (.var 4) .nil)))))) .nil))) (.cons (.ret (.bl false)) .nil) .nil) (.cons (.asg (.nm 12) (.var 7)) (.cons (.aug 12 .Sub (.var 8)) (.cons (.ite (.inot (.call 5 (.cons (.var 12) (.cons (.fr (.comp (.nm 16) (.range (.var 2)) .nil (.call 8 (.cons (.ix (.var 3) (.var 16)) (.cons (.ix (.var 4) (.var 16)) .nil))) [("_law_k", 16)])) .nil)))) (.cons (.ret (.bl false)) .nil) .nil) (.cons (.asg (.nm 12) (.var 7)) (.cons (.aug 12 .Mult (.var 10)) (.cons (.ite (.inot (.call 5 (.cons (.var 12) (.cons (.var 11) .nil)))) (.cons (.ret (.bl false)) .nil) .nil) (.cons (.forO 13 17 (.cons (.bin .Mult (.var 7) (.int 1)) (.cons (.bin .Add (.var 7) (.sta 9 (.cons (.var 2) .nil))) (.cons (.bin .Sub (.var 7) (.sta 9 (.cons (.var 2) .nil))) (.cons (.neg (.neg (.var 7))) .nil)))) (.cons (.ite (.snap (.inot (.call 5 (.cons (.var 13) (.cons (.var 3) .nil))))) (.cons (.ret (.bl false)) .nil) .nil) (.cons (.ite (.cmp .Gt (.var 2) (.int 0)) (.cons (.muts 13 0 (.int 0) (.int 77)) .nil) .nil) .nil))) (.cons (.for_ (.nm 14) (.range (.int 4)) (.cons (.ite (.or (.cons (.inot (.call 10 (.cons (.var 7) (.cons (.var 9) (.cons (.var 14) .nil))))) (.cons (.inot (.call 10 (.cons (.var 9) (.cons (.var 7) (.cons (.var 14) .nil))))) .nil))) (.cons (.ret (.bl false)) .nil) .nil) .nil)) (.cons (.ite (.or (.cons (.inot (.call 5 (.cons (.var 7) (.cons (.var 3) .nil)))) (.cons (.inot (.call 5 (.cons (.var 8) (.cons (.var 4) .nil)))) (.cons (.inot (.call 5 (.cons (.var 9) (.cons (.var 6) .nil)))) .nil)))) (.cons (.ret (.bl false)) .nil) .nil) (.cons (.ite (.or (.cons (.cmp .NotEq (.cmp .Eq (.var 7) (.var 8)) (.cmp .Eq (.var 3) (.var 4))) (.cons (.cmp .NotEq (.cmp .NotEq (.var 7) (.var 8)) (.cmp .NotEq (.var 3) (.var 4))) (.cons (.cmp .Eq (.var 7) (.var 9)) (.cons (.inot (.cmp .Eq (.var 7) (.call 2 (.cons (.call 3 (.cons (.var 3) .nil)) .nil)))) .nil))))) (.cons (.ret (.bl false)) .nil) .nil) (.cons (.ite (.or (.cons (.cmp .Eq (.var 7) (.call 3 (.cons (.var 3) .nil))) (.cons (.cmp .Eq (.var 7) (.bi .tuple (.cons (.call 3 (.cons (.var 3) .nil)) .nil))) (.cons (.inot (.cmp .NotEq (.var 7) (.call 3 (.cons (.var 3) .nil)))) .nil)))) (.cons (.ret (.bl false)) .nil) .nil) (.cons (.ret (.call 5 (.cons (.sta 9 (.cons (.var 2) .nil)) (.cons (.fr (.comp (.nm 16) (.range (.var 2)) .nil (.tup (.cons (.int 0) (.cons (.int 1) .nil))) [("_law_k", 16)])) .nil)))) .nil)))))))))))))))))))))))))))
abbrev L_law : Lang := { G := [(.glo "_law_draw", spDrawP), (.glo "_law_numbers", spNumbers), (.glo "Amounts", spNew), (.glo "_law_made", spMade), (.glo "_law_times", spTimesP), (.glo "_law_shows", spShows), (.glo "_law_sums", spSums6), (.glo "Ratio", spRatio), (.glo "_law_minus", spMinusP), (.sta .amounts "zeros", spZeros), (.glo "_law_refused", spRefused6)], op := opA, M := [(.set .amounts, mSet)], X := [], I := [], S := [], T := [] }
-- slots of law: 0 _law_script, 1 _law_pool, 2 _law_size, 3 _law_a, 4 _law_b, 5 _law_n, 6 _law_longer, 7 _law_one, 8 _law_two, 9 _law_three, 10 _law_number, 11 _law_due, 12 _law_left, 13 _law_more, 14 _law_way, 15 _law_pair_here, 16 _law_k, 17 #0, 18 #1, 19 #2, 20 #3
end Qw

/-! Q6: law k06, its defs over values. -/
namespace Qw
open PySem PySem.Spec PyProof.Rows L2 Ni Rt Pu
local macro_rules | `(tactic| exists "wh") => `(tactic| conv => whnf)
theorem sem_refused6 {xs : List PV} {Q : PV → Prop} {E : KE} (h0 : spRefused6.run xs Q E) : xs.length = 3 ∧ denB L__law_refused k__law_refused (startE 5 xs) { nx := fun _ => Q .non, rt := fun x _ => Q x, ex := fun e _ => E e } := by
  obtain ⟨o, r, h⟩ := h0
  cases r with
  | @ok ps qs w l ne hw =>
    refine ⟨rfl, ?_⟩
    rcases hw with rfl | rfl | rfl | rfl
    · exists "wh"
      refine ⟨_, .bad ne, ?_⟩
      exists "wh"
      exact h
    · exists "wh"
      refine ⟨_, .bad ne, ?_⟩
      exists "wh"
      exact h
    · exists "wh"
      refine ⟨_, .bad rfl (nums_rats qs) l ne, ?_⟩
      exists "wh"
      exact h
    · exists "wh"
      refine ⟨_, .bad ne, ?_⟩
      exists "wh"
      exact h
theorem nth_at {xs : List PV} {i : Nat} {x : PV} {Q : PV → Prop} (h : nth xs i = some x) (q : Q x) : optP (nth xs i) Q := by
  rw [h]
  exact q
theorem prs_at {qs : List Rat} {i : Nat} {q : Rat} (h : qs[i]? = some q) : nth (prsP qs) i = some (pairP q) := by rw [nth_prs, h]; rfl
theorem Av.mz {ps qs : List Rat} (h : Av ps) (k : Av qs) {p q : Rat} (hp : p ∈ ps) (hq : q ∈ qs) : Mz p q := (h p hp).mz (k q hq) (by decide +kernel) (by decide +kernel)
theorem Av.pmz {ps qs : List Rat} (h : Av ps) (k : Av qs) : PMz ps qs := fun i p q e1 e2 => h.mz k (List.mem_of_getElem? e1) (List.mem_of_getElem? e2)
theorem Vz.bd {q : Rat} {M D : Nat} (h : Vz q M D) (l : D < 2 ^ 4490) : Bd (q.den : Int) 8999 := (vz_den h l).mono (by decide)
theorem zip_get {f : Rat → Rat → Rat} {ps qs : List Rat} {i : Nat} {z : Rat} (h : (List.zipWith f ps qs)[i]? = some z) : ∃ p q, ps[i]? = some p ∧ qs[i]? = some q ∧ z = f p q := by
  rw [List.getElem?_zipWith] at h
  cases e1 : ps[i]? with
  | none => rw [e1] at h; cases h
  | some p =>
    cases e2 : qs[i]? with
    | none => rw [e1, e2] at h; cases h
    | some q => rw [e1, e2] at h; cases h; exact ⟨p, q, rfl, rfl, rfl⟩
theorem Av.zip {ps qs : List Rat} (h : Av ps) (k : Av qs) : ∀ z ∈ List.zipWith (· + ·) ps qs, Vz z (10 ^ 30 + 10 ^ 30) (6 * 6) := fun z m => by
  obtain ⟨i, e⟩ := List.getElem?_of_mem m
  obtain ⟨p, q, e1, e2, rfl⟩ := zip_get e
  exact (h p (List.mem_of_getElem? e1)).add (k q (List.mem_of_getElem? e2))
theorem Av.zipS {ps qs : List Rat} (h : Av ps) (k : Av qs) : ∀ z ∈ List.zipWith (· - ·) ps qs, Vz z (10 ^ 30 + 10 ^ 30) (6 * 6) := fun z m => by
  obtain ⟨i, e⟩ := List.getElem?_of_mem m
  obtain ⟨p, q, e1, e2, rfl⟩ := zip_get e
  exact (h p (List.mem_of_getElem? e1)).sub (k q (List.mem_of_getElem? e2))
theorem dz_of {ps : List Rat} {M D : Nat} (h : ∀ z ∈ ps, Vz z M D) (l : D < 2 ^ 4490) : Dz ps := fun p m => (h p m).bd l
/-! ### sums -/
theorem dot_take : ∀ {ps qs : List Rat} {i : Nat} {a p q : Rat}, ps[i]? = some p → qs[i]? = some q → dotQ a (ps.take (i + 1)) (qs.take (i + 1)) = dotQ a (ps.take i) (qs.take i) + p * q
  | [], _, _, _, _, _, h, _ => by simp at h
  | _ :: _, [], _, _, _, _, _, h => by simp at h
  | p' :: ps, q' :: qs, 0, a, p, q, h1, h2 => by
    simp at h1 h2
    subst h1 h2
    rfl
  | p' :: ps, q' :: qs, i + 1, a, p, q, h1, h2 => dot_take (a := a + p' * q') (by simpa using h1) (by simpa using h2)
theorem sum_take : ∀ {ps : List Rat} {i : Nat} {a p : Rat}, ps[i]? = some p → sumQ a (ps.take (i + 1)) = sumQ a (ps.take i) + p
  | [], _, _, _, h => by simp at h
  | p' :: ps, 0, a, p, h => by
    simp at h
    subst h
    rfl
  | p' :: ps, i + 1, a, p, h => sum_take (a := a + p') (by simpa using h)
theorem dot_comm : ∀ (a : Rat) (ps qs : List Rat), dotQ a ps qs = dotQ a qs ps
  | a, [], [] => rfl
  | a, [], _ :: _ => rfl
  | a, _ :: _, [] => rfl
  | a, p :: ps, q :: qs => by
    show dotQ (a + p * q) ps qs = dotQ (a + q * p) qs ps
    rw [Rat.mul_comm q p]
    exact dot_comm _ ps qs
/-- a partial sum of j products -/
structure Pz (a : Rat) (j : Nat) : Prop where
  v : Vz a (j * 10 ^ 60) (36 ^ j)
theorem Pz.step {a p q : Rat} {j : Nat} (h : Pz a j) (hp : Vz p (10 ^ 30) 6) (hq : Vz q (10 ^ 30) 6) : Pz (a + p * q) (j + 1) := by
  have z := h.v.add (hp.mul hq)
  refine ⟨z.mono (Nat.le_of_eq ?_) (Nat.le_of_eq ?_)⟩
  · rw [Nat.add_mul, Nat.one_mul]
  · rw [Nat.pow_succ]
theorem Pz.le {a : Rat} {j : Nat} (h : Pz a j) (l : j ≤ 60) : Vz a (60 * 10 ^ 60) (36 ^ 60) := h.v.mono (Nat.mul_le_mul_right _ l) (Nat.pow_le_pow_right (by decide) l)
theorem Pz.sz {a : Rat} {j : Nat} (h : Pz a j) (l : j ≤ 60) : Sz a 4490 := (h.le l).sz (by decide +kernel)
theorem prod_sz {p q : Rat} (hp : Vz p (10 ^ 30) 6) (hq : Vz q (10 ^ 30) 6) : Sz (p * q) 4490 := (hp.mul hq).sz (by decide +kernel)
theorem Pz.zero : Pz 0 0 := ⟨Vz.zero (Nat.le_refl _)⟩
theorem dot_ok : ∀ {ps qs : List Rat} {a : Rat} {j : Nat}, Av ps → Av qs → Pz a j → j + ps.length ≤ 60 → DotOk a ps qs
  | [], qs, _, _, _, _, _, _ => by cases qs <;> trivial
  | _ :: _, [], _, _, _, _, _, _ => trivial
  | p :: ps, q :: qs, a, j, h, k, z, l => by
    have hp := h p (.head _)
    have hq := k q (.head _)
    exact ⟨⟨h.mz k (.head _) (.head _), mz_of (z.sz (by omega)) (prod_sz hp hq)⟩, dot_ok (fun x m => h x (.tail _ m)) (fun x m => k x (.tail _ m)) (z.step hp hq) (by simp at l; omega)⟩
theorem dot_pz : ∀ {ps qs : List Rat} {a : Rat} {j : Nat}, Av ps → Av qs → Pz a j → ps.length = qs.length → Pz (dotQ a ps qs) (j + ps.length)
  | [], [], _, _, _, _, z, _ => z
  | p :: ps, q :: qs, a, j, h, k, z, l => by
    have e : j + (p :: ps).length = (j + 1) + ps.length := by simp; omega
    rw [e]
    show Pz (dotQ (a + p * q) ps qs) _
    exact dot_pz (fun x m => h x (.tail _ m)) (fun x m => k x (.tail _ m)) (z.step (h p (.head _)) (k q (.head _))) (by simpa using l)
theorem Pz.one {a p : Rat} {j : Nat} (h : Pz a j) (hp : Vz p (10 ^ 30) 6) : Pz (a + p) (j + 1) := by
  have z := h.step hp (Vz.int (n := 1) (M := 10 ^ 30) (D := 6) (by decide) (by decide))
  rw [show p * ((1 : Int) : Rat) = p from Rat.mul_one p] at z
  exact z
theorem sum_ok : ∀ {ps : List Rat} {a : Rat} {j : Nat}, Av ps → Pz a j → j + ps.length ≤ 60 → SumOk a ps
  | [], _, _, _, _, _ => trivial
  | p :: ps, a, j, h, z, l => ⟨mz_of (z.sz (by omega)) ((h p (.head _)).sz (by decide +kernel)), sum_ok (fun x m => h x (.tail _ m)) (z.one (h p (.head _))) (by simp at l; omega)⟩
theorem sum_pz : ∀ {ps : List Rat} {a : Rat} {j : Nat}, Av ps → Pz a j → Pz (sumQ a ps) (j + ps.length)
  | [], _, _, _, z => z
  | p :: ps, a, j, h, z => by
    have e : j + (p :: ps).length = (j + 1) + ps.length := by simp; omega
    rw [e]
    show Pz (sumQ (a + p) ps) _
    exact sum_pz (fun x m => h x (.tail _ m)) (z.one (h p (.head _)))
theorem Av.take {ps : List Rat} (h : Av ps) (i : Nat) : Av (ps.take i) := fun p m => h p (List.mem_of_mem_take m)
theorem range_cons {lo n : Nat} : rangeP (lo : Nat) (n + 1) = .int (lo : Nat) :: rangeP ((lo + 1 : Nat) : Int) n := by
  show PV.int (lo : Nat) :: rangeP ((lo : Int) + 1) n = _
  rw [show ((lo : Int) + 1) = ((lo + 1 : Nat) : Int) by omega]
theorem get_of {qs : List Rat} {i : Nat} (h : i < qs.length) : ∃ q, qs[i]? = some q := ⟨_, List.getElem?_eq_getElem h⟩
theorem bl_ne (b : Bool) : eqP (.bl b) (.bl b) = true := eqB b
theorem sem_sums6 {xs : List PV} {Q : PV → Prop} {E : KE} (h0 : spSums6.run xs Q E) : xs.length = 4 ∧ denB L__law_sums k__law_sums (startE 8 xs) { nx := fun _ => Q .non, rt := fun x _ => Q x, ex := fun e _ => E e } := by
  obtain ⟨o, r, h⟩ := h0
  cases r with
  | @ok ps qs l el ha hb =>
    have lm1 : Lm ps := Nat.le_trans l (by decide)
    have lm2 : Lm qs := by show qs.length ≤ 1000; omega
    have pz := dot_pz ha hb Pz.zero el
    rw [Nat.zero_add] at pz
    have sz := sum_pz ha Pz.zero
    rw [Nat.zero_add] at sz
    have dk := dot_ok ha hb Pz.zero (by omega)
    have dk2 := dot_ok (ps := qs) (qs := ps) hb ha Pz.zero (by omega)
    have d1 : Dz ps := dz_of ha (by decide +kernel)
    have d2 : Dz qs := dz_of hb (by decide +kernel)
    have far : FarI ((prsP ps).length : Nat) := far_len (by rw [prs_len]; exact lm1.small)
    refine ⟨rfl, ?_⟩
    exists "wh"
    refine ⟨_, .ok lm1 el (ha.pmz hb), ?_⟩
    exists "wh"
    refine ⟨far, by rw [rangeP_lenI, Int.toNat_natCast, prs_len]; exact lm1.small, comp_idx (qs := List.zipWith (· + ·) ps qs) (g := pairP) (by rw [prs_len, zip_len el]) (fun i z K2 e k => ?_) ?_⟩
    · obtain ⟨p, q, e1, e2, rfl⟩ := zip_get e
      exists "wh"
      refine nth_at (prs_at e1) ?_
      exists "wh"
      refine nth_at (prs_at e2) ?_
      exists "wh"
      exact ⟨_, .ok (ha.pmz hb i p q e1 e2), k⟩
    exists "wh"
    refine ⟨_, .ok (lm_zip lm1) (dz_of (ha.zip hb) (by decide +kernel)), ?_⟩
    exists "wh"
    refine ⟨_, .ok lm1 el (ha.pmz hb), ?_⟩
    exists "wh"
    refine ⟨far, by rw [rangeP_lenI, Int.toNat_natCast, prs_len]; exact lm1.small, comp_idx (qs := List.zipWith (· - ·) ps qs) (g := pairP) (by rw [prs_len, zip_len el]) (fun i z K2 e k => ?_) ?_⟩
    · obtain ⟨p, q, e1, e2, rfl⟩ := zip_get e
      exists "wh"
      refine nth_at (prs_at e1) ?_
      exists "wh"
      refine nth_at (prs_at e2) ?_
      exists "wh"
      exact ⟨_, .ok (ha.pmz hb i p q e1 e2), k⟩
    exists "wh"
    refine ⟨_, .ok (lm_zip lm1) (dz_of (ha.zipS hb) (by decide +kernel)), ?_⟩
    exists "wh"
    refine ⟨far, ?_⟩
    rw [show ((prsP ps).length : Int).toNat = ps.length by rw [Int.toNat_natCast, prs_len]]
    refine denFor_ind (fun xs ρ => ∃ i v, xs = rangeP (i : Nat) (ps.length - i) ∧ i ≤ ps.length ∧ ρ = [some (.val (am ps)), some (.val (am qs)), some (.val (.lst (prsP ps))), some (.val (.lst (prsP qs))), some (.val (pairP (dotQ 0 (ps.take i) (qs.take i)))), some (.val (pairP (sumQ 0 (ps.take i)))), v, none]) ?_ ?_ ⟨0, _, rfl, Nat.zero_le _, rfl⟩
    · rintro ρ ⟨i, v, e, li, rfl⟩
      have li : i = ps.length := by
        have := congrArg List.length e
        rw [rangeP_lenI] at this
        simp at this
        omega
      subst li
      rw [List.take_length, show qs.take ps.length = qs by rw [el, List.take_length]]
      exists "wh"
      refine ⟨_, .ok rfl (nums_rats qs) lm2 el dk, ?_⟩
      exists "wh"
      refine ⟨(pz.le l).bd (by decide +kernel), ?_⟩
      exists "wh"
      refine ⟨⟨rfl, rfl⟩, ?_⟩
      show ifB (!eqP (pairP _) (pairP _)) _ _
      rw [eqP_pair rfl]
      exists "wh"
      refine ⟨_, .ok lm2 d2, ?_⟩
      exists "wh"
      refine ⟨_, .ok rfl (nums_made qs) lm2 el dk, ?_⟩
      exists "wh"
      refine ⟨(pz.le l).bd (by decide +kernel), ?_⟩
      exists "wh"
      refine ⟨⟨rfl, rfl⟩, ?_⟩
      show ifB (!eqP (pairP _) (pairP _)) _ _
      rw [eqP_pair rfl]
      exists "wh"
      refine ⟨_, .ok lm1 d1, ?_⟩
      exists "wh"
      refine ⟨_, .ok rfl (nums_made ps) lm1 el.symm dk2, ?_⟩
      rw [dot_comm 0 qs ps]
      exists "wh"
      refine ⟨(pz.le l).bd (by decide +kernel), ?_⟩
      exists "wh"
      refine ⟨⟨rfl, rfl⟩, ?_⟩
      show ifB (!eqP (pairP _) (pairP _)) _ _
      rw [eqP_pair rfl]
      exists "wh"
      refine ⟨_, .ok (sum_ok ha Pz.zero (by omega)), ?_⟩
      exists "wh"
      refine ⟨(sz.le l).bd (by decide +kernel), ?_⟩
      exists "wh"
      refine ⟨⟨rfl, rfl⟩, ?_⟩
      show ifB (!eqP (pairP _) (pairP _)) _ _
      rw [eqP_pair rfl]
      exists "wh"
      refine ⟨_, .ok lm1 (fun p m => ((ha p m).sz (k := 4490) (by decide +kernel)).mono (by decide)), ?_⟩
      exists "wh"
      refine ⟨by rw [prs_len]; exact lm1.small, comp_f (g := pairP) (f := fun q => pairP (-q)) (ps := ps) (fun q K2 m k => ?_) ?_⟩
      · exists "wh"
        exact k
      exists "wh"
      have e2 : (ps.map fun q => pairP (-q)) = prsP (ps.map (- ·)) := by
        rw [prsP, List.map_map]; rfl
      refine ⟨.ret (.bl true), ?_, h⟩
      show RShows [am (ps.map (- ·)), .lst (ps.map fun q => pairP (-q))] _
      rw [e2]
      refine .ok (by show (ps.map _).length ≤ 1000; rw [List.length_map]; exact lm1) fun p m => ?_
      obtain ⟨q, mq, rfl⟩ := List.mem_map.mp m
      exact d1 q mq
    · rintro x xs ρ K2 ⟨i, v, e, li, rfl⟩ hk
      have li2 : i < ps.length := by
        rcases Nat.lt_or_ge i ps.length with z | z
        · exact z
        · rw [show ps.length - i = 0 by omega] at e
          cases e
      rw [show ps.length - i = (ps.length - (i + 1)) + 1 by omega, range_cons] at e
      injection e with e1 e2
      subst e1 e2
      obtain ⟨p, ep⟩ := get_of li2
      obtain ⟨q, eq⟩ := get_of (show i < qs.length by omega)
      have lt1 : (ps.take i).length = i := by rw [List.length_take]; omega
      have lt2 : (qs.take i).length = i := by rw [List.length_take]; omega
      have z1 := dot_pz (ha.take i) (hb.take i) Pz.zero (by rw [lt1, lt2])
      rw [Nat.zero_add, lt1] at z1
      have z2 := sum_pz (ha.take i) Pz.zero
      rw [Nat.zero_add, lt1] at z2
      have vp := ha p (List.mem_of_getElem? ep)
      have vq := hb q (List.mem_of_getElem? eq)
      exists "wh"
      refine nth_at (prs_at ep) ?_
      exists "wh"
      refine nth_at (prs_at eq) ?_
      exists "wh"
      refine ⟨_, .ok (ha.pmz hb i p q ep eq), ?_⟩
      exists "wh"
      refine ⟨_, .ok (mz_of (z1.sz (by omega)) (prod_sz vp vq)), ?_⟩
      exists "wh"
      refine nth_at (prs_at ep) ?_
      exists "wh"
      refine ⟨_, .ok (mz_of (z2.sz (by omega)) (vp.sz (by decide +kernel))), ?_⟩
      exact hk _ ⟨i + 1, _, rfl, li2, by rw [dot_take ep eq, sum_take ep]; rfl⟩
end Qw

/-! Q6L: law k06 over values. -/
namespace Qw
open PySem PySem.Spec PyProof.Rows L2 Ni Rt Pu
local macro_rules | `(tactic| exists "wh") => `(tactic| conv => whnf)
theorem NumOk.av {n : Nat} {qs : List Rat} (h : NumOk n qs) : Av qs := h.2
theorem NumOk.one {qs : List Rat} (h : NumOk 1 qs) : ∃ q, qs = [q] ∧ Vz q (10 ^ 30) 6 := by
  obtain ⟨l, v⟩ := h
  cases qs with
  | nil => cases l
  | cons q qs => cases qs with
    | nil => exact ⟨q, rfl, v q (.head _)⟩
    | cons q2 qs => simp at l
theorem prs_set : ∀ (ps : List Rat) (k : Nat) (q : Rat), put (pairP q) (prsP ps) k = prsP (ps.set k q)
  | [], _, _ => rfl
  | _ :: _, 0, _ => rfl
  | p :: ps, k + 1, q => by
    show pairP p :: put (pairP q) (prsP ps) k = _
    rw [prs_set ps k q]
    rfl
theorem NumOk.set {n k : Nat} {qs : List Rat} {q : Rat} (h : NumOk n qs) (v : Vz q (10 ^ 30) 6) : NumOk n (qs.set k q) := ⟨by rw [List.length_set]; exact h.1, fun z m => by
  rcases List.mem_or_eq_of_mem_set m with m | rfl
  · exact h.2 z m
  · exact v⟩
theorem mul_left {x : PV} {ps : List Rat} {Q : PV → Prop} {E : KE} {r : Rat} (e : numQ x = some r) (h : spMulA.run [am ps, x] Q E) : rOpA (.bin .Mult) [x, am ps] Q E := by
  cases x with
  | int n => exact h
  | rat q => exact h
  | _ => cases e
theorem thaw_am (qs : List Rat) : thaw (am qs) = some (.obj .own .amounts [.ow (ratsP qs)]) := by
  show (match thawFs false [.lst (ratsP qs)] with
    | some fs => some (SV.obj .own .amounts fs)
    | none => none) = _
  have e : thawFs false [.lst (ratsP qs)] = some [.ow (ratsP qs)] := by
    show (match immPs (ratsP qs) with
      | true => (match thawFs true [] with
        | some fs => some (FV.ow (ratsP qs) :: fs)
        | none => none)
      | false => none) = _
    rw [imm_rats]
    rfl
  rw [e]
theorem optS_am {qs : List Rat} {Q : SV → Prop} (h : Q (.obj .own .amounts [.ow (ratsP qs)])) : optS (thaw (am qs)) Q := by
  rw [thaw_am]
  exact h
theorem map_one (ps : List Rat) : ps.map (· * ((1 : Int) : Rat)) = ps := by
  conv => rhs; rw [← List.map_id ps]
  refine List.map_congr_left fun q _ => ?_
  exact Rat.mul_one q
theorem add_zeros : ∀ (ps : List Rat), List.zipWith (· + ·) ps (List.replicate ps.length 0) = ps
  | [] => rfl
  | p :: ps => by
    rw [List.length_cons, List.replicate_succ, List.zipWith_cons_cons, add_zeros ps, Rat.add_zero]
theorem sub_zeros : ∀ (ps : List Rat), List.zipWith (· - ·) ps (List.replicate ps.length 0) = ps
  | [] => rfl
  | p :: ps => by
    rw [List.length_cons, List.replicate_succ, List.zipWith_cons_cons, sub_zeros ps, Rat.sub_eq_add_neg, Rat.neg_zero, Rat.add_zero]
theorem neg_neg_map (ps : List Rat) : (ps.map (- ·)).map (- ·) = ps := by
  rw [List.map_map]
  conv => rhs; rw [← List.map_id ps]
  refine List.map_congr_left fun q _ => ?_
  exact Rat.neg_neg q
theorem zeros_av (n : Nat) : Av (List.replicate n 0) := fun p m => by
  rw [List.eq_of_mem_replicate m]
  exact Vz.zero (by decide)
theorem Av.mulz {ps : List Rat} {r : Rat} (h : Av ps) (v : Vz r (10 ^ 30) 6) : ∀ z ∈ ps.map (· * r), Vz z (10 ^ 30 * 10 ^ 30) (6 * 6) := fun z m => by
  obtain ⟨q, mq, rfl⟩ := List.mem_map.mp m
  exact (h q mq).mul v
theorem mulz_mz {q r : Rat} (h : Vz q (10 ^ 30) 6) (v : Vz r (10 ^ 30) 6) : Mz q r := h.mz v (by decide +kernel) (by decide +kernel)
theorem ite_eq {L : Lang} {a b : CSs} {ρ : Pu.Env} {D : PEnds} {x : Int} (y : Int) (h1 : denB L a ρ D) (h2 : denB L b ρ D) : ifB (decide (x = y)) (denB L a ρ D) (denB L b ρ D) := ifB_d (fun _ => h1) (fun _ => h2)
theorem bd_small (n : Nat) (h : n ≤ 1000) : Bd (n : Int) 8999 := by
  have : Bd (n : Int) 10 := by unfold Bd; omega
  exact this.mono (by decide)
theorem comp_prs {step : PV → (Option PV → Prop) → Prop} {K : List PV → Prop} {f : Rat → Rat} {ps : List Rat} (h1 : ∀ q (K2 : Option PV → Prop), q ∈ ps → K2 (some (pairP (f q))) → step (pairP q) K2) (h : K (prsP (ps.map f))) : denComp step (prsP ps) [] K := by
  refine comp_f (g := pairP) (f := fun q => pairP (f q)) h1 ?_
  rw [List.nil_append, show (ps.map fun q => pairP (f q)) = prsP (ps.map f) by rw [prsP, List.map_map]; rfl]
  exact h
/-- a block without its first statements -/
def dropB : Nat → CSs → CSs
  | 0, b => b
  | _ + 1, .nil => .nil
  | n + 1, .cons _ b => dropB n b
def hld (p : Addr) (a : List Rat) : Option SV := some (.obj (.held p) .amounts [.ow (ratsP a)])
def rho6 (n : Nat) (a b c : List Rat) (r : Rat) (v12 v13 v14 g0 g1 g2 g3 : Option SV) : Pu.Env := [none, some (.val .pool), some (.val (.int n)), some (.val (.lst (prsP a))), some (.val (.lst (prsP b))), some (.val (pairP r)), some (.val (.lst (prsP c))), some (.val (am a)), some (.val (am b)), some (.val (am c)), some (.val (made r)), some (.val (.lst (prsP (a.map (· * r))))), v12, v13, v14, none, none, g0, g1, g2, g3]
abbrev D6 : PEnds := { nx := fun _ => False, rt := fun v _ => v = .bl true, ex := fun _ _ => False }
/-- what is known of the law's numbers -/
structure K6 (n : Nat) (a b c : List Rat) (r : Rat) : Prop where
  ln : n ≤ 60
  ha : NumOk n a
  hb : NumOk n b
  hc : NumOk (n + 1) c
  vr : Vz r (10 ^ 30) 6
section
variable {n : Nat} {a b c : List Rat} {r : Rat} (z : K6 n a b c r)
include z
theorem K6.la : Lm a := z.ha.lm (Nat.le_trans z.ln (by decide))
theorem K6.lb : Lm b := z.hb.lm (Nat.le_trans z.ln (by decide))
theorem K6.lc : Lm c := z.hc.lm (Nat.le_trans (Nat.succ_le_succ z.ln) (by decide))
theorem K6.el : a.length = b.length := by rw [z.ha.1, z.hb.1]
theorem K6.ac : a.length ≠ c.length := by rw [z.ha.1, z.hc.1]; omega
theorem K6.mza : ∀ p ∈ a, Mz p r := fun p m => mulz_mz (z.ha.2 p m) z.vr
theorem K6.dzm : Dz (a.map (· * r)) := dz_of (z.ha.av.mulz z.vr) (by decide +kernel)
theorem K6.lmm : Lm (a.map (· * r)) := by
  show (a.map _).length ≤ 1000
  rw [List.length_map]
  exact z.la
theorem seg21 {v12 : Option SV} (h : ∀ v13, denB L_law (dropB 22 k_law) (rho6 n a b c r v12 v13 none none none none none) D6) : denB L_law (dropB 21 k_law) (rho6 n a b c r v12 none none none none none none) D6 := by
  have lma := z.la
  have ha := z.ha
  have ln2 : n ≤ 1000 := Nat.le_trans z.ln (by decide)
  exists "wh"
  refine ⟨_, .ok (q := ((1 : Int) : Rat)) rfl lma (fun p m => (ha.2 p m).mz (Vz.int (n := 1) (M := 1) (D := 1) (by decide) (by decide)) (by decide +kernel) (by decide +kernel)), ?_⟩
  rw [map_one]
  exists "wh"
  refine optS_am ?_
  exists "wh"
  intro p1
  exists "wh"
  refine ⟨_, .ok ln2, ?_⟩
  exists "wh"
  refine ⟨_, .ok lma (by rw [List.length_replicate]; exact ha.1) (ha.av.pmz (zeros_av n)), ?_⟩
  rw [show List.zipWith (· + ·) a (List.replicate n 0) = a by rw [← ha.1]; exact add_zeros a]
  exists "wh"
  refine optS_am ?_
  exists "wh"
  intro p2
  exists "wh"
  refine ⟨_, .ok ln2, ?_⟩
  exists "wh"
  refine ⟨_, .ok lma (by rw [List.length_replicate]; exact ha.1) (ha.av.pmz (zeros_av n)), ?_⟩
  rw [show List.zipWith (· - ·) a (List.replicate n 0) = a by rw [← ha.1]; exact sub_zeros a]
  exists "wh"
  refine optS_am ?_
  exists "wh"
  intro p3
  exists "wh"
  refine ⟨_, .ok lma (fun p m => ((ha.2 p m).sz (k := 4490) (by decide +kernel)).mono (by decide)), ?_⟩
  exists "wh"
  refine ⟨_, .ok (by show (a.map _).length ≤ 1000; rw [List.length_map]; exact lma) (fun p m => by
    obtain ⟨q, mq, rfl⟩ := List.mem_map.mp m
    exact ((ha.2 q mq).neg.sz (k := 4490) (by decide +kernel)).mono (by decide)), ?_⟩
  rw [neg_neg_map]
  exists "wh"
  refine optS_am ?_
  exists "wh"
  intro p4
  exists "wh"
  refine ⟨rfl, ?_⟩
  exists "wh"
  refine ⟨_, .ok lma ha.dz, ?_⟩
  exists "wh"
  refine ite_join (fun ρ => ∃ v, ρ = rho6 n a b c r v12 v none none (hld p2 a) (hld p3 a) (hld p4 a)) (fun np k hk => ?_) (fun _ k hk => ?_) ?_
  · exists "wh"
    refine ⟨_, .ok (k := 0) (q := ((77 : Int) : Rat)) (by rw [ha.1]; omega) rfl, ?_⟩
    exact hk _ ⟨_, rfl⟩
  · exact hk _ ⟨_, rfl⟩
  rintro ρ ⟨v0, rfl⟩
  exists "wh"
  refine ⟨rfl, ?_⟩
  exists "wh"
  refine ⟨_, .ok lma ha.dz, ?_⟩
  exists "wh"
  refine ite_join (fun ρ => ∃ v, ρ = rho6 n a b c r v12 v none none none (hld p3 a) (hld p4 a)) (fun np k hk => ?_) (fun _ k hk => ?_) ?_
  · exists "wh"
    refine ⟨_, .ok (k := 0) (q := ((77 : Int) : Rat)) (by rw [ha.1]; omega) rfl, ?_⟩
    exact hk _ ⟨_, rfl⟩
  · exact hk _ ⟨_, rfl⟩
  rintro ρ ⟨v1, rfl⟩
  exists "wh"
  refine ⟨rfl, ?_⟩
  exists "wh"
  refine ⟨_, .ok lma ha.dz, ?_⟩
  exists "wh"
  refine ite_join (fun ρ => ∃ v, ρ = rho6 n a b c r v12 v none none none none (hld p4 a)) (fun np k hk => ?_) (fun _ k hk => ?_) ?_
  · exists "wh"
    refine ⟨_, .ok (k := 0) (q := ((77 : Int) : Rat)) (by rw [ha.1]; omega) rfl, ?_⟩
    exact hk _ ⟨_, rfl⟩
  · exact hk _ ⟨_, rfl⟩
  rintro ρ ⟨v2, rfl⟩
  exists "wh"
  refine ⟨rfl, ?_⟩
  exists "wh"
  refine ⟨_, .ok lma ha.dz, ?_⟩
  exists "wh"
  refine ite_join (fun ρ => ∃ v, ρ = rho6 n a b c r v12 v none none none none none) (fun np k hk => ?_) (fun _ k hk => ?_) ?_
  · exists "wh"
    refine ⟨_, .ok (k := 0) (q := ((77 : Int) : Rat)) (by rw [ha.1]; omega) rfl, ?_⟩
    exact hk _ ⟨_, rfl⟩
  · exact hk _ ⟨_, rfl⟩
  rintro ρ ⟨v3, rfl⟩
  exact h _
theorem seg18 {v12 : Option SV} (h : ∀ v12, denB L_law (dropB 21 k_law) (rho6 n a b c r v12 none none none none none none) D6) : denB L_law (dropB 18 k_law) (rho6 n a b c r v12 none none none none none none) D6 := by
  exists "wh"
  refine ⟨_, .ok (num_made r) z.la z.mza, ?_⟩
  exists "wh"
  refine ⟨_, .ok z.lmm z.dzm, ?_⟩
  exact h _
theorem seg15 (h : ∀ v12, denB L_law (dropB 18 k_law) (rho6 n a b c r v12 none none none none none none) D6) : denB L_law (dropB 15 k_law) (rho6 n a b c r none none none none none none none) D6 := by
  have ha := z.ha
  have hb := z.hb
  exists "wh"
  refine ⟨_, .ok z.la z.el (ha.av.pmz hb.av), ?_⟩
  exists "wh"
  refine ⟨far_len (n := n) (Nat.le_trans z.ln (by decide)), by rw [rangeP_lenI, Int.toNat_natCast]; exact Nat.le_trans z.ln (by decide), comp_idx (qs := List.zipWith (· - ·) a b) (g := pairP) (by rw [zip_len z.el, ha.1]) (fun i x K2 e k => ?_) ?_⟩
  · obtain ⟨p, q, e1, e2, rfl⟩ := zip_get e
    exists "wh"
    refine nth_at (prs_at e1) ?_
    exists "wh"
    refine nth_at (prs_at e2) ?_
    exists "wh"
    exact ⟨_, .ok (ha.av.pmz hb.av i p q e1 e2), k⟩
  exists "wh"
  refine ⟨_, .ok (lm_zip z.la) (dz_of (ha.av.zipS hb.av) (by decide +kernel)), ?_⟩
  exact h _
theorem seg13 (h : denB L_law (dropB 15 k_law) (rho6 n a b c r none none none none none none none) D6) : denB L_law (dropB 13 k_law) (rho6 n a b c r none none none none none none none) D6 := by
  exists "wh"
  refine ⟨_, .ok (num_made r) z.la z.mza, ?_⟩
  exists "wh"
  refine ⟨_, .ok z.lmm z.dzm, ?_⟩
  exists "wh"
  refine mul_left (num_made r) ⟨_, .ok (num_made r) z.la z.mza, ?_⟩
  exists "wh"
  refine ⟨_, .ok z.lmm z.dzm, ?_⟩
  exists "wh"
  refine ⟨z.vr.bd (by decide +kernel), fun y => absurd y (den_ne r), fun _ => ?_⟩
  rw [Rat.num_divInt_den]
  exists "wh"
  refine ⟨_, .ok rfl z.la z.mza, ?_⟩
  exists "wh"
  refine ⟨_, .ok z.lmm z.dzm, ?_⟩
  exists "wh"
  refine ⟨_, .ok (by rw [z.ha.1]; exact z.ln) z.el z.ha.av z.hb.av, ?_⟩
  exact h
theorem seg22 {v12 v13 : Option SV} (h : ∀ v14, denB L_law (dropB 23 k_law) (rho6 n a b c r v12 v13 v14 none none none none) D6) : denB L_law (dropB 22 k_law) (rho6 n a b c r v12 v13 none none none none none) D6 := by
  exists "wh"
  refine ⟨far_len (n := 4) (by decide), ?_⟩
  refine ⟨_, .ok z.lc z.ac (by omega), ?_⟩
  exists "wh"
  refine ⟨_, .ok z.la z.ac.symm (by omega), ?_⟩
  exists "wh"
  refine ⟨_, .ok z.lc z.ac (by omega), ?_⟩
  exists "wh"
  refine ⟨_, .ok z.la z.ac.symm (by omega), ?_⟩
  exists "wh"
  refine ⟨_, .ok z.lc z.ac (by omega), ?_⟩
  exists "wh"
  refine ⟨_, .ok z.la z.ac.symm (by omega), ?_⟩
  exists "wh"
  refine ⟨_, .ok z.lc z.ac (by omega), ?_⟩
  exists "wh"
  refine ⟨_, .ok z.la z.ac.symm (by omega), ?_⟩
  exact h _
theorem seg23 {v12 v13 v14 : Option SV} : denB L_law (dropB 23 k_law) (rho6 n a b c r v12 v13 v14 none none none none) D6 := by
  have ha := z.ha
  have hb := z.hb
  have hc := z.hc
  exists "wh"
  refine ⟨_, .ok z.la ha.dz, ?_⟩
  exists "wh"
  refine ⟨_, .ok z.lb hb.dz, ?_⟩
  exists "wh"
  refine ⟨_, .ok z.lc hc.dz, ?_⟩
  exists "wh"
  refine ⟨_, .am (ha.av.pmz hb.av), ?_⟩
  exists "wh"
  refine ⟨⟨dat_prs a, dat_prs b⟩, ?_⟩
  exists "wh"
  refine ⟨⟨rfl, rfl⟩, ?_⟩
  show ifB (!eqP (.bl (decide (a = b))) (.bl (eqP (.lst (prsP a)) (.lst (prsP b))))) _ _
  rw [eqP_prs, eqB]
  exists "wh"
  refine ⟨_, .am (ha.av.pmz hb.av), ?_⟩
  exists "wh"
  refine ⟨⟨dat_prs a, dat_prs b⟩, ?_⟩
  exists "wh"
  refine ⟨⟨rfl, rfl⟩, ?_⟩
  show ifB (!eqP (.bl (!decide (a = b))) (.bl (!eqP (.lst (prsP a)) (.lst (prsP b))))) _ _
  rw [eqP_prs, eqB]
  exists "wh"
  refine ⟨_, .am (ha.av.pmz hc.av), ?_⟩
  show ifB (decide (a = c)) _ _
  refine ifB_fl (decide_eq_false fun e => z.ac (by rw [e])) ?_
  exists "wh"
  refine ⟨_, .ok z.la ha.dz, ?_⟩
  exists "wh"
  refine ⟨_, .ok rfl (nums_made a) z.la, ?_⟩
  exists "wh"
  refine ⟨_, .am (ha.av.pmz ha.av), ?_⟩
  show ifB (!decide (a = a)) _ _
  rw [decide_eq_true rfl]
  exists "wh"
  refine ⟨_, .ok z.la ha.dz, ?_⟩
  exists "wh"
  refine ⟨_, .lst, ?_⟩
  exists "wh"
  refine ⟨_, .ok z.la ha.dz, ?_⟩
  exists "wh"
  refine ⟨_, .tup, ?_⟩
  exists "wh"
  refine ⟨_, .ok z.la ha.dz, ?_⟩
  exists "wh"
  refine ⟨_, .lst, ?_⟩
  exists "wh"
  refine ⟨_, .ok (Nat.le_trans z.ln (by decide)), ?_⟩
  exists "wh"
  refine ⟨far_len (n := n) (Nat.le_trans z.ln (by decide)), by rw [rangeP_lenI, Int.toNat_natCast]; exact Nat.le_trans z.ln (by decide), comp_idx (qs := List.replicate n 0) (g := pairP) (by rw [List.length_replicate]) (fun i x K2 e k => ?_) ?_⟩
  · rw [List.eq_of_mem_replicate (List.mem_of_getElem? e)] at k
    exists "wh"
    exact k
  exact ⟨_, .ok (by show (List.replicate n (0 : Rat)).length ≤ 1000; rw [List.length_replicate]; exact Nat.le_trans z.ln (by decide)) (dz_of (zeros_av n) (by decide +kernel)), rfl⟩
end
theorem sem_law : denB L_law k_law (none :: some (.val .pool) :: List.replicate 19 none) { nx := fun _ => False, rt := fun v _ => v = .bl true, ex := fun _ _ => False } := by
  exists "wh"
  refine ⟨⟨by decide, (by unfold Bd; exact Nat.lt_of_lt_of_le (show (8 : Nat) < 2 ^ 4 by decide) (Nat.pow_le_pow_right (by decide) (by decide)))⟩, fun x0 x00 x01 => ?_⟩
  exists "wh"
  refine ⟨⟨by decide, bd_lit (by decide) (by decide)⟩, fun x1 _ _ => ?_⟩
  exists "wh"
  refine ite_join (fun ρ => ∃ n : Nat, n ≤ 60 ∧ ρ = none :: some (.val .pool) :: some (.val (.int n)) :: List.replicate 18 none) (fun _ k hk => ?_) (fun _ k hk => ?_) ?_
  · exists "wh"
    exact hk _ ⟨60, Nat.le_refl _, rfl⟩
  · exists "wh"
    exact hk _ ⟨x0.toNat, by omega, by rw [Int.toNat_of_nonneg x00]; rfl⟩
  rintro ρ ⟨n, ln, rfl⟩
  have ln2 : n ≤ 1000 := by omega
  exists "wh"
  refine ⟨n, rfl, ln2, fun a ha => ?_⟩
  exists "wh"
  refine ⟨n, rfl, ln2, fun b0 hb0 => ?_⟩
  exists "wh"
  refine ⟨⟨by decide, bd_lit (by decide) (by decide)⟩, fun x2 _ _ => ?_⟩
  exists "wh"
  refine ite_join (fun ρ => ∃ b, NumOk n b ∧ ρ = none :: some (.val .pool) :: some (.val (.int n)) :: some (.val (.lst (prsP a))) :: some (.val (.lst (prsP b))) :: List.replicate 16 none) (fun _ k hk => ?_) (fun _ k hk => ?_) ?_
  · exists "wh"
    refine ifB_d (c := (0 : Int) < n) (fun np => ?_) fun _ => ?_
    · exists "wh"
      refine ⟨1, rfl, by decide, fun qs hq => ?_⟩
      obtain ⟨q, rfl, vq⟩ := hq.one
      exists "wh"
      refine ⟨⟨np, bd_small n (by omega)⟩, fun y y0 y1 => ?_⟩
      obtain ⟨j, rfl⟩ := Int.eq_ofNat_of_zero_le y0
      exists "wh"
      show ifB (Nat.blt j (prsP a).length) _ _
      refine ifB_t (Nat.blt_eq.mpr (by rw [prs_len, ha.1]; omega)) ?_
      show k _
      rw [prs_set]
      exact hk _ ⟨a.set j q, ha.set vq, rfl⟩
    · exists "wh"
      exact hk _ ⟨a, ha, rfl⟩
  · exists "wh"
    exact hk _ ⟨b0, hb0, rfl⟩
  rintro ρ ⟨b, hb, rfl⟩
  exists "wh"
  refine ⟨1, rfl, by decide, fun qs hq => ?_⟩
  obtain ⟨r, rfl, vr⟩ := hq.one
  clear hq
  exists "wh"
  refine ⟨n + 1, by rw [Int.natCast_add]; rfl, by omega, fun c hc => ?_⟩
  have z : K6 n a b c r := ⟨ln, ha, hb, hc, vr⟩
  exists "wh"
  refine ⟨_, .ok z.la ha.dz, ?_⟩
  exists "wh"
  refine ⟨_, .ok rfl (nums_made a) z.la, ?_⟩
  exists "wh"
  refine ⟨_, .ok z.lb hb.dz, ?_⟩
  exists "wh"
  refine ⟨_, .ok rfl (nums_made b) z.lb, ?_⟩
  exists "wh"
  refine ⟨_, .ok z.lc hc.dz, ?_⟩
  exists "wh"
  refine ⟨_, .ok rfl (nums_made c) z.lc, ?_⟩
  exists "wh"
  refine ⟨_, .ok rfl (nums_rats c) z.lc, ?_⟩
  exists "wh"
  refine ⟨_, .ok (ps := [r]) (by show 1 ≤ 1000; decide) (fun p m => by cases m with
    | head => exact vr.bd (by decide +kernel)
    | tail _ m => cases m), ?_⟩
  exists "wh"
  refine ⟨by rw [prs_len]; exact z.la.small, comp_prs (f := (· * r)) (fun q K2 m k => ?_) ?_⟩
  · exists "wh"
    exact ⟨_, .ok (mulz_mz (ha.2 q m) vr), k⟩
  exact seg13 z (seg15 z fun _ => seg18 z fun _ => seg21 z fun _ => seg22 z fun _ => seg23 z)
end Qw

namespace Pr
open PySem PySem.Spec PyProof.Rows L2 Ni
def top (i : Nat) : Stmt := PySem.Challenge.pw_neveridle_k06_amounts_arithmetic.main.body.getD i (.Pass ⟨0, 0, 0, 0⟩)
abbrev s_is_number : Stmt := top 10
abbrev N_is_number : List Str := ["thing"]
abbrev p_is_number : List Str := ["thing"]
theorem sc_is_number : FnScope N_is_number p_is_number (defScope s_is_number) := ⟨rfl, rfl, rfl, by decide +kernel, rfl, by decide +kernel, by decide +kernel⟩
abbrev G_is_number : List Str := ["Ratio", "int", "isinstance"]
theorem nm_is_number : Names0 N_is_number G_is_number (defScope s_is_number) := ⟨by decide +kernel, by unfold L2.Loc; decide +kernel, by decide +kernel, by decide +kernel⟩
def d_is_number : He.DefD := ⟨("is_number", none), "is_number", "is_number", defArgs s_is_number, defBody s_is_number, defScope s_is_number, [], []⟩
abbrev s_as_ratio : Stmt := top 11
abbrev N_as_ratio : List Str := ["number"]
abbrev p_as_ratio : List Str := ["number"]
theorem sc_as_ratio : FnScope N_as_ratio p_as_ratio (defScope s_as_ratio) := ⟨rfl, rfl, rfl, by decide +kernel, rfl, by decide +kernel, by decide +kernel⟩
abbrev G_as_ratio : List Str := ["Ratio", "isinstance"]
theorem nm_as_ratio : Names0 N_as_ratio G_as_ratio (defScope s_as_ratio) := ⟨by decide +kernel, by unfold L2.Loc; decide +kernel, by decide +kernel, by decide +kernel⟩
def d_as_ratio : He.DefD := ⟨("as_ratio", none), "as_ratio", "as_ratio", defArgs s_as_ratio, defBody s_as_ratio, defScope s_as_ratio, [], []⟩
abbrev s_Ratio___init__ : Stmt := inClass (top 13) 1
abbrev N_Ratio___init__ : List Str := ["self", "top", "bottom", "common"]
abbrev p_Ratio___init__ : List Str := ["self", "top", "bottom"]
theorem sc_Ratio___init__ : FnScope N_Ratio___init__ p_Ratio___init__ (defScope s_Ratio___init__) := ⟨rfl, rfl, rfl, by decide +kernel, rfl, by decide +kernel, by decide +kernel⟩
abbrev G_Ratio___init__ : List Str := ["ZeroBottom", "gcd"]
theorem nm_Ratio___init__ : Names0 N_Ratio___init__ G_Ratio___init__ (defScope s_Ratio___init__) := ⟨by decide +kernel, by unfold L2.Loc; decide +kernel, by decide +kernel, by decide +kernel⟩
def d_Ratio___init__ : He.DefD := ⟨("Ratio", some "__init__"), "__init__", "Ratio.__init__", defArgs s_Ratio___init__, defBody s_Ratio___init__, defScope s_Ratio___init__, [.int 1], []⟩
abbrev s_Ratio___add__ : Stmt := inClass (top 13) 4
abbrev N_Ratio___add__ : List Str := ["self", "other"]
abbrev p_Ratio___add__ : List Str := ["self", "other"]
theorem sc_Ratio___add__ : FnScope N_Ratio___add__ p_Ratio___add__ (defScope s_Ratio___add__) := ⟨rfl, rfl, rfl, by decide +kernel, rfl, by decide +kernel, by decide +kernel⟩
abbrev G_Ratio___add__ : List Str := ["Ratio", "as_ratio"]
theorem nm_Ratio___add__ : Names0 N_Ratio___add__ G_Ratio___add__ (defScope s_Ratio___add__) := ⟨by decide +kernel, by unfold L2.Loc; decide +kernel, by decide +kernel, by decide +kernel⟩
def d_Ratio___add__ : He.DefD := ⟨("Ratio", some "__add__"), "__add__", "Ratio.__add__", defArgs s_Ratio___add__, defBody s_Ratio___add__, defScope s_Ratio___add__, [], []⟩
abbrev s_Ratio___radd__ : Stmt := inClass (top 13) 5
abbrev N_Ratio___radd__ : List Str := ["self", "other"]
abbrev p_Ratio___radd__ : List Str := ["self", "other"]
theorem sc_Ratio___radd__ : FnScope N_Ratio___radd__ p_Ratio___radd__ (defScope s_Ratio___radd__) := ⟨rfl, rfl, rfl, by decide +kernel, rfl, by decide +kernel, by decide +kernel⟩
abbrev G_Ratio___radd__ : List Str := []
theorem nm_Ratio___radd__ : Names0 N_Ratio___radd__ G_Ratio___radd__ (defScope s_Ratio___radd__) := ⟨by decide +kernel, by unfold L2.Loc; decide +kernel, by decide +kernel, by decide +kernel⟩
def d_Ratio___radd__ : He.DefD := ⟨("Ratio", some "__radd__"), "__radd__", "Ratio.__radd__", defArgs s_Ratio___radd__, defBody s_Ratio___radd__, defScope s_Ratio___radd__, [], []⟩
abbrev s_Ratio___sub__ : Stmt := inClass (top 13) 6
abbrev N_Ratio___sub__ : List Str := ["self", "other"]
abbrev p_Ratio___sub__ : List Str := ["self", "other"]
theorem sc_Ratio___sub__ : FnScope N_Ratio___sub__ p_Ratio___sub__ (defScope s_Ratio___sub__) := ⟨rfl, rfl, rfl, by decide +kernel, rfl, by decide +kernel, by decide +kernel⟩
abbrev G_Ratio___sub__ : List Str := ["Ratio", "as_ratio"]
theorem nm_Ratio___sub__ : Names0 N_Ratio___sub__ G_Ratio___sub__ (defScope s_Ratio___sub__) := ⟨by decide +kernel, by unfold L2.Loc; decide +kernel, by decide +kernel, by decide +kernel⟩
def d_Ratio___sub__ : He.DefD := ⟨("Ratio", some "__sub__"), "__sub__", "Ratio.__sub__", defArgs s_Ratio___sub__, defBody s_Ratio___sub__, defScope s_Ratio___sub__, [], []⟩
abbrev s_Ratio___rsub__ : Stmt := inClass (top 13) 7
abbrev N_Ratio___rsub__ : List Str := ["self", "other"]
abbrev p_Ratio___rsub__ : List Str := ["self", "other"]
theorem sc_Ratio___rsub__ : FnScope N_Ratio___rsub__ p_Ratio___rsub__ (defScope s_Ratio___rsub__) := ⟨rfl, rfl, rfl, by decide +kernel, rfl, by decide +kernel, by decide +kernel⟩
abbrev G_Ratio___rsub__ : List Str := ["as_ratio"]
theorem nm_Ratio___rsub__ : Names0 N_Ratio___rsub__ G_Ratio___rsub__ (defScope s_Ratio___rsub__) := ⟨by decide +kernel, by unfold L2.Loc; decide +kernel, by decide +kernel, by decide +kernel⟩
def d_Ratio___rsub__ : He.DefD := ⟨("Ratio", some "__rsub__"), "__rsub__", "Ratio.__rsub__", defArgs s_Ratio___rsub__, defBody s_Ratio___rsub__, defScope s_Ratio___rsub__, [], []⟩
abbrev s_Ratio___mul__ : Stmt := inClass (top 13) 8
abbrev N_Ratio___mul__ : List Str := ["self", "other"]
abbrev p_Ratio___mul__ : List Str := ["self", "other"]
theorem sc_Ratio___mul__ : FnScope N_Ratio___mul__ p_Ratio___mul__ (defScope s_Ratio___mul__) := ⟨rfl, rfl, rfl, by decide +kernel, rfl, by decide +kernel, by decide +kernel⟩
abbrev G_Ratio___mul__ : List Str := ["NotImplemented", "Ratio", "as_ratio", "is_number"]
theorem nm_Ratio___mul__ : Names0 N_Ratio___mul__ G_Ratio___mul__ (defScope s_Ratio___mul__) := ⟨by decide +kernel, by unfold L2.Loc; decide +kernel, by decide +kernel, by decide +kernel⟩
def d_Ratio___mul__ : He.DefD := ⟨("Ratio", some "__mul__"), "__mul__", "Ratio.__mul__", defArgs s_Ratio___mul__, defBody s_Ratio___mul__, defScope s_Ratio___mul__, [], []⟩
abbrev s_Ratio___rmul__ : Stmt := inClass (top 13) 9
abbrev N_Ratio___rmul__ : List Str := ["self", "other"]
abbrev p_Ratio___rmul__ : List Str := ["self", "other"]
theorem sc_Ratio___rmul__ : FnScope N_Ratio___rmul__ p_Ratio___rmul__ (defScope s_Ratio___rmul__) := ⟨rfl, rfl, rfl, by decide +kernel, rfl, by decide +kernel, by decide +kernel⟩
abbrev G_Ratio___rmul__ : List Str := []
theorem nm_Ratio___rmul__ : Names0 N_Ratio___rmul__ G_Ratio___rmul__ (defScope s_Ratio___rmul__) := ⟨by decide +kernel, by unfold L2.Loc; decide +kernel, by decide +kernel, by decide +kernel⟩
def d_Ratio___rmul__ : He.DefD := ⟨("Ratio", some "__rmul__"), "__rmul__", "Ratio.__rmul__", defArgs s_Ratio___rmul__, defBody s_Ratio___rmul__, defScope s_Ratio___rmul__, [], []⟩
abbrev s_Ratio___neg__ : Stmt := inClass (top 13) 15
abbrev N_Ratio___neg__ : List Str := ["self"]
abbrev p_Ratio___neg__ : List Str := ["self"]
theorem sc_Ratio___neg__ : FnScope N_Ratio___neg__ p_Ratio___neg__ (defScope s_Ratio___neg__) := ⟨rfl, rfl, rfl, by decide +kernel, rfl, by decide +kernel, by decide +kernel⟩
abbrev G_Ratio___neg__ : List Str := ["Ratio"]
theorem nm_Ratio___neg__ : Names0 N_Ratio___neg__ G_Ratio___neg__ (defScope s_Ratio___neg__) := ⟨by decide +kernel, by unfold L2.Loc; decide +kernel, by decide +kernel, by decide +kernel⟩
def d_Ratio___neg__ : He.DefD := ⟨("Ratio", some "__neg__"), "__neg__", "Ratio.__neg__", defArgs s_Ratio___neg__, defBody s_Ratio___neg__, defScope s_Ratio___neg__, [], []⟩
abbrev s_Ratio___abs__ : Stmt := inClass (top 13) 16
abbrev N_Ratio___abs__ : List Str := ["self"]
abbrev p_Ratio___abs__ : List Str := ["self"]
theorem sc_Ratio___abs__ : FnScope N_Ratio___abs__ p_Ratio___abs__ (defScope s_Ratio___abs__) := ⟨rfl, rfl, rfl, by decide +kernel, rfl, by decide +kernel, by decide +kernel⟩
abbrev G_Ratio___abs__ : List Str := ["Ratio", "abs"]
theorem nm_Ratio___abs__ : Names0 N_Ratio___abs__ G_Ratio___abs__ (defScope s_Ratio___abs__) := ⟨by decide +kernel, by unfold L2.Loc; decide +kernel, by decide +kernel, by decide +kernel⟩
def d_Ratio___abs__ : He.DefD := ⟨("Ratio", some "__abs__"), "__abs__", "Ratio.__abs__", defArgs s_Ratio___abs__, defBody s_Ratio___abs__, defScope s_Ratio___abs__, [], []⟩
abbrev s_Ratio___bool__ : Stmt := inClass (top 13) 17
abbrev N_Ratio___bool__ : List Str := ["self"]
abbrev p_Ratio___bool__ : List Str := ["self"]
theorem sc_Ratio___bool__ : FnScope N_Ratio___bool__ p_Ratio___bool__ (defScope s_Ratio___bool__) := ⟨rfl, rfl, rfl, by decide +kernel, rfl, by decide +kernel, by decide +kernel⟩
abbrev G_Ratio___bool__ : List Str := ["bool"]
theorem nm_Ratio___bool__ : Names0 N_Ratio___bool__ G_Ratio___bool__ (defScope s_Ratio___bool__) := ⟨by decide +kernel, by unfold L2.Loc; decide +kernel, by decide +kernel, by decide +kernel⟩
def d_Ratio___bool__ : He.DefD := ⟨("Ratio", some "__bool__"), "__bool__", "Ratio.__bool__", defArgs s_Ratio___bool__, defBody s_Ratio___bool__, defScope s_Ratio___bool__, [], []⟩
abbrev s_Ratio___eq__ : Stmt := inClass (top 13) 18
abbrev N_Ratio___eq__ : List Str := ["self", "other"]
abbrev p_Ratio___eq__ : List Str := ["self", "other"]
theorem sc_Ratio___eq__ : FnScope N_Ratio___eq__ p_Ratio___eq__ (defScope s_Ratio___eq__) := ⟨rfl, rfl, rfl, by decide +kernel, rfl, by decide +kernel, by decide +kernel⟩
abbrev G_Ratio___eq__ : List Str := ["as_ratio", "is_number"]
theorem nm_Ratio___eq__ : Names0 N_Ratio___eq__ G_Ratio___eq__ (defScope s_Ratio___eq__) := ⟨by decide +kernel, by unfold L2.Loc; decide +kernel, by decide +kernel, by decide +kernel⟩
def d_Ratio___eq__ : He.DefD := ⟨("Ratio", some "__eq__"), "__eq__", "Ratio.__eq__", defArgs s_Ratio___eq__, defBody s_Ratio___eq__, defScope s_Ratio___eq__, [], []⟩
abbrev s_Ratio___lt__ : Stmt := inClass (top 13) 19
abbrev N_Ratio___lt__ : List Str := ["self", "other"]
abbrev p_Ratio___lt__ : List Str := ["self", "other"]
theorem sc_Ratio___lt__ : FnScope N_Ratio___lt__ p_Ratio___lt__ (defScope s_Ratio___lt__) := ⟨rfl, rfl, rfl, by decide +kernel, rfl, by decide +kernel, by decide +kernel⟩
abbrev G_Ratio___lt__ : List Str := ["as_ratio"]
theorem nm_Ratio___lt__ : Names0 N_Ratio___lt__ G_Ratio___lt__ (defScope s_Ratio___lt__) := ⟨by decide +kernel, by unfold L2.Loc; decide +kernel, by decide +kernel, by decide +kernel⟩
def d_Ratio___lt__ : He.DefD := ⟨("Ratio", some "__lt__"), "__lt__", "Ratio.__lt__", defArgs s_Ratio___lt__, defBody s_Ratio___lt__, defScope s_Ratio___lt__, [], []⟩
abbrev s_Ratio___le__ : Stmt := inClass (top 13) 20
abbrev N_Ratio___le__ : List Str := ["self", "other"]
abbrev p_Ratio___le__ : List Str := ["self", "other"]
theorem sc_Ratio___le__ : FnScope N_Ratio___le__ p_Ratio___le__ (defScope s_Ratio___le__) := ⟨rfl, rfl, rfl, by decide +kernel, rfl, by decide +kernel, by decide +kernel⟩
abbrev G_Ratio___le__ : List Str := ["as_ratio"]
theorem nm_Ratio___le__ : Names0 N_Ratio___le__ G_Ratio___le__ (defScope s_Ratio___le__) := ⟨by decide +kernel, by unfold L2.Loc; decide +kernel, by decide +kernel, by decide +kernel⟩
def d_Ratio___le__ : He.DefD := ⟨("Ratio", some "__le__"), "__le__", "Ratio.__le__", defArgs s_Ratio___le__, defBody s_Ratio___le__, defScope s_Ratio___le__, [], []⟩
abbrev s_Ratio___gt__ : Stmt := inClass (top 13) 21
abbrev N_Ratio___gt__ : List Str := ["self", "other"]
abbrev p_Ratio___gt__ : List Str := ["self", "other"]
theorem sc_Ratio___gt__ : FnScope N_Ratio___gt__ p_Ratio___gt__ (defScope s_Ratio___gt__) := ⟨rfl, rfl, rfl, by decide +kernel, rfl, by decide +kernel, by decide +kernel⟩
abbrev G_Ratio___gt__ : List Str := ["as_ratio"]
theorem nm_Ratio___gt__ : Names0 N_Ratio___gt__ G_Ratio___gt__ (defScope s_Ratio___gt__) := ⟨by decide +kernel, by unfold L2.Loc; decide +kernel, by decide +kernel, by decide +kernel⟩
def d_Ratio___gt__ : He.DefD := ⟨("Ratio", some "__gt__"), "__gt__", "Ratio.__gt__", defArgs s_Ratio___gt__, defBody s_Ratio___gt__, defScope s_Ratio___gt__, [], []⟩
abbrev s_Ratio___ge__ : Stmt := inClass (top 13) 22
abbrev N_Ratio___ge__ : List Str := ["self", "other"]
abbrev p_Ratio___ge__ : List Str := ["self", "other"]
theorem sc_Ratio___ge__ : FnScope N_Ratio___ge__ p_Ratio___ge__ (defScope s_Ratio___ge__) := ⟨rfl, rfl, rfl, by decide +kernel, rfl, by decide +kernel, by decide +kernel⟩
abbrev G_Ratio___ge__ : List Str := ["as_ratio"]
theorem nm_Ratio___ge__ : Names0 N_Ratio___ge__ G_Ratio___ge__ (defScope s_Ratio___ge__) := ⟨by decide +kernel, by unfold L2.Loc; decide +kernel, by decide +kernel, by decide +kernel⟩
def d_Ratio___ge__ : He.DefD := ⟨("Ratio", some "__ge__"), "__ge__", "Ratio.__ge__", defArgs s_Ratio___ge__, defBody s_Ratio___ge__, defScope s_Ratio___ge__, [], []⟩
abbrev s_check_lengths : Stmt := top 15
abbrev N_check_lengths : List Str := ["first", "second"]
abbrev p_check_lengths : List Str := ["first", "second"]
theorem sc_check_lengths : FnScope N_check_lengths p_check_lengths (defScope s_check_lengths) := ⟨rfl, rfl, rfl, by decide +kernel, rfl, by decide +kernel, by decide +kernel⟩
abbrev G_check_lengths : List Str := ["BadLength", "len"]
theorem nm_check_lengths : Names0 N_check_lengths G_check_lengths (defScope s_check_lengths) := ⟨by decide +kernel, by unfold L2.Loc; decide +kernel, by decide +kernel, by decide +kernel⟩
def d_check_lengths : He.DefD := ⟨("check_lengths", none), "check_lengths", "check_lengths", defArgs s_check_lengths, defBody s_check_lengths, defScope s_check_lengths, [], []⟩
abbrev s_Amounts___init__ : Stmt := inClass (top 16) 0
abbrev N_Amounts___init__ : List Str := ["self", "values"]
abbrev p_Amounts___init__ : List Str := ["self", "values"]
theorem sc_Amounts___init__ : FnScope N_Amounts___init__ p_Amounts___init__ (defScope s_Amounts___init__) := ⟨rfl, rfl, rfl, by decide +kernel, rfl, by decide +kernel, by decide +kernel⟩
abbrev G_Amounts___init__ : List Str := []
theorem nm_Amounts___init__ : Names0 N_Amounts___init__ G_Amounts___init__ (defScope s_Amounts___init__) := ⟨by decide +kernel, by unfold L2.Loc; decide +kernel, by decide +kernel, by decide +kernel⟩
def d_Amounts___init__ : He.DefD := ⟨("Amounts", some "__init__"), "__init__", "Amounts.__init__", defArgs s_Amounts___init__, defBody s_Amounts___init__, defScope s_Amounts___init__, [], []⟩
abbrev s_Amounts_zeros : Stmt := inClass (top 16) 1
abbrev N_Amounts_zeros : List Str := ["count"]
abbrev p_Amounts_zeros : List Str := ["count"]
theorem sc_Amounts_zeros : FnScope N_Amounts_zeros p_Amounts_zeros (defScope s_Amounts_zeros) := ⟨rfl, rfl, rfl, by decide +kernel, rfl, by decide +kernel, by decide +kernel⟩
abbrev G_Amounts_zeros : List Str := ["Amounts"]
theorem nm_Amounts_zeros : Names0 N_Amounts_zeros G_Amounts_zeros (defScope s_Amounts_zeros) := ⟨by decide +kernel, by unfold L2.Loc; decide +kernel, by decide +kernel, by decide +kernel⟩
def d_Amounts_zeros : He.DefD := ⟨("Amounts", some "zeros"), "zeros", "Amounts.zeros", defArgs s_Amounts_zeros, defBody s_Amounts_zeros, defScope s_Amounts_zeros, [], []⟩
def x_Amounts_zeros : DefX := ⟨adSt "Amounts" "zeros", d_Amounts_zeros⟩
abbrev s_Amounts_dot : Stmt := inClass (top 16) 2
abbrev N_Amounts_dot : List Str := ["self", "other", "others", "found", "one", "two"]
abbrev p_Amounts_dot : List Str := ["self", "other"]
theorem sc_Amounts_dot : FnScope N_Amounts_dot p_Amounts_dot (defScope s_Amounts_dot) := ⟨rfl, rfl, rfl, by decide +kernel, rfl, by decide +kernel, by decide +kernel⟩
abbrev G_Amounts_dot : List Str := ["Ratio", "check_lengths", "zip"]
theorem nm_Amounts_dot : Names0 N_Amounts_dot G_Amounts_dot (defScope s_Amounts_dot) := ⟨by decide +kernel, by unfold L2.Loc; decide +kernel, by decide +kernel, by decide +kernel⟩
def d_Amounts_dot : He.DefD := ⟨("Amounts", some "dot"), "dot", "Amounts.dot", defArgs s_Amounts_dot, defBody s_Amounts_dot, defScope s_Amounts_dot, [], []⟩
abbrev s_Amounts_total : Stmt := inClass (top 16) 3
abbrev N_Amounts_total : List Str := ["self", "found", "number"]
abbrev p_Amounts_total : List Str := ["self"]
theorem sc_Amounts_total : FnScope N_Amounts_total p_Amounts_total (defScope s_Amounts_total) := ⟨rfl, rfl, rfl, by decide +kernel, rfl, by decide +kernel, by decide +kernel⟩
abbrev G_Amounts_total : List Str := ["Ratio"]
theorem nm_Amounts_total : Names0 N_Amounts_total G_Amounts_total (defScope s_Amounts_total) := ⟨by decide +kernel, by unfold L2.Loc; decide +kernel, by decide +kernel, by decide +kernel⟩
def d_Amounts_total : He.DefD := ⟨("Amounts", some "total"), "total", "Amounts.total", defArgs s_Amounts_total, defBody s_Amounts_total, defScope s_Amounts_total, [], []⟩
abbrev s_Amounts___len__ : Stmt := inClass (top 16) 4
abbrev N_Amounts___len__ : List Str := ["self"]
abbrev p_Amounts___len__ : List Str := ["self"]
theorem sc_Amounts___len__ : FnScope N_Amounts___len__ p_Amounts___len__ (defScope s_Amounts___len__) := ⟨rfl, rfl, rfl, by decide +kernel, rfl, by decide +kernel, by decide +kernel⟩
abbrev G_Amounts___len__ : List Str := ["len"]
theorem nm_Amounts___len__ : Names0 N_Amounts___len__ G_Amounts___len__ (defScope s_Amounts___len__) := ⟨by decide +kernel, by unfold L2.Loc; decide +kernel, by decide +kernel, by decide +kernel⟩
def d_Amounts___len__ : He.DefD := ⟨("Amounts", some "__len__"), "__len__", "Amounts.__len__", defArgs s_Amounts___len__, defBody s_Amounts___len__, defScope s_Amounts___len__, [], []⟩
abbrev s_Amounts___iter__ : Stmt := inClass (top 16) 5
abbrev N_Amounts___iter__ : List Str := ["self"]
abbrev p_Amounts___iter__ : List Str := ["self"]
theorem sc_Amounts___iter__ : FnScope N_Amounts___iter__ p_Amounts___iter__ (defScope s_Amounts___iter__) := ⟨rfl, rfl, rfl, by decide +kernel, rfl, by decide +kernel, by decide +kernel⟩
abbrev G_Amounts___iter__ : List Str := ["iter"]
theorem nm_Amounts___iter__ : Names0 N_Amounts___iter__ G_Amounts___iter__ (defScope s_Amounts___iter__) := ⟨by decide +kernel, by unfold L2.Loc; decide +kernel, by decide +kernel, by decide +kernel⟩
def d_Amounts___iter__ : He.DefD := ⟨("Amounts", some "__iter__"), "__iter__", "Amounts.__iter__", defArgs s_Amounts___iter__, defBody s_Amounts___iter__, defScope s_Amounts___iter__, [], []⟩
abbrev s_Amounts___getitem__ : Stmt := inClass (top 16) 6
abbrev N_Amounts___getitem__ : List Str := ["self", "at"]
abbrev p_Amounts___getitem__ : List Str := ["self", "at"]
theorem sc_Amounts___getitem__ : FnScope N_Amounts___getitem__ p_Amounts___getitem__ (defScope s_Amounts___getitem__) := ⟨rfl, rfl, rfl, by decide +kernel, rfl, by decide +kernel, by decide +kernel⟩
abbrev G_Amounts___getitem__ : List Str := ["BadKind", "len"]
theorem nm_Amounts___getitem__ : Names0 N_Amounts___getitem__ G_Amounts___getitem__ (defScope s_Amounts___getitem__) := ⟨by decide +kernel, by unfold L2.Loc; decide +kernel, by decide +kernel, by decide +kernel⟩
def d_Amounts___getitem__ : He.DefD := ⟨("Amounts", some "__getitem__"), "__getitem__", "Amounts.__getitem__", defArgs s_Amounts___getitem__, defBody s_Amounts___getitem__, defScope s_Amounts___getitem__, [], []⟩
abbrev s_Amounts___setitem__ : Stmt := inClass (top 16) 7
abbrev N_Amounts___setitem__ : List Str := ["self", "at", "worth"]
abbrev p_Amounts___setitem__ : List Str := ["self", "at", "worth"]
theorem sc_Amounts___setitem__ : FnScope N_Amounts___setitem__ p_Amounts___setitem__ (defScope s_Amounts___setitem__) := ⟨rfl, rfl, rfl, by decide +kernel, rfl, by decide +kernel, by decide +kernel⟩
abbrev G_Amounts___setitem__ : List Str := ["BadKind", "as_ratio", "len"]
theorem nm_Amounts___setitem__ : Names0 N_Amounts___setitem__ G_Amounts___setitem__ (defScope s_Amounts___setitem__) := ⟨by decide +kernel, by unfold L2.Loc; decide +kernel, by decide +kernel, by decide +kernel⟩
def d_Amounts___setitem__ : He.DefD := ⟨("Amounts", some "__setitem__"), "__setitem__", "Amounts.__setitem__", defArgs s_Amounts___setitem__, defBody s_Amounts___setitem__, defScope s_Amounts___setitem__, [], []⟩
abbrev s_Amounts___add__ : Stmt := inClass (top 16) 8
abbrev N_Amounts___add__ : List Str := ["self", "other"]
abbrev p_Amounts___add__ : List Str := ["self", "other"]
theorem sc_Amounts___add__ : FnScope N_Amounts___add__ p_Amounts___add__ (defScope s_Amounts___add__) := ⟨rfl, rfl, rfl, by decide +kernel, rfl, by decide +kernel, by decide +kernel⟩
abbrev G_Amounts___add__ : List Str := ["Amounts", "NotImplemented", "check_lengths", "isinstance", "zip"]
theorem nm_Amounts___add__ : Names0 N_Amounts___add__ G_Amounts___add__ (defScope s_Amounts___add__) := ⟨by decide +kernel, by unfold L2.Loc; decide +kernel, by decide +kernel, by decide +kernel⟩
def d_Amounts___add__ : He.DefD := ⟨("Amounts", some "__add__"), "__add__", "Amounts.__add__", defArgs s_Amounts___add__, defBody s_Amounts___add__, defScope s_Amounts___add__, [], []⟩
abbrev s_Amounts___iadd__ : Stmt := inClass (top 16) 9
abbrev N_Amounts___iadd__ : List Str := ["self", "other"]
abbrev p_Amounts___iadd__ : List Str := ["self", "other"]
theorem sc_Amounts___iadd__ : FnScope N_Amounts___iadd__ p_Amounts___iadd__ (defScope s_Amounts___iadd__) := ⟨rfl, rfl, rfl, by decide +kernel, rfl, by decide +kernel, by decide +kernel⟩
abbrev G_Amounts___iadd__ : List Str := ["Amounts", "NotImplemented", "check_lengths", "isinstance", "zip"]
theorem nm_Amounts___iadd__ : Names0 N_Amounts___iadd__ G_Amounts___iadd__ (defScope s_Amounts___iadd__) := ⟨by decide +kernel, by unfold L2.Loc; decide +kernel, by decide +kernel, by decide +kernel⟩
def d_Amounts___iadd__ : He.DefD := ⟨("Amounts", some "__iadd__"), "__iadd__", "Amounts.__iadd__", defArgs s_Amounts___iadd__, defBody s_Amounts___iadd__, defScope s_Amounts___iadd__, [], []⟩
abbrev s_Amounts___sub__ : Stmt := inClass (top 16) 10
abbrev N_Amounts___sub__ : List Str := ["self", "other"]
abbrev p_Amounts___sub__ : List Str := ["self", "other"]
theorem sc_Amounts___sub__ : FnScope N_Amounts___sub__ p_Amounts___sub__ (defScope s_Amounts___sub__) := ⟨rfl, rfl, rfl, by decide +kernel, rfl, by decide +kernel, by decide +kernel⟩
abbrev G_Amounts___sub__ : List Str := ["Amounts", "NotImplemented", "check_lengths", "isinstance", "zip"]
theorem nm_Amounts___sub__ : Names0 N_Amounts___sub__ G_Amounts___sub__ (defScope s_Amounts___sub__) := ⟨by decide +kernel, by unfold L2.Loc; decide +kernel, by decide +kernel, by decide +kernel⟩
def d_Amounts___sub__ : He.DefD := ⟨("Amounts", some "__sub__"), "__sub__", "Amounts.__sub__", defArgs s_Amounts___sub__, defBody s_Amounts___sub__, defScope s_Amounts___sub__, [], []⟩
abbrev s_Amounts___mul__ : Stmt := inClass (top 16) 11
abbrev N_Amounts___mul__ : List Str := ["self", "other"]
abbrev p_Amounts___mul__ : List Str := ["self", "other"]
theorem sc_Amounts___mul__ : FnScope N_Amounts___mul__ p_Amounts___mul__ (defScope s_Amounts___mul__) := ⟨rfl, rfl, rfl, by decide +kernel, rfl, by decide +kernel, by decide +kernel⟩
abbrev G_Amounts___mul__ : List Str := ["Amounts", "NotImplemented", "is_number"]
theorem nm_Amounts___mul__ : Names0 N_Amounts___mul__ G_Amounts___mul__ (defScope s_Amounts___mul__) := ⟨by decide +kernel, by unfold L2.Loc; decide +kernel, by decide +kernel, by decide +kernel⟩
def d_Amounts___mul__ : He.DefD := ⟨("Amounts", some "__mul__"), "__mul__", "Amounts.__mul__", defArgs s_Amounts___mul__, defBody s_Amounts___mul__, defScope s_Amounts___mul__, [], []⟩
abbrev s_Amounts___rmul__ : Stmt := inClass (top 16) 12
abbrev N_Amounts___rmul__ : List Str := ["self", "other"]
abbrev p_Amounts___rmul__ : List Str := ["self", "other"]
theorem sc_Amounts___rmul__ : FnScope N_Amounts___rmul__ p_Amounts___rmul__ (defScope s_Amounts___rmul__) := ⟨rfl, rfl, rfl, by decide +kernel, rfl, by decide +kernel, by decide +kernel⟩
abbrev G_Amounts___rmul__ : List Str := ["Amounts", "NotImplemented", "is_number"]
theorem nm_Amounts___rmul__ : Names0 N_Amounts___rmul__ G_Amounts___rmul__ (defScope s_Amounts___rmul__) := ⟨by decide +kernel, by unfold L2.Loc; decide +kernel, by decide +kernel, by decide +kernel⟩
def d_Amounts___rmul__ : He.DefD := ⟨("Amounts", some "__rmul__"), "__rmul__", "Amounts.__rmul__", defArgs s_Amounts___rmul__, defBody s_Amounts___rmul__, defScope s_Amounts___rmul__, [], []⟩
abbrev s_Amounts___neg__ : Stmt := inClass (top 16) 13
abbrev N_Amounts___neg__ : List Str := ["self"]
abbrev p_Amounts___neg__ : List Str := ["self"]
theorem sc_Amounts___neg__ : FnScope N_Amounts___neg__ p_Amounts___neg__ (defScope s_Amounts___neg__) := ⟨rfl, rfl, rfl, by decide +kernel, rfl, by decide +kernel, by decide +kernel⟩
abbrev G_Amounts___neg__ : List Str := ["Amounts"]
theorem nm_Amounts___neg__ : Names0 N_Amounts___neg__ G_Amounts___neg__ (defScope s_Amounts___neg__) := ⟨by decide +kernel, by unfold L2.Loc; decide +kernel, by decide +kernel, by decide +kernel⟩
def d_Amounts___neg__ : He.DefD := ⟨("Amounts", some "__neg__"), "__neg__", "Amounts.__neg__", defArgs s_Amounts___neg__, defBody s_Amounts___neg__, defScope s_Amounts___neg__, [], []⟩
abbrev s_Amounts___eq__ : Stmt := inClass (top 16) 14
abbrev N_Amounts___eq__ : List Str := ["self", "other"]
abbrev p_Amounts___eq__ : List Str := ["self", "other"]
theorem sc_Amounts___eq__ : FnScope N_Amounts___eq__ p_Amounts___eq__ (defScope s_Amounts___eq__) := ⟨rfl, rfl, rfl, by decide +kernel, rfl, by decide +kernel, by decide +kernel⟩
abbrev G_Amounts___eq__ : List Str := ["Amounts", "isinstance"]
theorem nm_Amounts___eq__ : Names0 N_Amounts___eq__ G_Amounts___eq__ (defScope s_Amounts___eq__) := ⟨by decide +kernel, by unfold L2.Loc; decide +kernel, by decide +kernel, by decide +kernel⟩
def d_Amounts___eq__ : He.DefD := ⟨("Amounts", some "__eq__"), "__eq__", "Amounts.__eq__", defArgs s_Amounts___eq__, defBody s_Amounts___eq__, defScope s_Amounts___eq__, [], []⟩
abbrev s__law_mixed : Stmt := top 18
abbrev N__law_mixed : List Str := ["_law_cell", "_law_turn", "_law_one", "_law_two"]
abbrev p__law_mixed : List Str := ["_law_cell", "_law_turn"]
theorem sc__law_mixed : FnScope N__law_mixed p__law_mixed (defScope s__law_mixed) := ⟨rfl, rfl, rfl, by decide +kernel, rfl, by decide +kernel, by decide +kernel⟩
abbrev G__law_mixed : List Str := ["int"]
theorem nm__law_mixed : Names0 N__law_mixed G__law_mixed (defScope s__law_mixed) := ⟨by decide +kernel, by unfold L2.Loc; decide +kernel, by decide +kernel, by decide +kernel⟩
def d__law_mixed : He.DefD := ⟨("_law_mixed", none), "_law_mixed", "_law_mixed", defArgs s__law_mixed, defBody s__law_mixed, defScope s__law_mixed, [], []⟩
abbrev s__law_draw : Stmt := top 19
abbrev N__law_draw : List Str := ["_law_pool", "_law_many", "_law_cell", "_law_digit"]
abbrev p__law_draw : List Str := ["_law_pool", "_law_many"]
theorem sc__law_draw : FnScope N__law_draw p__law_draw (defScope s__law_draw) := ⟨rfl, rfl, rfl, by decide +kernel, rfl, by decide +kernel, by decide +kernel⟩
abbrev G__law_draw : List Str := ["_law_mixed", "int", "len"]
theorem nm__law_draw : Names0 N__law_draw G__law_draw (defScope s__law_draw) := ⟨by decide +kernel, by unfold L2.Loc; decide +kernel, by decide +kernel, by decide +kernel⟩
def d__law_draw : He.DefD := ⟨("_law_draw", none), "_law_draw", "_law_draw", defArgs s__law_draw, defBody s__law_draw, defScope s__law_draw, [], []⟩
abbrev s__law_low : Stmt := top 20
abbrev N__law_low : List Str := ["_law_top", "_law_bottom", "_law_one", "_law_two", "_law_rest"]
abbrev p__law_low : List Str := ["_law_top", "_law_bottom"]
theorem sc__law_low : FnScope N__law_low p__law_low (defScope s__law_low) := ⟨rfl, rfl, rfl, by decide +kernel, rfl, by decide +kernel, by decide +kernel⟩
abbrev G__law_low : List Str := ["abs", "int"]
theorem nm__law_low : Names0 N__law_low G__law_low (defScope s__law_low) := ⟨by decide +kernel, by unfold L2.Loc; decide +kernel, by decide +kernel, by decide +kernel⟩
def d__law_low : He.DefD := ⟨("_law_low", none), "_law_low", "_law_low", defArgs s__law_low, defBody s__law_low, defScope s__law_low, [], []⟩
abbrev s__law_whole : Stmt := top 21
abbrev N__law_whole : List Str := ["_law_thing"]
abbrev p__law_whole : List Str := ["_law_thing"]
theorem sc__law_whole : FnScope N__law_whole p__law_whole (defScope s__law_whole) := ⟨rfl, rfl, rfl, by decide +kernel, rfl, by decide +kernel, by decide +kernel⟩
abbrev G__law_whole : List Str := ["bool", "int", "isinstance"]
theorem nm__law_whole : Names0 N__law_whole G__law_whole (defScope s__law_whole) := ⟨by decide +kernel, by unfold L2.Loc; decide +kernel, by decide +kernel, by decide +kernel⟩
def d__law_whole : He.DefD := ⟨("_law_whole", none), "_law_whole", "_law_whole", defArgs s__law_whole, defBody s__law_whole, defScope s__law_whole, [], []⟩
abbrev s__law_pair : Stmt := top 22
abbrev N__law_pair : List Str := ["_law_thing"]
abbrev p__law_pair : List Str := ["_law_thing"]
theorem sc__law_pair : FnScope N__law_pair p__law_pair (defScope s__law_pair) := ⟨rfl, rfl, rfl, by decide +kernel, rfl, by decide +kernel, by decide +kernel⟩
abbrev G__law_pair : List Str := ["Ratio", "_law_low", "_law_whole", "isinstance"]
theorem nm__law_pair : Names0 N__law_pair G__law_pair (defScope s__law_pair) := ⟨by decide +kernel, by unfold L2.Loc; decide +kernel, by decide +kernel, by decide +kernel⟩
def d__law_pair : He.DefD := ⟨("_law_pair", none), "_law_pair", "_law_pair", defArgs s__law_pair, defBody s__law_pair, defScope s__law_pair, [], []⟩
abbrev s__law_add : Stmt := top 23
abbrev N__law_add : List Str := ["_law_one", "_law_two"]
abbrev p__law_add : List Str := ["_law_one", "_law_two"]
theorem sc__law_add : FnScope N__law_add p__law_add (defScope s__law_add) := ⟨rfl, rfl, rfl, by decide +kernel, rfl, by decide +kernel, by decide +kernel⟩
abbrev G__law_add : List Str := ["_law_low"]
theorem nm__law_add : Names0 N__law_add G__law_add (defScope s__law_add) := ⟨by decide +kernel, by unfold L2.Loc; decide +kernel, by decide +kernel, by decide +kernel⟩
def d__law_add : He.DefD := ⟨("_law_add", none), "_law_add", "_law_add", defArgs s__law_add, defBody s__law_add, defScope s__law_add, [], []⟩
abbrev s__law_times : Stmt := top 24
abbrev N__law_times : List Str := ["_law_one", "_law_two"]
abbrev p__law_times : List Str := ["_law_one", "_law_two"]
theorem sc__law_times : FnScope N__law_times p__law_times (defScope s__law_times) := ⟨rfl, rfl, rfl, by decide +kernel, rfl, by decide +kernel, by decide +kernel⟩
abbrev G__law_times : List Str := ["_law_low"]
theorem nm__law_times : Names0 N__law_times G__law_times (defScope s__law_times) := ⟨by decide +kernel, by unfold L2.Loc; decide +kernel, by decide +kernel, by decide +kernel⟩
def d__law_times : He.DefD := ⟨("_law_times", none), "_law_times", "_law_times", defArgs s__law_times, defBody s__law_times, defScope s__law_times, [], []⟩
abbrev s__law_minus : Stmt := top 25
abbrev N__law_minus : List Str := ["_law_one", "_law_two"]
abbrev p__law_minus : List Str := ["_law_one", "_law_two"]
theorem sc__law_minus : FnScope N__law_minus p__law_minus (defScope s__law_minus) := ⟨rfl, rfl, rfl, by decide +kernel, rfl, by decide +kernel, by decide +kernel⟩
abbrev G__law_minus : List Str := ["_law_low"]
theorem nm__law_minus : Names0 N__law_minus G__law_minus (defScope s__law_minus) := ⟨by decide +kernel, by unfold L2.Loc; decide +kernel, by decide +kernel, by decide +kernel⟩
def d__law_minus : He.DefD := ⟨("_law_minus", none), "_law_minus", "_law_minus", defArgs s__law_minus, defBody s__law_minus, defScope s__law_minus, [], []⟩
abbrev s__law_shows : Stmt := top 26
abbrev N__law_shows : List Str := ["_law_thing", "_law_due", "_law_told"]
abbrev p__law_shows : List Str := ["_law_thing", "_law_due"]
theorem sc__law_shows : FnScope N__law_shows p__law_shows (defScope s__law_shows) := ⟨rfl, rfl, rfl, by decide +kernel, rfl, by decide +kernel, by decide +kernel⟩
abbrev G__law_shows : List Str := ["Amounts", "isinstance", "len", "range"]
theorem nm__law_shows : Names0 N__law_shows G__law_shows (defScope s__law_shows) := ⟨by decide +kernel, by unfold L2.Loc; decide +kernel, by decide +kernel, by decide +kernel⟩
def d__law_shows : He.DefD := ⟨("_law_shows", none), "_law_shows", "_law_shows", defArgs s__law_shows, defBody s__law_shows, defScope s__law_shows, [], []⟩
abbrev s__law_made : Stmt := top 27
abbrev N__law_made : List Str := ["_law_pairs"]
abbrev p__law_made : List Str := ["_law_pairs"]
theorem sc__law_made : FnScope N__law_made p__law_made (defScope s__law_made) := ⟨rfl, rfl, rfl, by decide +kernel, rfl, by decide +kernel, by decide +kernel⟩
abbrev G__law_made : List Str := []
theorem nm__law_made : Names0 N__law_made G__law_made (defScope s__law_made) := ⟨by decide +kernel, by unfold L2.Loc; decide +kernel, by decide +kernel, by decide +kernel⟩
def d__law_made : He.DefD := ⟨("_law_made", none), "_law_made", "_law_made", defArgs s__law_made, defBody s__law_made, defScope s__law_made, [], []⟩
abbrev s__law_numbers : Stmt := top 28
abbrev N__law_numbers : List Str := ["_law_pool", "_law_size", "_law_width", "_law_found", "_law_k"]
abbrev p__law_numbers : List Str := ["_law_pool", "_law_size"]
theorem sc__law_numbers : FnScope N__law_numbers p__law_numbers (defScope s__law_numbers) := ⟨rfl, rfl, rfl, by decide +kernel, rfl, by decide +kernel, by decide +kernel⟩
abbrev G__law_numbers : List Str := ["_law_draw", "_law_low", "range"]
theorem nm__law_numbers : Names0 N__law_numbers G__law_numbers (defScope s__law_numbers) := ⟨by decide +kernel, by unfold L2.Loc; decide +kernel, by decide +kernel, by decide +kernel⟩
def d__law_numbers : He.DefD := ⟨("_law_numbers", none), "_law_numbers", "_law_numbers", defArgs s__law_numbers, defBody s__law_numbers, defScope s__law_numbers, [], []⟩
abbrev s__law_refused : Stmt := top 29
abbrev N__law_refused : List Str := ["_law_one", "_law_two", "_law_way", "_law_told", "e"]
abbrev p__law_refused : List Str := ["_law_one", "_law_two", "_law_way"]
theorem sc__law_refused : FnScope N__law_refused p__law_refused (defScope s__law_refused) := ⟨rfl, rfl, rfl, by decide +kernel, rfl, by decide +kernel, by decide +kernel⟩
abbrev G__law_refused : List Str := ["BadKind", "BadLength", "NeverIdleError", "isinstance"]
theorem nm__law_refused : Names0 N__law_refused G__law_refused (defScope s__law_refused) := ⟨by decide +kernel, by unfold L2.Loc; decide +kernel, by decide +kernel, by decide +kernel⟩
def d__law_refused : He.DefD := ⟨("_law_refused", none), "_law_refused", "_law_refused", defArgs s__law_refused, defBody s__law_refused, defScope s__law_refused, [], []⟩
abbrev s__law_sums : Stmt := top 30
abbrev N__law_sums : List Str := ["_law_one", "_law_two", "_law_a", "_law_b", "_law_due", "_law_total", "_law_k"]
abbrev p__law_sums : List Str := ["_law_one", "_law_two", "_law_a", "_law_b"]
theorem sc__law_sums : FnScope N__law_sums p__law_sums (defScope s__law_sums) := ⟨rfl, rfl, rfl, by decide +kernel, rfl, by decide +kernel, by decide +kernel⟩
abbrev G__law_sums : List Str := ["_law_add", "_law_made", "_law_pair", "_law_shows", "_law_times", "len", "range", "tuple"]
theorem nm__law_sums : Names0 N__law_sums G__law_sums (defScope s__law_sums) := ⟨by decide +kernel, by unfold L2.Loc; decide +kernel, by decide +kernel, by decide +kernel⟩
def d__law_sums : He.DefD := ⟨("_law_sums", none), "_law_sums", "_law_sums", defArgs s__law_sums, defBody s__law_sums, defScope s__law_sums, [], []⟩
abbrev s_law : Stmt := top 31
abbrev N_law : List Str := ["_law_script", "_law_pool", "_law_size", "_law_a", "_law_b", "_law_n", "_law_longer", "_law_one", "_law_two", "_law_three", "_law_number", "_law_due", "_law_left", "_law_more", "_law_way"]
abbrev p_law : List Str := ["_law_script"]
theorem sc_law : FnScope N_law p_law (defScope s_law) := ⟨rfl, rfl, rfl, by decide +kernel, rfl, by decide +kernel, by decide +kernel⟩
abbrev G_law : List Str := ["Amounts", "Ratio", "_law_draw", "_law_made", "_law_numbers", "_law_refused", "_law_shows", "_law_sums", "list", "range", "tuple"]
theorem nm_law : Names0 N_law G_law (defScope s_law) := ⟨by decide +kernel, by unfold L2.Loc; decide +kernel, by decide +kernel, by decide +kernel⟩
def d_law : He.DefD := ⟨("law", none), "law", "law", defArgs s_law, defBody s_law, defScope s_law, [], []⟩
def fn0 : List He.DefD := [d_is_number, d_as_ratio, d_Ratio___init__, d_Ratio___add__, d_Ratio___radd__, d_Ratio___sub__, d_Ratio___rsub__, d_Ratio___mul__, d_Ratio___rmul__, d_Ratio___neg__, d_Ratio___abs__, d_Ratio___bool__, d_Ratio___eq__, d_Ratio___lt__, d_Ratio___le__, d_Ratio___gt__, d_Ratio___ge__, d_check_lengths, d_Amounts___init__, d_Amounts_dot, d_Amounts_total, d_Amounts___len__, d_Amounts___iter__, d_Amounts___getitem__, d_Amounts___setitem__, d_Amounts___add__, d_Amounts___iadd__, d_Amounts___sub__, d_Amounts___mul__, d_Amounts___rmul__]
def fn1 : List He.DefD := [d_Amounts___neg__, d_Amounts___eq__, d__law_mixed, d__law_draw, d__law_low, d__law_whole, d__law_pair, d__law_add, d__law_times, d__law_minus, d__law_shows, d__law_made, d__law_numbers, d__law_refused, d__law_sums, d_law]
def fn : List He.DefD := fn0 ++ (fn1)
def fs : List DefX := [x_Amounts_zeros]
def fa0 : List He.Fa := [.cls "Ratio", .noat "Ratio" "top", .noat "Ratio" "bottom", .mkr "Ratio", .meth "Ratio" "__add__", .meth "Ratio" "__radd__", .meth "Ratio" "__sub__", .meth "Ratio" "__rsub__", .meth "Ratio" "__mul__", .meth "Ratio" "__rmul__", .meth "Ratio" "__neg__", .meth "Ratio" "__abs__", .meth "Ratio" "__eq__", .meth "Ratio" "__lt__", .meth "Ratio" "__gt__", .meth "Ratio" "__le__", .meth "Ratio" "__ge__", .meth "Ratio" "__bool__", .free "len", .free "abs", .free "int", .free "bool", .free "str", .free "isinstance", .free "tuple", .free "range", .free "zip", .free "enumerate", .free "list", .glo "Ratio"]
def fa1 : List He.Fa := [.keep "Ratio", .glo "_law_draw", .keep "_law_draw", .cls "Amounts", .noat "Amounts" "numbers", .free "iter", .meth "Amounts" "__iter__", .glo "as_ratio", .keep "as_ratio", .glo "is_number", .keep "is_number", .glo "BadLength", .exc "BadLength", .glo "check_lengths", .keep "check_lengths", .glo "Amounts", .keep "Amounts", .mkr "Amounts", .meth "Amounts" "dot", .meth "Amounts" "total", .glo "BadKind", .exc "BadKind", .meth "Amounts" "__mul__", .meth "Amounts" "__rmul__", .free "NotImplemented", .meth "Amounts" "__add__", .meth "Amounts" "__sub__", .meth "Amounts" "__iadd__", .meth "Amounts" "__eq__", .meth "Amounts" "__neg__"]
def fa2 : List He.Fa := [.meth "Amounts" "__len__", .meth "Amounts" "__getitem__", .meth "Amounts" "__setitem__", .glo "_law_low", .keep "_law_low", .glo "_law_whole", .keep "_law_whole", .glo "_law_pair", .keep "_law_pair", .glo "_law_add", .keep "_law_add", .glo "_law_times", .keep "_law_times", .glo "_law_minus", .keep "_law_minus", .glo "_law_shows", .keep "_law_shows", .glo "_law_made", .keep "_law_made", .glo "_law_numbers", .keep "_law_numbers", .glo "NeverIdleError", .exm "BadLength" "BadLength" true, .glo "_law_refused", .keep "_law_refused", .glo "_law_sums", .keep "_law_sums", .keep "BadKind", .keep "BadLength", .glo "BadNumber"]
def fa3 : List He.Fa := [.keep "BadNumber", .exc "BadNumber", .keep "NeverIdleError", .exc "NeverIdleError", .glo "ZeroBottom", .keep "ZeroBottom", .exc "ZeroBottom", .glo "_law_mixed", .keep "_law_mixed", .glo "_wall", .keep "_wall", .glo "read_digits", .keep "read_digits", .glo "law"]
def fa : List He.Fa := fa0 ++ (fa1 ++ (fa2 ++ (fa3)))
def ex0 : List (PySem.W.Frag → Bool) := [fun K => decide (PySem.W.kitOne K (.type "int") (.type "int") = some true), fun K => decide (PySem.W.kitOne K (.type "int") (.ref (He.ga K "Ratio")) = some false), fun K => tyxB K (He.ga K "Ratio"), fun K => decide (PySem.W.kitOne K (.ref (He.ga K "Ratio")) (.ref (He.ga K "Ratio")) = some true), fun K => decide (PySem.W.kitOne K (.ref (He.ga K "Ratio")) (.type "int") = some false), fun K => PySem.W.selfFirst K (He.ga K "Ratio"), fun K => decide (PySem.W.subIn K (.type "int") (.ref (He.ga K "Ratio")) = some false), fun K => decide (PySem.W.subIn K (.ref (He.ga K "Ratio")) (.type "int") = some false), fun K => (PySem.W.findIn K (.type "int") "__add__").isSome, fun K => (PySem.W.findIn K (.type "int") "__radd__").isSome, fun K => (PySem.W.findIn K (.type "int") "__sub__").isSome, fun K => (PySem.W.findIn K (.type "int") "__rsub__").isSome, fun K => (PySem.W.findIn K (.type "int") "__mul__").isSome, fun K => (PySem.W.findIn K (.type "int") "__rmul__").isSome, fun K => noiB K (He.ga K "Ratio") "add", fun K => noiB K (He.ga K "Ratio") "mul", fun K => PySem.W.notFirst K (He.ga K "Ratio") (.type "int"), fun K => neB K (He.ga K "Ratio"), fun K => PySem.W.notFirst K (He.ga K "Ratio") (.type "NoneType"), fun K => PySem.W.notFirst K (He.ga K "Ratio") (.type "str"), fun K => PySem.W.notFirst K (He.ga K "Ratio") (.type "list"), fun K => PySem.W.notFirst K (He.ga K "Ratio") (.type "tuple"), fun K => decide (PySem.W.nsIn K mainGlobals "gcd" = some (some (.builtin "math.gcd"))), fun K => decide (PySem.W.kitOne K (.type "int") (.type "bool") = some false), fun K => decide (PySem.W.kitOne K (.type "bool") (.type "bool") = some true), fun K => decide (PySem.W.kitOne K (.type "NoneType") (.type "int") = some false), fun K => decide (PySem.W.kitOne K (.type "str") (.type "int") = some false), fun K => decide (PySem.W.kitOne K (.type "list") (.type "int") = some false), fun K => decide (PySem.W.kitOne K (.type "tuple") (.type "int") = some false), fun K => decide (PySem.W.kitOne K (.type "NoneType") (.ref (He.ga K "Ratio")) = some false)]
def ex1 : List (PySem.W.Frag → Bool) := [fun K => decide (PySem.W.kitOne K (.type "str") (.ref (He.ga K "Ratio")) = some false), fun K => decide (PySem.W.kitOne K (.type "list") (.ref (He.ga K "Ratio")) = some false), fun K => decide (PySem.W.kitOne K (.type "tuple") (.ref (He.ga K "Ratio")) = some false), fun K => decide (PySem.W.kitOne K (.ref (He.ga K "Amounts")) (.ref (He.ga K "Amounts")) = some true), fun K => tyxB K (He.ga K "Amounts"), fun K => decide (PySem.W.kitOne K (.ref (He.ga K "Amounts")) (.type "int") = some false), fun K => decide (PySem.W.kitOne K (.ref (He.ga K "Amounts")) (.ref (He.ga K "Ratio")) = some false), fun K => decide (PySem.W.kitOne K (.type "list") (.ref (He.ga K "Amounts")) = some false), fun K => decide (PySem.W.kitOne K (.type "tuple") (.ref (He.ga K "Amounts")) = some false), fun K => decide (PySem.W.kitOne K (.type "int") (.ref (He.ga K "Amounts")) = some false), fun K => decide (PySem.W.kitOne K (.ref (He.ga K "Ratio")) (.ref (He.ga K "Amounts")) = some false), fun K => decide (PySem.W.kitOne K (.type "NoneType") (.ref (He.ga K "Amounts")) = some false), fun K => decide (PySem.W.kitOne K (.type "tuple") (.type "tuple") = some true), fun K => decide (PySem.W.kitOne K (.type "list") (.type "tuple") = some false), fun K => decide (PySem.W.kitOne K (.ref (He.ga K "Amounts")) (.type "tuple") = some false), fun K => staB K (He.ga K "Amounts") "zeros", fun K => PySem.W.selfFirst K (He.ga K "Amounts"), fun K => decide (He.ga K "Amounts" ≠ He.ga K "Ratio"), fun K => decide (PySem.W.subIn K (.ref (He.ga K "Ratio")) (.ref (He.ga K "Amounts")) = some false), fun K => decide (He.ga K "Ratio" ≠ He.ga K "Amounts"), fun K => decide (PySem.W.subIn K (.ref (He.ga K "Amounts")) (.ref (He.ga K "Ratio")) = some false), fun K => decide (PySem.W.subIn K (.type "int") (.ref (He.ga K "Amounts")) = some false), fun K => decide (PySem.W.subIn K (.ref (He.ga K "Amounts")) (.type "int") = some false), fun K => noiB K (He.ga K "Amounts") "sub", fun K => noiB K (He.ga K "Amounts") "mul", fun K => PySem.W.notFirst K (He.ga K "Amounts") (.type "list"), fun K => PySem.W.notFirst K (He.ga K "Amounts") (.type "tuple"), fun K => neB K (He.ga K "Amounts"), fun K => PySem.W.noSeq K (He.ga K "Amounts"), fun K => exccB K (He.ga K "BadLength")]
def ex2 : List (PySem.W.Frag → Bool) := [fun K => decide (PySem.W.kitOne K (.ref (He.ga K "BadLength")) (.ref (He.ga K "BadKind")) = some false), fun K => decide (PySem.W.kitOne K (.ref (He.ga K "BadLength")) (.ref (He.ga K "NeverIdleError")) = some true), fun K => x_Amounts_zeros.ok K]
def ex : List (PySem.W.Frag → Bool) := ex0 ++ (ex1 ++ (ex2))
structure Ctx (K : PySem.W.Frag) (mg : Str → Option Value) : Prop where
  c : SaysS fa fn ex fs K
  m : ∀ x v, PySem.W.nsIn K mainGlobals x = some v → mg x = v
section
variable {K : PySem.W.Frag} {mg : Str → Option Value}
theorem f_cls_Ratio (T : Ctx K mg) : Cls K (He.ga K "Ratio") := He.cls_ok (T.c.d.fact 0 rfl)
theorem f_noat_Ratio'top (T : Ctx K mg) : NoAttr K (He.ga K "Ratio") "top" := He.noat_ok (T.c.d.fact 1 rfl)
theorem f_noat_Ratio'bottom (T : Ctx K mg) : NoAttr K (He.ga K "Ratio") "bottom" := He.noat_ok (T.c.d.fact 2 rfl)
theorem f_mkr_Ratio (T : Ctx K mg) : Mk K (He.ga K "Ratio") (He.ma K (He.ga K "Ratio") "__init__") := He.mkr_ok (T.c.d.fact 3 rfl)
theorem f_kit_int'int (T : Ctx K mg) : PySem.W.kitOne K (.type "int") (.type "int") = some true := of_decide_eq_true (T.c.x 0 rfl)
theorem f_kit_int'Ratio (T : Ctx K mg) : PySem.W.kitOne K (.type "int") (.ref (He.ga K "Ratio")) = some false := of_decide_eq_true (T.c.x 1 rfl)
theorem f_tyx_Ratio (T : Ctx K mg) : tyxB K (He.ga K "Ratio") = true := T.c.x 2 rfl
theorem f_kit_Ratio'Ratio (T : Ctx K mg) : PySem.W.kitOne K (.ref (He.ga K "Ratio")) (.ref (He.ga K "Ratio")) = some true := of_decide_eq_true (T.c.x 3 rfl)
theorem f_kit_Ratio'int (T : Ctx K mg) : PySem.W.kitOne K (.ref (He.ga K "Ratio")) (.type "int") = some false := of_decide_eq_true (T.c.x 4 rfl)
theorem f_sf_Ratio (T : Ctx K mg) : PySem.W.selfFirst K (He.ga K "Ratio") = true := T.c.x 5 rfl
theorem f_sub_int'Ratio (T : Ctx K mg) : PySem.W.subIn K (.type "int") (.ref (He.ga K "Ratio")) = some false := of_decide_eq_true (T.c.x 6 rfl)
theorem f_sub_Ratio'int (T : Ctx K mg) : PySem.W.subIn K (.ref (He.ga K "Ratio")) (.type "int") = some false := of_decide_eq_true (T.c.x 7 rfl)
theorem f_sg_Ratio'__add__ (T : Ctx K mg) : Sg K (He.ga K "Ratio") "__add__" (He.ma K (He.ga K "Ratio") "__add__") := ⟨(He.meth_ok (T.c.d.fact 4 rfl)).at_, (He.meth_ok (T.c.d.fact 4 rfl)).fn⟩
theorem f_sg_Ratio'__radd__ (T : Ctx K mg) : Sg K (He.ga K "Ratio") "__radd__" (He.ma K (He.ga K "Ratio") "__radd__") := ⟨(He.meth_ok (T.c.d.fact 5 rfl)).at_, (He.meth_ok (T.c.d.fact 5 rfl)).fn⟩
theorem f_find_int'__add__ (T : Ctx K mg) : ∃ fo, PySem.W.findIn K (.type "int") "__add__" = some fo := Option.isSome_iff_exists.mp (T.c.x 8 rfl)
theorem f_find_int'__radd__ (T : Ctx K mg) : ∃ fo, PySem.W.findIn K (.type "int") "__radd__" = some fo := Option.isSome_iff_exists.mp (T.c.x 9 rfl)
theorem f_sg_Ratio'__sub__ (T : Ctx K mg) : Sg K (He.ga K "Ratio") "__sub__" (He.ma K (He.ga K "Ratio") "__sub__") := ⟨(He.meth_ok (T.c.d.fact 6 rfl)).at_, (He.meth_ok (T.c.d.fact 6 rfl)).fn⟩
theorem f_sg_Ratio'__rsub__ (T : Ctx K mg) : Sg K (He.ga K "Ratio") "__rsub__" (He.ma K (He.ga K "Ratio") "__rsub__") := ⟨(He.meth_ok (T.c.d.fact 7 rfl)).at_, (He.meth_ok (T.c.d.fact 7 rfl)).fn⟩
theorem f_find_int'__sub__ (T : Ctx K mg) : ∃ fo, PySem.W.findIn K (.type "int") "__sub__" = some fo := Option.isSome_iff_exists.mp (T.c.x 10 rfl)
theorem f_find_int'__rsub__ (T : Ctx K mg) : ∃ fo, PySem.W.findIn K (.type "int") "__rsub__" = some fo := Option.isSome_iff_exists.mp (T.c.x 11 rfl)
theorem f_sg_Ratio'__mul__ (T : Ctx K mg) : Sg K (He.ga K "Ratio") "__mul__" (He.ma K (He.ga K "Ratio") "__mul__") := ⟨(He.meth_ok (T.c.d.fact 8 rfl)).at_, (He.meth_ok (T.c.d.fact 8 rfl)).fn⟩
theorem f_sg_Ratio'__rmul__ (T : Ctx K mg) : Sg K (He.ga K "Ratio") "__rmul__" (He.ma K (He.ga K "Ratio") "__rmul__") := ⟨(He.meth_ok (T.c.d.fact 9 rfl)).at_, (He.meth_ok (T.c.d.fact 9 rfl)).fn⟩
theorem f_find_int'__mul__ (T : Ctx K mg) : ∃ fo, PySem.W.findIn K (.type "int") "__mul__" = some fo := Option.isSome_iff_exists.mp (T.c.x 12 rfl)
theorem f_find_int'__rmul__ (T : Ctx K mg) : ∃ fo, PySem.W.findIn K (.type "int") "__rmul__" = some fo := Option.isSome_iff_exists.mp (T.c.x 13 rfl)
theorem f_noi_Ratio'add (T : Ctx K mg) : noiB K (He.ga K "Ratio") "add" = true := T.c.x 14 rfl
theorem f_noi_Ratio'mul (T : Ctx K mg) : noiB K (He.ga K "Ratio") "mul" = true := T.c.x 15 rfl
theorem f_sg_Ratio'__neg__ (T : Ctx K mg) : Sg K (He.ga K "Ratio") "__neg__" (He.ma K (He.ga K "Ratio") "__neg__") := ⟨(He.meth_ok (T.c.d.fact 10 rfl)).at_, (He.meth_ok (T.c.d.fact 10 rfl)).fn⟩
theorem f_sg_Ratio'__abs__ (T : Ctx K mg) : Sg K (He.ga K "Ratio") "__abs__" (He.ma K (He.ga K "Ratio") "__abs__") := ⟨(He.meth_ok (T.c.d.fact 11 rfl)).at_, (He.meth_ok (T.c.d.fact 11 rfl)).fn⟩
theorem f_nf_Ratio'int (T : Ctx K mg) : PySem.W.notFirst K (He.ga K "Ratio") (.type "int") = true := T.c.x 16 rfl
theorem f_neb_Ratio (T : Ctx K mg) : neB K (He.ga K "Ratio") = true := T.c.x 17 rfl
theorem f_sg_Ratio'__eq__ (T : Ctx K mg) : Sg K (He.ga K "Ratio") "__eq__" (He.ma K (He.ga K "Ratio") "__eq__") := ⟨(He.meth_ok (T.c.d.fact 12 rfl)).at_, (He.meth_ok (T.c.d.fact 12 rfl)).fn⟩
theorem f_sg_Ratio'__lt__ (T : Ctx K mg) : Sg K (He.ga K "Ratio") "__lt__" (He.ma K (He.ga K "Ratio") "__lt__") := ⟨(He.meth_ok (T.c.d.fact 13 rfl)).at_, (He.meth_ok (T.c.d.fact 13 rfl)).fn⟩
theorem f_sg_Ratio'__gt__ (T : Ctx K mg) : Sg K (He.ga K "Ratio") "__gt__" (He.ma K (He.ga K "Ratio") "__gt__") := ⟨(He.meth_ok (T.c.d.fact 14 rfl)).at_, (He.meth_ok (T.c.d.fact 14 rfl)).fn⟩
theorem f_sg_Ratio'__le__ (T : Ctx K mg) : Sg K (He.ga K "Ratio") "__le__" (He.ma K (He.ga K "Ratio") "__le__") := ⟨(He.meth_ok (T.c.d.fact 15 rfl)).at_, (He.meth_ok (T.c.d.fact 15 rfl)).fn⟩
theorem f_sg_Ratio'__ge__ (T : Ctx K mg) : Sg K (He.ga K "Ratio") "__ge__" (He.ma K (He.ga K "Ratio") "__ge__") := ⟨(He.meth_ok (T.c.d.fact 16 rfl)).at_, (He.meth_ok (T.c.d.fact 16 rfl)).fn⟩
theorem f_nf_Ratio'NoneType (T : Ctx K mg) : PySem.W.notFirst K (He.ga K "Ratio") (.type "NoneType") = true := T.c.x 18 rfl
theorem f_nf_Ratio'str (T : Ctx K mg) : PySem.W.notFirst K (He.ga K "Ratio") (.type "str") = true := T.c.x 19 rfl
theorem f_nf_Ratio'list (T : Ctx K mg) : PySem.W.notFirst K (He.ga K "Ratio") (.type "list") = true := T.c.x 20 rfl
theorem f_nf_Ratio'tuple (T : Ctx K mg) : PySem.W.notFirst K (He.ga K "Ratio") (.type "tuple") = true := T.c.x 21 rfl
theorem f_sg_Ratio'__bool__ (T : Ctx K mg) : Sg K (He.ga K "Ratio") "__bool__" (He.ma K (He.ga K "Ratio") "__bool__") := ⟨(He.meth_ok (T.c.d.fact 17 rfl)).at_, (He.meth_ok (T.c.d.fact 17 rfl)).fn⟩
theorem f_free_len (T : Ctx K mg) : mg "len" = none := T.m _ _ (He.eqO_ok (T.c.d.fact 18 rfl))
theorem f_free_abs (T : Ctx K mg) : mg "abs" = none := T.m _ _ (He.eqO_ok (T.c.d.fact 19 rfl))
theorem f_free_int (T : Ctx K mg) : mg "int" = none := T.m _ _ (He.eqO_ok (T.c.d.fact 20 rfl))
theorem f_free_bool (T : Ctx K mg) : mg "bool" = none := T.m _ _ (He.eqO_ok (T.c.d.fact 21 rfl))
theorem f_free_str (T : Ctx K mg) : mg "str" = none := T.m _ _ (He.eqO_ok (T.c.d.fact 22 rfl))
theorem f_free_isinstance (T : Ctx K mg) : mg "isinstance" = none := T.m _ _ (He.eqO_ok (T.c.d.fact 23 rfl))
theorem f_free_tuple (T : Ctx K mg) : mg "tuple" = none := T.m _ _ (He.eqO_ok (T.c.d.fact 24 rfl))
theorem f_gcd_x (T : Ctx K mg) : mg "gcd" = some (.builtin "math.gcd") := T.m _ _ (of_decide_eq_true (T.c.x 22 rfl))
theorem f_free_range (T : Ctx K mg) : mg "range" = none := T.m _ _ (He.eqO_ok (T.c.d.fact 25 rfl))
theorem f_free_zip (T : Ctx K mg) : mg "zip" = none := T.m _ _ (He.eqO_ok (T.c.d.fact 26 rfl))
theorem f_free_enumerate (T : Ctx K mg) : mg "enumerate" = none := T.m _ _ (He.eqO_ok (T.c.d.fact 27 rfl))
theorem f_free_list (T : Ctx K mg) : mg "list" = none := T.m _ _ (He.eqO_ok (T.c.d.fact 28 rfl))
theorem f_glo_Ratio (T : Ctx K mg) : mg "Ratio" = some (.ref (He.ga K "Ratio")) := T.m _ _ (He.eqO_ok (T.c.d.fact 29 rfl))
theorem f_keep_Ratio (T : Ctx K mg) : PySem.W.keepIn K (.ref (He.ga K "Ratio")) = true := He.keep_ok (T.c.d.fact 30 rfl)
theorem f_kit_int'bool (T : Ctx K mg) : PySem.W.kitOne K (.type "int") (.type "bool") = some false := of_decide_eq_true (T.c.x 23 rfl)
theorem f_kit_bool'bool (T : Ctx K mg) : PySem.W.kitOne K (.type "bool") (.type "bool") = some true := of_decide_eq_true (T.c.x 24 rfl)
theorem f_kit_NoneType'int (T : Ctx K mg) : PySem.W.kitOne K (.type "NoneType") (.type "int") = some false := of_decide_eq_true (T.c.x 25 rfl)
theorem f_kit_str'int (T : Ctx K mg) : PySem.W.kitOne K (.type "str") (.type "int") = some false := of_decide_eq_true (T.c.x 26 rfl)
theorem f_kit_list'int (T : Ctx K mg) : PySem.W.kitOne K (.type "list") (.type "int") = some false := of_decide_eq_true (T.c.x 27 rfl)
theorem f_kit_tuple'int (T : Ctx K mg) : PySem.W.kitOne K (.type "tuple") (.type "int") = some false := of_decide_eq_true (T.c.x 28 rfl)
theorem f_kit_NoneType'Ratio (T : Ctx K mg) : PySem.W.kitOne K (.type "NoneType") (.ref (He.ga K "Ratio")) = some false := of_decide_eq_true (T.c.x 29 rfl)
theorem f_kit_str'Ratio (T : Ctx K mg) : PySem.W.kitOne K (.type "str") (.ref (He.ga K "Ratio")) = some false := of_decide_eq_true (T.c.x 30 rfl)
theorem f_kit_list'Ratio (T : Ctx K mg) : PySem.W.kitOne K (.type "list") (.ref (He.ga K "Ratio")) = some false := of_decide_eq_true (T.c.x 31 rfl)
theorem f_kit_tuple'Ratio (T : Ctx K mg) : PySem.W.kitOne K (.type "tuple") (.ref (He.ga K "Ratio")) = some false := of_decide_eq_true (T.c.x 32 rfl)
theorem f_glo__law_draw (T : Ctx K mg) : mg "_law_draw" = some (.ref (He.ga K "_law_draw")) := T.m _ _ (He.eqO_ok (T.c.d.fact 31 rfl))
theorem f_keep__law_draw (T : Ctx K mg) : PySem.W.keepIn K (.ref (He.ga K "_law_draw")) = true := He.keep_ok (T.c.d.fact 32 rfl)
theorem f_kit_Amounts'Amounts (T : Ctx K mg) : PySem.W.kitOne K (.ref (He.ga K "Amounts")) (.ref (He.ga K "Amounts")) = some true := of_decide_eq_true (T.c.x 33 rfl)
theorem f_tyx_Amounts (T : Ctx K mg) : tyxB K (He.ga K "Amounts") = true := T.c.x 34 rfl
theorem f_cls_Amounts (T : Ctx K mg) : Cls K (He.ga K "Amounts") := He.cls_ok (T.c.d.fact 33 rfl)
theorem f_kit_Amounts'int (T : Ctx K mg) : PySem.W.kitOne K (.ref (He.ga K "Amounts")) (.type "int") = some false := of_decide_eq_true (T.c.x 35 rfl)
theorem f_kit_Amounts'Ratio (T : Ctx K mg) : PySem.W.kitOne K (.ref (He.ga K "Amounts")) (.ref (He.ga K "Ratio")) = some false := of_decide_eq_true (T.c.x 36 rfl)
theorem f_kit_list'Amounts (T : Ctx K mg) : PySem.W.kitOne K (.type "list") (.ref (He.ga K "Amounts")) = some false := of_decide_eq_true (T.c.x 37 rfl)
theorem f_kit_tuple'Amounts (T : Ctx K mg) : PySem.W.kitOne K (.type "tuple") (.ref (He.ga K "Amounts")) = some false := of_decide_eq_true (T.c.x 38 rfl)
theorem f_kit_int'Amounts (T : Ctx K mg) : PySem.W.kitOne K (.type "int") (.ref (He.ga K "Amounts")) = some false := of_decide_eq_true (T.c.x 39 rfl)
theorem f_kit_Ratio'Amounts (T : Ctx K mg) : PySem.W.kitOne K (.ref (He.ga K "Ratio")) (.ref (He.ga K "Amounts")) = some false := of_decide_eq_true (T.c.x 40 rfl)
theorem f_kit_NoneType'Amounts (T : Ctx K mg) : PySem.W.kitOne K (.type "NoneType") (.ref (He.ga K "Amounts")) = some false := of_decide_eq_true (T.c.x 41 rfl)
theorem f_kit_tuple'tuple (T : Ctx K mg) : PySem.W.kitOne K (.type "tuple") (.type "tuple") = some true := of_decide_eq_true (T.c.x 42 rfl)
theorem f_kit_list'tuple (T : Ctx K mg) : PySem.W.kitOne K (.type "list") (.type "tuple") = some false := of_decide_eq_true (T.c.x 43 rfl)
theorem f_kit_Amounts'tuple (T : Ctx K mg) : PySem.W.kitOne K (.ref (He.ga K "Amounts")) (.type "tuple") = some false := of_decide_eq_true (T.c.x 44 rfl)
theorem f_noat_Amounts'numbers (T : Ctx K mg) : NoAttr K (He.ga K "Amounts") "numbers" := He.noat_ok (T.c.d.fact 34 rfl)
theorem f_free_iter (T : Ctx K mg) : mg "iter" = none := T.m _ _ (He.eqO_ok (T.c.d.fact 35 rfl))
theorem f_sg_Amounts'__iter__ (T : Ctx K mg) : Sg K (He.ga K "Amounts") "__iter__" (He.ma K (He.ga K "Amounts") "__iter__") := ⟨(He.meth_ok (T.c.d.fact 36 rfl)).at_, (He.meth_ok (T.c.d.fact 36 rfl)).fn⟩
theorem f_glo_as_ratio (T : Ctx K mg) : mg "as_ratio" = some (.ref (He.ga K "as_ratio")) := T.m _ _ (He.eqO_ok (T.c.d.fact 37 rfl))
theorem f_keep_as_ratio (T : Ctx K mg) : PySem.W.keepIn K (.ref (He.ga K "as_ratio")) = true := He.keep_ok (T.c.d.fact 38 rfl)
theorem f_glo_is_number (T : Ctx K mg) : mg "is_number" = some (.ref (He.ga K "is_number")) := T.m _ _ (He.eqO_ok (T.c.d.fact 39 rfl))
theorem f_keep_is_number (T : Ctx K mg) : PySem.W.keepIn K (.ref (He.ga K "is_number")) = true := He.keep_ok (T.c.d.fact 40 rfl)
theorem f_glo_BadLength (T : Ctx K mg) : mg "BadLength" = some (.ref (He.ga K "BadLength")) := T.m _ _ (He.eqO_ok (T.c.d.fact 41 rfl))
theorem f_exc_BadLength (T : Ctx K mg) : PySem.W.excIn K (He.ga K "BadLength") He.veBase "ValueError.__new__" = true ∧ PySem.W.keepIn K (.ref (He.ga K "BadLength")) = true ∧ PySem.W.subIn K (.ref (He.ga K "BadLength")) (.type "BaseException") = some true ∧ PySem.W.typeIn K (.ref (He.ga K "BadLength")) = some (.type "type") := He.exc_ok (T.c.d.fact 42 rfl)
theorem f_glo_check_lengths (T : Ctx K mg) : mg "check_lengths" = some (.ref (He.ga K "check_lengths")) := T.m _ _ (He.eqO_ok (T.c.d.fact 43 rfl))
theorem f_keep_check_lengths (T : Ctx K mg) : PySem.W.keepIn K (.ref (He.ga K "check_lengths")) = true := He.keep_ok (T.c.d.fact 44 rfl)
theorem f_glo_Amounts (T : Ctx K mg) : mg "Amounts" = some (.ref (He.ga K "Amounts")) := T.m _ _ (He.eqO_ok (T.c.d.fact 45 rfl))
theorem f_keep_Amounts (T : Ctx K mg) : PySem.W.keepIn K (.ref (He.ga K "Amounts")) = true := He.keep_ok (T.c.d.fact 46 rfl)
theorem f_mkr_Amounts (T : Ctx K mg) : Mk K (He.ga K "Amounts") (He.ma K (He.ga K "Amounts") "__init__") := He.mkr_ok (T.c.d.fact 47 rfl)
theorem f_sta_Amounts'zeros (T : Ctx K mg) : Sta K (He.ga K "Amounts") "zeros" (adSt "Amounts" "zeros" K) := sta_ok (T.c.x 45 rfl)
theorem f_meth_Amounts'dot (T : Ctx K mg) : Meth K (He.ga K "Amounts") "dot" (He.ma K (He.ga K "Amounts") "dot") := He.meth_ok (T.c.d.fact 48 rfl)
theorem f_meth_Amounts'total (T : Ctx K mg) : Meth K (He.ga K "Amounts") "total" (He.ma K (He.ga K "Amounts") "total") := He.meth_ok (T.c.d.fact 49 rfl)
theorem f_glo_BadKind (T : Ctx K mg) : mg "BadKind" = some (.ref (He.ga K "BadKind")) := T.m _ _ (He.eqO_ok (T.c.d.fact 50 rfl))
theorem f_exc_BadKind (T : Ctx K mg) : PySem.W.excIn K (He.ga K "BadKind") He.veBase "ValueError.__new__" = true ∧ PySem.W.keepIn K (.ref (He.ga K "BadKind")) = true ∧ PySem.W.subIn K (.ref (He.ga K "BadKind")) (.type "BaseException") = some true ∧ PySem.W.typeIn K (.ref (He.ga K "BadKind")) = some (.type "type") := He.exc_ok (T.c.d.fact 51 rfl)
theorem f_sf_Amounts (T : Ctx K mg) : PySem.W.selfFirst K (He.ga K "Amounts") = true := T.c.x 46 rfl
theorem f_sg_Amounts'__mul__ (T : Ctx K mg) : Sg K (He.ga K "Amounts") "__mul__" (He.ma K (He.ga K "Amounts") "__mul__") := ⟨(He.meth_ok (T.c.d.fact 52 rfl)).at_, (He.meth_ok (T.c.d.fact 52 rfl)).fn⟩
theorem f_sg_Amounts'__rmul__ (T : Ctx K mg) : Sg K (He.ga K "Amounts") "__rmul__" (He.ma K (He.ga K "Amounts") "__rmul__") := ⟨(He.meth_ok (T.c.d.fact 53 rfl)).at_, (He.meth_ok (T.c.d.fact 53 rfl)).fn⟩
theorem f_ne_Amounts'Ratio (T : Ctx K mg) : He.ga K "Amounts" ≠ He.ga K "Ratio" := of_decide_eq_true (T.c.x 47 rfl)
theorem f_sub_Ratio'Amounts (T : Ctx K mg) : PySem.W.subIn K (.ref (He.ga K "Ratio")) (.ref (He.ga K "Amounts")) = some false := of_decide_eq_true (T.c.x 48 rfl)
theorem f_ne_Ratio'Amounts (T : Ctx K mg) : He.ga K "Ratio" ≠ He.ga K "Amounts" := of_decide_eq_true (T.c.x 49 rfl)
theorem f_sub_Amounts'Ratio (T : Ctx K mg) : PySem.W.subIn K (.ref (He.ga K "Amounts")) (.ref (He.ga K "Ratio")) = some false := of_decide_eq_true (T.c.x 50 rfl)
theorem f_free_NotImplemented (T : Ctx K mg) : mg "NotImplemented" = none := T.m _ _ (He.eqO_ok (T.c.d.fact 54 rfl))
theorem f_sg_Amounts'__add__ (T : Ctx K mg) : Sg K (He.ga K "Amounts") "__add__" (He.ma K (He.ga K "Amounts") "__add__") := ⟨(He.meth_ok (T.c.d.fact 55 rfl)).at_, (He.meth_ok (T.c.d.fact 55 rfl)).fn⟩
theorem f_sg_Amounts'__sub__ (T : Ctx K mg) : Sg K (He.ga K "Amounts") "__sub__" (He.ma K (He.ga K "Amounts") "__sub__") := ⟨(He.meth_ok (T.c.d.fact 56 rfl)).at_, (He.meth_ok (T.c.d.fact 56 rfl)).fn⟩
theorem f_sub_int'Amounts (T : Ctx K mg) : PySem.W.subIn K (.type "int") (.ref (He.ga K "Amounts")) = some false := of_decide_eq_true (T.c.x 51 rfl)
theorem f_sub_Amounts'int (T : Ctx K mg) : PySem.W.subIn K (.ref (He.ga K "Amounts")) (.type "int") = some false := of_decide_eq_true (T.c.x 52 rfl)
theorem f_sg_Amounts'__iadd__ (T : Ctx K mg) : Sg K (He.ga K "Amounts") "__iadd__" (He.ma K (He.ga K "Amounts") "__iadd__") := ⟨(He.meth_ok (T.c.d.fact 57 rfl)).at_, (He.meth_ok (T.c.d.fact 57 rfl)).fn⟩
theorem f_noi_Amounts'sub (T : Ctx K mg) : noiB K (He.ga K "Amounts") "sub" = true := T.c.x 53 rfl
theorem f_noi_Amounts'mul (T : Ctx K mg) : noiB K (He.ga K "Amounts") "mul" = true := T.c.x 54 rfl
theorem f_sg_Amounts'__eq__ (T : Ctx K mg) : Sg K (He.ga K "Amounts") "__eq__" (He.ma K (He.ga K "Amounts") "__eq__") := ⟨(He.meth_ok (T.c.d.fact 58 rfl)).at_, (He.meth_ok (T.c.d.fact 58 rfl)).fn⟩
theorem f_nf_Amounts'list (T : Ctx K mg) : PySem.W.notFirst K (He.ga K "Amounts") (.type "list") = true := T.c.x 55 rfl
theorem f_nf_Amounts'tuple (T : Ctx K mg) : PySem.W.notFirst K (He.ga K "Amounts") (.type "tuple") = true := T.c.x 56 rfl
theorem f_neb_Amounts (T : Ctx K mg) : neB K (He.ga K "Amounts") = true := T.c.x 57 rfl
theorem f_sg_Amounts'__neg__ (T : Ctx K mg) : Sg K (He.ga K "Amounts") "__neg__" (He.ma K (He.ga K "Amounts") "__neg__") := ⟨(He.meth_ok (T.c.d.fact 59 rfl)).at_, (He.meth_ok (T.c.d.fact 59 rfl)).fn⟩
theorem f_sg_Amounts'__len__ (T : Ctx K mg) : Sg K (He.ga K "Amounts") "__len__" (He.ma K (He.ga K "Amounts") "__len__") := ⟨(He.meth_ok (T.c.d.fact 60 rfl)).at_, (He.meth_ok (T.c.d.fact 60 rfl)).fn⟩
theorem f_sg_Amounts'__getitem__ (T : Ctx K mg) : Sg K (He.ga K "Amounts") "__getitem__" (He.ma K (He.ga K "Amounts") "__getitem__") := ⟨(He.meth_ok (T.c.d.fact 61 rfl)).at_, (He.meth_ok (T.c.d.fact 61 rfl)).fn⟩
theorem f_nseq_Amounts (T : Ctx K mg) : PySem.W.noSeq K (He.ga K "Amounts") = true := T.c.x 58 rfl
theorem f_sg_Amounts'__setitem__ (T : Ctx K mg) : Sg K (He.ga K "Amounts") "__setitem__" (He.ma K (He.ga K "Amounts") "__setitem__") := ⟨(He.meth_ok (T.c.d.fact 62 rfl)).at_, (He.meth_ok (T.c.d.fact 62 rfl)).fn⟩
theorem f_glo__law_low (T : Ctx K mg) : mg "_law_low" = some (.ref (He.ga K "_law_low")) := T.m _ _ (He.eqO_ok (T.c.d.fact 63 rfl))
theorem f_keep__law_low (T : Ctx K mg) : PySem.W.keepIn K (.ref (He.ga K "_law_low")) = true := He.keep_ok (T.c.d.fact 64 rfl)
theorem f_glo__law_whole (T : Ctx K mg) : mg "_law_whole" = some (.ref (He.ga K "_law_whole")) := T.m _ _ (He.eqO_ok (T.c.d.fact 65 rfl))
theorem f_keep__law_whole (T : Ctx K mg) : PySem.W.keepIn K (.ref (He.ga K "_law_whole")) = true := He.keep_ok (T.c.d.fact 66 rfl)
theorem f_glo__law_pair (T : Ctx K mg) : mg "_law_pair" = some (.ref (He.ga K "_law_pair")) := T.m _ _ (He.eqO_ok (T.c.d.fact 67 rfl))
theorem f_keep__law_pair (T : Ctx K mg) : PySem.W.keepIn K (.ref (He.ga K "_law_pair")) = true := He.keep_ok (T.c.d.fact 68 rfl)
theorem f_glo__law_add (T : Ctx K mg) : mg "_law_add" = some (.ref (He.ga K "_law_add")) := T.m _ _ (He.eqO_ok (T.c.d.fact 69 rfl))
theorem f_keep__law_add (T : Ctx K mg) : PySem.W.keepIn K (.ref (He.ga K "_law_add")) = true := He.keep_ok (T.c.d.fact 70 rfl)
theorem f_glo__law_times (T : Ctx K mg) : mg "_law_times" = some (.ref (He.ga K "_law_times")) := T.m _ _ (He.eqO_ok (T.c.d.fact 71 rfl))
theorem f_keep__law_times (T : Ctx K mg) : PySem.W.keepIn K (.ref (He.ga K "_law_times")) = true := He.keep_ok (T.c.d.fact 72 rfl)
theorem f_glo__law_minus (T : Ctx K mg) : mg "_law_minus" = some (.ref (He.ga K "_law_minus")) := T.m _ _ (He.eqO_ok (T.c.d.fact 73 rfl))
theorem f_keep__law_minus (T : Ctx K mg) : PySem.W.keepIn K (.ref (He.ga K "_law_minus")) = true := He.keep_ok (T.c.d.fact 74 rfl)
theorem f_glo__law_shows (T : Ctx K mg) : mg "_law_shows" = some (.ref (He.ga K "_law_shows")) := T.m _ _ (He.eqO_ok (T.c.d.fact 75 rfl))
theorem f_keep__law_shows (T : Ctx K mg) : PySem.W.keepIn K (.ref (He.ga K "_law_shows")) = true := He.keep_ok (T.c.d.fact 76 rfl)
theorem f_glo__law_made (T : Ctx K mg) : mg "_law_made" = some (.ref (He.ga K "_law_made")) := T.m _ _ (He.eqO_ok (T.c.d.fact 77 rfl))
theorem f_keep__law_made (T : Ctx K mg) : PySem.W.keepIn K (.ref (He.ga K "_law_made")) = true := He.keep_ok (T.c.d.fact 78 rfl)
theorem f_glo__law_numbers (T : Ctx K mg) : mg "_law_numbers" = some (.ref (He.ga K "_law_numbers")) := T.m _ _ (He.eqO_ok (T.c.d.fact 79 rfl))
theorem f_keep__law_numbers (T : Ctx K mg) : PySem.W.keepIn K (.ref (He.ga K "_law_numbers")) = true := He.keep_ok (T.c.d.fact 80 rfl)
theorem f_glo_NeverIdleError (T : Ctx K mg) : mg "NeverIdleError" = some (.ref (He.ga K "NeverIdleError")) := T.m _ _ (He.eqO_ok (T.c.d.fact 81 rfl))
theorem f_exm_BadLength'BadLength (T : Ctx K mg) : PySem.W.exmOne K (.ref (He.ga K "BadLength")) (.ref (He.ga K "BadLength")) = some true := He.exm_ok (T.c.d.fact 82 rfl)
theorem f_excc_BadLength (T : Ctx K mg) : exccB K (He.ga K "BadLength") = true := T.c.x 59 rfl
theorem f_kit_BadLength'BadKind (T : Ctx K mg) : PySem.W.kitOne K (.ref (He.ga K "BadLength")) (.ref (He.ga K "BadKind")) = some false := of_decide_eq_true (T.c.x 60 rfl)
theorem f_kit_BadLength'NeverIdleError (T : Ctx K mg) : PySem.W.kitOne K (.ref (He.ga K "BadLength")) (.ref (He.ga K "NeverIdleError")) = some true := of_decide_eq_true (T.c.x 61 rfl)
theorem f_glo__law_refused (T : Ctx K mg) : mg "_law_refused" = some (.ref (He.ga K "_law_refused")) := T.m _ _ (He.eqO_ok (T.c.d.fact 83 rfl))
theorem f_keep__law_refused (T : Ctx K mg) : PySem.W.keepIn K (.ref (He.ga K "_law_refused")) = true := He.keep_ok (T.c.d.fact 84 rfl)
theorem f_glo__law_sums (T : Ctx K mg) : mg "_law_sums" = some (.ref (He.ga K "_law_sums")) := T.m _ _ (He.eqO_ok (T.c.d.fact 85 rfl))
theorem f_keep__law_sums (T : Ctx K mg) : PySem.W.keepIn K (.ref (He.ga K "_law_sums")) = true := He.keep_ok (T.c.d.fact 86 rfl)
theorem f_keep_BadKind (T : Ctx K mg) : PySem.W.keepIn K (.ref (He.ga K "BadKind")) = true := He.keep_ok (T.c.d.fact 87 rfl)
theorem f_keep_BadLength (T : Ctx K mg) : PySem.W.keepIn K (.ref (He.ga K "BadLength")) = true := He.keep_ok (T.c.d.fact 88 rfl)
theorem f_glo_BadNumber (T : Ctx K mg) : mg "BadNumber" = some (.ref (He.ga K "BadNumber")) := T.m _ _ (He.eqO_ok (T.c.d.fact 89 rfl))
theorem f_keep_BadNumber (T : Ctx K mg) : PySem.W.keepIn K (.ref (He.ga K "BadNumber")) = true := He.keep_ok (T.c.d.fact 90 rfl)
theorem f_exc_BadNumber (T : Ctx K mg) : PySem.W.excIn K (He.ga K "BadNumber") He.veBase "ValueError.__new__" = true ∧ PySem.W.keepIn K (.ref (He.ga K "BadNumber")) = true ∧ PySem.W.subIn K (.ref (He.ga K "BadNumber")) (.type "BaseException") = some true ∧ PySem.W.typeIn K (.ref (He.ga K "BadNumber")) = some (.type "type") := He.exc_ok (T.c.d.fact 91 rfl)
theorem f_keep_NeverIdleError (T : Ctx K mg) : PySem.W.keepIn K (.ref (He.ga K "NeverIdleError")) = true := He.keep_ok (T.c.d.fact 92 rfl)
theorem f_exc_NeverIdleError (T : Ctx K mg) : PySem.W.excIn K (He.ga K "NeverIdleError") He.veBase "ValueError.__new__" = true ∧ PySem.W.keepIn K (.ref (He.ga K "NeverIdleError")) = true ∧ PySem.W.subIn K (.ref (He.ga K "NeverIdleError")) (.type "BaseException") = some true ∧ PySem.W.typeIn K (.ref (He.ga K "NeverIdleError")) = some (.type "type") := He.exc_ok (T.c.d.fact 93 rfl)
theorem f_glo_ZeroBottom (T : Ctx K mg) : mg "ZeroBottom" = some (.ref (He.ga K "ZeroBottom")) := T.m _ _ (He.eqO_ok (T.c.d.fact 94 rfl))
theorem f_keep_ZeroBottom (T : Ctx K mg) : PySem.W.keepIn K (.ref (He.ga K "ZeroBottom")) = true := He.keep_ok (T.c.d.fact 95 rfl)
theorem f_exc_ZeroBottom (T : Ctx K mg) : PySem.W.excIn K (He.ga K "ZeroBottom") He.veBase "ValueError.__new__" = true ∧ PySem.W.keepIn K (.ref (He.ga K "ZeroBottom")) = true ∧ PySem.W.subIn K (.ref (He.ga K "ZeroBottom")) (.type "BaseException") = some true ∧ PySem.W.typeIn K (.ref (He.ga K "ZeroBottom")) = some (.type "type") := He.exc_ok (T.c.d.fact 96 rfl)
theorem f_glo__law_mixed (T : Ctx K mg) : mg "_law_mixed" = some (.ref (He.ga K "_law_mixed")) := T.m _ _ (He.eqO_ok (T.c.d.fact 97 rfl))
theorem f_keep__law_mixed (T : Ctx K mg) : PySem.W.keepIn K (.ref (He.ga K "_law_mixed")) = true := He.keep_ok (T.c.d.fact 98 rfl)
theorem f_glo__wall (T : Ctx K mg) : mg "_wall" = some (.ref (He.ga K "_wall")) := T.m _ _ (He.eqO_ok (T.c.d.fact 99 rfl))
theorem f_keep__wall (T : Ctx K mg) : PySem.W.keepIn K (.ref (He.ga K "_wall")) = true := He.keep_ok (T.c.d.fact 100 rfl)
theorem f_glo_read_digits (T : Ctx K mg) : mg "read_digits" = some (.ref (He.ga K "read_digits")) := T.m _ _ (He.eqO_ok (T.c.d.fact 101 rfl))
theorem f_keep_read_digits (T : Ctx K mg) : PySem.W.keepIn K (.ref (He.ga K "read_digits")) = true := He.keep_ok (T.c.d.fact 102 rfl)
theorem f_glo_law (T : Ctx K mg) : mg "law" = some (.ref (He.ga K "law")) := T.m _ _ (He.eqO_ok (T.c.d.fact 103 rfl))
theorem F_is_number (T : Ctx K mg) : ∃ fd, FunD K "is_number" "is_number" (defArgs s_is_number) (defBody s_is_number) (defScope s_is_number) (d_is_number.dvs K) (d_is_number.kws K) (He.fAd K d_is_number.at_) fd := T.c.d.def_ 0 rfl
theorem F_as_ratio (T : Ctx K mg) : ∃ fd, FunD K "as_ratio" "as_ratio" (defArgs s_as_ratio) (defBody s_as_ratio) (defScope s_as_ratio) (d_as_ratio.dvs K) (d_as_ratio.kws K) (He.fAd K d_as_ratio.at_) fd := T.c.d.def_ 1 rfl
theorem F_Ratio___init__ (T : Ctx K mg) : ∃ fd, FunD K "__init__" "Ratio.__init__" (defArgs s_Ratio___init__) (defBody s_Ratio___init__) (defScope s_Ratio___init__) (d_Ratio___init__.dvs K) (d_Ratio___init__.kws K) (He.fAd K d_Ratio___init__.at_) fd := T.c.d.def_ 2 rfl
theorem F_Ratio___add__ (T : Ctx K mg) : ∃ fd, FunD K "__add__" "Ratio.__add__" (defArgs s_Ratio___add__) (defBody s_Ratio___add__) (defScope s_Ratio___add__) (d_Ratio___add__.dvs K) (d_Ratio___add__.kws K) (He.fAd K d_Ratio___add__.at_) fd := T.c.d.def_ 3 rfl
theorem F_Ratio___radd__ (T : Ctx K mg) : ∃ fd, FunD K "__radd__" "Ratio.__radd__" (defArgs s_Ratio___radd__) (defBody s_Ratio___radd__) (defScope s_Ratio___radd__) (d_Ratio___radd__.dvs K) (d_Ratio___radd__.kws K) (He.fAd K d_Ratio___radd__.at_) fd := T.c.d.def_ 4 rfl
theorem F_Ratio___sub__ (T : Ctx K mg) : ∃ fd, FunD K "__sub__" "Ratio.__sub__" (defArgs s_Ratio___sub__) (defBody s_Ratio___sub__) (defScope s_Ratio___sub__) (d_Ratio___sub__.dvs K) (d_Ratio___sub__.kws K) (He.fAd K d_Ratio___sub__.at_) fd := T.c.d.def_ 5 rfl
theorem F_Ratio___rsub__ (T : Ctx K mg) : ∃ fd, FunD K "__rsub__" "Ratio.__rsub__" (defArgs s_Ratio___rsub__) (defBody s_Ratio___rsub__) (defScope s_Ratio___rsub__) (d_Ratio___rsub__.dvs K) (d_Ratio___rsub__.kws K) (He.fAd K d_Ratio___rsub__.at_) fd := T.c.d.def_ 6 rfl
theorem F_Ratio___mul__ (T : Ctx K mg) : ∃ fd, FunD K "__mul__" "Ratio.__mul__" (defArgs s_Ratio___mul__) (defBody s_Ratio___mul__) (defScope s_Ratio___mul__) (d_Ratio___mul__.dvs K) (d_Ratio___mul__.kws K) (He.fAd K d_Ratio___mul__.at_) fd := T.c.d.def_ 7 rfl
theorem F_Ratio___rmul__ (T : Ctx K mg) : ∃ fd, FunD K "__rmul__" "Ratio.__rmul__" (defArgs s_Ratio___rmul__) (defBody s_Ratio___rmul__) (defScope s_Ratio___rmul__) (d_Ratio___rmul__.dvs K) (d_Ratio___rmul__.kws K) (He.fAd K d_Ratio___rmul__.at_) fd := T.c.d.def_ 8 rfl
theorem F_Ratio___neg__ (T : Ctx K mg) : ∃ fd, FunD K "__neg__" "Ratio.__neg__" (defArgs s_Ratio___neg__) (defBody s_Ratio___neg__) (defScope s_Ratio___neg__) (d_Ratio___neg__.dvs K) (d_Ratio___neg__.kws K) (He.fAd K d_Ratio___neg__.at_) fd := T.c.d.def_ 9 rfl
theorem F_Ratio___abs__ (T : Ctx K mg) : ∃ fd, FunD K "__abs__" "Ratio.__abs__" (defArgs s_Ratio___abs__) (defBody s_Ratio___abs__) (defScope s_Ratio___abs__) (d_Ratio___abs__.dvs K) (d_Ratio___abs__.kws K) (He.fAd K d_Ratio___abs__.at_) fd := T.c.d.def_ 10 rfl
theorem F_Ratio___bool__ (T : Ctx K mg) : ∃ fd, FunD K "__bool__" "Ratio.__bool__" (defArgs s_Ratio___bool__) (defBody s_Ratio___bool__) (defScope s_Ratio___bool__) (d_Ratio___bool__.dvs K) (d_Ratio___bool__.kws K) (He.fAd K d_Ratio___bool__.at_) fd := T.c.d.def_ 11 rfl
theorem F_Ratio___eq__ (T : Ctx K mg) : ∃ fd, FunD K "__eq__" "Ratio.__eq__" (defArgs s_Ratio___eq__) (defBody s_Ratio___eq__) (defScope s_Ratio___eq__) (d_Ratio___eq__.dvs K) (d_Ratio___eq__.kws K) (He.fAd K d_Ratio___eq__.at_) fd := T.c.d.def_ 12 rfl
theorem F_Ratio___lt__ (T : Ctx K mg) : ∃ fd, FunD K "__lt__" "Ratio.__lt__" (defArgs s_Ratio___lt__) (defBody s_Ratio___lt__) (defScope s_Ratio___lt__) (d_Ratio___lt__.dvs K) (d_Ratio___lt__.kws K) (He.fAd K d_Ratio___lt__.at_) fd := T.c.d.def_ 13 rfl
theorem F_Ratio___le__ (T : Ctx K mg) : ∃ fd, FunD K "__le__" "Ratio.__le__" (defArgs s_Ratio___le__) (defBody s_Ratio___le__) (defScope s_Ratio___le__) (d_Ratio___le__.dvs K) (d_Ratio___le__.kws K) (He.fAd K d_Ratio___le__.at_) fd := T.c.d.def_ 14 rfl
theorem F_Ratio___gt__ (T : Ctx K mg) : ∃ fd, FunD K "__gt__" "Ratio.__gt__" (defArgs s_Ratio___gt__) (defBody s_Ratio___gt__) (defScope s_Ratio___gt__) (d_Ratio___gt__.dvs K) (d_Ratio___gt__.kws K) (He.fAd K d_Ratio___gt__.at_) fd := T.c.d.def_ 15 rfl
theorem F_Ratio___ge__ (T : Ctx K mg) : ∃ fd, FunD K "__ge__" "Ratio.__ge__" (defArgs s_Ratio___ge__) (defBody s_Ratio___ge__) (defScope s_Ratio___ge__) (d_Ratio___ge__.dvs K) (d_Ratio___ge__.kws K) (He.fAd K d_Ratio___ge__.at_) fd := T.c.d.def_ 16 rfl
theorem F_check_lengths (T : Ctx K mg) : ∃ fd, FunD K "check_lengths" "check_lengths" (defArgs s_check_lengths) (defBody s_check_lengths) (defScope s_check_lengths) (d_check_lengths.dvs K) (d_check_lengths.kws K) (He.fAd K d_check_lengths.at_) fd := T.c.d.def_ 17 rfl
theorem F_Amounts___init__ (T : Ctx K mg) : ∃ fd, FunD K "__init__" "Amounts.__init__" (defArgs s_Amounts___init__) (defBody s_Amounts___init__) (defScope s_Amounts___init__) (d_Amounts___init__.dvs K) (d_Amounts___init__.kws K) (He.fAd K d_Amounts___init__.at_) fd := T.c.d.def_ 18 rfl
theorem F_Amounts_dot (T : Ctx K mg) : ∃ fd, FunD K "dot" "Amounts.dot" (defArgs s_Amounts_dot) (defBody s_Amounts_dot) (defScope s_Amounts_dot) (d_Amounts_dot.dvs K) (d_Amounts_dot.kws K) (He.fAd K d_Amounts_dot.at_) fd := T.c.d.def_ 19 rfl
theorem F_Amounts_total (T : Ctx K mg) : ∃ fd, FunD K "total" "Amounts.total" (defArgs s_Amounts_total) (defBody s_Amounts_total) (defScope s_Amounts_total) (d_Amounts_total.dvs K) (d_Amounts_total.kws K) (He.fAd K d_Amounts_total.at_) fd := T.c.d.def_ 20 rfl
theorem F_Amounts___len__ (T : Ctx K mg) : ∃ fd, FunD K "__len__" "Amounts.__len__" (defArgs s_Amounts___len__) (defBody s_Amounts___len__) (defScope s_Amounts___len__) (d_Amounts___len__.dvs K) (d_Amounts___len__.kws K) (He.fAd K d_Amounts___len__.at_) fd := T.c.d.def_ 21 rfl
theorem F_Amounts___iter__ (T : Ctx K mg) : ∃ fd, FunD K "__iter__" "Amounts.__iter__" (defArgs s_Amounts___iter__) (defBody s_Amounts___iter__) (defScope s_Amounts___iter__) (d_Amounts___iter__.dvs K) (d_Amounts___iter__.kws K) (He.fAd K d_Amounts___iter__.at_) fd := T.c.d.def_ 22 rfl
theorem F_Amounts___getitem__ (T : Ctx K mg) : ∃ fd, FunD K "__getitem__" "Amounts.__getitem__" (defArgs s_Amounts___getitem__) (defBody s_Amounts___getitem__) (defScope s_Amounts___getitem__) (d_Amounts___getitem__.dvs K) (d_Amounts___getitem__.kws K) (He.fAd K d_Amounts___getitem__.at_) fd := T.c.d.def_ 23 rfl
theorem F_Amounts___setitem__ (T : Ctx K mg) : ∃ fd, FunD K "__setitem__" "Amounts.__setitem__" (defArgs s_Amounts___setitem__) (defBody s_Amounts___setitem__) (defScope s_Amounts___setitem__) (d_Amounts___setitem__.dvs K) (d_Amounts___setitem__.kws K) (He.fAd K d_Amounts___setitem__.at_) fd := T.c.d.def_ 24 rfl
theorem F_Amounts___add__ (T : Ctx K mg) : ∃ fd, FunD K "__add__" "Amounts.__add__" (defArgs s_Amounts___add__) (defBody s_Amounts___add__) (defScope s_Amounts___add__) (d_Amounts___add__.dvs K) (d_Amounts___add__.kws K) (He.fAd K d_Amounts___add__.at_) fd := T.c.d.def_ 25 rfl
theorem F_Amounts___iadd__ (T : Ctx K mg) : ∃ fd, FunD K "__iadd__" "Amounts.__iadd__" (defArgs s_Amounts___iadd__) (defBody s_Amounts___iadd__) (defScope s_Amounts___iadd__) (d_Amounts___iadd__.dvs K) (d_Amounts___iadd__.kws K) (He.fAd K d_Amounts___iadd__.at_) fd := T.c.d.def_ 26 rfl
theorem F_Amounts___sub__ (T : Ctx K mg) : ∃ fd, FunD K "__sub__" "Amounts.__sub__" (defArgs s_Amounts___sub__) (defBody s_Amounts___sub__) (defScope s_Amounts___sub__) (d_Amounts___sub__.dvs K) (d_Amounts___sub__.kws K) (He.fAd K d_Amounts___sub__.at_) fd := T.c.d.def_ 27 rfl
theorem F_Amounts___mul__ (T : Ctx K mg) : ∃ fd, FunD K "__mul__" "Amounts.__mul__" (defArgs s_Amounts___mul__) (defBody s_Amounts___mul__) (defScope s_Amounts___mul__) (d_Amounts___mul__.dvs K) (d_Amounts___mul__.kws K) (He.fAd K d_Amounts___mul__.at_) fd := T.c.d.def_ 28 rfl
theorem F_Amounts___rmul__ (T : Ctx K mg) : ∃ fd, FunD K "__rmul__" "Amounts.__rmul__" (defArgs s_Amounts___rmul__) (defBody s_Amounts___rmul__) (defScope s_Amounts___rmul__) (d_Amounts___rmul__.dvs K) (d_Amounts___rmul__.kws K) (He.fAd K d_Amounts___rmul__.at_) fd := T.c.d.def_ 29 rfl
theorem F_Amounts___neg__ (T : Ctx K mg) : ∃ fd, FunD K "__neg__" "Amounts.__neg__" (defArgs s_Amounts___neg__) (defBody s_Amounts___neg__) (defScope s_Amounts___neg__) (d_Amounts___neg__.dvs K) (d_Amounts___neg__.kws K) (He.fAd K d_Amounts___neg__.at_) fd := T.c.d.def_ 30 rfl
theorem F_Amounts___eq__ (T : Ctx K mg) : ∃ fd, FunD K "__eq__" "Amounts.__eq__" (defArgs s_Amounts___eq__) (defBody s_Amounts___eq__) (defScope s_Amounts___eq__) (d_Amounts___eq__.dvs K) (d_Amounts___eq__.kws K) (He.fAd K d_Amounts___eq__.at_) fd := T.c.d.def_ 31 rfl
theorem F__law_mixed (T : Ctx K mg) : ∃ fd, FunD K "_law_mixed" "_law_mixed" (defArgs s__law_mixed) (defBody s__law_mixed) (defScope s__law_mixed) (d__law_mixed.dvs K) (d__law_mixed.kws K) (He.fAd K d__law_mixed.at_) fd := T.c.d.def_ 32 rfl
theorem F__law_draw (T : Ctx K mg) : ∃ fd, FunD K "_law_draw" "_law_draw" (defArgs s__law_draw) (defBody s__law_draw) (defScope s__law_draw) (d__law_draw.dvs K) (d__law_draw.kws K) (He.fAd K d__law_draw.at_) fd := T.c.d.def_ 33 rfl
theorem F__law_low (T : Ctx K mg) : ∃ fd, FunD K "_law_low" "_law_low" (defArgs s__law_low) (defBody s__law_low) (defScope s__law_low) (d__law_low.dvs K) (d__law_low.kws K) (He.fAd K d__law_low.at_) fd := T.c.d.def_ 34 rfl
theorem F__law_whole (T : Ctx K mg) : ∃ fd, FunD K "_law_whole" "_law_whole" (defArgs s__law_whole) (defBody s__law_whole) (defScope s__law_whole) (d__law_whole.dvs K) (d__law_whole.kws K) (He.fAd K d__law_whole.at_) fd := T.c.d.def_ 35 rfl
theorem F__law_pair (T : Ctx K mg) : ∃ fd, FunD K "_law_pair" "_law_pair" (defArgs s__law_pair) (defBody s__law_pair) (defScope s__law_pair) (d__law_pair.dvs K) (d__law_pair.kws K) (He.fAd K d__law_pair.at_) fd := T.c.d.def_ 36 rfl
theorem F__law_add (T : Ctx K mg) : ∃ fd, FunD K "_law_add" "_law_add" (defArgs s__law_add) (defBody s__law_add) (defScope s__law_add) (d__law_add.dvs K) (d__law_add.kws K) (He.fAd K d__law_add.at_) fd := T.c.d.def_ 37 rfl
theorem F__law_times (T : Ctx K mg) : ∃ fd, FunD K "_law_times" "_law_times" (defArgs s__law_times) (defBody s__law_times) (defScope s__law_times) (d__law_times.dvs K) (d__law_times.kws K) (He.fAd K d__law_times.at_) fd := T.c.d.def_ 38 rfl
theorem F__law_minus (T : Ctx K mg) : ∃ fd, FunD K "_law_minus" "_law_minus" (defArgs s__law_minus) (defBody s__law_minus) (defScope s__law_minus) (d__law_minus.dvs K) (d__law_minus.kws K) (He.fAd K d__law_minus.at_) fd := T.c.d.def_ 39 rfl
theorem F__law_shows (T : Ctx K mg) : ∃ fd, FunD K "_law_shows" "_law_shows" (defArgs s__law_shows) (defBody s__law_shows) (defScope s__law_shows) (d__law_shows.dvs K) (d__law_shows.kws K) (He.fAd K d__law_shows.at_) fd := T.c.d.def_ 40 rfl
theorem F__law_made (T : Ctx K mg) : ∃ fd, FunD K "_law_made" "_law_made" (defArgs s__law_made) (defBody s__law_made) (defScope s__law_made) (d__law_made.dvs K) (d__law_made.kws K) (He.fAd K d__law_made.at_) fd := T.c.d.def_ 41 rfl
theorem F__law_numbers (T : Ctx K mg) : ∃ fd, FunD K "_law_numbers" "_law_numbers" (defArgs s__law_numbers) (defBody s__law_numbers) (defScope s__law_numbers) (d__law_numbers.dvs K) (d__law_numbers.kws K) (He.fAd K d__law_numbers.at_) fd := T.c.d.def_ 42 rfl
theorem F__law_refused (T : Ctx K mg) : ∃ fd, FunD K "_law_refused" "_law_refused" (defArgs s__law_refused) (defBody s__law_refused) (defScope s__law_refused) (d__law_refused.dvs K) (d__law_refused.kws K) (He.fAd K d__law_refused.at_) fd := T.c.d.def_ 43 rfl
theorem F__law_sums (T : Ctx K mg) : ∃ fd, FunD K "_law_sums" "_law_sums" (defArgs s__law_sums) (defBody s__law_sums) (defScope s__law_sums) (d__law_sums.dvs K) (d__law_sums.kws K) (He.fAd K d__law_sums.at_) fd := T.c.d.def_ 44 rfl
theorem F_law (T : Ctx K mg) : ∃ fd, FunD K "law" "law" (defArgs s_law) (defBody s_law) (defScope s_law) (d_law.dvs K) (d_law.kws K) (He.fAd K d_law.at_) fd := T.c.d.def_ 45 rfl
theorem F_Amounts_zeros (T : Ctx K mg) : ∃ fd, FunD K "zeros" "Amounts.zeros" (defArgs s_Amounts_zeros) (defBody s_Amounts_zeros) (defScope s_Amounts_zeros) (d_Amounts_zeros.dvs K) (d_Amounts_zeros.kws K) (x_Amounts_zeros.ad K) fd := T.c.def_ 0 (x := x_Amounts_zeros) rfl (T.c.x 62 rfl)
end
def loose : List Str := ["_wall", "NeverIdleError", "BadNumber", "ZeroBottom", "BadLength", "BadKind", "FIGURES", "is_number", "as_ratio", "read_digits", "Ratio", "check_lengths", "Amounts", "_law_mixed", "_law_draw", "_law_low", "_law_whole", "_law_pair", "_law_add", "_law_times", "_law_minus", "_law_shows", "_law_made", "_law_numbers", "_law_refused", "_law_sums"]
abbrev R : PySem.W.OpenRow := PySem.W.OpenLaw.row PySem.Challenge.rw_neveridle_k06_amounts_arithmetic
def AS : List Addr := [3, 6, 4, 49, 59, 72, 84, 96, 108, 117, 124, 131, 306, 317, 419, 430, 437, 444, 451, 458, 465, 472, 479, 484, 489, 496, 503, 508, 513, 0, 48, 58, 71, 83, 95, 107, 116, 123, 130, 305, 316, 418, 429, 436, 443, 450, 457, 464, 471, 478, 483, 488, 495, 502, 507, 512, 43, 44, 45, 46, 47, 57, 60, 70, 82, 94, 106, 111, 112, 113, 114, 115, 118, 119, 120, 121, 122, 125, 126, 127, 128, 129, 146, 155, 163, 170, 177, 184, 191, 198, 205, 212, 219, 226, 233, 240, 247, 254, 261, 268, 275, 282, 289, 296, 303, 304, 307, 308, 311, 312, 313, 314, 315, 329, 338, 344, 351, 358, 365, 372, 379, 384, 389, 394, 399, 404, 409, 416, 417, 420, 421, 424, 425, 426, 427, 428, 431, 432, 433, 434, 435, 438, 439, 440, 441, 442, 445, 446, 447, 448, 449, 452, 453, 454, 455, 456, 459, 460, 461, 462, 463, 466, 467, 468, 469, 470, 473, 474, 475, 476, 477, 480, 481, 482, 485, 486, 487, 490, 491, 492, 493, 494, 497, 498, 499, 500, 501, 504, 505, 506, 509, 510, 511, 145, 139, 153, 154, 162, 169, 176, 183, 190, 197, 204, 211, 218, 225, 232, 239, 246, 253, 260, 267, 274, 281, 288, 295, 302, 328, 336, 337, 343, 350, 357, 364, 371, 378, 383, 388, 393, 398, 403, 408, 415, 140, 141, 142, 143, 144, 152, 156, 157, 158, 159, 160, 161, 164, 165, 166, 167, 168, 171, 172, 173, 174, 175, 178, 179, 180, 181, 182, 185, 186, 187, 188, 189, 192, 193, 194, 195, 196, 199, 200, 201, 202, 203, 206, 207, 208, 209, 210, 213, 214, 215, 216, 217, 220, 221, 222, 223, 224, 227, 228, 229, 230, 231, 234, 235, 236, 237, 238, 241, 242, 243, 244, 245, 248, 249, 250, 251, 252, 255, 256, 257, 258, 259, 262, 263, 264, 265, 266, 269, 270, 271, 272, 273, 276, 277, 278, 279, 280, 283, 284, 285, 286, 287, 290, 291, 292, 293, 294, 297, 298, 299, 300, 301, 325, 326, 327, 335, 339, 340, 341, 342, 345, 346, 347, 348, 349, 352, 353, 354, 355, 356, 359, 360, 361, 362, 363, 366, 367, 368, 369, 370, 373, 374, 375, 376, 377, 380, 381, 382, 385, 386, 387, 390, 391, 392, 395, 396, 397, 400, 401, 402, 405, 406, 407, 410, 411, 412, 413, 414, 147, 148, 149, 150, 151, 330, 331, 332, 333, 334, 2]
abbrev hk : PySem.W.Hook := hookS AS fa fn ex fs
def ob (s : PySem.W.SharedT) : AlS := obS AS fa fn ex fs (HandSHeadRun.getT s)
theorem ob_eq (s : PySem.W.SharedT) : ob s = hk.obs s.abs := obS_eq (HandSHeadRun.getT_eq s)
end Pr
/-! TAC: one step of the walk, by the head of the syntax. -/
section
open PySem PySem.Spec PyProof.Rows L2 Ni
local macro_rules | `(tactic| exists "ni var") => `(tactic| (repeat (first | (with_reducible apply Var.here) | (with_reducible apply Var.next))))
local macro_rules | `(tactic| exists "ni put") => `(tactic| (repeat (first | (with_reducible apply Put.here) | (with_reducible apply Put.next))))
local macro_rules | `(tactic| exists "ni bd") => `(tactic| (repeat (first | assumption | (with_reducible apply Bd.add) | (with_reducible apply Bd.sub) | (with_reducible apply Bd.mul) | (with_reducible apply Bd.neg))))
local macro_rules | `(tactic| exists "ni room") => `(tactic| exact Room.mono (by assumption) (by decide))
local macro_rules | `(tactic| exists "ni gs") => `(tactic| first
  | assumption
  | exact Names1.gs (by assumption)
  | exact NamesB.glb (by assumption))
local macro_rules | `(tactic| exists "ni expr") => `(tactic| first
  | ((with_reducible refine' we_var (by assumption) ?niv ?_); (case niv => exists "ni var"))
  | ((with_reducible refine' we_varB (by assumption) ?niv ?nib ?_); (case niv => exists "ni var"); (case nib => decide +kernel))
  | (with_reducible refine' we_int ?_)
  | (with_reducible refine' we_bl ?_)
  | (with_reducible refine' we_non ?_)
  | (with_reducible refine' we_str ?_)
  | (with_reducible refine' we_bin ?_)
  | (with_reducible refine' we_not ?_)
  | ((with_reducible refine' we_un ?_ ?ni1); rotate_left; (case ni1 => (intro z; cases z)))
  | ((with_reducible refine' we_cmp ?ni1 ?_); (case ni1 => with_unfolding_all rfl))
  | (with_reducible refine' we_and1 ?_)
  | (with_reducible refine' we_or1 ?_)
  | (with_reducible refine' we_and ?_)
  | (with_reducible refine' we_or ?_)
  | (with_reducible refine' we_ite ?_)
  | (with_reducible refine' we_lst ?_)
  | ((with_reducible refine' we_fld ?ni1 ?_); (case ni1 => with_unfolding_all rfl))
  | ((with_reducible refine' wa_cons ?ni1 ?_); (case ni1 => with_unfolding_all rfl))
  | (with_reducible refine' wa_nil ?_))
local macro_rules | `(tactic| exists "ni test") => `(tactic| first
  | ((with_reducible refine' wt_cmp ?ni1 ?_); (case ni1 => with_unfolding_all rfl))
  | (with_reducible refine' wt_not ?_)
  | (with_reducible refine' wt_ww (ww_and1 ?_))
  | (with_reducible refine' wt_ww (ww_or1 ?_))
  | (with_reducible refine' wt_ww (ww_and ?_))
  | (with_reducible refine' wt_ww (ww_or ?_))
  | (with_reducible refine' ww_and1 ?_)
  | (with_reducible refine' ww_or1 ?_)
  | (with_reducible refine' ww_and ?_)
  | (with_reducible refine' ww_or ?_)
  | ((with_reducible refine' wt_val ?ni1 ?_); (case ni1 => with_unfolding_all (intro _; rfl))))
local macro_rules | `(tactic| exists "ni stmt") => `(tactic| first
  | (with_reducible refine' wb_cons ?_)
  | (with_reducible refine' wb_nil ?_)
  | (with_reducible refine' ws_if ?_)
  | (with_reducible refine' ws_ret ?_)
  | (with_reducible refine' ws_retN ?_)
  | (with_reducible refine' ws_pass ?_)
  | (with_reducible refine' ws_continue ?_)
  | (with_reducible refine' ws_break ?_)
  | (with_reducible refine' ws_doc ?_)
  | ((with_reducible refine' ws_expr ?ni1 ?_); (case ni1 => with_unfolding_all rfl))
  | ((with_reducible refine' ws_fld ?ni1 ?_); (case ni1 => with_unfolding_all rfl))
  | ((with_reducible refine' ws_asg ?ni1 ?ni2 ?ni3 ?_); (case ni1 => with_unfolding_all rfl); (case ni2 => with_unfolding_all rfl); (case ni3 => with_unfolding_all rfl))
  | ((with_reducible refine' wg_var (by assumption) ?nip ?_); (case nip => exists "ni put"))
  | ((with_reducible refine' wg_varB (by assumption) ?nip ?nib ?_); (case nip => exists "ni put"); (case nib => decide +kernel)))
local macro_rules | `(tactic| exists "ni val") => `(tactic| first
  | (with_reducible refine' wo_add ?_)
  | (with_reducible refine' wo_sub ?_)
  | (with_reducible refine' wo_mod (by first | assumption | omega | decide) ?_)
  | (with_reducible refine' wo_lt ?_)
  | (with_reducible refine' wo_le ?_)
  | (with_reducible refine' wo_gt ?_)
  | (with_reducible refine' wo_ge ?_)
  | (with_reducible refine' wo_eqI ?_)
  | (with_reducible refine' wo_neI ?_)
  | (with_reducible refine' wo_isN ?_)
  | (with_reducible refine' wo_notN ?_)
  | (with_reducible refine' wu_negI ?_)
  | (with_reducible refine' wcb_gcd ?_)
  | (with_reducible refine' wcb_abs ?_)
  | (with_reducible refine' wcb_intI ?_)
  | ((with_reducible refine' wo_pow ?ni1 ?_); (case ni1 => decide))
  | ((with_reducible refine' wo_mulR ?ni1 ?_); (case ni1 => (constructor <;> omega)))
  | ((with_reducible refine' wo_mulL ?ni1 ?_); (case ni1 => (constructor <;> omega)))
  | ((with_reducible refine' wo_divS ?ni1 ?_); (case ni1 => (constructor <;> omega)))
  | ((with_reducible refine' wo_mul (bd_mulW ?ni1 ?ni2 ?ni3) ?_); (case ni1 => exists "ni bd"); (case ni2 => exists "ni bd"); (case ni3 => first | decide | omega)))
local macro_rules | `(tactic| exists "ni bool") => `(tactic| first
  | (with_reducible refine' ⟨_, rfl, ?_⟩)
  | (with_reducible refine' if_t ?_)
  | (with_reducible refine' if_f ?_)
  | (with_reducible refine' if_nt ?_)
  | (with_reducible refine' if_nf ?_))
local macro_rules | `(tactic| exists "ni heap") => `(tactic| first
  | assumption
  | exact upd_same
  | ((refine' Eq.trans (upd_ne ?ni1) ?ni2); (case ni1 => assumption); (case ni2 => exists "ni heap"))
  | ((refine' at_mono ?ni1 ?ni2); (case ni1 => assumption); (case ni2 => exists "ni heap"))
  | ((refine' at_mono (same_new ?ni1) ?ni2); (case ni1 => assumption); (case ni2 => exists "ni heap")))
local macro_rules | `(tactic| exists "ni seq") => `(tactic| first
  | ((with_reducible refine' we_ix ?ni1 ?_); (case ni1 => (intro _ _; rfl)))
  | ((with_reducible refine' wg_sub ?ni1 ?_); (case ni1 => with_unfolding_all (intro _; rfl)))
  | ((with_reducible refine' ix_lh ?ni1 ?ni2 ?_); (case ni1 => exists "ni heap"); (case ni2 => rfl))
  | ((with_reducible refine' ix_th ?ni1 ?ni2 ?_); (case ni1 => exists "ni heap"); (case ni2 => rfl))
  | ((with_reducible refine' st_l ?ni1 ?ni2 ?_); (case ni1 => exists "ni heap"); (case ni2 => rfl))
  | (with_reducible refine' we_tup ?_)
  | ((with_reducible refine' wcb_lenL (.of ?ni1) ?_); (case ni1 => exists "ni heap"))
  | ((with_reducible refine' And.intro ?ni1 ?_); (case ni1 => exact size_ok (Nat.le_of_ble_eq_true rfl))))
local macro_rules | `(tactic| exists "ni own") => `(tactic| fail)
local macro_rules | `(tactic| exists "ni call") => `(tactic| fail)
local macro_rules | `(tactic| exists "ni") => `(tactic| first
  | exists "ni stmt" | exists "ni expr" | exists "ni val" | exists "ni bool" | exists "ni seq" | exists "ni own" | exists "ni call" | exists "ni test")
local macro_rules | `(tactic| exists "ni go") => `(tactic| repeat (exists "ni"))

open Pr in
local macro_rules | `(tactic| exists "ni call") => `(tactic| first
  | ((with_reducible refine' we_callS (x := "Amounts") ?ni0 ?ni1 ?ni2 ?ni3 ?ni4 ?ni5 ?_); (case ni0 => exists "ni gs"); (case ni1 => decide +kernel); (case ni2 => exact f_glo_Amounts (by assumption)); (case ni3 => exact f_keep_Amounts (by assumption)); (case ni4 => with_unfolding_all rfl); (case ni5 => with_unfolding_all rfl))
  | ((with_reducible refine' we_callS0 (x := "Amounts") ?ni0 ?ni1 ?ni2 ?ni3 ?_); (case ni0 => exists "ni gs"); (case ni1 => decide +kernel); (case ni2 => exact f_glo_Amounts (by assumption)); (case ni3 => exact f_keep_Amounts (by assumption)))
  | ((with_reducible refine' we_gref (x := "Amounts") ?ni0 ?ni1 ?ni2 ?_); (case ni0 => exists "ni gs"); (case ni1 => decide +kernel); (case ni2 => exact f_glo_Amounts (by assumption)))
  | ((with_reducible refine' we_callS (x := "BadKind") ?ni0 ?ni1 ?ni2 ?ni3 ?ni4 ?ni5 ?_); (case ni0 => exists "ni gs"); (case ni1 => decide +kernel); (case ni2 => exact f_glo_BadKind (by assumption)); (case ni3 => exact f_keep_BadKind (by assumption)); (case ni4 => with_unfolding_all rfl); (case ni5 => with_unfolding_all rfl))
  | ((with_reducible refine' we_callS0 (x := "BadKind") ?ni0 ?ni1 ?ni2 ?ni3 ?_); (case ni0 => exists "ni gs"); (case ni1 => decide +kernel); (case ni2 => exact f_glo_BadKind (by assumption)); (case ni3 => exact f_keep_BadKind (by assumption)))
  | ((with_reducible refine' we_gref (x := "BadKind") ?ni0 ?ni1 ?ni2 ?_); (case ni0 => exists "ni gs"); (case ni1 => decide +kernel); (case ni2 => exact f_glo_BadKind (by assumption)))
  | ((with_reducible refine' ws_raiseS (x := "BadKind") ?ni0 ?ni1 ?ni2 ?ni3 ?ni4 ?_); (case ni0 => assumption); (case ni1 => assumption); (case ni2 => decide +kernel); (case ni3 => exact f_glo_BadKind (by assumption)); (case ni4 => exact f_exc_BadKind (by assumption)))
  | ((with_reducible refine' we_callS (x := "BadLength") ?ni0 ?ni1 ?ni2 ?ni3 ?ni4 ?ni5 ?_); (case ni0 => exists "ni gs"); (case ni1 => decide +kernel); (case ni2 => exact f_glo_BadLength (by assumption)); (case ni3 => exact f_keep_BadLength (by assumption)); (case ni4 => with_unfolding_all rfl); (case ni5 => with_unfolding_all rfl))
  | ((with_reducible refine' we_callS0 (x := "BadLength") ?ni0 ?ni1 ?ni2 ?ni3 ?_); (case ni0 => exists "ni gs"); (case ni1 => decide +kernel); (case ni2 => exact f_glo_BadLength (by assumption)); (case ni3 => exact f_keep_BadLength (by assumption)))
  | ((with_reducible refine' we_gref (x := "BadLength") ?ni0 ?ni1 ?ni2 ?_); (case ni0 => exists "ni gs"); (case ni1 => decide +kernel); (case ni2 => exact f_glo_BadLength (by assumption)))
  | ((with_reducible refine' ws_raiseS (x := "BadLength") ?ni0 ?ni1 ?ni2 ?ni3 ?ni4 ?_); (case ni0 => assumption); (case ni1 => assumption); (case ni2 => decide +kernel); (case ni3 => exact f_glo_BadLength (by assumption)); (case ni4 => exact f_exc_BadLength (by assumption)))
  | ((with_reducible refine' we_callS (x := "BadNumber") ?ni0 ?ni1 ?ni2 ?ni3 ?ni4 ?ni5 ?_); (case ni0 => exists "ni gs"); (case ni1 => decide +kernel); (case ni2 => exact f_glo_BadNumber (by assumption)); (case ni3 => exact f_keep_BadNumber (by assumption)); (case ni4 => with_unfolding_all rfl); (case ni5 => with_unfolding_all rfl))
  | ((with_reducible refine' we_callS0 (x := "BadNumber") ?ni0 ?ni1 ?ni2 ?ni3 ?_); (case ni0 => exists "ni gs"); (case ni1 => decide +kernel); (case ni2 => exact f_glo_BadNumber (by assumption)); (case ni3 => exact f_keep_BadNumber (by assumption)))
  | ((with_reducible refine' we_gref (x := "BadNumber") ?ni0 ?ni1 ?ni2 ?_); (case ni0 => exists "ni gs"); (case ni1 => decide +kernel); (case ni2 => exact f_glo_BadNumber (by assumption)))
  | ((with_reducible refine' ws_raiseS (x := "BadNumber") ?ni0 ?ni1 ?ni2 ?ni3 ?ni4 ?_); (case ni0 => assumption); (case ni1 => assumption); (case ni2 => decide +kernel); (case ni3 => exact f_glo_BadNumber (by assumption)); (case ni4 => exact f_exc_BadNumber (by assumption)))
  | ((with_reducible refine' we_callS (x := "NeverIdleError") ?ni0 ?ni1 ?ni2 ?ni3 ?ni4 ?ni5 ?_); (case ni0 => exists "ni gs"); (case ni1 => decide +kernel); (case ni2 => exact f_glo_NeverIdleError (by assumption)); (case ni3 => exact f_keep_NeverIdleError (by assumption)); (case ni4 => with_unfolding_all rfl); (case ni5 => with_unfolding_all rfl))
  | ((with_reducible refine' we_callS0 (x := "NeverIdleError") ?ni0 ?ni1 ?ni2 ?ni3 ?_); (case ni0 => exists "ni gs"); (case ni1 => decide +kernel); (case ni2 => exact f_glo_NeverIdleError (by assumption)); (case ni3 => exact f_keep_NeverIdleError (by assumption)))
  | ((with_reducible refine' we_gref (x := "NeverIdleError") ?ni0 ?ni1 ?ni2 ?_); (case ni0 => exists "ni gs"); (case ni1 => decide +kernel); (case ni2 => exact f_glo_NeverIdleError (by assumption)))
  | ((with_reducible refine' ws_raiseS (x := "NeverIdleError") ?ni0 ?ni1 ?ni2 ?ni3 ?ni4 ?_); (case ni0 => assumption); (case ni1 => assumption); (case ni2 => decide +kernel); (case ni3 => exact f_glo_NeverIdleError (by assumption)); (case ni4 => exact f_exc_NeverIdleError (by assumption)))
  | ((with_reducible refine' we_callS (x := "Ratio") ?ni0 ?ni1 ?ni2 ?ni3 ?ni4 ?ni5 ?_); (case ni0 => exists "ni gs"); (case ni1 => decide +kernel); (case ni2 => exact f_glo_Ratio (by assumption)); (case ni3 => exact f_keep_Ratio (by assumption)); (case ni4 => with_unfolding_all rfl); (case ni5 => with_unfolding_all rfl))
  | ((with_reducible refine' we_callS0 (x := "Ratio") ?ni0 ?ni1 ?ni2 ?ni3 ?_); (case ni0 => exists "ni gs"); (case ni1 => decide +kernel); (case ni2 => exact f_glo_Ratio (by assumption)); (case ni3 => exact f_keep_Ratio (by assumption)))
  | ((with_reducible refine' we_gref (x := "Ratio") ?ni0 ?ni1 ?ni2 ?_); (case ni0 => exists "ni gs"); (case ni1 => decide +kernel); (case ni2 => exact f_glo_Ratio (by assumption)))
  | ((with_reducible refine' we_callS (x := "ZeroBottom") ?ni0 ?ni1 ?ni2 ?ni3 ?ni4 ?ni5 ?_); (case ni0 => exists "ni gs"); (case ni1 => decide +kernel); (case ni2 => exact f_glo_ZeroBottom (by assumption)); (case ni3 => exact f_keep_ZeroBottom (by assumption)); (case ni4 => with_unfolding_all rfl); (case ni5 => with_unfolding_all rfl))
  | ((with_reducible refine' we_callS0 (x := "ZeroBottom") ?ni0 ?ni1 ?ni2 ?ni3 ?_); (case ni0 => exists "ni gs"); (case ni1 => decide +kernel); (case ni2 => exact f_glo_ZeroBottom (by assumption)); (case ni3 => exact f_keep_ZeroBottom (by assumption)))
  | ((with_reducible refine' we_gref (x := "ZeroBottom") ?ni0 ?ni1 ?ni2 ?_); (case ni0 => exists "ni gs"); (case ni1 => decide +kernel); (case ni2 => exact f_glo_ZeroBottom (by assumption)))
  | ((with_reducible refine' ws_raiseS (x := "ZeroBottom") ?ni0 ?ni1 ?ni2 ?ni3 ?ni4 ?_); (case ni0 => assumption); (case ni1 => assumption); (case ni2 => decide +kernel); (case ni3 => exact f_glo_ZeroBottom (by assumption)); (case ni4 => exact f_exc_ZeroBottom (by assumption)))
  | ((with_reducible refine' we_callS (x := "_law_add") ?ni0 ?ni1 ?ni2 ?ni3 ?ni4 ?ni5 ?_); (case ni0 => exists "ni gs"); (case ni1 => decide +kernel); (case ni2 => exact f_glo__law_add (by assumption)); (case ni3 => exact f_keep__law_add (by assumption)); (case ni4 => with_unfolding_all rfl); (case ni5 => with_unfolding_all rfl))
  | ((with_reducible refine' we_callS0 (x := "_law_add") ?ni0 ?ni1 ?ni2 ?ni3 ?_); (case ni0 => exists "ni gs"); (case ni1 => decide +kernel); (case ni2 => exact f_glo__law_add (by assumption)); (case ni3 => exact f_keep__law_add (by assumption)))
  | ((with_reducible refine' we_callS (x := "_law_draw") ?ni0 ?ni1 ?ni2 ?ni3 ?ni4 ?ni5 ?_); (case ni0 => exists "ni gs"); (case ni1 => decide +kernel); (case ni2 => exact f_glo__law_draw (by assumption)); (case ni3 => exact f_keep__law_draw (by assumption)); (case ni4 => with_unfolding_all rfl); (case ni5 => with_unfolding_all rfl))
  | ((with_reducible refine' we_callS0 (x := "_law_draw") ?ni0 ?ni1 ?ni2 ?ni3 ?_); (case ni0 => exists "ni gs"); (case ni1 => decide +kernel); (case ni2 => exact f_glo__law_draw (by assumption)); (case ni3 => exact f_keep__law_draw (by assumption)))
  | ((with_reducible refine' we_callS (x := "_law_low") ?ni0 ?ni1 ?ni2 ?ni3 ?ni4 ?ni5 ?_); (case ni0 => exists "ni gs"); (case ni1 => decide +kernel); (case ni2 => exact f_glo__law_low (by assumption)); (case ni3 => exact f_keep__law_low (by assumption)); (case ni4 => with_unfolding_all rfl); (case ni5 => with_unfolding_all rfl))
  | ((with_reducible refine' we_callS0 (x := "_law_low") ?ni0 ?ni1 ?ni2 ?ni3 ?_); (case ni0 => exists "ni gs"); (case ni1 => decide +kernel); (case ni2 => exact f_glo__law_low (by assumption)); (case ni3 => exact f_keep__law_low (by assumption)))
  | ((with_reducible refine' we_callS (x := "_law_made") ?ni0 ?ni1 ?ni2 ?ni3 ?ni4 ?ni5 ?_); (case ni0 => exists "ni gs"); (case ni1 => decide +kernel); (case ni2 => exact f_glo__law_made (by assumption)); (case ni3 => exact f_keep__law_made (by assumption)); (case ni4 => with_unfolding_all rfl); (case ni5 => with_unfolding_all rfl))
  | ((with_reducible refine' we_callS0 (x := "_law_made") ?ni0 ?ni1 ?ni2 ?ni3 ?_); (case ni0 => exists "ni gs"); (case ni1 => decide +kernel); (case ni2 => exact f_glo__law_made (by assumption)); (case ni3 => exact f_keep__law_made (by assumption)))
  | ((with_reducible refine' we_callS (x := "_law_mixed") ?ni0 ?ni1 ?ni2 ?ni3 ?ni4 ?ni5 ?_); (case ni0 => exists "ni gs"); (case ni1 => decide +kernel); (case ni2 => exact f_glo__law_mixed (by assumption)); (case ni3 => exact f_keep__law_mixed (by assumption)); (case ni4 => with_unfolding_all rfl); (case ni5 => with_unfolding_all rfl))
  | ((with_reducible refine' we_callS0 (x := "_law_mixed") ?ni0 ?ni1 ?ni2 ?ni3 ?_); (case ni0 => exists "ni gs"); (case ni1 => decide +kernel); (case ni2 => exact f_glo__law_mixed (by assumption)); (case ni3 => exact f_keep__law_mixed (by assumption)))
  | ((with_reducible refine' we_callS (x := "_law_numbers") ?ni0 ?ni1 ?ni2 ?ni3 ?ni4 ?ni5 ?_); (case ni0 => exists "ni gs"); (case ni1 => decide +kernel); (case ni2 => exact f_glo__law_numbers (by assumption)); (case ni3 => exact f_keep__law_numbers (by assumption)); (case ni4 => with_unfolding_all rfl); (case ni5 => with_unfolding_all rfl))
  | ((with_reducible refine' we_callS0 (x := "_law_numbers") ?ni0 ?ni1 ?ni2 ?ni3 ?_); (case ni0 => exists "ni gs"); (case ni1 => decide +kernel); (case ni2 => exact f_glo__law_numbers (by assumption)); (case ni3 => exact f_keep__law_numbers (by assumption)))
  | ((with_reducible refine' we_callS (x := "_law_pair") ?ni0 ?ni1 ?ni2 ?ni3 ?ni4 ?ni5 ?_); (case ni0 => exists "ni gs"); (case ni1 => decide +kernel); (case ni2 => exact f_glo__law_pair (by assumption)); (case ni3 => exact f_keep__law_pair (by assumption)); (case ni4 => with_unfolding_all rfl); (case ni5 => with_unfolding_all rfl))
  | ((with_reducible refine' we_callS0 (x := "_law_pair") ?ni0 ?ni1 ?ni2 ?ni3 ?_); (case ni0 => exists "ni gs"); (case ni1 => decide +kernel); (case ni2 => exact f_glo__law_pair (by assumption)); (case ni3 => exact f_keep__law_pair (by assumption)))
  | ((with_reducible refine' we_callS (x := "_law_refused") ?ni0 ?ni1 ?ni2 ?ni3 ?ni4 ?ni5 ?_); (case ni0 => exists "ni gs"); (case ni1 => decide +kernel); (case ni2 => exact f_glo__law_refused (by assumption)); (case ni3 => exact f_keep__law_refused (by assumption)); (case ni4 => with_unfolding_all rfl); (case ni5 => with_unfolding_all rfl))
  | ((with_reducible refine' we_callS0 (x := "_law_refused") ?ni0 ?ni1 ?ni2 ?ni3 ?_); (case ni0 => exists "ni gs"); (case ni1 => decide +kernel); (case ni2 => exact f_glo__law_refused (by assumption)); (case ni3 => exact f_keep__law_refused (by assumption)))
  | ((with_reducible refine' we_callS (x := "_law_shows") ?ni0 ?ni1 ?ni2 ?ni3 ?ni4 ?ni5 ?_); (case ni0 => exists "ni gs"); (case ni1 => decide +kernel); (case ni2 => exact f_glo__law_shows (by assumption)); (case ni3 => exact f_keep__law_shows (by assumption)); (case ni4 => with_unfolding_all rfl); (case ni5 => with_unfolding_all rfl))
  | ((with_reducible refine' we_callS0 (x := "_law_shows") ?ni0 ?ni1 ?ni2 ?ni3 ?_); (case ni0 => exists "ni gs"); (case ni1 => decide +kernel); (case ni2 => exact f_glo__law_shows (by assumption)); (case ni3 => exact f_keep__law_shows (by assumption)))
  | ((with_reducible refine' we_callS (x := "_law_sums") ?ni0 ?ni1 ?ni2 ?ni3 ?ni4 ?ni5 ?_); (case ni0 => exists "ni gs"); (case ni1 => decide +kernel); (case ni2 => exact f_glo__law_sums (by assumption)); (case ni3 => exact f_keep__law_sums (by assumption)); (case ni4 => with_unfolding_all rfl); (case ni5 => with_unfolding_all rfl))
  | ((with_reducible refine' we_callS0 (x := "_law_sums") ?ni0 ?ni1 ?ni2 ?ni3 ?_); (case ni0 => exists "ni gs"); (case ni1 => decide +kernel); (case ni2 => exact f_glo__law_sums (by assumption)); (case ni3 => exact f_keep__law_sums (by assumption)))
  | ((with_reducible refine' we_callS (x := "_law_times") ?ni0 ?ni1 ?ni2 ?ni3 ?ni4 ?ni5 ?_); (case ni0 => exists "ni gs"); (case ni1 => decide +kernel); (case ni2 => exact f_glo__law_times (by assumption)); (case ni3 => exact f_keep__law_times (by assumption)); (case ni4 => with_unfolding_all rfl); (case ni5 => with_unfolding_all rfl))
  | ((with_reducible refine' we_callS0 (x := "_law_times") ?ni0 ?ni1 ?ni2 ?ni3 ?_); (case ni0 => exists "ni gs"); (case ni1 => decide +kernel); (case ni2 => exact f_glo__law_times (by assumption)); (case ni3 => exact f_keep__law_times (by assumption)))
  | ((with_reducible refine' we_callS (x := "_law_whole") ?ni0 ?ni1 ?ni2 ?ni3 ?ni4 ?ni5 ?_); (case ni0 => exists "ni gs"); (case ni1 => decide +kernel); (case ni2 => exact f_glo__law_whole (by assumption)); (case ni3 => exact f_keep__law_whole (by assumption)); (case ni4 => with_unfolding_all rfl); (case ni5 => with_unfolding_all rfl))
  | ((with_reducible refine' we_callS0 (x := "_law_whole") ?ni0 ?ni1 ?ni2 ?ni3 ?_); (case ni0 => exists "ni gs"); (case ni1 => decide +kernel); (case ni2 => exact f_glo__law_whole (by assumption)); (case ni3 => exact f_keep__law_whole (by assumption)))
  | ((with_reducible refine' we_callS (x := "_wall") ?ni0 ?ni1 ?ni2 ?ni3 ?ni4 ?ni5 ?_); (case ni0 => exists "ni gs"); (case ni1 => decide +kernel); (case ni2 => exact f_glo__wall (by assumption)); (case ni3 => exact f_keep__wall (by assumption)); (case ni4 => with_unfolding_all rfl); (case ni5 => with_unfolding_all rfl))
  | ((with_reducible refine' we_callS0 (x := "_wall") ?ni0 ?ni1 ?ni2 ?ni3 ?_); (case ni0 => exists "ni gs"); (case ni1 => decide +kernel); (case ni2 => exact f_glo__wall (by assumption)); (case ni3 => exact f_keep__wall (by assumption)))
  | ((with_reducible refine' we_callBS (x := "abs") ?ni0 ?ni1 ?ni2 ?ni3 ?ni4 ?ni5 ?ni6 ?_); (case ni0 => exists "ni gs"); (case ni1 => decide +kernel); (case ni2 => exact f_free_abs (by assumption)); (case ni3 => exact (show bootBuiltins "abs" = some (.builtin "abs") by decide +kernel)); (case ni4 => decide +kernel); (case ni5 => with_unfolding_all rfl); (case ni6 => with_unfolding_all rfl))
  | ((with_reducible refine' we_callS (x := "as_ratio") ?ni0 ?ni1 ?ni2 ?ni3 ?ni4 ?ni5 ?_); (case ni0 => exists "ni gs"); (case ni1 => decide +kernel); (case ni2 => exact f_glo_as_ratio (by assumption)); (case ni3 => exact f_keep_as_ratio (by assumption)); (case ni4 => with_unfolding_all rfl); (case ni5 => with_unfolding_all rfl))
  | ((with_reducible refine' we_callS0 (x := "as_ratio") ?ni0 ?ni1 ?ni2 ?ni3 ?_); (case ni0 => exists "ni gs"); (case ni1 => decide +kernel); (case ni2 => exact f_glo_as_ratio (by assumption)); (case ni3 => exact f_keep_as_ratio (by assumption)))
  | ((with_reducible refine' we_callTS (x := "bool") ?ni0 ?ni1 ?ni2 ?ni3 ?ni4 ?ni5 ?ni6 ?_); (case ni0 => exists "ni gs"); (case ni1 => decide +kernel); (case ni2 => exact f_free_bool (by assumption)); (case ni3 => exact (show bootBuiltins "bool" = some (.type "bool") by decide +kernel)); (case ni4 => decide +kernel); (case ni5 => with_unfolding_all rfl); (case ni6 => with_unfolding_all rfl))
  | ((with_reducible refine' we_gty (x := "bool") ?ni0 ?ni1 ?ni2 ?ni3 ?ni4 ?_); (case ni0 => exists "ni gs"); (case ni1 => decide +kernel); (case ni2 => exact f_free_bool (by assumption)); (case ni3 => exact (show bootBuiltins "bool" = some (.type "bool") by decide +kernel)); (case ni4 => decide +kernel))
  | ((with_reducible refine' we_callS (x := "check_lengths") ?ni0 ?ni1 ?ni2 ?ni3 ?ni4 ?ni5 ?_); (case ni0 => exists "ni gs"); (case ni1 => decide +kernel); (case ni2 => exact f_glo_check_lengths (by assumption)); (case ni3 => exact f_keep_check_lengths (by assumption)); (case ni4 => with_unfolding_all rfl); (case ni5 => with_unfolding_all rfl))
  | ((with_reducible refine' we_callS0 (x := "check_lengths") ?ni0 ?ni1 ?ni2 ?ni3 ?_); (case ni0 => exists "ni gs"); (case ni1 => decide +kernel); (case ni2 => exact f_glo_check_lengths (by assumption)); (case ni3 => exact f_keep_check_lengths (by assumption)))
  | ((with_reducible refine' we_callGS (x := "gcd") ?ni0 ?ni1 ?ni2 ?ni3 ?ni4 ?_); (case ni0 => exists "ni gs"); (case ni1 => decide +kernel); (case ni2 => exact f_gcd_x (by assumption)); (case ni3 => with_unfolding_all rfl); (case ni4 => with_unfolding_all rfl))
  | ((with_reducible refine' we_callTS (x := "int") ?ni0 ?ni1 ?ni2 ?ni3 ?ni4 ?ni5 ?ni6 ?_); (case ni0 => exists "ni gs"); (case ni1 => decide +kernel); (case ni2 => exact f_free_int (by assumption)); (case ni3 => exact (show bootBuiltins "int" = some (.type "int") by decide +kernel)); (case ni4 => decide +kernel); (case ni5 => with_unfolding_all rfl); (case ni6 => with_unfolding_all rfl))
  | ((with_reducible refine' we_gty (x := "int") ?ni0 ?ni1 ?ni2 ?ni3 ?ni4 ?_); (case ni0 => exists "ni gs"); (case ni1 => decide +kernel); (case ni2 => exact f_free_int (by assumption)); (case ni3 => exact (show bootBuiltins "int" = some (.type "int") by decide +kernel)); (case ni4 => decide +kernel))
  | ((with_reducible refine' we_callS (x := "is_number") ?ni0 ?ni1 ?ni2 ?ni3 ?ni4 ?ni5 ?_); (case ni0 => exists "ni gs"); (case ni1 => decide +kernel); (case ni2 => exact f_glo_is_number (by assumption)); (case ni3 => exact f_keep_is_number (by assumption)); (case ni4 => with_unfolding_all rfl); (case ni5 => with_unfolding_all rfl))
  | ((with_reducible refine' we_callS0 (x := "is_number") ?ni0 ?ni1 ?ni2 ?ni3 ?_); (case ni0 => exists "ni gs"); (case ni1 => decide +kernel); (case ni2 => exact f_glo_is_number (by assumption)); (case ni3 => exact f_keep_is_number (by assumption)))
  | ((with_reducible refine' we_callBS (x := "isinstance") ?ni0 ?ni1 ?ni2 ?ni3 ?ni4 ?ni5 ?ni6 ?_); (case ni0 => exists "ni gs"); (case ni1 => decide +kernel); (case ni2 => exact f_free_isinstance (by assumption)); (case ni3 => exact (show bootBuiltins "isinstance" = some (.builtin "isinstance") by decide +kernel)); (case ni4 => decide +kernel); (case ni5 => with_unfolding_all rfl); (case ni6 => with_unfolding_all rfl))
  | ((with_reducible refine' we_callBS (x := "iter") ?ni0 ?ni1 ?ni2 ?ni3 ?ni4 ?ni5 ?ni6 ?_); (case ni0 => exists "ni gs"); (case ni1 => decide +kernel); (case ni2 => exact f_free_iter (by assumption)); (case ni3 => exact (show bootBuiltins "iter" = some (.builtin "iter") by decide +kernel)); (case ni4 => decide +kernel); (case ni5 => with_unfolding_all rfl); (case ni6 => with_unfolding_all rfl))
  | ((with_reducible refine' we_callBS (x := "len") ?ni0 ?ni1 ?ni2 ?ni3 ?ni4 ?ni5 ?ni6 ?_); (case ni0 => exists "ni gs"); (case ni1 => decide +kernel); (case ni2 => exact f_free_len (by assumption)); (case ni3 => exact (show bootBuiltins "len" = some (.builtin "len") by decide +kernel)); (case ni4 => decide +kernel); (case ni5 => with_unfolding_all rfl); (case ni6 => with_unfolding_all rfl))
  | ((with_reducible refine' we_callTS (x := "list") ?ni0 ?ni1 ?ni2 ?ni3 ?ni4 ?ni5 ?ni6 ?_); (case ni0 => exists "ni gs"); (case ni1 => decide +kernel); (case ni2 => exact f_free_list (by assumption)); (case ni3 => exact (show bootBuiltins "list" = some (.type "list") by decide +kernel)); (case ni4 => decide +kernel); (case ni5 => with_unfolding_all rfl); (case ni6 => with_unfolding_all rfl))
  | ((with_reducible refine' we_gty (x := "list") ?ni0 ?ni1 ?ni2 ?ni3 ?ni4 ?_); (case ni0 => exists "ni gs"); (case ni1 => decide +kernel); (case ni2 => exact f_free_list (by assumption)); (case ni3 => exact (show bootBuiltins "list" = some (.type "list") by decide +kernel)); (case ni4 => decide +kernel))
  | ((with_reducible refine' we_callTS (x := "range") ?ni0 ?ni1 ?ni2 ?ni3 ?ni4 ?ni5 ?ni6 ?_); (case ni0 => exists "ni gs"); (case ni1 => decide +kernel); (case ni2 => exact f_free_range (by assumption)); (case ni3 => exact (show bootBuiltins "range" = some (.type "range") by decide +kernel)); (case ni4 => decide +kernel); (case ni5 => with_unfolding_all rfl); (case ni6 => with_unfolding_all rfl))
  | ((with_reducible refine' we_callS (x := "read_digits") ?ni0 ?ni1 ?ni2 ?ni3 ?ni4 ?ni5 ?_); (case ni0 => exists "ni gs"); (case ni1 => decide +kernel); (case ni2 => exact f_glo_read_digits (by assumption)); (case ni3 => exact f_keep_read_digits (by assumption)); (case ni4 => with_unfolding_all rfl); (case ni5 => with_unfolding_all rfl))
  | ((with_reducible refine' we_callS0 (x := "read_digits") ?ni0 ?ni1 ?ni2 ?ni3 ?_); (case ni0 => exists "ni gs"); (case ni1 => decide +kernel); (case ni2 => exact f_glo_read_digits (by assumption)); (case ni3 => exact f_keep_read_digits (by assumption)))
  | ((with_reducible refine' we_callTS (x := "str") ?ni0 ?ni1 ?ni2 ?ni3 ?ni4 ?ni5 ?ni6 ?_); (case ni0 => exists "ni gs"); (case ni1 => decide +kernel); (case ni2 => exact f_free_str (by assumption)); (case ni3 => exact (show bootBuiltins "str" = some (.type "str") by decide +kernel)); (case ni4 => decide +kernel); (case ni5 => with_unfolding_all rfl); (case ni6 => with_unfolding_all rfl))
  | ((with_reducible refine' we_gty (x := "str") ?ni0 ?ni1 ?ni2 ?ni3 ?ni4 ?_); (case ni0 => exists "ni gs"); (case ni1 => decide +kernel); (case ni2 => exact f_free_str (by assumption)); (case ni3 => exact (show bootBuiltins "str" = some (.type "str") by decide +kernel)); (case ni4 => decide +kernel))
  | ((with_reducible refine' we_callTS (x := "tuple") ?ni0 ?ni1 ?ni2 ?ni3 ?ni4 ?ni5 ?ni6 ?_); (case ni0 => exists "ni gs"); (case ni1 => decide +kernel); (case ni2 => exact f_free_tuple (by assumption)); (case ni3 => exact (show bootBuiltins "tuple" = some (.type "tuple") by decide +kernel)); (case ni4 => decide +kernel); (case ni5 => with_unfolding_all rfl); (case ni6 => with_unfolding_all rfl))
  | ((with_reducible refine' we_gty (x := "tuple") ?ni0 ?ni1 ?ni2 ?ni3 ?ni4 ?_); (case ni0 => exists "ni gs"); (case ni1 => decide +kernel); (case ni2 => exact f_free_tuple (by assumption)); (case ni3 => exact (show bootBuiltins "tuple" = some (.type "tuple") by decide +kernel)); (case ni4 => decide +kernel))
  | ((with_reducible refine' we_callTS (x := "zip") ?ni0 ?ni1 ?ni2 ?ni3 ?ni4 ?ni5 ?ni6 ?_); (case ni0 => exists "ni gs"); (case ni1 => decide +kernel); (case ni2 => exact f_free_zip (by assumption)); (case ni3 => exact (show bootBuiltins "zip" = some (.type "zip") by decide +kernel)); (case ni4 => decide +kernel); (case ni5 => with_unfolding_all rfl); (case ni6 => with_unfolding_all rfl)))

/-! RL0: the class Ratio: fractions in the heap. -/
namespace Rt
open PySem PySem.Spec PyProof.Rows L2 Ni Pr
abbrev aR (K : PySem.W.Frag) : Addr := He.ga K "Ratio"
abbrev aZ (K : PySem.W.Frag) : Addr := He.ga K "ZeroBottom"
theorem tb_ne : ¬ (("top" : Str) = "bottom") := by decide +kernel
theorem bt_ne : ¬ (("bottom" : Str) = "top") := by decide +kernel
/-- the attributes of a fraction -/
def rf (q : Rat) : List (Str × V) := putF "bottom" (.int (q.den : Int)) (putF "top" (.int q.num) [])
theorem rf_eq (q : Rat) : rf q = ([("top", V.int q.num), ("bottom", V.int (q.den : Int))] : List (Str × V)) := by
  show (if ("top" : Str) = "bottom" then [(("top" : Str), V.int (q.den : Int))] else (("top" : Str), V.int q.num) :: putF "bottom" (V.int (q.den : Int)) []) = _
  rw [if_neg tb_ne]
  rfl
theorem rf_top (q : Rat) : (rf q).lookup ("top" : Str) = some (.int q.num) := by
  unfold rf
  rw [lookup_putF, if_neg tb_ne, lookup_putF, if_pos rfl]
theorem rf_bot (q : Rat) : (rf q).lookup ("bottom" : Str) = some (.int (q.den : Int)) := by
  unfold rf
  rw [lookup_putF, if_pos rfl]
theorem rf_no (q : Rat) {m : Str} (h1 : ¬ m = "top") (h2 : ¬ m = "bottom") : (rf q).lookup m = none := by
  unfold rf
  rw [lookup_putF, if_neg h2, lookup_putF, if_neg h1]
  rfl
/-- at a stands the fraction q -/
def IsR (K : PySem.W.Frag) (H : Hp) (a : Addr) (q : Rat) : Prop := ∃ dx, H a = some (.ins (aR K) dx (rf q))
/-- a number: an int, or a fraction -/
def IsQ (K : PySem.W.Frag) (H : Hp) (v : V) (q : Rat) : Prop := (∃ n : Int, v = .int n ∧ q = (n : Rat)) ∨ ∃ a, v = .ref a ∧ IsR K H a q
theorem IsR.mono {K : PySem.W.Frag} {H H' : Hp} {a : Addr} {q : Rat} (s : Same H H') (h : IsR K H a q) : IsR K H' a q := let ⟨dx, e⟩ := h; ⟨dx, s _ _ e⟩
theorem IsQ.mono {K : PySem.W.Frag} {H H' : Hp} {v : V} {q : Rat} (s : Same H H') (h : IsQ K H v q) : IsQ K H' v q := h.elim .inl fun ⟨a, e, r⟩ => .inr ⟨a, e, r.mono s⟩
theorem IsR.inj {K : PySem.W.Frag} {H : Hp} {a : Addr} {q r : Rat} (h : IsR K H a q) (h' : IsR K H a r) : q = r := by
  obtain ⟨dx, e⟩ := h
  obtain ⟨dx', e'⟩ := h'
  rw [e] at e'
  have z := Option.some.inj e'
  injection z with _ _ z3
  have a1 := rf_top q
  have a2 := rf_bot q
  rw [z3, rf_top] at a1
  rw [z3, rf_bot] at a2
  injection a1 with a1
  injection a1 with a1
  injection a2 with a2
  injection a2 with a2
  exact Rat.ext a1.symm (by omega)
theorem com_bd {t b : Int} {k : Nat} (h : b ≠ 0) (hb : Bd b k) : Bd (com t b) k := by
  refine hb.of_abs ?_
  have l : Nat.gcd t.natAbs b.natAbs ≤ b.natAbs := Nat.gcd_le_right _ (by omega)
  unfold com
  split <;> omega
/-! ### promises -/
def spInit (K : PySem.W.Frag) : Sp := fun vs H Q E => ∃ (p dx : Addr) (t b : Int), vs = [.ref p, .int t, .int b] ∧ H p = some (.ins (aR K) dx []) ∧ Bd b 8999 ∧ (b = 0 → E (.ref (aZ K)) none H) ∧
  (b ≠ 0 → Q .non (upd H p (.ins (aR K) dx (rf (Rat.divInt t b)))))
section
variable {P : Program} {w : World} {K : PySem.W.Frag} {mg : Str → Option Value} {base : Heap}
theorem fn_init (T : Ctx K mg) {fd : FuncData} (F : FunD K "__init__" "Ratio.__init__" (defArgs s_Ratio___init__) (defBody s_Ratio___init__) (defScope s_Ratio___init__) (d_Ratio___init__.dvs K) (d_Ratio___init__.kws K) (He.fAd K d_Ratio___init__.at_) fd) :
    FnOk P w K mg base (L2.CX P w) 1 (He.fAd K d_Ratio___init__.at_) fd p_Ratio___init__ (spInit K) := by
  refine fn_go F sc_Ratio___init__ nm_Ratio___init__ ?len ?body
  case len =>
    intro vs H Q E h
    obtain ⟨p, dx, t, b, rfl, _⟩ := h
    rfl
  case body =>
    intro X e1 e2 e3 e4 e5 S V1 hr vs H Q E hE h
    subst e1 e2 e3 e4 e5
    obtain ⟨p, dx, t, b, rfl, hp, hb, h0, h1⟩ := h
    show Wb X _ _ [some (.ref p), some (.int t), some (.int b), none] H
    refine wb_cons ?_
    exists "ni go"
    refine if_d (fun z => ?_) (fun z => ?_)
    · exists "ni go"
      exact hE _ _ _ _ (h0 z)
    · have bc : Bd (com t b) 8999 := com_bd z hb
      have nc : com t b ≠ 0 := com_ne z
      exists "ni go"
      refine if_d (fun z2 => ?_) (fun z2 => ?_)
      all_goals exists "ni go"
      · rw [show -((Nat.gcd t.natAbs b.natAbs : Nat) : Int) = com t b from (if_pos z2).symm]
        refine wo_fdiv nc bc (by decide) ?_
        rw [com_top z]
        exists "ni go"
        refine ⟨p, aR X.K, dx, _, rfl, hp, f_cls_Ratio T, f_noat_Ratio'top T, (by show 0 < 1000; decide), ?_⟩
        exists "ni go"
        refine wo_fdiv nc bc (by decide) ?_
        rw [com_bot z]
        exists "ni go"
        refine ⟨p, aR X.K, dx, _, rfl, upd_same, f_cls_Ratio T, f_noat_Ratio'bottom T, (by show 1 < 1000; decide), ?_⟩
        exists "ni go"
        rw [upd_upd]
        exact h1 z
      · rw [show ((Nat.gcd t.natAbs b.natAbs : Nat) : Int) = com t b from (if_neg z2).symm]
        refine wo_fdiv nc bc (by decide) ?_
        rw [com_top z]
        exists "ni go"
        refine ⟨p, aR X.K, dx, _, rfl, hp, f_cls_Ratio T, f_noat_Ratio'top T, (by show 0 < 1000; decide), ?_⟩
        exists "ni go"
        refine wo_fdiv nc bc (by decide) ?_
        rw [com_bot z]
        exists "ni go"
        refine ⟨p, aR X.K, dx, _, rfl, upd_same, f_cls_Ratio T, f_noat_Ratio'bottom T, (by show 1 < 1000; decide), ?_⟩
        exists "ni go"
        rw [upd_upd]
        exact h1 z
theorem ok_init (T : Ctx K mg) : OkD P w K mg base 1 (He.ma K (aR K) "__init__") p_Ratio___init__ [] (spInit K) := by
  obtain ⟨fd, F⟩ := F_Ratio___init__ T
  obtain ⟨ds, r, hb⟩ := FunD.binds1 (ps := p_Ratio___init__) F 3 1 (by intro z; cases z) rfl fun T kV doc pm an cdv ct us its h1 h2 => match us, its, h1, h2 with | [_, _, _], [_], _, _ => ⟨_, rfl, rfl⟩
  exact ⟨⟨fd, ds, fn_init T F, r, hb⟩, F.kp⟩
theorem ok_init1 (T : Ctx K mg) : OkD P w K mg base 1 (He.ma K (aR K) "__init__") p_Ratio___init__ [.int 1] (spInit K) := by
  obtain ⟨fd, F⟩ := F_Ratio___init__ T
  obtain ⟨ds, r, hb⟩ := FunD.binds1 (ps := p_Ratio___init__) F 2 0 (by intro z; cases z) rfl fun T kV doc pm an cdv ct us its h1 h2 => match us, its, h1, h2 with | [_, _], [_], _, _ => ⟨_, rfl, rfl⟩
  exact ⟨⟨fd, ds, fn_init T F, r, hb⟩, F.kp⟩
theorem ok_initK (T : Ctx K mg) : OkK P w K mg base 1 (He.ma K (aR K) "__init__") p_Ratio___init__ 2 ["bottom"] (fun vs zs => vs ++ zs) (spInit K) := by
  obtain ⟨fd, F⟩ := F_Ratio___init__ T
  obtain ⟨its, hb⟩ := FunD.kbindsD (ps := p_Ratio___init__) F 2 ["bottom"] (fun us ds zs => us ++ zs) (by intro z; cases z) (fun r1 _ r2 => r1.append r2)
    fun T kV doc pm an cdv ct us its ws h1 h2 h3 => match us, its, ws, h1, h2, h3 with | [_, _], [_], [_], _, _, _ => ⟨_, rfl, rfl⟩
  exact ⟨⟨fd, _, fn_init T F, hb⟩, F.kp⟩
end
section
variable {X : Cx} {σ : L2.St} {H : Hp} {Q : VK} {t b n : Int} {a : Addr} {q r : Rat} {v : V}
theorem made_same {p dx C : Addr} {fs : List (Str × V)} (hp : H p = none) (hd : H dx = none) : Same H (upd (upd (upd H dx (.own p)) p (.ins C dx [])) p (.ins C dx fs)) := by
  rw [upd_upd]
  exact same_mut (same_new hd) hp
theorem go_new (T : Ctx X.K X.mg) (hr : Room 2 X.A) (hb : Bd b 8999) (h0 : b ≠ 0) (k : ∀ p H', Same H H' → IsR X.K H' p (Rat.divInt t b) → Q (.ref p) H') : Wf X (.ref (aR X.K)) [.int t, .int b] σ H Q := by
  refine wf_new (f_mkr_Ratio T) (ok_init T) hr fun p dx hp hd ne => ?_
  refine ⟨p, dx, t, b, rfl, upd_same, hb, fun z => absurd z h0, fun _ => ⟨rfl, ?_⟩⟩
  exact k p _ (made_same hp hd) ⟨dx, upd_same⟩
theorem go_new0 (T : Ctx X.K X.mg) (hr : Room 2 X.A) (k : ∀ H', Same H H' → XW X (.ref (aZ X.K)) none σ H') : Wf X (.ref (aR X.K)) [.int t, .int 0] σ H Q := by
  refine wf_new (f_mkr_Ratio T) (ok_init T) hr fun p dx hp hd ne => ?_
  exact ⟨p, dx, t, 0, rfl, upd_same, Nat.two_pow_pos _, fun _ => k _ (same_mut (same_new hd) hp), fun z => absurd rfl z⟩
theorem divInt_one (n : Int) : Rat.divInt n 1 = (n : Rat) := by
  apply Rat.ext
  · rw [Rat.num_divInt]; simp
  · rw [Rat.den_divInt]; simp
theorem go_new1 (T : Ctx X.K X.mg) (hr : Room 2 X.A) (k : ∀ p H', Same H H' → IsR X.K H' p (n : Rat) → Q (.ref p) H') : Wf X (.ref (aR X.K)) [.int n] σ H Q := by
  refine wf_new (f_mkr_Ratio T) (ok_init1 T) hr fun p dx hp hd ne => ?_
  refine ⟨p, dx, n, 1, rfl, upd_same, ?_, fun z => (by cases z), fun _ => ⟨rfl, ?_⟩⟩
  · exact Nat.one_lt_two_pow (by decide)
  · have e := made_same (C := aR X.K) (fs := rf (Rat.divInt n 1)) hp hd
    rw [divInt_one] at e
    have e2 := k p _ e ⟨dx, upd_same⟩
    rw [divInt_one]
    exact e2
theorem fl_top (T : Ctx X.K X.mg) (h : IsR X.K H a q) (k : Q (.int q.num) H) : Fl X (.ref a) "top" H Q := by
  obtain ⟨dx, e⟩ := h
  exact ⟨a, aR X.K, dx, _, _, rfl, e, f_cls_Ratio T, f_noat_Ratio'top T, rf_top q, k⟩
theorem fl_bot (T : Ctx X.K X.mg) (h : IsR X.K H a q) (k : Q (.int (q.den : Int)) H) : Fl X (.ref a) "bottom" H Q := by
  obtain ⟨dx, e⟩ := h
  exact ⟨a, aR X.K, dx, _, _, rfl, e, f_cls_Ratio T, f_noat_Ratio'bottom T, rf_bot q, k⟩
theorem isq_int {K : PySem.W.Frag} {n : Int} : IsQ K H (.int n) (n : Rat) := .inl ⟨n, rfl, rfl⟩
theorem isq_ref {K : PySem.W.Frag} (h : IsR K H a q) : IsQ K H (.ref a) q := .inr ⟨a, rfl, h⟩
/-- isinstance(x, Ratio), isinstance(x, int) of a number -/
theorem isi_int_int (T : Ctx X.K X.mg) (k : Q (.bl true) H) : Wcb X (.builtin "isinstance") [.int n, .ty "int"] H Q := wcb_isi (.ty "int") (.base (.int n)) (f_kit_int'int T) k
theorem isi_int_R (T : Ctx X.K X.mg) (k : Q (.bl false) H) : Wcb X (.builtin "isinstance") [.int n, .ref (aR X.K)] H Q := wcb_isi (.own _) (.base (.int n)) (f_kit_int'Ratio T) k
theorem isi_R_R (T : Ctx X.K X.mg) (h : IsR X.K H a q) (k : Q (.bl true) H) : Wcb X (.builtin "isinstance") [.ref a, .ref (aR X.K)] H Q := by
  obtain ⟨dx, e⟩ := h
  exact wcb_isi (.own _) (tyx_of (f_tyx_Ratio T) (f_cls_Ratio T) e) (f_kit_Ratio'Ratio T) k
theorem isi_R_int (T : Ctx X.K X.mg) (h : IsR X.K H a q) (k : Q (.bl false) H) : Wcb X (.builtin "isinstance") [.ref a, .ty "int"] H Q := by
  obtain ⟨dx, e⟩ := h
  exact wcb_isi (.ty "int") (tyx_of (f_tyx_Ratio T) (f_cls_Ratio T) e) (f_kit_Ratio'int T) k
end
end Rt

/-! TACR: the walk's steps over fractions. -/
section
open PySem PySem.Spec PyProof.Rows L2 Ni Pr Rt
local macro_rules | `(tactic| exists "ni keep") => `(tactic| first
  | assumption
  | (with_reducible exact isq_int)
  | ((with_reducible refine' isq_ref ?ni1); (case ni1 => exists "ni keep"))
  | ((with_reducible refine' IsR.mono ?ni1 ?ni2); (case ni1 => assumption); (case ni2 => exists "ni keep"))
  | ((with_reducible refine' IsQ.mono ?ni1 ?ni2); (case ni1 => assumption); (case ni2 => exists "ni keep")))
local macro_rules | `(tactic| exists "ni own") => `(tactic| first
  | ((with_reducible refine' fl_top ?ni1 ?ni2 ?_); (case ni1 => assumption); (case ni2 => exists "ni keep"))
  | ((with_reducible refine' fl_bot ?ni1 ?ni2 ?_); (case ni1 => assumption); (case ni2 => exists "ni keep"))
  | ((with_reducible refine' isi_int_int ?ni1 ?_); (case ni1 => assumption))
  | ((with_reducible refine' isi_int_R ?ni1 ?_); (case ni1 => assumption))
  | ((with_reducible refine' isi_R_R ?ni1 ?ni2 ?_); (case ni1 => assumption); (case ni2 => exists "ni keep"))
  | ((with_reducible refine' isi_R_int ?ni1 ?ni2 ?_); (case ni1 => assumption); (case ni2 => exists "ni keep"))
  | ((with_reducible refine' go_new1 ?ni1 ?ni2 ?_); (case ni1 => assumption); (case ni2 => exists "ni room"); intro _ _ _ _))

/-! RL1: Ratio: the numbers and the signs. -/
namespace Rt
open PySem PySem.Spec PyProof.Rows L2 Ni Pr
def spOne (K : PySem.W.Frag) : Sp := fun vs H Q _ => ∃ (v : V) (q : Rat), vs = [v] ∧ IsQ K H v q ∧ ∀ p H', Same H H' → IsR K H' p q → Q (.ref p) H'
def spBin (K : PySem.W.Frag) (f : Rat → Rat → Rat) : Sp := fun vs H Q _ => ∃ (a : Addr) (v : V) (q r : Rat), vs = [.ref a, v] ∧ IsR K H a q ∧ IsQ K H v r ∧ Mz q r ∧ ∀ p H', Same H H' → IsR K H' p (f q r) → Q (.ref p) H'
section
variable {P : Program} {w : World} {K : PySem.W.Frag} {mg : Str → Option Value} {base : Heap}
theorem ok_as_ratio (T : Ctx K mg) : OkD P w K mg base 5 (He.ga K "as_ratio") p_as_ratio [] (spOne K) := by
  obtain ⟨fd, F⟩ := F_as_ratio T
  refine ⟨⟨fd, [], fn_go (k := 4) F sc_as_ratio nm_as_ratio ?len ?body, .nil, FunD.bindsN F fun _ _ _ _ _ _ us hl => match us, hl with | [_], _ => rfl⟩, F.kp⟩
  case len =>
    rintro vs H Q E ⟨v, q, rfl, _⟩
    rfl
  case body =>
    intro X e1 e2 e3 e4 e5 S V1 hr vs H Q E hE h
    subst e1 e2 e3 e4 e5
    obtain ⟨v, q, rfl, hq, k⟩ := h
    show Wb X _ _ [some v] H
    refine wb_cons ?_
    rcases hq with ⟨n, rfl, rfl⟩ | ⟨a, rfl, ha⟩
    · exists "ni go"
      exact k _ _ (by assumption) (by assumption)
    · exists "ni go"
      exact k _ _ (Same.refl _) ha
end
section
variable {X : Cx} {σ : L2.St} {H : Hp} {Q : VK} {t b n : Int} {a : Addr} {q r : Rat} {v : V}
theorem go_as_ratio (T : Ctx X.K X.mg) (hr : Room 5 X.A) (hq : IsQ X.K H v q) (k : ∀ p H', Same H H' → IsR X.K H' p q → Q (.ref p) H') : Wf X (.ref (He.ga X.K "as_ratio")) [v] σ H Q :=
  wf_ok (ok_as_ratio T) hr ⟨v, q, rfl, hq, k⟩
end
end Rt

end

/-! TACR2: more of them. -/
section
open PySem PySem.Spec PyProof.Rows L2 Ni Pr Rt
local macro_rules | `(tactic| exists "ni keep") => `(tactic| first
  | assumption
  | (with_reducible exact isq_int)
  | ((with_reducible refine' isq_ref ?ni1); (case ni1 => exists "ni keep"))
  | ((with_reducible refine' IsR.mono ?ni1 ?ni2); (case ni1 => assumption); (case ni2 => exists "ni keep"))
  | ((with_reducible refine' IsQ.mono ?ni1 ?ni2); (case ni1 => assumption); (case ni2 => exists "ni keep")))
local macro_rules | `(tactic| exists "ni own") => `(tactic| first
  | ((with_reducible refine' fl_top ?ni1 ?ni2 ?_); (case ni1 => assumption); (case ni2 => exists "ni keep"))
  | ((with_reducible refine' fl_bot ?ni1 ?ni2 ?_); (case ni1 => assumption); (case ni2 => exists "ni keep"))
  | ((with_reducible refine' isi_int_int ?ni1 ?_); (case ni1 => assumption))
  | ((with_reducible refine' isi_int_R ?ni1 ?_); (case ni1 => assumption))
  | ((with_reducible refine' isi_R_R ?ni1 ?ni2 ?_); (case ni1 => assumption); (case ni2 => exists "ni keep"))
  | ((with_reducible refine' isi_R_int ?ni1 ?ni2 ?_); (case ni1 => assumption); (case ni2 => exists "ni keep"))
  | ((with_reducible refine' go_as_ratio ?ni1 ?ni2 ?ni3 ?_); (case ni1 => assumption); (case ni2 => exists "ni room"); (case ni3 => exists "ni keep"); intro _ _ _ _)
  | ((with_reducible refine' go_new1 ?ni1 ?ni2 ?_); (case ni1 => assumption); (case ni2 => exists "ni room"); intro _ _ _ _))
local macro_rules | `(tactic| exists "ni same") => `(tactic| first
  | assumption
  | exact Same.refl _
  | ((refine' Same.trans ?ni1 ?ni2); (case ni2 => assumption); (case ni1 => exists "ni same")))

/-! RL2: the signs of Ratio. -/
namespace Rt
open PySem PySem.Spec PyProof.Rows L2 Ni Pr
section
variable {P : Program} {w : World} {K : PySem.W.Frag} {mg : Str → Option Value} {base : Heap}
theorem ok_add (T : Ctx K mg) : OkD P w K mg base 10 (He.ma K (aR K) "__add__") p_Ratio___add__ [] (spBin K (· + ·)) := by
  obtain ⟨fd, F⟩ := F_Ratio___add__ T
  refine ⟨⟨fd, [], fn_go (k := 9) F sc_Ratio___add__ nm_Ratio___add__ ?len ?body, .nil, FunD.bindsN F fun _ _ _ _ _ _ us hl => match us, hl with | [_, _], _ => rfl⟩, F.kp⟩
  case len =>
    rintro vs H Q E ⟨a, v, q, r, rfl, _⟩
    rfl
  case body =>
    intro X e1 e2 e3 e4 e5 S V1 hr vs H Q E hE h
    subst e1 e2 e3 e4 e5
    obtain ⟨a, v, q, r, rfl, ha, hv, ⟨k, m, ⟨k1, k2⟩, ⟨m1, m2⟩, hkm⟩, fin⟩ := h
    show Wb X _ _ [some (.ref a), some v] H
    refine wb_cons ?_
    exists "ni go"
    refine go_new T (Room.mono hr (by decide)) ((k2.mul m2).mono (by omega)) (den_mul_ne q r) fun p H' s hp => ?_
    rw [q_add] at hp
    exact fin p H' (by exists "ni same") hp
end
end Rt

/-! RL3: signs between fractions and numbers. -/
namespace Rt
open PySem PySem.Spec PyProof.Rows L2 Ni Pr
def spRev (K : PySem.W.Frag) (f : Rat → Rat → Rat) : Sp := fun vs H Q _ => ∃ (a : Addr) (v : V) (q r : Rat), vs = [.ref a, v] ∧ IsR K H a q ∧ IsQ K H v r ∧ Mz q r ∧ ∀ p H', Same H H' → IsR K H' p (f r q) → Q (.ref p) H'
theorem Mz.symm {q r : Rat} (h : Mz q r) : Mz r q := let ⟨k, m, a, b, l⟩ := h; ⟨m, k, b, a, by omega⟩
theorem type_int : ∀ u {n : Int}, RelV (.int n) u → typeOf u = pure (.type "int") := by
  rintro u n ⟨t, rfl⟩
  rfl
section
variable {X : Cx} {σ : L2.St} {H : Hp} {Q : VK} {op : Operator} {a f f2 : Addr} {v : V} {q r : Rat} {fn : Rat → Rat → Rat} {k : Nat} {ps : List Str} {n : Int} {idl : String}
theorem o_bin (T : Ctx X.K X.mg) (O : OkD X.prog X.w X.K X.mg X.base k f ps [] (spBin X.K fn)) (g : Sg X.K (aR X.K) (PySem.dunder op.info.2) f) (g2 : Sg X.K (aR X.K) (dunderR op.info.2) f2)
    (h1 : ∃ fo, PySem.W.findIn X.K (.type "int") (PySem.dunder op.info.2) = some fo) (h2 : ∃ fo, PySem.W.findIn X.K (.type "int") (dunderR op.info.2) = some fo) (hr : Room k X.A) (ha : IsR X.K H a q) (hv : IsQ X.K H v r) (mz : Mz q r)
    (kk : ∀ p H', Same H H' → IsR X.K H' p (fn q r) → Q (.ref p) H') : Wo X (binaryOp op) (.ref a) v σ H Q := by
  have run := wf_ok (σ := σ) (Q := Q) (vs := [.ref a, v]) O hr ⟨a, v, q, r, rfl, ha, hv, mz, kk⟩
  obtain ⟨dx, e⟩ := ha
  obtain ⟨fo, h1⟩ := h1
  obtain ⟨ro, h2⟩ := h2
  rcases hv with ⟨n, rfl, rfl⟩ | ⟨b, rfl, dy, e2⟩
  · exact wo_left (T := "int") e (fun u => type_int u) (f_sf_Ratio T) g g2.hs (.inr ⟨_, rfl⟩) h1 h2 (f_sub_int'Ratio T) run
  · exact wo_two e e2 (f_sf_Ratio T) g run
theorem i_bin (T : Ctx X.K X.mg) (O : OkD X.prog X.w X.K X.mg X.base k f ps [] (spBin X.K fn)) (g : Sg X.K (aR X.K) (PySem.dunder op.info.2) f) (g2 : Sg X.K (aR X.K) (dunderR op.info.2) f2)
    (hT : fillsNumberSlot (.type "int") op.info.2 = pure true) (hn : noiB X.K (aR X.K) op.info.2 = true) (ho : typeLookup (.type "object") (dunderI op.info.2) = pure none)
    (h2 : ∃ fo, PySem.W.findIn X.K (.type "int") (dunderR op.info.2) = some fo) (hr : Room k X.A) (ha : IsR X.K H a q) (hv : IsQ X.K H v r) (mz : Mz q r)
    (kk : ∀ p H', Same H H' → IsR X.K H' p (fn q r) → Q (.ref p) H') : Wo X (inplaceOp op) (.ref a) v σ H Q := by
  have run := wf_ok (σ := σ) (Q := Q) (vs := [.ref a, v]) O hr ⟨a, v, q, r, rfl, ha, hv, mz, kk⟩
  obtain ⟨dx, e⟩ := ha
  obtain ⟨ro, h2⟩ := h2
  rcases hv with ⟨n, rfl, rfl⟩ | ⟨b, rfl, dy, e2⟩
  · exact wi_int e (f_sf_Ratio T) g hn ho g2.hs (.inr ⟨_, rfl⟩) hT h2 (f_sub_int'Ratio T) run
  · exact wi_two e e2 (f_sf_Ratio T) g hn ho run
theorem o_rev (T : Ctx X.K X.mg) (O : OkD X.prog X.w X.K X.mg X.base k f2 ps [] (spRev X.K fn)) (g : Sg X.K (aR X.K) (PySem.dunder op.info.2) f) (g2 : Sg X.K (aR X.K) (dunderR op.info.2) f2)
    (hT : fillsNumberSlot (.type "int") op.info.2 = pure true) (hl : Slot "int" (PySem.dunder op.info.2) idl) (up : GivesUp idl) (hr : Room k X.A) (ha : IsR X.K H a q) (mz : Mz q n)
    (kk : ∀ p H', Same H H' → IsR X.K H' p (fn n q) → Q (.ref p) H') : Wo X (binaryOp op) (.int n) (.ref a) σ H Q := by
  have run := wf_ok (σ := σ) (Q := Q) (vs := [.ref a, .int n]) O hr ⟨a, .int n, q, n, rfl, ha, .inl ⟨n, rfl, rfl⟩, mz, kk⟩
  obtain ⟨dx, e⟩ := ha
  exact wo_right e (f_sf_Ratio T) g g2 hT (f_sub_Ratio'int T) hl up run
end
end Rt

/-! RL4: the defs of the signs. -/
namespace Rt
open PySem PySem.Spec PyProof.Rows L2 Ni Pr
def spUn (K : PySem.W.Frag) (f : Rat → Rat) : Sp := fun vs H Q _ => ∃ (a : Addr) (q : Rat), vs = [.ref a] ∧ IsR K H a q ∧ Sz q 8990 ∧ ∀ p H', Same H H' → IsR K H' p (f q) → Q (.ref p) H'
def spNum (K : PySem.W.Frag) : Sp := fun vs H Q _ => ∃ (v : V) (r : Rat), vs = [v] ∧ IsQ K H v r ∧ Q (.bl true) H
section
variable {P : Program} {w : World} {K : PySem.W.Frag} {mg : Str → Option Value} {base : Heap}
theorem ok_is_number (T : Ctx K mg) : OkD P w K mg base 1 (He.ga K "is_number") p_is_number [] (spNum K) := by
  obtain ⟨fd, F⟩ := F_is_number T
  refine ⟨⟨fd, [], fn_go (k := 0) F sc_is_number nm_is_number ?len ?body, .nil, FunD.bindsN F fun _ _ _ _ _ _ us hl => match us, hl with | [_], _ => rfl⟩, F.kp⟩
  case len =>
    rintro vs H Q E ⟨v, r, rfl, _⟩
    rfl
  case body =>
    intro X e1 e2 e3 e4 e5 S V1 hr vs H Q E hE h
    subst e1 e2 e3 e4 e5
    obtain ⟨v, r, rfl, hv, fin⟩ := h
    show Wb X _ _ [some v] H
    refine wb_cons ?_
    rcases hv with ⟨n, rfl, rfl⟩ | ⟨a, rfl, ha⟩
    · exists "ni go"
      exact fin
    · exists "ni go"
      exact fin
end
section
variable {X : Cx} {σ : L2.St} {H : Hp} {Q : VK} {v : V} {r : Rat}
theorem go_is_number (T : Ctx X.K X.mg) (hr : Room 1 X.A) (hv : IsQ X.K H v r) (k : Q (.bl true) H) : Wf X (.ref (He.ga X.K "is_number")) [v] σ H Q := wf_ok (ok_is_number T) hr ⟨v, r, rfl, hv, k⟩
end
section
variable {P : Program} {w : World} {K : PySem.W.Frag} {mg : Str → Option Value} {base : Heap}
theorem ok_sub (T : Ctx K mg) : OkD P w K mg base 10 (He.ma K (aR K) "__sub__") p_Ratio___sub__ [] (spBin K (· - ·)) := by
  obtain ⟨fd, F⟩ := F_Ratio___sub__ T
  refine ⟨⟨fd, [], fn_go (k := 9) F sc_Ratio___sub__ nm_Ratio___sub__ ?len ?body, .nil, FunD.bindsN F fun _ _ _ _ _ _ us hl => match us, hl with | [_, _], _ => rfl⟩, F.kp⟩
  case len =>
    rintro vs H Q E ⟨a, v, q, r, rfl, _⟩
    rfl
  case body =>
    intro X e1 e2 e3 e4 e5 S V1 hr vs H Q E hE h
    subst e1 e2 e3 e4 e5
    obtain ⟨a, v, q, r, rfl, ha, hv, ⟨k, m, ⟨k1, k2⟩, ⟨m1, m2⟩, hkm⟩, fin⟩ := h
    show Wb X _ _ [some (.ref a), some v] H
    refine wb_cons ?_
    exists "ni go"
    refine go_new T (Room.mono hr (by decide)) ((k2.mul m2).mono (by omega)) (den_mul_ne q r) fun p H' s hp => ?_
    rw [q_sub] at hp
    exact fin p H' (by exists "ni same") hp
theorem ok_mul (T : Ctx K mg) : OkD P w K mg base 10 (He.ma K (aR K) "__mul__") p_Ratio___mul__ [] (spBin K (· * ·)) := by
  obtain ⟨fd, F⟩ := F_Ratio___mul__ T
  refine ⟨⟨fd, [], fn_go (k := 9) F sc_Ratio___mul__ nm_Ratio___mul__ ?len ?body, .nil, FunD.bindsN F fun _ _ _ _ _ _ us hl => match us, hl with | [_, _], _ => rfl⟩, F.kp⟩
  case len =>
    rintro vs H Q E ⟨a, v, q, r, rfl, _⟩
    rfl
  case body =>
    intro X e1 e2 e3 e4 e5 S V1 hr vs H Q E hE h
    subst e1 e2 e3 e4 e5
    obtain ⟨a, v, q, r, rfl, ha, hv, ⟨k, m, ⟨k1, k2⟩, ⟨m1, m2⟩, hkm⟩, fin⟩ := h
    show Wb X _ _ [some (.ref a), some v] H
    refine wb_cons ?_
    exists "ni go"
    refine go_is_number T (Room.mono hr (by decide)) hv ?_
    exists "ni go"
    refine go_new T (Room.mono hr (by decide)) ((k2.mul m2).mono (by omega)) (den_mul_ne q r) fun p H' s hp => ?_
    rw [q_mul] at hp
    exact fin p H' (by exists "ni same") hp
theorem ok_neg (T : Ctx K mg) : OkD P w K mg base 10 (He.ma K (aR K) "__neg__") p_Ratio___neg__ [] (spUn K (fun q => -q)) := by
  obtain ⟨fd, F⟩ := F_Ratio___neg__ T
  refine ⟨⟨fd, [], fn_go (k := 9) F sc_Ratio___neg__ nm_Ratio___neg__ ?len ?body, .nil, FunD.bindsN F fun _ _ _ _ _ _ us hl => match us, hl with | [_], _ => rfl⟩, F.kp⟩
  case len =>
    rintro vs H Q E ⟨a, q, rfl, _⟩
    rfl
  case body =>
    intro X e1 e2 e3 e4 e5 S V1 hr vs H Q E hE h
    subst e1 e2 e3 e4 e5
    obtain ⟨a, q, rfl, ha, ⟨s1, s2⟩, fin⟩ := h
    show Wb X _ _ [some (.ref a)] H
    refine wb_cons ?_
    exists "ni go"
    refine go_new T (Room.mono hr (by decide)) (s2.mono (by decide)) (den_ne q) fun p H' s hp => ?_
    rw [q_neg] at hp
    exact fin p H' (by exists "ni same") hp
theorem ok_abs (T : Ctx K mg) : OkD P w K mg base 10 (He.ma K (aR K) "__abs__") p_Ratio___abs__ [] (spUn K Rat.abs) := by
  obtain ⟨fd, F⟩ := F_Ratio___abs__ T
  refine ⟨⟨fd, [], fn_go (k := 9) F sc_Ratio___abs__ nm_Ratio___abs__ ?len ?body, .nil, FunD.bindsN F fun _ _ _ _ _ _ us hl => match us, hl with | [_], _ => rfl⟩, F.kp⟩
  case len =>
    rintro vs H Q E ⟨a, q, rfl, _⟩
    rfl
  case body =>
    intro X e1 e2 e3 e4 e5 S V1 hr vs H Q E hE h
    subst e1 e2 e3 e4 e5
    obtain ⟨a, q, rfl, ha, ⟨s1, s2⟩, fin⟩ := h
    show Wb X _ _ [some (.ref a)] H
    refine wb_cons ?_
    exists "ni go"
    refine go_new T (Room.mono hr (by decide)) (s2.mono (by decide)) (den_ne q) fun p H' s hp => ?_
    rw [q_abs] at hp
    exact fin p H' (by exists "ni same") hp
end
end Rt

/-! RL5: the signs as they are written, the reflected ones. -/
namespace Rt
open PySem PySem.Spec PyProof.Rows L2 Ni Pr
section
variable {X : Cx} {σ : L2.St} {H : Hp} {Q : VK} {a : Addr} {v : V} {q r : Rat} {n : Int}
theorem o_add (T : Ctx X.K X.mg) (hr : Room 10 X.A) (ha : IsR X.K H a q) (hv : IsQ X.K H v r) (mz : Mz q r) (kk : ∀ p H', Same H H' → IsR X.K H' p (q + r) → Q (.ref p) H') : Wo X (binaryOp .Add) (.ref a) v σ H Q :=
  o_bin T (ok_add T) (Sg.of_eq d_add (f_sg_Ratio'__add__ T)) (Sg.of_eq r_add (f_sg_Ratio'__radd__ T)) (find_eq d_add (f_find_int'__add__ T)) (find_eq r_add (f_find_int'__radd__ T)) hr ha hv mz kk
theorem o_sub (T : Ctx X.K X.mg) (hr : Room 10 X.A) (ha : IsR X.K H a q) (hv : IsQ X.K H v r) (mz : Mz q r) (kk : ∀ p H', Same H H' → IsR X.K H' p (q - r) → Q (.ref p) H') : Wo X (binaryOp .Sub) (.ref a) v σ H Q :=
  o_bin T (ok_sub T) (Sg.of_eq d_sub (f_sg_Ratio'__sub__ T)) (Sg.of_eq r_sub (f_sg_Ratio'__rsub__ T)) (find_eq d_sub (f_find_int'__sub__ T)) (find_eq r_sub (f_find_int'__rsub__ T)) hr ha hv mz kk
theorem o_mul (T : Ctx X.K X.mg) (hr : Room 10 X.A) (ha : IsR X.K H a q) (hv : IsQ X.K H v r) (mz : Mz q r) (kk : ∀ p H', Same H H' → IsR X.K H' p (q * r) → Q (.ref p) H') : Wo X (binaryOp .Mult) (.ref a) v σ H Q :=
  o_bin T (ok_mul T) (Sg.of_eq d_mul (f_sg_Ratio'__mul__ T)) (Sg.of_eq r_mul (f_sg_Ratio'__rmul__ T)) (find_eq d_mul (f_find_int'__mul__ T)) (find_eq r_mul (f_find_int'__rmul__ T)) hr ha hv mz kk
theorem i_add (T : Ctx X.K X.mg) (hr : Room 10 X.A) (ha : IsR X.K H a q) (hv : IsQ X.K H v r) (mz : Mz q r) (kk : ∀ p H', Same H H' → IsR X.K H' p (q + r) → Q (.ref p) H') : Wo X (inplaceOp .Add) (.ref a) v σ H Q :=
  i_bin T (ok_add T) (Sg.of_eq d_add (f_sg_Ratio'__add__ T)) (Sg.of_eq r_add (f_sg_Ratio'__radd__ T)) F.fills_int_add (f_noi_Ratio'add T) no_iadd (find_eq r_add (f_find_int'__radd__ T)) hr ha hv mz kk
theorem i_mul (T : Ctx X.K X.mg) (hr : Room 10 X.A) (ha : IsR X.K H a q) (hv : IsQ X.K H v r) (mz : Mz q r) (kk : ∀ p H', Same H H' → IsR X.K H' p (q * r) → Q (.ref p) H') : Wo X (inplaceOp .Mult) (.ref a) v σ H Q :=
  i_bin T (ok_mul T) (Sg.of_eq d_mul (f_sg_Ratio'__mul__ T)) (Sg.of_eq r_mul (f_sg_Ratio'__rmul__ T)) F.fills_int_mul (f_noi_Ratio'mul T) no_imul (find_eq r_mul (f_find_int'__rmul__ T)) hr ha hv mz kk
theorem o_neg (T : Ctx X.K X.mg) (hr : Room 10 X.A) (ha : IsR X.K H a q) (s : Sz q 8990) (kk : ∀ p H', Same H H' → IsR X.K H' p (-q) → Q (.ref p) H') : Wu X (unaryOp .USub) (.ref a) σ H Q := by
  have run := wf_ok (σ := σ) (Q := Q) (vs := [.ref a]) (ok_neg T) hr ⟨a, q, rfl, ha, s, kk⟩
  obtain ⟨dx, e⟩ := ha
  exact wu_neg e (f_sg_Ratio'__neg__ T) run
theorem o_abs (T : Ctx X.K X.mg) (hr : Room 11 X.A) (ha : IsR X.K H a q) (s : Sz q 8990) (kk : ∀ p H', Same H H' → IsR X.K H' p q.abs → Q (.ref p) H') : Wcb X (.builtin "abs") [.ref a] H Q := by
  have run := fun σ' => wfA_ok (σ := σ') (Q := Q) (vs := [.ref a]) (A := X.A.in1) (ok_abs T) hr.in1 rfl ⟨a, q, rfl, ha, s, kk⟩
  obtain ⟨dx, e⟩ := ha
  exact wcb_absO e (f_sg_Ratio'__abs__ T) run
end
section
open PySem PySem.Spec PyProof.Rows L2 Ni Pr Rt
local macro_rules | `(tactic| exists "ni own") => `(tactic| first
  | ((with_reducible refine' o_add ?ni1 ?ni2 ?ni3 ?ni4 ?ni5 ?_); (case ni1 => assumption); (case ni2 => exists "ni room"); (case ni3 => exists "ni keep"); (case ni4 => exists "ni keep"); (case ni5 => assumption))
  | ((with_reducible refine' o_sub ?ni1 ?ni2 ?ni3 ?ni4 ?ni5 ?_); (case ni1 => assumption); (case ni2 => exists "ni room"); (case ni3 => exists "ni keep"); (case ni4 => exists "ni keep"); (case ni5 => assumption))
  | ((with_reducible refine' o_mul ?ni1 ?ni2 ?ni3 ?ni4 ?ni5 ?_); (case ni1 => assumption); (case ni2 => exists "ni room"); (case ni3 => exists "ni keep"); (case ni4 => exists "ni keep"); (case ni5 => assumption))
  | ((with_reducible refine' go_as_ratio ?ni1 ?ni2 ?ni3 ?_); (case ni1 => assumption); (case ni2 => exists "ni room"); (case ni3 => exists "ni keep"); intro _ _ _ _))
section
variable {P : Program} {w : World} {K : PySem.W.Frag} {mg : Str → Option Value} {base : Heap}
theorem ok_radd (T : Ctx K mg) : OkD P w K mg base 15 (He.ma K (aR K) "__radd__") p_Ratio___radd__ [] (spRev K (· + ·)) := by
  obtain ⟨fd, F⟩ := F_Ratio___radd__ T
  refine ⟨⟨fd, [], fn_go (k := 14) F sc_Ratio___radd__ nm_Ratio___radd__ ?len ?body, .nil, FunD.bindsN F fun _ _ _ _ _ _ us hl => match us, hl with | [_, _], _ => rfl⟩, F.kp⟩
  case len =>
    rintro vs H Q E ⟨a, v, q, r, rfl, _⟩
    rfl
  case body =>
    intro X e1 e2 e3 e4 e5 S V1 hr vs H Q E hE h
    subst e1 e2 e3 e4 e5
    obtain ⟨a, v, q, r, rfl, ha, hv, mz, fin⟩ := h
    have mz2 := mz.symm
    show Wb X _ _ [some (.ref a), some v] H
    refine wb_cons ?_
    exists "ni go"
    intro p H1 s1 i1
    rw [Rat.add_comm] at i1
    exact fin p H1 s1 i1
theorem ok_rsub (T : Ctx K mg) : OkD P w K mg base 15 (He.ma K (aR K) "__rsub__") p_Ratio___rsub__ [] (spRev K (· - ·)) := by
  obtain ⟨fd, F⟩ := F_Ratio___rsub__ T
  refine ⟨⟨fd, [], fn_go (k := 14) F sc_Ratio___rsub__ nm_Ratio___rsub__ ?len ?body, .nil, FunD.bindsN F fun _ _ _ _ _ _ us hl => match us, hl with | [_, _], _ => rfl⟩, F.kp⟩
  case len =>
    rintro vs H Q E ⟨a, v, q, r, rfl, _⟩
    rfl
  case body =>
    intro X e1 e2 e3 e4 e5 S V1 hr vs H Q E hE h
    subst e1 e2 e3 e4 e5
    obtain ⟨a, v, q, r, rfl, ha, hv, mz, fin⟩ := h
    have mz2 := mz.symm
    show Wb X _ _ [some (.ref a), some v] H
    refine wb_cons ?_
    exists "ni go"
    intro p H1 s1 i1
    exact fin p H1 (by exists "ni same") i1
theorem ok_rmul (T : Ctx K mg) : OkD P w K mg base 15 (He.ma K (aR K) "__rmul__") p_Ratio___rmul__ [] (spRev K (· * ·)) := by
  obtain ⟨fd, F⟩ := F_Ratio___rmul__ T
  refine ⟨⟨fd, [], fn_go (k := 14) F sc_Ratio___rmul__ nm_Ratio___rmul__ ?len ?body, .nil, FunD.bindsN F fun _ _ _ _ _ _ us hl => match us, hl with | [_, _], _ => rfl⟩, F.kp⟩
  case len =>
    rintro vs H Q E ⟨a, v, q, r, rfl, _⟩
    rfl
  case body =>
    intro X e1 e2 e3 e4 e5 S V1 hr vs H Q E hE h
    subst e1 e2 e3 e4 e5
    obtain ⟨a, v, q, r, rfl, ha, hv, mz, fin⟩ := h
    have mz2 := mz.symm
    show Wb X _ _ [some (.ref a), some v] H
    refine wb_cons ?_
    exists "ni go"
    intro p H1 s1 i1
    rw [Rat.mul_comm] at i1
    exact fin p H1 s1 i1
end
end
section
variable {X : Cx} {σ : L2.St} {H : Hp} {Q : VK} {a : Addr} {v : V} {q r : Rat} {n : Int}
theorem l_add (T : Ctx X.K X.mg) (hr : Room 15 X.A) (ha : IsR X.K H a q) (mz : Mz q n) (kk : ∀ p H', Same H H' → IsR X.K H' p ((n : Rat) + q) → Q (.ref p) H') : Wo X (binaryOp .Add) (.int n) (.ref a) σ H Q :=
  o_rev T (ok_radd T) (Sg.of_eq d_add (f_sg_Ratio'__add__ T)) (Sg.of_eq r_add (f_sg_Ratio'__radd__ T)) F.fills_int_add F.slot_int_add up_add hr ha mz kk
theorem l_sub (T : Ctx X.K X.mg) (hr : Room 15 X.A) (ha : IsR X.K H a q) (mz : Mz q n) (kk : ∀ p H', Same H H' → IsR X.K H' p ((n : Rat) - q) → Q (.ref p) H') : Wo X (binaryOp .Sub) (.int n) (.ref a) σ H Q :=
  o_rev T (ok_rsub T) (Sg.of_eq d_sub (f_sg_Ratio'__sub__ T)) (Sg.of_eq r_sub (f_sg_Ratio'__rsub__ T)) F.fills_int_sub F.slot_int_sub up_sub hr ha mz kk
theorem l_mul (T : Ctx X.K X.mg) (hr : Room 15 X.A) (ha : IsR X.K H a q) (mz : Mz q n) (kk : ∀ p H', Same H H' → IsR X.K H' p ((n : Rat) * q) → Q (.ref p) H') : Wo X (binaryOp .Mult) (.int n) (.ref a) σ H Q :=
  o_rev T (ok_rmul T) (Sg.of_eq d_mul (f_sg_Ratio'__mul__ T)) (Sg.of_eq r_mul (f_sg_Ratio'__rmul__ T)) F.fills_int_mul F.slot_int_mul up_mul hr ha mz kk
end
end Rt

/-! RL6: comparisons. -/
namespace Rt
open PySem PySem.Spec PyProof.Rows L2 Ni Pr
def spCmp (K : PySem.W.Frag) (f : Rat → Rat → Bool) : Sp := fun vs H Q _ => ∃ (a : Addr) (v : V) (q r : Rat), vs = [.ref a, v] ∧ IsR K H a q ∧ IsQ K H v r ∧ Mz q r ∧ ∀ H', Same H H' → Q (.bl (f q r)) H'
theorem d_lt {q r : Rat} : decide (q.num * (r.den : Int) < r.num * (q.den : Int)) = decide (q < r) := decide_eq_decide.mpr (Rat.lt_iff q r).symm
theorem d_gt {q r : Rat} : decide (r.num * (q.den : Int) < q.num * (r.den : Int)) = decide (r < q) := decide_eq_decide.mpr (Rat.lt_iff r q).symm
theorem d_le {q r : Rat} : decide (q.num * (r.den : Int) ≤ r.num * (q.den : Int)) = decide (q ≤ r) := decide_eq_decide.mpr (Rat.le_iff q r).symm
theorem d_ge {q r : Rat} : decide (r.num * (q.den : Int) ≤ q.num * (r.den : Int)) = decide (r ≤ q) := decide_eq_decide.mpr (Rat.le_iff r q).symm
theorem q_ext {q r : Rat} (h1 : q.num = r.num) (h2 : (q.den : Int) = (r.den : Int)) : q = r := Rat.ext h1 (by omega)
section
variable {P : Program} {w : World} {K : PySem.W.Frag} {mg : Str → Option Value} {base : Heap}
theorem ok_lt (T : Ctx K mg) : OkD P w K mg base 10 (He.ma K (aR K) "__lt__") p_Ratio___lt__ [] (spCmp K (fun q r => decide (q < r))) := by
  obtain ⟨fd, F⟩ := F_Ratio___lt__ T
  refine ⟨⟨fd, [], fn_go (k := 9) F sc_Ratio___lt__ nm_Ratio___lt__ ?len ?body, .nil, FunD.bindsN F fun _ _ _ _ _ _ us hl => match us, hl with | [_, _], _ => rfl⟩, F.kp⟩
  case len =>
    rintro vs H Q E ⟨a, v, q, r, rfl, _⟩
    rfl
  case body =>
    intro X e1 e2 e3 e4 e5 S V1 hr vs H Q E hE h
    subst e1 e2 e3 e4 e5
    obtain ⟨a, v, q, r, rfl, ha, hv, ⟨k, m, ⟨k1, k2⟩, ⟨m1, m2⟩, hkm⟩, fin⟩ := h
    show Wb X _ _ [some (.ref a), some v] H
    refine wb_cons ?_
    exists "ni go"
    rw [d_lt]
    exact fin _ (by exists "ni same")
theorem ok_le (T : Ctx K mg) : OkD P w K mg base 10 (He.ma K (aR K) "__le__") p_Ratio___le__ [] (spCmp K (fun q r => decide (q ≤ r))) := by
  obtain ⟨fd, F⟩ := F_Ratio___le__ T
  refine ⟨⟨fd, [], fn_go (k := 9) F sc_Ratio___le__ nm_Ratio___le__ ?len ?body, .nil, FunD.bindsN F fun _ _ _ _ _ _ us hl => match us, hl with | [_, _], _ => rfl⟩, F.kp⟩
  case len =>
    rintro vs H Q E ⟨a, v, q, r, rfl, _⟩
    rfl
  case body =>
    intro X e1 e2 e3 e4 e5 S V1 hr vs H Q E hE h
    subst e1 e2 e3 e4 e5
    obtain ⟨a, v, q, r, rfl, ha, hv, ⟨k, m, ⟨k1, k2⟩, ⟨m1, m2⟩, hkm⟩, fin⟩ := h
    show Wb X _ _ [some (.ref a), some v] H
    refine wb_cons ?_
    exists "ni go"
    rw [d_le]
    exact fin _ (by exists "ni same")
theorem ok_gt (T : Ctx K mg) : OkD P w K mg base 10 (He.ma K (aR K) "__gt__") p_Ratio___gt__ [] (spCmp K (fun q r => decide (r < q))) := by
  obtain ⟨fd, F⟩ := F_Ratio___gt__ T
  refine ⟨⟨fd, [], fn_go (k := 9) F sc_Ratio___gt__ nm_Ratio___gt__ ?len ?body, .nil, FunD.bindsN F fun _ _ _ _ _ _ us hl => match us, hl with | [_, _], _ => rfl⟩, F.kp⟩
  case len =>
    rintro vs H Q E ⟨a, v, q, r, rfl, _⟩
    rfl
  case body =>
    intro X e1 e2 e3 e4 e5 S V1 hr vs H Q E hE h
    subst e1 e2 e3 e4 e5
    obtain ⟨a, v, q, r, rfl, ha, hv, ⟨k, m, ⟨k1, k2⟩, ⟨m1, m2⟩, hkm⟩, fin⟩ := h
    show Wb X _ _ [some (.ref a), some v] H
    refine wb_cons ?_
    exists "ni go"
    rw [d_gt]
    exact fin _ (by exists "ni same")
theorem ok_ge (T : Ctx K mg) : OkD P w K mg base 10 (He.ma K (aR K) "__ge__") p_Ratio___ge__ [] (spCmp K (fun q r => decide (r ≤ q))) := by
  obtain ⟨fd, F⟩ := F_Ratio___ge__ T
  refine ⟨⟨fd, [], fn_go (k := 9) F sc_Ratio___ge__ nm_Ratio___ge__ ?len ?body, .nil, FunD.bindsN F fun _ _ _ _ _ _ us hl => match us, hl with | [_, _], _ => rfl⟩, F.kp⟩
  case len =>
    rintro vs H Q E ⟨a, v, q, r, rfl, _⟩
    rfl
  case body =>
    intro X e1 e2 e3 e4 e5 S V1 hr vs H Q E hE h
    subst e1 e2 e3 e4 e5
    obtain ⟨a, v, q, r, rfl, ha, hv, ⟨k, m, ⟨k1, k2⟩, ⟨m1, m2⟩, hkm⟩, fin⟩ := h
    show Wb X _ _ [some (.ref a), some v] H
    refine wb_cons ?_
    exists "ni go"
    rw [d_ge]
    exact fin _ (by exists "ni same")
theorem ok_eq (T : Ctx K mg) : OkD P w K mg base 10 (He.ma K (aR K) "__eq__") p_Ratio___eq__ [] (spCmp K (fun q r => decide (q = r))) := by
  obtain ⟨fd, F⟩ := F_Ratio___eq__ T
  refine ⟨⟨fd, [], fn_go (k := 9) F sc_Ratio___eq__ nm_Ratio___eq__ ?len ?body, .nil, FunD.bindsN F fun _ _ _ _ _ _ us hl => match us, hl with | [_, _], _ => rfl⟩, F.kp⟩
  case len =>
    rintro vs H Q E ⟨a, v, q, r, rfl, _⟩
    rfl
  case body =>
    intro X e1 e2 e3 e4 e5 S V1 hr vs H Q E hE h
    subst e1 e2 e3 e4 e5
    obtain ⟨a, v, q, r, rfl, ha, hv, ⟨k, m, ⟨k1, k2⟩, ⟨m1, m2⟩, hkm⟩, fin⟩ := h
    show Wb X _ _ [some (.ref a), some v] H
    refine wb_cons ?_
    exists "ni go"
    refine go_is_number T (Room.mono hr (by decide)) hv ?_
    exists "ni go"
    refine if_d (fun z1 => ?_) (fun z1 => ?_)
    · exists "ni go"
      have e : decide ((q.den : Int) = (r.den : Int)) = decide (q = r) := decide_eq_decide.mpr ⟨fun z2 => q_ext z1 z2, fun z2 => by rw [z2]⟩
      rw [e]
      exact fin _ (by exists "ni same")
    · have e : decide (q = r) = false := decide_eq_false fun z2 => z1 (by rw [z2])
      dsimp only at fin
      rw [e] at fin
      exact fin _ (by exists "ni same")
end
section
variable {X : Cx} {σ : L2.St} {H : Hp} {Q : VK} {cop : CmpOp} {a f : Addr} {v : V} {q r : Rat} {p : Rat → Rat → Bool} {k : Nat} {ps : List Str} {n : Int} {idl : String}
theorem nf_self {K : PySem.W.Frag} {C : Addr} : PySem.W.notFirst K C (.ref C) = true := by simp [PySem.W.notFirst]
theorem c_cmp (T : Ctx X.K X.mg) (O : OkD X.prog X.w X.K X.mg X.base k f ps [] (spCmp X.K p)) (g : Sg X.K (aR X.K) (cmpInfo cop).2.1 f) (hr : Room k X.A) (ha : IsR X.K H a q) (hv : IsQ X.K H v r) (mz : Mz q r) (kk : ∀ H', Same H H' → Q (.bl (p q r)) H') :
    Wo X (richCompare cop) (.ref a) v σ H Q := by
  have run := wf_ok (σ := σ) (Q := Q) (vs := [.ref a, v]) O hr ⟨a, v, q, r, rfl, ha, hv, mz, kk⟩
  obtain ⟨dx, e⟩ := ha
  rcases hv with ⟨n, rfl, rfl⟩ | ⟨b, rfl, dy, e2⟩
  · exact wo_cmp hr e (fun pins s u I r => PySem.W.Looks.of_pure (type_int u r)) (f_nf_Ratio'int T) g run
  · refine wo_cmp hr e (tb := .ref (aR X.K)) (fun pins s u I r => ?_) nf_self g run
    cases r
    obtain ⟨od, J⟩ := inst_at I e2
    exact J.type
theorem c_cmpR (T : Ctx X.K X.mg) (O : OkD X.prog X.w X.K X.mg X.base k f ps [] (spCmp X.K p)) (g : Sg X.K (aR X.K) (cmpInfo cop).2.2 f) (hl : Slot "int" (cmpInfo cop).2.1 idl) (up : GivesUp idl) (hr : Room k X.A) (ha : IsR X.K H a q) (mz : Mz q n)
    (kk : ∀ H', Same H H' → Q (.bl (p q n)) H') : Wo X (richCompare cop) (.int n) (.ref a) σ H Q := by
  have run := wf_ok (σ := σ) (Q := Q) (vs := [.ref a, .int n]) O hr ⟨a, .int n, q, n, rfl, ha, .inl ⟨n, rfl, rfl⟩, mz, kk⟩
  obtain ⟨dx, e⟩ := ha
  exact wo_cmpR hr e g (f_sub_Ratio'int T) hl up run
theorem c_ne (T : Ctx X.K X.mg) (hr : Room 11 X.A) (ha : IsR X.K H a q) (hv : IsQ X.K H v r) (mz : Mz q r) (kk : ∀ H', Same H H' → Q (.bl (!decide (q = r))) H') : Wo X (compareOp .NotEq) (.ref a) v σ H Q := by
  have run := wfA_ok (σ := σ) (A := X.A.in1) (Q := fun v H' => ∃ c, v = .bl c ∧ Q (.bl (!c)) H') (vs := [.ref a, v]) (ok_eq T) hr.in1 rfl ⟨a, v, q, r, rfl, ha, hv, mz, fun H' s => ⟨_, rfl, kk H' s⟩⟩
  obtain ⟨dx, e⟩ := ha
  rcases hv with ⟨n, rfl, rfl⟩ | ⟨b, rfl, dy, e2⟩
  · exact wo_neL hr e (fun pins s u I r => PySem.W.Looks.of_pure (type_int u r)) (f_nf_Ratio'int T) (f_neb_Ratio T) (f_sg_Ratio'__eq__ T) run
  · refine wo_neL hr e (tb := .ref (aR X.K)) (fun pins s u I r => ?_) nf_self (f_neb_Ratio T) (f_sg_Ratio'__eq__ T) run
    cases r
    obtain ⟨od, J⟩ := inst_at I e2
    exact J.type
theorem c_neR (T : Ctx X.K X.mg) (hr : Room 11 X.A) (ha : IsR X.K H a q) (mz : Mz q n) (kk : ∀ H', Same H H' → Q (.bl (!decide (q = n))) H') : Wo X (compareOp .NotEq) (.int n) (.ref a) σ H Q := by
  have run := wfA_ok (σ := σ) (A := X.A.in1) (Q := fun v H' => ∃ c, v = .bl c ∧ Q (.bl (!c)) H') (vs := [.ref a, .int n]) (ok_eq T) hr.in1 rfl ⟨a, .int n, q, n, rfl, ha, .inl ⟨n, rfl, rfl⟩, mz, fun H' s => ⟨_, rfl, kk H' s⟩⟩
  obtain ⟨dx, e⟩ := ha
  exact wo_neR hr e (f_neb_Ratio T) (f_sg_Ratio'__eq__ T) (f_sub_Ratio'int T) run
theorem c_lt (T : Ctx X.K X.mg) (hr : Room 10 X.A) (ha : IsR X.K H a q) (hv : IsQ X.K H v r) (mz : Mz q r) (kk : ∀ H', Same H H' → Q (.bl (decide (q < r))) H') : Wo X (compareOp .Lt) (.ref a) v σ H Q :=
  c_cmp (cop := .Lt) T (ok_lt T) (Sg.of_eq (by decide +kernel) (f_sg_Ratio'__lt__ T)) hr ha hv mz kk
theorem c_ltR (T : Ctx X.K X.mg) (hr : Room 10 X.A) (ha : IsR X.K H a q) (mz : Mz q n) (kk : ∀ H', Same H H' → Q (.bl (decide ((n : Rat) < q))) H') : Wo X (compareOp .Lt) (.int n) (.ref a) σ H Q :=
  c_cmpR (cop := .Lt) T (ok_gt T) (Sg.of_eq (by decide +kernel) (f_sg_Ratio'__gt__ T)) F.slot_int_lt up_lt hr ha mz kk
theorem c_le (T : Ctx X.K X.mg) (hr : Room 10 X.A) (ha : IsR X.K H a q) (hv : IsQ X.K H v r) (mz : Mz q r) (kk : ∀ H', Same H H' → Q (.bl (decide (q ≤ r))) H') : Wo X (compareOp .LtE) (.ref a) v σ H Q :=
  c_cmp (cop := .LtE) T (ok_le T) (Sg.of_eq (by decide +kernel) (f_sg_Ratio'__le__ T)) hr ha hv mz kk
theorem c_leR (T : Ctx X.K X.mg) (hr : Room 10 X.A) (ha : IsR X.K H a q) (mz : Mz q n) (kk : ∀ H', Same H H' → Q (.bl (decide ((n : Rat) ≤ q))) H') : Wo X (compareOp .LtE) (.int n) (.ref a) σ H Q :=
  c_cmpR (cop := .LtE) T (ok_ge T) (Sg.of_eq (by decide +kernel) (f_sg_Ratio'__ge__ T)) F.slot_int_le up_le hr ha mz kk
theorem c_gt (T : Ctx X.K X.mg) (hr : Room 10 X.A) (ha : IsR X.K H a q) (hv : IsQ X.K H v r) (mz : Mz q r) (kk : ∀ H', Same H H' → Q (.bl (decide (r < q))) H') : Wo X (compareOp .Gt) (.ref a) v σ H Q :=
  c_cmp (cop := .Gt) T (ok_gt T) (Sg.of_eq (by decide +kernel) (f_sg_Ratio'__gt__ T)) hr ha hv mz kk
theorem c_gtR (T : Ctx X.K X.mg) (hr : Room 10 X.A) (ha : IsR X.K H a q) (mz : Mz q n) (kk : ∀ H', Same H H' → Q (.bl (decide (q < n))) H') : Wo X (compareOp .Gt) (.int n) (.ref a) σ H Q :=
  c_cmpR (cop := .Gt) T (ok_lt T) (Sg.of_eq (by decide +kernel) (f_sg_Ratio'__lt__ T)) F.slot_int_gt up_gt hr ha mz kk
theorem c_ge (T : Ctx X.K X.mg) (hr : Room 10 X.A) (ha : IsR X.K H a q) (hv : IsQ X.K H v r) (mz : Mz q r) (kk : ∀ H', Same H H' → Q (.bl (decide (r ≤ q))) H') : Wo X (compareOp .GtE) (.ref a) v σ H Q :=
  c_cmp (cop := .GtE) T (ok_ge T) (Sg.of_eq (by decide +kernel) (f_sg_Ratio'__ge__ T)) hr ha hv mz kk
theorem c_geR (T : Ctx X.K X.mg) (hr : Room 10 X.A) (ha : IsR X.K H a q) (mz : Mz q n) (kk : ∀ H', Same H H' → Q (.bl (decide (q ≤ n))) H') : Wo X (compareOp .GtE) (.int n) (.ref a) σ H Q :=
  c_cmpR (cop := .GtE) T (ok_le T) (Sg.of_eq (by decide +kernel) (f_sg_Ratio'__le__ T)) F.slot_int_ge up_ge hr ha mz kk
theorem c_eq (T : Ctx X.K X.mg) (hr : Room 10 X.A) (ha : IsR X.K H a q) (hv : IsQ X.K H v r) (mz : Mz q r) (kk : ∀ H', Same H H' → Q (.bl (decide (q = r))) H') : Wo X (compareOp .Eq) (.ref a) v σ H Q :=
  c_cmp (cop := .Eq) T (ok_eq T) (Sg.of_eq (by decide +kernel) (f_sg_Ratio'__eq__ T)) hr ha hv mz kk
theorem c_eqR (T : Ctx X.K X.mg) (hr : Room 10 X.A) (ha : IsR X.K H a q) (mz : Mz q n) (kk : ∀ H', Same H H' → Q (.bl (decide (q = n))) H') : Wo X (compareOp .Eq) (.int n) (.ref a) σ H Q :=
  c_cmpR (cop := .Eq) T (ok_eq T) (Sg.of_eq (by decide +kernel) (f_sg_Ratio'__eq__ T)) F.slot_int_eq up_eq hr ha mz kk
end
end Rt

/-! RL7: bool, == with what is no number, greatest. -/
section
open PySem PySem.Spec PyProof.Rows L2 Ni Pr Rt
local macro_rules | `(tactic| exists "ni own") => `(tactic| first
  | ((with_reducible refine' fl_top ?ni1 ?ni2 ?_); (case ni1 => assumption); (case ni2 => exists "ni keep"))
  | ((with_reducible refine' fl_bot ?ni1 ?ni2 ?_); (case ni1 => assumption); (case ni2 => exists "ni keep"))
  | (with_reducible refine' wcb_boolB ?_)
  | ((with_reducible refine' go_as_ratio ?ni1 ?ni2 ?ni3 ?_); (case ni1 => assumption); (case ni2 => exists "ni room"); (case ni3 => exists "ni keep"); intro _ _ _ _))
namespace Rt
def spBool (K : PySem.W.Frag) : Sp := fun vs H Q _ => ∃ (a : Addr) (q : Rat), vs = [.ref a] ∧ IsR K H a q ∧ Q (.bl (!decide (q = 0))) H
/-- no number -/
def NonN (K : PySem.W.Frag) (H : Hp) (v : V) : Prop := ∃ t, TyX K H v t ∧ PySem.W.kitOne K t (.type "int") = some false ∧ PySem.W.kitOne K t (.ref (aR K)) = some false
def spNone (K : PySem.W.Frag) : Sp := fun vs H Q _ => ∃ v : V, vs = [v] ∧ NonN K H v ∧ Q (.bl false) H
def spEqN (K : PySem.W.Frag) : Sp := fun vs H Q _ => ∃ (a : Addr) (v : V), vs = [.ref a, v] ∧ NonN K H v ∧ Q (.bl false) H
section
variable {P : Program} {w : World} {K : PySem.W.Frag} {mg : Str → Option Value} {base : Heap}
theorem ok_bool (T : Ctx K mg) : OkD P w K mg base 2 (He.ma K (aR K) "__bool__") p_Ratio___bool__ [] (spBool K) := by
  obtain ⟨fd, F⟩ := F_Ratio___bool__ T
  refine ⟨⟨fd, [], fn_go (k := 1) F sc_Ratio___bool__ nm_Ratio___bool__ ?len ?body, .nil, FunD.bindsN F fun _ _ _ _ _ _ us hl => match us, hl with | [_], _ => rfl⟩, F.kp⟩
  case len =>
    rintro vs H Q E ⟨a, q, rfl, _⟩
    rfl
  case body =>
    intro X e1 e2 e3 e4 e5 S V1 hr vs H Q E hE h
    subst e1 e2 e3 e4 e5
    obtain ⟨a, q, rfl, ha, k⟩ := h
    show Wb X _ _ [some (.ref a)] H
    refine wb_cons ?_
    exists "ni go"
    rw [show decide (q.num = 0) = decide (q = 0) from decide_eq_decide.mpr Rat.num_eq_zero]
    exact k
theorem ok_is_none (T : Ctx K mg) : OkD P w K mg base 1 (He.ga K "is_number") p_is_number [] (spNone K) := by
  obtain ⟨fd, F⟩ := F_is_number T
  refine ⟨⟨fd, [], fn_go (k := 0) F sc_is_number nm_is_number ?len ?body, .nil, FunD.bindsN F fun _ _ _ _ _ _ us hl => match us, hl with | [_], _ => rfl⟩, F.kp⟩
  case len =>
    rintro vs H Q E ⟨v, rfl, _⟩
    rfl
  case body =>
    intro X e1 e2 e3 e4 e5 S V1 hr vs H Q E hE h
    subst e1 e2 e3 e4 e5
    obtain ⟨v, rfl, ⟨t, ty, k1, k2⟩, fin⟩ := h
    show Wb X _ _ [some v] H
    refine wb_cons ?_
    exists "ni go"
    refine wcb_isi (.ty "int") ty k1 ?_
    exists "ni go"
    refine wcb_isi (.own _) ty k2 ?_
    exact fin
end
section
variable {X : Cx} {σ : L2.St} {H : Hp} {Q : VK} {v : V}
theorem go_is_none (T : Ctx X.K X.mg) (hr : Room 1 X.A) (hv : NonN X.K H v) (k : Q (.bl false) H) : Wf X (.ref (He.ga X.K "is_number")) [v] σ H Q := wf_ok (ok_is_none T) hr ⟨v, rfl, hv, k⟩
end
section
variable {P : Program} {w : World} {K : PySem.W.Frag} {mg : Str → Option Value} {base : Heap}
theorem ok_eqN (T : Ctx K mg) : OkD P w K mg base 10 (He.ma K (aR K) "__eq__") p_Ratio___eq__ [] (spEqN K) := by
  obtain ⟨fd, F⟩ := F_Ratio___eq__ T
  refine ⟨⟨fd, [], fn_go (k := 9) F sc_Ratio___eq__ nm_Ratio___eq__ ?len ?body, .nil, FunD.bindsN F fun _ _ _ _ _ _ us hl => match us, hl with | [_, _], _ => rfl⟩, F.kp⟩
  case len =>
    rintro vs H Q E ⟨a, v, rfl, _⟩
    rfl
  case body =>
    intro X e1 e2 e3 e4 e5 S V1 hr vs H Q E hE h
    subst e1 e2 e3 e4 e5
    obtain ⟨a, v, rfl, nn, fin⟩ := h
    show Wb X _ _ [some (.ref a), some v] H
    refine wb_cons ?_
    exists "ni go"
    refine go_is_none T (Room.mono hr (by decide)) nn ?_
    exists "ni go"
    exact fin
end
end Rt

end

end

/-! LH: the law's own helpers: the draws from the script. -/
namespace Lh
open PySem PySem.Spec PyProof.Rows L2 Ni Pr
/-- the pool at P: the script's copy, a place, a rest, a turn -/
def PoolS (H : Hp) (P s : Addr) : Prop := ∃ (ns : List Int) (i c t : Int), H P = some (.lst [.ref s, .int i, .int c, .int t]) ∧ H s = some (.lst (ns.map V.int)) ∧ s ≠ P ∧ 0 ≤ i ∧ 0 ≤ c
def Pool (H : Hp) (P : Addr) : Prop := ∃ s : Addr, PoolS H P s
/-- all but the pool stands -/
def Mild (P : Addr) (H H' : Hp) : Prop := ∀ b o, H b = some o → b ≠ P → H' b = some o
theorem mild_upd (P : Addr) (H : Hp) (o : HO) : Mild P H (upd H P o) := fun b u e n => by rw [upd_ne n]; exact e
theorem Mild.trans {P : Addr} {H H1 H2 : Hp} (a : Mild P H H1) (b : Mild P H1 H2) : Mild P H H2 := fun c o e n => b c o (a c o e n) n
theorem Mild.refl (P : Addr) (H : Hp) : Mild P H H := fun _ _ e _ => e
theorem at_ints {ns : List Int} {i : Int} (h0 : 0 ≤ i) (h1 : i < (ns.length : Int)) : ∃ n : Int, atI (ns.map V.int) i = some (.int n) := by
  obtain ⟨j, rfl⟩ := Int.eq_ofNat_of_zero_le h0
  have hj : j < ns.length := by omega
  exact ⟨ns[j], atI_nat (by rw [List.getElem?_map, List.getElem?_eq_getElem hj]; rfl)⟩
def spMixed : Sp := fun vs H Q _ => ∃ c t : Int, vs = [.int c, .int t] ∧ ∀ d : Int, Q (.int d) H
def spDraw : Sp := fun vs H Q _ => ∃ (P s : Addr) (m : Int), vs = [.ref P, .int m] ∧ PoolS H P s ∧ 0 < m ∧ Bd m 8999 ∧ ∀ (d : Int) H', 0 ≤ d → d < m → PoolS H' P s → Mild P H H' → Q (.int d) H'
section
variable {P : Program} {w : World} {K : PySem.W.Frag} {mg : Str → Option Value} {base : Heap}
theorem ok_mixed (T : Ctx K mg) : OkD P w K mg base 1 (He.ga K "_law_mixed") p__law_mixed [] spMixed := by
  obtain ⟨fd, F⟩ := F__law_mixed T
  refine ⟨⟨fd, [], fn_go (k := 0) F sc__law_mixed nm__law_mixed ?len ?body, .nil, FunD.bindsN F fun _ _ _ _ _ _ us hl => match us, hl with | [_, _], _ => rfl⟩, F.kp⟩
  case len =>
    rintro vs H Q E ⟨c, t, rfl, _⟩
    rfl
  case body =>
    intro X e1 e2 e3 e4 e5 S V1 hr vs H Q E hE h
    subst e1 e2 e3 e4 e5
    obtain ⟨c, t, rfl, k⟩ := h
    show Wb X _ _ [some (.int c), some (.int t), none, none] H
    refine wb_cons ?_
    exists "ni go"
    exact k _
end
section
variable {X : Cx} {σ : L2.St} {H : Hp} {Q : VK}
theorem go_mixed (T : Ctx X.K X.mg) (hr : Room 1 X.A) {c t : Int} (k : ∀ d : Int, Q (.int d) H) : Wf X (.ref (He.ga X.K "_law_mixed")) [.int c, .int t] σ H Q := wf_ok (ok_mixed T) hr ⟨c, t, rfl, k⟩
end
end Lh

section
open PySem PySem.Spec PyProof.Rows L2 Ni Pr Lh
local macro_rules | `(tactic| exists "ni own") => `(tactic| first
  | ((with_reducible refine' go_mixed ?ni1 ?ni2 ?_); (case ni1 => assumption); (case ni2 => exists "ni room"); intro _))
namespace Lh
section
variable {P : Program} {w : World} {K : PySem.W.Frag} {mg : Str → Option Value} {base : Heap}
theorem ok_draw (T : Ctx K mg) : OkD P w K mg base 5 (He.ga K "_law_draw") p__law_draw [] spDraw := by
  obtain ⟨fd, F⟩ := F__law_draw T
  refine ⟨⟨fd, [], fn_go (k := 4) F sc__law_draw nm__law_draw ?len ?body, .nil, FunD.bindsN F fun _ _ _ _ _ _ us hl => match us, hl with | [_, _], _ => rfl⟩, F.kp⟩
  case len =>
    rintro vs H Q E ⟨P, s, m, rfl, _⟩
    rfl
  case body =>
    intro X e1 e2 e3 e4 e5 S V1 hr vs H Q E hE h
    subst e1 e2 e3 e4 e5
    obtain ⟨P, s, m, rfl, ⟨ns, i, c, t, hP, hs, ne, i0, c0⟩, m0, mb, k⟩ := h
    show Wb X _ _ [some (.ref P), some (.int m), none, none] H
    refine wb_cons ?_
    exists "ni go"
    have k' : ∀ (d i c t : Int) (o : List V), 0 ≤ d → d < m → o = [.ref s, .int i, .int c, .int t] → 0 ≤ i → 0 ≤ c → ∀ H', Mild P H H' → H' P = some (.lst o) → Q (.int d) H' := by
      intro d i c t o h1 h2 e h3 h4 H' h5 h6
      subst e
      exact k d H' h1 h2 ⟨ns, i, c, t, h6, h5 s _ hs ne, ne, h3, h4⟩ h5
    have fin : ∀ (x i' c' t' : Int) (o : List V) (u : HO), o = [.ref s, .int i', .int c', .int t'] → 0 ≤ i' → 0 ≤ c' → Q (.int (x % m)) (upd H P (.lst o)) := by
      intro x i' c' t' o u e h3 h4
      exact k' _ i' c' t' o (Int.emod_nonneg _ (by omega)) (Int.emod_lt_of_pos _ m0) e h3 h4 _ (mild_upd P H _) upd_same
    refine if_d (fun z => ?_) (fun z => ?_)
    · exists "ni go"
      refine if_d (fun z2 => ?_) (fun z2 => ?_)
      · exists "ni go"
        obtain ⟨x, hx⟩ := at_ints i0 (show i < (ns.length : Int) by simpa using z2)
        refine ix_lh (by exists "ni heap") hx ?_
        exists "ni go"
        refine if_d (fun z3 => ?_) (fun z3 => ?_)
        · exists "ni go"
          rw [upd_upd]
          exact fin _ (i + 1) c (t + 1) _ (.lst []) rfl (by omega) c0
        · have x0 : 0 < x := by
            have e : (10 : Int) ^ Int.toNat 18 = 1000000000000000000 := by decide
            omega
          exists "ni go"
          refine if_d (fun z4 => ?_) (fun z4 => absurd x0 z4)
          exists "ni go"
          refine wo_div m0 mb (by decide) ?_
          exists "ni go"
          simp only [upd_upd]
          exact fin x (i + 1) (x / m) (t + 1) _ (.lst []) rfl (by omega) (Int.ediv_nonneg (by omega) (by omega))
      · exists "ni go"
        refine if_d (fun z4 => absurd z4 (by omega)) (fun z4 => ?_)
        exists "ni go"
        intro p hp
        refine wo_eq_nil hr (.of (by exists "ni heap")) upd_same ?_
        exists "ni go"
        refine if_d (fun z5 => ?_) (fun z5 => ?_)
        · exists "ni go"
          refine k' (1 % m) i c (t + 1) _ (Int.emod_nonneg _ (by omega)) (Int.emod_lt_of_pos _ m0) rfl i0 c0 _ ?_ (by exists "ni heap")
          intro b o e n
          exact at_mono (same_new (by assumption)) (by rw [upd_ne n]; exact e)
        · exists "ni go"
          have l0 : 0 < ((ns.map V.int).length : Int) := by
            rw [List.length_map]
            have : ns.length ≠ 0 := fun e => z5 (List.eq_nil_of_length_eq_zero e)
            omega
          refine wo_mod l0 ?_
          obtain ⟨x, hx⟩ := at_ints (ns := ns) (i := (t + 1) % ((ns.map V.int).length : Int)) (Int.emod_nonneg _ (by omega)) (by have := Int.emod_lt_of_pos (t + 1) l0; rw [List.length_map] at *; omega)
          refine ix_lh (by exists "ni heap") hx ?_
          exists "ni go"
          refine k' _ i c (t + 1) _ (Int.emod_nonneg _ (by omega)) (Int.emod_lt_of_pos _ m0) rfl i0 c0 _ ?_ (by exists "ni heap")
          intro b o e n
          exact at_mono (same_new (by assumption)) (by rw [upd_ne n]; exact e)
    · exists "ni go"
      refine if_d (fun z4 => ?_) (fun z4 => absurd (show 0 < c by omega) z4)
      exists "ni go"
      refine wo_div m0 mb (by decide) ?_
      exists "ni go"
      simp only [upd_upd]
      exact fin c i (c / m) (t + 1) _ (.lst []) rfl i0 (Int.ediv_nonneg c0 (by omega))
end
end Lh

namespace Lh
open PySem PySem.Spec PyProof.Rows L2 Ni Pr
section
variable {X : Cx} {σ : L2.St} {H : Hp} {Q : VK}
theorem go_draw (T : Ctx X.K X.mg) (hr : Room 5 X.A) {P : Addr} {m : Int} (hP : Pool H P) (m0 : 0 < m) (mb : Bd m 8999) (k : ∀ (d : Int) H', 0 ≤ d → d < m → Pool H' P → Mild P H H' → Q (.int d) H') :
    Wf X (.ref (He.ga X.K "_law_draw")) [.ref P, .int m] σ H Q := by
  obtain ⟨s, hs⟩ := hP
  exact wf_ok (ok_draw T) hr ⟨P, s, m, rfl, hs, m0, mb, fun d H' h1 h2 h3 h4 => k d H' h1 h2 ⟨s, h3⟩ h4⟩
theorem go_drawS (T : Ctx X.K X.mg) (hr : Room 5 X.A) {P s : Addr} {m : Int} (hP : PoolS H P s) (m0 : 0 < m) (mb : Bd m 8999) (k : ∀ (d : Int) H', 0 ≤ d → d < m → PoolS H' P s → Mild P H H' → Q (.int d) H') :
    Wf X (.ref (He.ga X.K "_law_draw")) [.ref P, .int m] σ H Q := wf_ok (ok_draw T) hr ⟨P, s, m, rfl, hP, m0, mb, k⟩
end
end Lh

end

/-! RP: the operators over fractions, values. -/
namespace Rt
open PySem PySem.Spec PyProof.Rows L2 Ni Pr Pu
section
variable {X : Cx} {ct : Ct} {F H H' : Hp} {ρ : Pu.Env} {σ : L2.St} {Q : PV → Prop}
theorem p_isR {r : Rat} {v : V} (S : Stt X ct F ρ σ H) (h : Rep ⟨X.K, ct.pl⟩ F (.rat r) v) : ∃ a, v = .ref a ∧ IsR X.K H a r := by
  obtain ⟨a, dx, rfl, e⟩ := rep_rat S.sub h
  exact ⟨a, rfl, dx, by rw [e, rf_eq]; rfl⟩
theorem p_post {r : Rat} (S : Stt X ct F ρ σ H) (q : Q (.rat r)) : ∀ p H', Same H H' → IsR X.K H' p r → Post X ct F H ρ σ Q (.ref p) H' := by
  rintro p H' s ⟨dx, e⟩
  rw [rf_eq] at e
  exact Post.rat S s e q
theorem p_postB {b : Bool} (S : Stt X ct F ρ σ H) (q : Q (.bl b)) : ∀ H', Same H H' → Post X ct F H ρ σ Q (.bl b) H' := fun H' s => Post.val S s (x := .bl b) rfl q
theorem Mz.symm' {q r : Rat} (h : Mz q r) : Mz r q := let ⟨k, m, a, b, l⟩ := h; ⟨m, k, b, a, by omega⟩
theorem p_binR (T : Ctx X.K X.mg) (hr : Room 15 X.A) {op : Operator} {q r : Rat} {a : Addr} {v : V} (S : Stt X ct F ρ σ H) (ha : IsR X.K H a q) (hv : IsQ X.K H v r) (h : binR op q r Q) : Wo X (binaryOp op) (.ref a) v σ H (Post X ct F H ρ σ Q) := by
  have hr1 : Room 10 X.A := Room.mono hr (by decide)
  cases op with
  | Add => exact o_add T hr1 ha hv h.1 (p_post S h.2)
  | Sub => exact o_sub T hr1 ha hv h.1 (p_post S h.2)
  | Mult => exact o_mul T hr1 ha hv h.1 (p_post S h.2)
  | _ => exact h.elim
theorem p_binL (T : Ctx X.K X.mg) (hr : Room 15 X.A) {op : Operator} {n : Int} {r : Rat} {a : Addr} (S : Stt X ct F ρ σ H) (ha : IsR X.K H a r) (h : binR op n r Q) : Wo X (binaryOp op) (.int n) (.ref a) σ H (Post X ct F H ρ σ Q) := by
  cases op with
  | Add => exact l_add T hr ha h.1.symm' (p_post S h.2)
  | Sub => exact l_sub T hr ha h.1.symm' (p_post S h.2)
  | Mult => exact l_mul T hr ha h.1.symm' (p_post S h.2)
  | _ => exact h.elim
theorem p_cmpR (T : Ctx X.K X.mg) (hr : Room 15 X.A) {op : CmpOp} {q r : Rat} {a : Addr} {v : V} (S : Stt X ct F ρ σ H) (ha : IsR X.K H a q) (hv : IsQ X.K H v r) (h : cmpR op q r Q) : Wo X (compareOp op) (.ref a) v σ H (Post X ct F H ρ σ Q) := by
  have hr1 : Room 10 X.A := Room.mono hr (by decide)
  cases op with
  | Lt => exact c_lt T hr1 ha hv h.1 (p_postB S h.2)
  | LtE => exact c_le T hr1 ha hv h.1 (p_postB S h.2)
  | Gt => exact c_gt T hr1 ha hv h.1 (p_postB S h.2)
  | GtE => exact c_ge T hr1 ha hv h.1 (p_postB S h.2)
  | Eq => exact c_eq T hr1 ha hv h.1 (p_postB S h.2)
  | NotEq => exact c_ne T (Room.mono hr (by decide)) ha hv h.1 (p_postB S h.2)
  | _ => exact h.elim
theorem nonN_of {tab : TK → TK → Option Bool} (hT : TabOk X.K tab) (S : Stt X ct F ρ σ H) {y : PV} {v : V} (r : Rep ⟨X.K, ct.pl⟩ F y v) (h1 : nonNOk tab = true) (h2 : nonN y = true) : NonN X.K H v := by
  unfold nonNOk at h1
  simp only [List.all_cons, List.all_nil, Bool.and_true, Bool.and_eq_true, decide_eq_true_eq] at h1
  obtain ⟨⟨a1, a2⟩, ⟨b1, b2⟩, ⟨c1, c2⟩, d1, d2⟩ := h1
  cases y with
  | non => exact ⟨_, tk_ty hT S.sub r rfl a1, hT.kit _ _ _ a1, hT.kit _ _ _ a2⟩
  | str z => exact ⟨_, tk_ty hT S.sub r rfl b1, hT.kit _ _ _ b1, hT.kit _ _ _ b2⟩
  | lst z => exact ⟨_, tk_ty hT S.sub r rfl c1, hT.kit _ _ _ c1, hT.kit _ _ _ c2⟩
  | tup z => exact ⟨_, tk_ty hT S.sub r rfl d1, hT.kit _ _ _ d1, hT.kit _ _ _ d2⟩
  | _ => cases h2
theorem nf_non {K : PySem.W.Frag} {mg : Str → Option Value} (T : Pr.Ctx K mg) {y : PV} (h : nonN y = true) : PySem.W.notFirst K (aR K) (.type (tyN y)) = true := by
  cases y with
  | non => exact f_nf_Ratio'NoneType T
  | str z => exact f_nf_Ratio'str T
  | lst z => exact f_nf_Ratio'list T
  | tup z => exact f_nf_Ratio'tuple T
  | _ => cases h
theorem p_bool {q : Rat} {a : Addr} {Q : VK} (T : Ctx X.K X.mg) (hr : Room 4 X.A) (ha : IsR X.K H a q) (h : Q (.bl (!decide (q = 0))) H) : Wcb X (.type "bool") [.ref a] H Q := by
  have h2 := ha
  obtain ⟨dx, e⟩ := ha
  exact wcb_boolO e (f_sg_Ratio'__bool__ T) fun σ' => wfA_ok (σ := σ') (A := X.A.in1.in1) (Q := fun v H' => ∃ b, v = .bl b ∧ Q (.bl b) H') (vs := [.ref a]) (ok_bool T) hr.in1.in1 rfl ⟨a, q, rfl, h2, ⟨_, rfl, h⟩⟩
theorem p_cmpN {tab : TK → TK → Option Bool} (T : Ctx X.K X.mg) (hr : Room 15 X.A) (hT : TabOk X.K tab) {op : CmpOp} {q : Rat} {a : Addr} {y : PV} {v : V} (S : Stt X ct F ρ σ H) (ha : IsR X.K H a q) (ry : Rep ⟨X.K, ct.pl⟩ F y v) (h : cmpN tab op y Q) : Wo X (compareOp op) (.ref a) v σ H (Post X ct F H ρ σ Q) := by
  have hr1 : Room 10 X.A := Room.mono hr (by decide)
  cases op with
  | Eq =>
    have nn := nonN_of hT S ry h.1.1 h.1.2
    have run := wf_ok (σ := σ) (Q := Post X ct F H ρ σ Q) (vs := [.ref a, v]) (ok_eqN T) hr1 ⟨a, v, rfl, nn, Post.at_ S (x := .bl false) rfl h.2⟩
    obtain ⟨dx, e⟩ := ha
    exact wo_cmp hr1 e (typ_non S ry h.1.2) (nf_non T h.1.2) (Sg.of_eq (by decide +kernel) (f_sg_Ratio'__eq__ T)) run
  | NotEq =>
    have nn := nonN_of hT S ry h.1.1 h.1.2
    have run := wfA_ok (σ := σ) (A := X.A.in1) (Q := fun v H' => ∃ c, v = .bl c ∧ Post X ct F H ρ σ Q (.bl (!c)) H') (vs := [.ref a, v]) (ok_eqN T) (Room.mono hr (show 11 ≤ 15 by decide)).in1 rfl ⟨a, v, rfl, nn, ⟨_, rfl, Post.at_ S (x := .bl true) rfl h.2⟩⟩
    obtain ⟨dx, e⟩ := ha
    exact wo_neL (Room.mono hr (show 11 ≤ 15 by decide)) e (typ_non S ry h.1.2) (nf_non T h.1.2) (f_neb_Ratio T) (f_sg_Ratio'__eq__ T) run
  | _ => exact h.elim
theorem p_cmpL (T : Ctx X.K X.mg) (hr : Room 15 X.A) {op : CmpOp} {n : Int} {r : Rat} {a : Addr} (S : Stt X ct F ρ σ H) (ha : IsR X.K H a r) (h : cmpR op n r Q) : Wo X (compareOp op) (.int n) (.ref a) σ H (Post X ct F H ρ σ Q) := by
  have hr1 : Room 10 X.A := Room.mono hr (by decide)
  have sy : ∀ {P : Bool → Prop}, P (decide ((n : Rat) = r)) → P (decide (r = (n : Rat))) := fun {P} z => by
    rw [show decide (r = (n : Rat)) = decide ((n : Rat) = r) from decide_eq_decide.mpr ⟨Eq.symm, Eq.symm⟩]
    exact z
  cases op with
  | Lt => exact c_ltR T hr1 ha h.1.symm' (p_postB S h.2)
  | LtE => exact c_leR T hr1 ha h.1.symm' (p_postB S h.2)
  | Gt => exact c_gtR T hr1 ha h.1.symm' (p_postB S h.2)
  | GtE => exact c_geR T hr1 ha h.1.symm' (p_postB S h.2)
  | Eq => exact c_eqR T hr1 ha h.1.symm' (p_postB S (sy (P := fun b => Q (.bl b)) h.2))
  | NotEq => exact c_neR T (Room.mono hr (by decide)) ha h.1.symm' (p_postB S (sy (P := fun b => Q (.bl (!b))) h.2))
  | _ => exact h.elim
theorem p_iplR (T : Ctx X.K X.mg) (hr : Room 15 X.A) {op : Operator} {q r : Rat} {a : Addr} {v : V} (S : Stt X ct F ρ σ H) (ha : IsR X.K H a q) (hv : IsQ X.K H v r) (h : match op with
    | .Add => Mz q r ∧ Q (.rat (q + r))
    | .Mult => Mz q r ∧ Q (.rat (q * r))
    | _ => False) : Wo X (inplaceOp op) (.ref a) v σ H (Post X ct F H ρ σ Q) := by
  have hr1 : Room 10 X.A := Room.mono hr (by decide)
  cases op with
  | Add => exact i_add T hr1 ha hv h.1 (p_post S h.2)
  | Mult => exact i_mul T hr1 ha hv h.1 (p_post S h.2)
  | _ => exact h.elim
end
section
variable {P : Program} {w : World} {K : PySem.W.Frag} {mg : Str → Option Value} {base : Heap} {tab : TK → TK → Option Bool}
theorem op_ok (T : Ctx K mg) {A : Around} (hr : Room 15 A) (hT : TabOk K tab) : ∀ k, OpOk ⟨P, w, K, mg, base, A⟩ k (opS tab k) := by
  intro k
  refine OpOk.of (fun hf {xs Q E} q => opP_imm tab hf q) ?_
  intro X hb ct F ρ σ H xs vs Q E S rs h0 hE
  have hK : X.K = K := congrArg B6.K hb
  have hA : X.A = A := congrArg B6.A hb
  have hmg : X.mg = mg := congrArg B6.mg hb
  have T : Ctx X.K X.mg := by rw [hK, hmg]; exact T
  have hr : Room 15 X.A := by rw [hA]; exact hr
  have hT : TabOk X.K tab := by rw [hK]; exact hT
  have h : opP tab k xs Q := h0
  clear h0
  unfold opP at h
  split at h
  · obtain ⟨v, u, rfl, r1, r2⟩ := rs.two
    cases r1; cases r2
    exact o_binI S h
  · obtain ⟨v, u, rfl, r1, r2⟩ := rs.two
    obtain ⟨a, rfl, ha⟩ := p_isR S r1
    obtain ⟨c, rfl, hc⟩ := p_isR S r2
    exact p_binR T hr S ha (.inr ⟨c, rfl, hc⟩) h
  · obtain ⟨v, u, rfl, r1, r2⟩ := rs.two
    obtain ⟨a, rfl, ha⟩ := p_isR S r1
    cases r2
    exact p_binR T hr S ha (.inl ⟨_, rfl, rfl⟩) h
  · obtain ⟨v, u, rfl, r1, r2⟩ := rs.two
    obtain ⟨a, rfl, ha⟩ := p_isR S r2
    cases r1
    exact p_binL T hr S ha h
  · obtain ⟨v, u, rfl, r1, r2⟩ := rs.two
    cases r1; cases r2
    exact ipl_int S h
  · obtain ⟨v, u, rfl, r1, r2⟩ := rs.two
    obtain ⟨a, rfl, ha⟩ := p_isR S r1
    obtain ⟨c, rfl, hc⟩ := p_isR S r2
    exact p_iplR T hr S ha (.inr ⟨c, rfl, hc⟩) h
  · obtain ⟨v, u, rfl, r1, r2⟩ := rs.two
    cases r1; cases r2
    exact o_cmpI S h
  · obtain ⟨v, u, rfl, r1, r2⟩ := rs.two
    obtain ⟨a, rfl, ha⟩ := p_isR S r1
    obtain ⟨c, rfl, hc⟩ := p_isR S r2
    exact p_cmpR T hr S ha (.inr ⟨c, rfl, hc⟩) h
  · obtain ⟨v, u, rfl, r1, r2⟩ := rs.two
    obtain ⟨a, rfl, ha⟩ := p_isR S r1
    cases r2
    exact p_cmpR T hr S ha (.inl ⟨_, rfl, rfl⟩) h
  · obtain ⟨v, u, rfl, r1, r2⟩ := rs.two
    obtain ⟨a, rfl, ha⟩ := p_isR S r2
    cases r1
    exact p_cmpL T hr S ha h
  · obtain ⟨v, u, rfl, r1, r2⟩ := rs.two
    obtain ⟨a, rfl, ha⟩ := p_isR S r1
    exact p_cmpN T hr hT S ha r2 h
  · obtain ⟨v, u, rfl, r1, r2⟩ := rs.two
    exact o_cmpD hr S r1 r2 h
  · obtain ⟨v, rfl, r1⟩ := rs.one
    cases r1
    exact wu_negI (Post.at_ S (x := .int _) rfl h)
  · obtain ⟨v, rfl, r1⟩ := rs.one
    obtain ⟨a, rfl, ha⟩ := p_isR S r1
    exact o_neg T (Room.mono hr (by decide)) ha h.1 (p_post S h.2)
  · rename_i b xs
    unfold opB at h
    split at h
    · obtain ⟨v, rfl, r1⟩ := rs.one
      unfold Rep at r1
      obtain ⟨p, ws, rfl, e, r⟩ := r1
      exact wcb_lenL (.of (S.sub _ _ e)) (by rw [← r.len]; exact Post.at_ S (x := .int _) rfl h)
    · obtain ⟨v, rfl, r1⟩ := rs.one
      unfold Rep at r1
      obtain ⟨p, ws, rfl, e, r⟩ := r1
      exact wcb_lenT (.of (S.sub _ _ e)) (by rw [← r.len]; exact Post.at_ S (x := .int _) rfl h)
    · obtain ⟨v, rfl, r1⟩ := rs.one
      cases r1
      exact wcb_abs (Post.at_ S (x := .int _) rfl h)
    · obtain ⟨v, rfl, r1⟩ := rs.one
      obtain ⟨a, rfl, ha⟩ := p_isR S r1
      exact o_abs T (Room.mono hr (by decide)) ha h.1 (p_post S h.2)
    · obtain ⟨v, rfl, r1⟩ := rs.one
      cases r1
      exact wcb_intI (Post.at_ S (x := .int _) rfl h)
    · obtain ⟨v, rfl, r1⟩ := rs.one
      cases r1
      exact ⟨_, call_int1, .inr ⟨_, rfl, Post.at_ S (x := .int _) rfl h⟩⟩
    · obtain ⟨v, rfl, r1⟩ := rs.one
      cases r1
      exact wcb_boolB (Post.at_ S (x := .bl _) rfl h)
    · obtain ⟨v, rfl, r1⟩ := rs.one
      obtain ⟨a, rfl, ha⟩ := p_isR S r1
      exact p_bool T (Room.mono hr (by decide)) ha (Post.at_ S (x := .bl _) rfl h)
    · obtain ⟨v, rfl, r1⟩ := rs.one
      cases r1
      exact wcb_str h.1 (by decide) (Post.at_ S (x := .str _) rfl h.2)
    · obtain ⟨v, u, rfl, r1, r2⟩ := rs.two
      cases r1; cases r2
      exact wcb_gcd (Post.at_ S (x := .int _) rfl h)
    · obtain ⟨v, rfl, r1⟩ := rs.one
      unfold Rep at r1
      obtain ⟨p, ws, rfl, e, r⟩ := r1
      refine ⟨_, call_tuple_of, p, ws, rfl, .inl ⟨.of (S.sub _ _ e), fun l hl => ?_⟩⟩
      obtain ⟨S2, s2⟩ := S.newE (o := .tup ws) hl
      exact ⟨.tup _, _, S2, s2, ⟨l, ws, rfl, upd_same, r.mono s2.s⟩, h⟩
    · obtain ⟨v, u, rfl, r1, r2⟩ := rs.two
      exact o_isi hT S r1 r2 h
    · exact h.elim
  · obtain ⟨v, u, rfl, r1, r2⟩ := rs.two
    cases r2
    exact o_ix S (.inl r1) h
  · obtain ⟨v, u, rfl, r1, r2⟩ := rs.two
    cases r2
    exact o_ix S (.inr r1) h
  · rename_i c j q
    obtain ⟨v, rfl, r1⟩ := rs.one
    obtain ⟨a, rfl, ha⟩ := p_isR S r1
    split at h
    · exact fl_top T ha (Post.at_ S (x := .int _) rfl h)
    · exact fl_bot T ha (Post.at_ S (x := .int _) rfl h)
    · exact h.elim
  · exact h.elim
  · exact h.elim
end
end Rt

/-! RQ: what a body may lean on. -/
namespace Rt
open PySem PySem.Spec PyProof.Rows L2 Ni Pr Pu Qw
section
variable {P : Program} {w : World} {K : PySem.W.Frag} {mg : Str → Option Value} {base : Heap}
theorem tkc {c : Cl} {K : PySem.W.Frag} (h1 : tyxB K (He.ga K c.nm) = true) (h2 : L2.Cls K (He.ga K c.nm)) : ∀ d, TK.cl c = .cl d → tyxB K (He.ga K d.nm) = true ∧ L2.Cls K (He.ga K d.nm) := fun d e => by
  cases e
  exact ⟨h1, h2⟩
theorem lokX (T : Ctx K mg) {A : Around} {L : Lang} (hop : ∀ k, OpOk ⟨P, w, K, mg, base, A⟩ k (L.op k)) (hG : GOk ⟨P, w, K, mg, base, A⟩ L.G) {CL : List Cl} (hC : ∀ c ∈ CL, mg c.nm = some (.ref (He.ga K c.nm)))
    (hx : ∀ q ∈ L.X, PySem.W.exmOne K (.ref (He.ga K q.1.nm)) (.ref (He.ga K q.2.nm)) = some (subE q.1 q.2)) (hi : ∀ q ∈ L.I, exccB K (He.ga K q.1.nm) = true ∧ PySem.W.kitOne K (.ref (He.ga K q.1.nm)) (.ref (He.ga K q.2.nm)) = some (subE q.1 q.2)) (hT : ∀ q ∈ L.T, IterC ⟨P, w, K, mg, base, A⟩ q.1 q.2) (hM : MOkL ⟨P, w, K, mg, base, A⟩ L.M) (hS : ∀ q ∈ L.S, L2.Cls K (He.ga K q.1.nm) ∧ ∀ f, q.1.fs[q.2]? = some f → NoAttr K (He.ga K q.1.nm) f) : LOk ⟨P, w, K, mg, base, A⟩ L CL :=
  ⟨fun i x p h => hG.at_ h, fun i c m p h => hG.at_ h, hop, fun i f p h => hG.at_ h, fun i c m p h => hG.at_ h, hT, fun i k p h => hM.at_ h, hC, fun t ht => by
    cases t <;> first | exact absurd rfl ht | exact f_free_len T | exact f_free_abs T | exact f_free_int T | exact f_free_bool T | exact f_free_str T | exact f_free_isinstance T | exact f_free_tuple T,
    f_gcd_x T, hx, hi, hS, f_free_range T, f_free_zip T, f_free_enumerate T, f_free_list T⟩
theorem lok (T : Ctx K mg) {A : Around} (hr : Room 15 A) {tab : TK → TK → Option Bool} (hT : TabOk K tab) {G : List (GK × PSpec)} (hG : GOk ⟨P, w, K, mg, base, A⟩ G) {CL : List Cl} (hC : ∀ c ∈ CL, mg c.nm = some (.ref (He.ga K c.nm))) : LOk ⟨P, w, K, mg, base, A⟩ (Lang.of G (opS tab)) CL :=
  lokX T (L := Lang.of G (opS tab)) (op_ok T hr hT) hG hC nofun nofun nofun .nil nofun
theorem rRatio_imm {xs : List PV} {Q : PV → Prop} {E : KE} (h : rRatio xs Q E) : rRatio xs (fun x => immP x = true ∧ Q x) E := by
  unfold rRatio at h ⊢
  split at h
  · exact ⟨h.1, h.2.1, fun z => ⟨rfl, h.2.2 z⟩⟩
  · exact ⟨rfl, h⟩
  · exact h.elim
theorem cal_ratio (T : Ctx K mg) {A : Around} (hr : Room 15 A) : GOk1 ⟨P, w, K, mg, base, A⟩ (.glo "Ratio") spRatio := by
  refine ⟨_, f_glo_Ratio T, f_keep_Ratio T, Cal.of (fun _ {xs Q E} q => rRatio_imm q) ?_⟩
  intro X hb ct F ρ σ H xs vs Q E S rs h0 hE
  have hK : X.K = K := congrArg B6.K hb
  have hA : X.A = A := congrArg B6.A hb
  have hmg : X.mg = mg := congrArg B6.mg hb
  have T : Ctx X.K X.mg := by rw [hK, hmg]; exact T
  have hr : Room 2 X.A := by rw [hA]; exact Room.mono hr (by decide)
  have h : rRatio xs Q E := h0
  clear h0
  show Wf X (.ref (He.ga K "Ratio")) _ _ _ _
  rw [← hK]
  unfold rRatio at h
  split at h
  · rename_i t b
    obtain ⟨v, u, rfl, r1, r2⟩ := rs.two
    cases r1; cases r2
    by_cases hz : b = 0
    · subst hz
      exact go_new0 T hr fun H' s => hE ⟨.zeroBottom, []⟩ none F H' (S.same s) (fun _ _ z => z) rfl (h.2.1 rfl)
    · exact go_new T hr h.1 hz (p_post S (h.2.2 hz))
  · obtain ⟨v, rfl, r1⟩ := rs.one
    cases r1
    exact go_new1 T hr (p_post S h)
  · exact h.elim
end
end Rt

/-! RS0: the table of kinds; the draw; the way in. -/
namespace Rt
open PySem PySem.Spec PyProof.Rows L2 Ni Pr Pu Qw
section
variable {P : Program} {w : World} {K : PySem.W.Frag} {mg : Str → Option Value} {base : Heap}
theorem tkn {a : TK} {K : PySem.W.Frag} (h : ∀ d, a ≠ .cl d) : ∀ d, a = .cl d → tyxB K (He.ga K d.nm) = true ∧ L2.Cls K (He.ga K d.nm) := fun d e => absurd e (h d)
theorem tab_ok (T : Ctx K mg) : TabOk K tab := TabL.ok
  (.cons (f_kit_int'int T) (tkn (fun _ h => nomatch h)) (.cons (f_kit_int'bool T) (tkn (fun _ h => nomatch h)) (.cons (f_kit_bool'bool T) (tkn (fun _ h => nomatch h)) (.cons (f_kit_int'Ratio T) (tkn (fun _ h => nomatch h)) (.cons (f_kit_Ratio'Ratio T) (tkc (f_tyx_Ratio T) (f_cls_Ratio T)) (.cons (f_kit_Ratio'int T) (tkc (f_tyx_Ratio T) (f_cls_Ratio T)) (.cons (f_kit_NoneType'int T) (tkn (fun _ h => nomatch h)) (.cons (f_kit_str'int T) (tkn (fun _ h => nomatch h)) (.cons (f_kit_list'int T) (tkn (fun _ h => nomatch h)) (.cons (f_kit_tuple'int T) (tkn (fun _ h => nomatch h)) (.cons (f_kit_NoneType'Ratio T) (tkn (fun _ h => nomatch h)) (.cons (f_kit_str'Ratio T) (tkn (fun _ h => nomatch h)) (.cons (f_kit_list'Ratio T) (tkn (fun _ h => nomatch h)) (.cons (f_kit_tuple'Ratio T) (tkn (fun _ h => nomatch h)) .nil))))))))))))))
theorem cal_draw (T : Ctx K mg) {A : Around} (hr : Room 15 A) : GOk1 ⟨P, w, K, mg, base, A⟩ (.glo "_law_draw") spDrawP := by
  refine ⟨_, f_glo__law_draw T, f_keep__law_draw T, Cal.of nofun ?_⟩
  intro X hb ct F ρ σ H xs vs Q E S rs h0 hE
  have hK : X.K = K := congrArg B6.K hb
  have hA : X.A = A := congrArg B6.A hb
  have hmg : X.mg = mg := congrArg B6.mg hb
  have T : Ctx X.K X.mg := by rw [hK, hmg]; exact T
  have hr : Room 5 X.A := by rw [hA]; exact Room.mono hr (by decide)
  have h : rDraw xs Q := h0
  clear h0
  show Wf X (.ref (He.ga K "_law_draw")) _ _ _ _
  rw [← hK]
  unfold rDraw at h
  split at h
  · rename_i m
    obtain ⟨v, u, rfl, r1, r2⟩ := rs.two
    cases r2
    obtain ⟨P0, s, ep, rfl⟩ := r1
    have ep : ct.pl = some (P0, s) := ep
    obtain ⟨f0, n0, hp⟩ := S.p0 P0 s ep
    refine Lh.go_drawS T hr hp h.1.1 h.1.2 fun d H' h1 h2 hp2 hm => ?_
    have g : Gua ct.pl [] H H' := ⟨fun a o e n => hm a o e fun z => n (.inl ⟨s, by rw [ep, z]⟩), fun P2 s2 e2 => by
      rw [ep] at e2
      cases e2
      exact hp2, nofun⟩
    have sub : Same F H' := fun a o e => hm a o (S.sub a o e) fun z => by
      subst z
      rw [f0] at e
      cases e
    exact ⟨.int d, F, S.called g .refl sub, ⟨.refl, g⟩, rfl, h.2 d h1 h2⟩
  · exact h.elim
end
end Rt

namespace Rt
open PySem PySem.Spec PyProof.Rows L2 Ni Pr Pu Qw
section
variable {P : Program} {w : World} {K : PySem.W.Frag} {mg : Str → Option Value} {base : Heap}
end
end Rt
/-! RA0: what an Amounts leans on: kinds, its list, the walk over it. -/
namespace Rt
open PySem PySem.Spec PyProof.Rows L2 Ni Pr Pu Qw
section
variable {P : Program} {w : World} {K : PySem.W.Frag} {mg : Str → Option Value} {base : Heap}
theorem ratF_inj {p q : Rat} (h : ratF p = ratF q) : p = q := by
  unfold ratF at h
  simp only [List.cons.injEq, Prod.mk.injEq, V.int.injEq, true_and, and_true] at h
  exact Rat.ext h.1 (by omega)
theorem tabA_ok (T : Ctx K mg) : TabOk K tabA := TabL.ok
  (.cons (f_kit_int'int T) (tkn (fun _ h => nomatch h)) (.cons (f_kit_int'bool T) (tkn (fun _ h => nomatch h)) (.cons (f_kit_bool'bool T) (tkn (fun _ h => nomatch h)) (.cons (f_kit_int'Ratio T) (tkn (fun _ h => nomatch h)) (.cons (f_kit_Ratio'Ratio T) (tkc (f_tyx_Ratio T) (f_cls_Ratio T)) (.cons (f_kit_Ratio'int T) (tkc (f_tyx_Ratio T) (f_cls_Ratio T)) (.cons (f_kit_NoneType'int T) (tkn (fun _ h => nomatch h)) (.cons (f_kit_str'int T) (tkn (fun _ h => nomatch h)) (.cons (f_kit_list'int T) (tkn (fun _ h => nomatch h)) (.cons (f_kit_tuple'int T) (tkn (fun _ h => nomatch h)) (.cons (f_kit_NoneType'Ratio T) (tkn (fun _ h => nomatch h)) (.cons (f_kit_str'Ratio T) (tkn (fun _ h => nomatch h)) (.cons (f_kit_list'Ratio T) (tkn (fun _ h => nomatch h)) (.cons (f_kit_tuple'Ratio T) (tkn (fun _ h => nomatch h))
  (.cons (f_kit_Amounts'Amounts T) (tkc (f_tyx_Amounts T) (f_cls_Amounts T)) (.cons (f_kit_Amounts'int T) (tkc (f_tyx_Amounts T) (f_cls_Amounts T)) (.cons (f_kit_Amounts'Ratio T) (tkc (f_tyx_Amounts T) (f_cls_Amounts T)) (.cons (f_kit_list'Amounts T) (tkn (fun _ h => nomatch h)) (.cons (f_kit_tuple'Amounts T) (tkn (fun _ h => nomatch h)) (.cons (f_kit_int'Amounts T) (tkn (fun _ h => nomatch h)) (.cons (f_kit_Ratio'Amounts T) (tkc (f_tyx_Ratio T) (f_cls_Ratio T)) (.cons (f_kit_NoneType'Amounts T) (tkn (fun _ h => nomatch h)) (.cons (f_kit_tuple'tuple T) (tkn (fun _ h => nomatch h)) (.cons (f_kit_list'tuple T) (tkn (fun _ h => nomatch h)) (.cons (f_kit_Amounts'tuple T) (tkc (f_tyx_Amounts T) (f_cls_Amounts T)) .nil)))))))))))))))))))))))))
abbrev aA (K : PySem.W.Frag) : Addr := He.ga K "Amounts"
section
variable {X : Cx} {ct : Ct} {F H : Hp} {ρ : Pu.Env} {σ : L2.St} {Q : PV → Prop}
theorem zip1 {vs : List V} {v : V} (h : vs = [v]) : (Cl.amounts.fs.zip vs) = [(("numbers" : Str), v)] := by
  subst h
  rfl
/-- an Amounts in the heap -/
theorem am_at {fs : List PV} {v : V} (S : Stt X ct F ρ σ H) (r : Rep ⟨X.K, ct.pl⟩ F (.obj .amounts fs) v) : ∃ a dx ws, v = .ref a ∧ H a = some (.ins (aA X.K) dx (Cl.amounts.fs.zip ws)) ∧ Reps ⟨X.K, ct.pl⟩ F fs ws := by
  unfold Rep at r
  obtain ⟨a, dx, ws, rfl, e, _, rs⟩ := r
  exact ⟨a, dx, ws, rfl, S.sub _ _ e, rs⟩
theorem fl_num (T : Ctx X.K X.mg) {x : PV} {v : V} (S : Stt X ct F ρ σ H) (r : Rep ⟨X.K, ct.pl⟩ F (.obj .amounts [x]) v) (q : Q x) : OpSem X (.fld .amounts 0) [v] σ H (Post X ct F H ρ σ Q) := by
  obtain ⟨a, dx, ws, rfl, e, rs⟩ := am_at S r
  obtain ⟨u, rfl, ru⟩ := rs.one
  exact ⟨a, aA X.K, dx, _, u, rfl, e, f_cls_Amounts T, f_noat_Amounts'numbers T, rfl, Post.at_ S ru q⟩
/-- == of two lists of fractions -/
theorem eq_rats (T : Ctx X.K X.mg) (hr : Room 15 X.A) {ps qs : List Rat} {v u : V} (S : Stt X ct F ρ σ H) (r1 : Rep ⟨X.K, ct.pl⟩ F (.lst (ratsP ps)) v) (r2 : Rep ⟨X.K, ct.pl⟩ F (.lst (ratsP qs)) u) (m : PMz ps qs) (q : Q (.bl (decide (ps = qs)))) : Wo X (compareOp .Eq) v u σ H (Post X ct F H ρ σ Q) := by
  unfold Rep at r1 r2
  obtain ⟨a, vs, rfl, e1, rs1⟩ := r1
  obtain ⟨b, ws, rfl, e2, rs2⟩ := r2
  have l1 := rs1.len
  have l2 := rs2.len
  rw [rats_len] at l1 l2
  by_cases hl : vs.length = ws.length
  · have hlen : ps.length = qs.length := by omega
    refine wo_eqLX (e := fun i => decide (ps[i]? = qs[i]?)) (Room.mono hr (show 10 ≤ 15 by decide)) (S.sub _ _ e1) (S.sub _ _ e2) hl (fun i x y H1 h1 h2 s => ?_) (fun H' s => ?_)
    · obtain ⟨x', h3, rx⟩ := rs1.got h1
      obtain ⟨y', h4, ry⟩ := rs2.got h2
      rw [ratsP, List.getElem?_map] at h3 h4
      obtain ⟨p, ep, rfl⟩ := Option.map_eq_some_iff.mp h3
      obtain ⟨q', eq, rfl⟩ := Option.map_eq_some_iff.mp h4
      unfold Rep at rx ry
      obtain ⟨c, dx, rfl, e3⟩ := rx
      obtain ⟨d, dy, rfl, e4⟩ := ry
      have f3 := s _ _ (S.sub _ _ e3)
      have f4 := s _ _ (S.sub _ _ e4)
      rw [ep, eq]
      have e5 : decide (some p = some q') = decide (p = q') := decide_eq_decide.mpr ⟨fun z => by cases z; rfl, fun z => by rw [z]⟩
      rw [e5]
      refine eqI_own (Room.mono hr (show 11 ≤ 15 by decide)).in1 f3 f4 (f_sg_Ratio'__eq__ T) (fun z => ?_) ?_
      · subst z
        rw [f3] at f4
        injection f4 with f4
        injection f4 with _ _ f4
        rw [ratF_inj f4, decide_eq_true rfl]
      · exact wfA_ok (ok_eq T) (Room.mono hr (show 11 ≤ 15 by decide)).in1 rfl ⟨c, .ref d, p, q', rfl, ⟨dx, by rw [f3, rf_eq]; rfl⟩, .inr ⟨d, rfl, dy, by rw [f4, rf_eq]; rfl⟩, m i p q' ep eq, fun H' s' => ⟨rfl, s'⟩⟩
    · have ea : (List.range vs.length).all (fun i => decide (ps[i]? = qs[i]?)) = decide (ps = qs) := by
        rw [Bool.eq_iff_iff, List.all_eq_true, decide_eq_true_eq]
        refine ⟨fun z => List.ext_getElem? fun i => ?_, fun z i _ => by rw [z]; exact decide_eq_true rfl⟩
        by_cases hi : i < vs.length
        · exact of_decide_eq_true (z i (List.mem_range.mpr hi))
        · rw [List.getElem?_eq_none (by omega), List.getElem?_eq_none (by omega)]
      rw [ea]
      exact Post.val S s (x := .bl _) rfl q
  · refine wo_eqLN (Room.mono hr (show 10 ≤ 15 by decide)) (S.sub _ _ e1) (S.sub _ _ e2) hl ?_
    have en : decide (ps = qs) = false := decide_eq_false fun z => hl (by rw [← l1, ← l2, z])
    rw [en] at q
    exact Post.at_ S (x := .bl false) rfl q
end
theorem op_okL (T : Ctx K mg) {A : Around} (hr : Room 15 A) : ∀ k, OpOk ⟨P, w, K, mg, base, A⟩ k (opL k) := by
  intro k
  refine OpOk.of ?_ ?_
  · intro hf xs Q E q
    have q : rOpL k xs Q E := q
    show rOpL k xs _ E
    unfold rOpL at q ⊢
    split at q
    · cases hf
    · obtain ⟨ps, qs, e, q⟩ := q
      exact ⟨ps, qs, e, rfl, q⟩
    · exact opP_imm tabA hf q
  · intro X hb ct F1 ρ σ H xs vs Q E S rs h0 hE
    cases hb
    have T' : Ctx X.K X.mg := T
    have h : rOpL k xs Q E := h0
    clear h0
    unfold rOpL at h
    split at h
    · obtain ⟨v, rfl, r1⟩ := rs.one
      exact fl_num T' S r1 h
    · obtain ⟨v, u, rfl, r1, r2⟩ := rs.two
      obtain ⟨ps, qs, ⟨rfl, rfl, m⟩, q⟩ := h
      exact eq_rats T' hr S r1 r2 m q
    · exact OpSem.imp (fun v H' z => z.post) (op_ok T hr (tabA_ok T) _ X rfl ct F1 ρ σ H xs vs Q E S rs h hE)
theorem ok_iter (T : Pr.Ctx K mg) (base : Heap) : OkD P w K mg base 3 (He.ma K (aA K) "__iter__") p_Amounts___iter__ [] (spIter (fun v H a => ∃ p dx vs ws, v = .ref p ∧ H p = some (.ins (aA K) dx (Cl.amounts.fs.zip vs)) ∧ vs[0]? = some (.ref a) ∧ vs.length ≤ Cl.amounts.fs.length ∧ H a = some (.lst ws)) base.objs.size) := by
  obtain ⟨fd, F⟩ := F_Amounts___iter__ T
  refine ⟨⟨fd, [], fn_go (k := 2) F sc_Amounts___iter__ nm_Amounts___iter__ ?len ?body, .nil, FunD.bindsN F fun _ _ _ _ _ _ us hl => match us, hl with | [_], _ => rfl⟩, F.kp⟩
  case len =>
    rintro vs H Q E ⟨x, a, rfl, _⟩
    rfl
  case body =>
    intro X e1 e2 e3 e4 e5 S V1 hr vs H Q E hE h
    subst e1 e2 e3 e4 e5
    obtain ⟨x, a, rfl, ⟨p, dx, vs, ws, rfl, hp, h0, hl, ha⟩, k⟩ := h
    have e : vs = [V.ref a] := by
      cases vs with
      | nil => simp at h0
      | cons v vs =>
        cases vs with
        | nil => simp at h0; rw [h0]
        | cons v2 vs => simp [Cl.fs] at hl
    rw [zip1 e] at hp
    show Wb X _ _ [some (V.ref p)] H
    refine wb_cons (ws_ret ?_)
    refine we_callBS (x := "iter") (id := "iter") (G := G_Amounts___iter__) (by exists "ni gs") (by decide +kernel) (f_free_iter T) (by decide +kernel) (by decide +kernel) (by with_unfolding_all rfl) (by with_unfolding_all rfl) ?_
    refine wa_cons (by with_unfolding_all rfl) ?_
    refine we_fld (by with_unfolding_all rfl) ?_
    exists "ni go"
    exact ⟨p, aA X.K, dx, _, V.ref a, rfl, hp, f_cls_Amounts T, f_noat_Amounts'numbers T, rfl, wa_nil ⟨_, call_iterB, a, ws, rfl, .of ha, k⟩⟩
theorem iter_Amounts (T : Ctx K mg) {A : Around} (hr : Room 3 A) : IterC ⟨P, w, K, mg, base, A⟩ .amounts 0 := ⟨_, 3, _, f_sg_Amounts'__iter__ T, fun base => ok_iter T base, hr⟩
end
end Rt

namespace Rt
open PySem PySem.Spec PyProof.Rows L2 Ni Pr Pu Qw
section
variable {P : Program} {w : World} {K : PySem.W.Frag} {mg : Str → Option Value} {base : Heap}
abbrev M_as_ratio : List Str := ["number"]
theorem scm_as_ratio : FnScope M_as_ratio p_as_ratio (defScope s_as_ratio) := ⟨rfl, rfl, rfl, by decide +kernel, rfl, by decide +kernel, by decide +kernel⟩
theorem lo_as_ratio (T : Ctx K mg) {A : Around} (hr : Room 15 A) : LOk ⟨P, w, K, mg, base, A⟩ L_as_ratio [.ratio] := lokX T (op_ok T (Room.mono hr (by decide)) (tab_ok T)) (.cons (cal_ratio T (Room.mono hr (by decide))) .nil) (allS (f_glo_Ratio T) allN) allN allN allN .nil allN
theorem okp_as_ratio (T : Ctx K mg) : OkD P w K mg base 16 (He.ga K "as_ratio") p_as_ratio [] (lowSp K spAs) := by
  obtain ⟨fd, F⟩ := F_as_ratio T
  exact ⟨⟨fd, [], pfn (N := M_as_ratio) (k := 15) (L := L_as_ratio) (CL := [.ratio]) (XL := []) (code := k_as_ratio) F scm_as_ratio (fun A hr => lo_as_ratio T hr) (fun A => allN) (by kernel_rfl) (by intro h; first | exact absurd h (by decide) | kernel_rfl) (fun xs Q E h => sem_as h), .nil, FunD.bindsN F fun _ _ _ _ _ _ us hl => match us, hl with | [_], _ => rfl⟩, F.kp⟩
theorem g_as_ratio (T : Ctx K mg) {A : Around} (hr : Room 16 A) : GOk1 ⟨P, w, K, mg, base, A⟩ (.glo "as_ratio") spAs := ⟨_, f_glo_as_ratio T, f_keep_as_ratio T, cal_fn (okp_as_ratio T) hr⟩
abbrev M_is_number : List Str := ["thing"]
theorem scm_is_number : FnScope M_is_number p_is_number (defScope s_is_number) := ⟨rfl, rfl, rfl, by decide +kernel, rfl, by decide +kernel, by decide +kernel⟩
theorem lo_is_number (T : Ctx K mg) {A : Around} (hr : Room 15 A) : LOk ⟨P, w, K, mg, base, A⟩ L_is_number [.ratio] := lokX T (op_ok T (Room.mono hr (by decide)) (tabA_ok T)) .nil (allS (f_glo_Ratio T) allN) allN allN allN .nil allN
theorem okp_is_number (T : Ctx K mg) : OkD P w K mg base 16 (He.ga K "is_number") p_is_number [] (lowSp K spIsNum) := by
  obtain ⟨fd, F⟩ := F_is_number T
  exact ⟨⟨fd, [], pfn (N := M_is_number) (k := 15) (L := L_is_number) (CL := [.ratio]) (XL := []) (code := k_is_number) F scm_is_number (fun A hr => lo_is_number T hr) (fun A => allN) (by kernel_rfl) (by intro h; first | exact absurd h (by decide) | kernel_rfl) (fun xs Q E h => sem_isnum h), .nil, FunD.bindsN F fun _ _ _ _ _ _ us hl => match us, hl with | [_], _ => rfl⟩, F.kp⟩
theorem g_is_number (T : Ctx K mg) {A : Around} (hr : Room 16 A) : GOk1 ⟨P, w, K, mg, base, A⟩ (.glo "is_number") spIsNum := ⟨_, f_glo_is_number T, f_keep_is_number T, cal_fn (okp_is_number T) hr⟩
abbrev M_check_lengths : List Str := ["first", "second"]
theorem scm_check_lengths : FnScope M_check_lengths p_check_lengths (defScope s_check_lengths) := ⟨rfl, rfl, rfl, by decide +kernel, rfl, by decide +kernel, by decide +kernel⟩
theorem lo_check_lengths (T : Ctx K mg) {A : Around} (hr : Room 15 A) : LOk ⟨P, w, K, mg, base, A⟩ L_check_lengths [] := lokX T (op_ok T (Room.mono hr (by decide)) (tabA_ok T)) .nil allN allN allN allN .nil allN
theorem okp_check_lengths (T : Ctx K mg) : OkD P w K mg base 16 (He.ga K "check_lengths") p_check_lengths [] (lowSp K spCheckL) := by
  obtain ⟨fd, F⟩ := F_check_lengths T
  exact ⟨⟨fd, [], pfn (N := M_check_lengths) (k := 15) (L := L_check_lengths) (CL := []) (XL := [.badLength]) (code := k_check_lengths) F scm_check_lengths (fun A hr => lo_check_lengths T hr) (fun A => (allS ⟨f_glo_BadLength T, f_exc_BadLength T⟩ allN)) (by kernel_rfl) (by intro h; first | exact absurd h (by decide) | kernel_rfl) (fun xs Q E h => sem_checkL h), .nil, FunD.bindsN F fun _ _ _ _ _ _ us hl => match us, hl with | [_, _], _ => rfl⟩, F.kp⟩
theorem g_check_lengths (T : Ctx K mg) {A : Around} (hr : Room 16 A) : GOk1 ⟨P, w, K, mg, base, A⟩ (.glo "check_lengths") spCheckL := ⟨_, f_glo_check_lengths T, f_keep_check_lengths T, cal_fn (okp_check_lengths T) hr⟩
abbrev M_Amounts___init__ : List Str := ["self", "values", "value"]
theorem scm_Amounts___init__ : FnScope M_Amounts___init__ p_Amounts___init__ (defScope s_Amounts___init__) := ⟨rfl, rfl, rfl, by decide +kernel, rfl, by decide +kernel, by decide +kernel⟩
theorem lo_Amounts___init__ (T : Ctx K mg) {A : Around} (hr : Room 16 A) : LOk ⟨P, w, K, mg, base, A⟩ L_Amounts___init__ [] := lokX T (op_ok T (Room.mono hr (by decide)) (tabA_ok T)) (.cons (g_as_ratio T (Room.mono hr (by decide))) .nil) allN allN allN (allS (iter_Amounts T (Room.mono hr (by decide))) allN) .nil (allS ⟨f_cls_Amounts T, fun f e => by cases e; exact f_noat_Amounts'numbers T⟩ allN)
theorem okp_Amounts___init__ (T : Ctx K mg) : OkD P w K mg base 17 (He.ma K (He.ga K "Amounts") "__init__") p_Amounts___init__ [] (lowM K mIni) := by
  obtain ⟨fd, F⟩ := F_Amounts___init__ T
  exact ⟨⟨fd, [], pfnM (N := M_Amounts___init__) (k := 16) (L := L_Amounts___init__) (CL := []) (XL := []) (code := k_Amounts___init__) F scm_Amounts___init__ (by decide) (fun A hr => lo_Amounts___init__ T hr) (fun A => allN) (by kernel_rfl) (fun c fs xs Q E h => sem_ini h), .nil, FunD.bindsN F fun _ _ _ _ _ _ us hl => match us, hl with | [_, _], _ => rfl⟩, F.kp⟩
theorem g_Amounts (T : Ctx K mg) {A : Around} (hr : Room 18 A) : GOk1 ⟨P, w, K, mg, base, A⟩ (.glo "Amounts") spNew := ⟨_, f_glo_Amounts T, f_keep_Amounts T, Cal.weak (b := ⟨P, w, K, mg, base, A⟩) (p := mIni.new .amounts) rfl (new_ini) (cal_new (b := ⟨P, w, K, mg, base, A⟩) (c := .amounts) (f_mkr_Amounts T) (okp_Amounts___init__ T) hr (by decide))⟩
abbrev M_Amounts_zeros : List Str := ["count"]
theorem scm_Amounts_zeros : FnScope M_Amounts_zeros p_Amounts_zeros (defScope s_Amounts_zeros) := ⟨rfl, rfl, rfl, by decide +kernel, rfl, by decide +kernel, by decide +kernel⟩
theorem lo_Amounts_zeros (T : Ctx K mg) {A : Around} (hr : Room 18 A) : LOk ⟨P, w, K, mg, base, A⟩ L_Amounts_zeros [] := lokX T (op_ok T (Room.mono hr (by decide)) (tab_ok T)) (.cons (g_Amounts T (Room.mono hr (by decide))) .nil) allN allN allN allN .nil allN
theorem okp_Amounts_zeros (T : Ctx K mg) : OkD P w K mg base 19 (adSt "Amounts" "zeros" K) p_Amounts_zeros [] (lowSp K spZeros) := by
  obtain ⟨fd, F⟩ := F_Amounts_zeros T
  exact ⟨⟨fd, [], pfn (N := M_Amounts_zeros) (k := 18) (L := L_Amounts_zeros) (CL := []) (XL := []) (code := k_Amounts_zeros) F scm_Amounts_zeros (fun A hr => lo_Amounts_zeros T hr) (fun A => allN) (by kernel_rfl) (by intro h; first | exact absurd h (by decide) | kernel_rfl) (fun xs Q E h => sem_zeros h), .nil, FunD.bindsN F fun _ _ _ _ _ _ us hl => match us, hl with | [_], _ => rfl⟩, F.kp⟩
theorem g_Amounts_zeros (T : Ctx K mg) {A : Around} (hr : Room 19 A) : GOk1 ⟨P, w, K, mg, base, A⟩ (.sta .amounts "zeros") spZeros := ⟨_, f_sta_Amounts'zeros T, f_glo_Amounts T, cal_fn (okp_Amounts_zeros T) hr⟩
abbrev M_Amounts_dot : List Str := ["self", "other", "others", "found", "one", "two", "amount"]
theorem scm_Amounts_dot : FnScope M_Amounts_dot p_Amounts_dot (defScope s_Amounts_dot) := ⟨rfl, rfl, rfl, by decide +kernel, rfl, by decide +kernel, by decide +kernel⟩
theorem lo_Amounts_dot (T : Ctx K mg) {A : Around} (hr : Room 18 A) : LOk ⟨P, w, K, mg, base, A⟩ L_Amounts_dot [] := lokX T (op_okL T (Room.mono hr (by decide))) (.cons (g_as_ratio T (Room.mono hr (by decide))) (.cons (g_check_lengths T (Room.mono hr (by decide))) (.cons (cal_ratio T (Room.mono hr (by decide))) .nil))) allN allN allN (allS (iter_Amounts T (Room.mono hr (by decide))) allN) .nil allN
theorem okp_Amounts_dot (T : Ctx K mg) : OkD P w K mg base 19 (He.ma K (He.ga K "Amounts") "dot") p_Amounts_dot [] (lowSp K spDot) := by
  obtain ⟨fd, F⟩ := F_Amounts_dot T
  exact ⟨⟨fd, [], pfn (N := M_Amounts_dot) (k := 18) (L := L_Amounts_dot) (CL := []) (XL := []) (code := k_Amounts_dot) F scm_Amounts_dot (fun A hr => lo_Amounts_dot T hr) (fun A => allN) (by kernel_rfl) (by intro h; first | exact absurd h (by decide) | kernel_rfl) (fun xs Q E h => sem_dot h), .nil, FunD.bindsN F fun _ _ _ _ _ _ us hl => match us, hl with | [_, _], _ => rfl⟩, F.kp⟩
theorem g_Amounts_dot (T : Ctx K mg) {A : Around} (hr : Room 19 A) : GOk1 ⟨P, w, K, mg, base, A⟩ (.met .amounts "dot") spDot := ⟨_, f_cls_Amounts T, f_meth_Amounts'dot T, fun fs h => look_no (by decide +kernel) h, cal_fn (okp_Amounts_dot T) hr⟩
abbrev M_Amounts_total : List Str := ["self", "found", "number"]
theorem scm_Amounts_total : FnScope M_Amounts_total p_Amounts_total (defScope s_Amounts_total) := ⟨rfl, rfl, rfl, by decide +kernel, rfl, by decide +kernel, by decide +kernel⟩
theorem lo_Amounts_total (T : Ctx K mg) {A : Around} (hr : Room 18 A) : LOk ⟨P, w, K, mg, base, A⟩ L_Amounts_total [] := lokX T (op_okL T (Room.mono hr (by decide))) (.cons (cal_ratio T (Room.mono hr (by decide))) .nil) allN allN allN allN .nil allN
theorem okp_Amounts_total (T : Ctx K mg) : OkD P w K mg base 19 (He.ma K (He.ga K "Amounts") "total") p_Amounts_total [] (lowSp K spTotal) := by
  obtain ⟨fd, F⟩ := F_Amounts_total T
  exact ⟨⟨fd, [], pfn (N := M_Amounts_total) (k := 18) (L := L_Amounts_total) (CL := []) (XL := []) (code := k_Amounts_total) F scm_Amounts_total (fun A hr => lo_Amounts_total T hr) (fun A => allN) (by kernel_rfl) (by intro h; first | exact absurd h (by decide) | kernel_rfl) (fun xs Q E h => sem_total h), .nil, FunD.bindsN F fun _ _ _ _ _ _ us hl => match us, hl with | [_], _ => rfl⟩, F.kp⟩
theorem g_Amounts_total (T : Ctx K mg) {A : Around} (hr : Room 19 A) : GOk1 ⟨P, w, K, mg, base, A⟩ (.met .amounts "total") spTotal := ⟨_, f_cls_Amounts T, f_meth_Amounts'total T, fun fs h => look_no (by decide +kernel) h, cal_fn (okp_Amounts_total T) hr⟩
abbrev M_Amounts___len__ : List Str := ["self"]
theorem scm_Amounts___len__ : FnScope M_Amounts___len__ p_Amounts___len__ (defScope s_Amounts___len__) := ⟨rfl, rfl, rfl, by decide +kernel, rfl, by decide +kernel, by decide +kernel⟩
theorem lo_Amounts___len__ (T : Ctx K mg) {A : Around} (hr : Room 18 A) : LOk ⟨P, w, K, mg, base, A⟩ L_Amounts___len__ [] := lokX T (op_okL T (Room.mono hr (by decide))) .nil allN allN allN allN .nil allN
theorem okp_Amounts___len__ (T : Ctx K mg) : OkD P w K mg base 19 (He.ma K (He.ga K "Amounts") "__len__") p_Amounts___len__ [] (lowSp K spLen) := by
  obtain ⟨fd, F⟩ := F_Amounts___len__ T
  exact ⟨⟨fd, [], pfn (N := M_Amounts___len__) (k := 18) (L := L_Amounts___len__) (CL := []) (XL := []) (code := k_Amounts___len__) F scm_Amounts___len__ (fun A hr => lo_Amounts___len__ T hr) (fun A => allN) (by kernel_rfl) (by intro h; first | exact absurd h (by decide) | kernel_rfl) (fun xs Q E h => sem_len h), .nil, FunD.bindsN F fun _ _ _ _ _ _ us hl => match us, hl with | [_], _ => rfl⟩, F.kp⟩
abbrev M_Amounts___getitem__ : List Str := ["self", "at"]
theorem scm_Amounts___getitem__ : FnScope M_Amounts___getitem__ p_Amounts___getitem__ (defScope s_Amounts___getitem__) := ⟨rfl, rfl, rfl, by decide +kernel, rfl, by decide +kernel, by decide +kernel⟩
theorem lo_Amounts___getitem__ (T : Ctx K mg) {A : Around} (hr : Room 18 A) : LOk ⟨P, w, K, mg, base, A⟩ L_Amounts___getitem__ [] := lokX T (op_okL T (Room.mono hr (by decide))) .nil allN allN allN allN .nil allN
theorem okp_Amounts___getitem__ (T : Ctx K mg) : OkD P w K mg base 19 (He.ma K (He.ga K "Amounts") "__getitem__") p_Amounts___getitem__ [] (lowSp K spGet) := by
  obtain ⟨fd, F⟩ := F_Amounts___getitem__ T
  exact ⟨⟨fd, [], pfn (N := M_Amounts___getitem__) (k := 18) (L := L_Amounts___getitem__) (CL := []) (XL := [.badKind]) (code := k_Amounts___getitem__) F scm_Amounts___getitem__ (fun A hr => lo_Amounts___getitem__ T hr) (fun A => (allS ⟨f_glo_BadKind T, f_exc_BadKind T⟩ allN)) (by kernel_rfl) (by intro h; first | exact absurd h (by decide) | kernel_rfl) (fun xs Q E h => sem_get h), .nil, FunD.bindsN F fun _ _ _ _ _ _ us hl => match us, hl with | [_, _], _ => rfl⟩, F.kp⟩
abbrev M_Amounts___setitem__F : List Str := ["self", "at", "worth"]
theorem scm_Amounts___setitem__F : FnScope M_Amounts___setitem__F p_Amounts___setitem__ (defScope s_Amounts___setitem__) := ⟨rfl, rfl, rfl, by decide +kernel, rfl, by decide +kernel, by decide +kernel⟩
theorem lo_Amounts___setitem__F (T : Ctx K mg) {A : Around} (hr : Room 18 A) : LOk ⟨P, w, K, mg, base, A⟩ L_Amounts___setitem__F [] := lokX T (op_okL T (Room.mono hr (by decide))) .nil allN allN allN allN .nil allN
theorem okp_Amounts___setitem__F (T : Ctx K mg) : OkD P w K mg base 19 (He.ma K (He.ga K "Amounts") "__setitem__") p_Amounts___setitem__ [] (lowSp K spSetF) := by
  obtain ⟨fd, F⟩ := F_Amounts___setitem__ T
  exact ⟨⟨fd, [], pfn (N := M_Amounts___setitem__F) (k := 18) (L := L_Amounts___setitem__F) (CL := []) (XL := [.badKind]) (code := k_Amounts___setitem__F) F scm_Amounts___setitem__F (fun A hr => lo_Amounts___setitem__F T hr) (fun A => (allS ⟨f_glo_BadKind T, f_exc_BadKind T⟩ allN)) (by kernel_rfl) (by intro h; first | exact absurd h (by decide) | kernel_rfl) (fun xs Q E h => sem_setF h), .nil, FunD.bindsN F fun _ _ _ _ _ _ us hl => match us, hl with | [_, _, _], _ => rfl⟩, F.kp⟩
abbrev M_Amounts___setitem__ : List Str := ["self", "at", "worth"]
theorem scm_Amounts___setitem__ : FnScope M_Amounts___setitem__ p_Amounts___setitem__ (defScope s_Amounts___setitem__) := ⟨rfl, rfl, rfl, by decide +kernel, rfl, by decide +kernel, by decide +kernel⟩
theorem lo_Amounts___setitem__ (T : Ctx K mg) {A : Around} (hr : Room 18 A) : LOk ⟨P, w, K, mg, base, A⟩ L_Amounts___setitem__ [] := lokX T (op_okL T (Room.mono hr (by decide))) (.cons (g_as_ratio T (Room.mono hr (by decide))) .nil) allN allN allN allN .nil (allS ⟨f_cls_Amounts T, fun f e => by cases e; exact f_noat_Amounts'numbers T⟩ allN)
theorem okp_Amounts___setitem__ (T : Ctx K mg) : OkD P w K mg base 19 (He.ma K (He.ga K "Amounts") "__setitem__") p_Amounts___setitem__ [] (lowM K mSet) := by
  obtain ⟨fd, F⟩ := F_Amounts___setitem__ T
  exact ⟨⟨fd, [], pfnM (N := M_Amounts___setitem__) (k := 18) (L := L_Amounts___setitem__) (CL := []) (XL := [.badKind]) (code := k_Amounts___setitem__) F scm_Amounts___setitem__ (by decide) (fun A hr => lo_Amounts___setitem__ T hr) (fun A => (allS ⟨f_glo_BadKind T, f_exc_BadKind T⟩ allN)) (by kernel_rfl) (fun c fs xs Q E h => sem_set h), .nil, FunD.bindsN F fun _ _ _ _ _ _ us hl => match us, hl with | [_, _, _], _ => rfl⟩, F.kp⟩
abbrev M_Amounts___add__ : List Str := ["self", "other", "one", "two"]
theorem scm_Amounts___add__ : FnScope M_Amounts___add__ p_Amounts___add__ (defScope s_Amounts___add__) := ⟨rfl, rfl, rfl, by decide +kernel, rfl, by decide +kernel, by decide +kernel⟩
theorem lo_Amounts___add__ (T : Ctx K mg) {A : Around} (hr : Room 18 A) : LOk ⟨P, w, K, mg, base, A⟩ L_Amounts___add__ [.amounts] := lokX T (op_okL T (Room.mono hr (by decide))) (.cons (g_check_lengths T (Room.mono hr (by decide))) (.cons (g_Amounts T (Room.mono hr (by decide))) .nil)) (allS (f_glo_Amounts T) allN) allN allN allN .nil allN
theorem okp_Amounts___add__ (T : Ctx K mg) : OkD P w K mg base 19 (He.ma K (He.ga K "Amounts") "__add__") p_Amounts___add__ [] (lowSp K spAdd) := by
  obtain ⟨fd, F⟩ := F_Amounts___add__ T
  exact ⟨⟨fd, [], pfn (N := M_Amounts___add__) (k := 18) (L := L_Amounts___add__) (CL := [.amounts]) (XL := []) (code := k_Amounts___add__) F scm_Amounts___add__ (fun A hr => lo_Amounts___add__ T hr) (fun A => allN) (by kernel_rfl) (by intro h; first | exact absurd h (by decide) | kernel_rfl) (fun xs Q E h => sem_add h), .nil, FunD.bindsN F fun _ _ _ _ _ _ us hl => match us, hl with | [_, _], _ => rfl⟩, F.kp⟩
abbrev M_Amounts___iadd__F : List Str := ["self", "other", "one", "two"]
theorem scm_Amounts___iadd__F : FnScope M_Amounts___iadd__F p_Amounts___iadd__ (defScope s_Amounts___iadd__) := ⟨rfl, rfl, rfl, by decide +kernel, rfl, by decide +kernel, by decide +kernel⟩
theorem lo_Amounts___iadd__F (T : Ctx K mg) {A : Around} (hr : Room 18 A) : LOk ⟨P, w, K, mg, base, A⟩ L_Amounts___iadd__F [.amounts] := lokX T (op_okL T (Room.mono hr (by decide))) (.cons (g_check_lengths T (Room.mono hr (by decide))) .nil) (allS (f_glo_Amounts T) allN) allN allN allN .nil allN
theorem okp_Amounts___iadd__F (T : Ctx K mg) : OkD P w K mg base 19 (He.ma K (He.ga K "Amounts") "__iadd__") p_Amounts___iadd__ [] (lowSp K spIaddF) := by
  obtain ⟨fd, F⟩ := F_Amounts___iadd__ T
  exact ⟨⟨fd, [], pfn (N := M_Amounts___iadd__F) (k := 18) (L := L_Amounts___iadd__F) (CL := [.amounts]) (XL := []) (code := k_Amounts___iadd__F) F scm_Amounts___iadd__F (fun A hr => lo_Amounts___iadd__F T hr) (fun A => allN) (by kernel_rfl) (by intro h; first | exact absurd h (by decide) | kernel_rfl) (fun xs Q E h => sem_iaddF h), .nil, FunD.bindsN F fun _ _ _ _ _ _ us hl => match us, hl with | [_, _], _ => rfl⟩, F.kp⟩
abbrev M_Amounts___iadd__ : List Str := ["self", "other", "one", "two"]
theorem scm_Amounts___iadd__ : FnScope M_Amounts___iadd__ p_Amounts___iadd__ (defScope s_Amounts___iadd__) := ⟨rfl, rfl, rfl, by decide +kernel, rfl, by decide +kernel, by decide +kernel⟩
theorem lo_Amounts___iadd__ (T : Ctx K mg) {A : Around} (hr : Room 18 A) : LOk ⟨P, w, K, mg, base, A⟩ L_Amounts___iadd__ [.amounts] := lokX T (op_okL T (Room.mono hr (by decide))) (.cons (g_check_lengths T (Room.mono hr (by decide))) .nil) (allS (f_glo_Amounts T) allN) allN allN allN .nil (allS ⟨f_cls_Amounts T, fun f e => by cases e; exact f_noat_Amounts'numbers T⟩ allN)
theorem okp_Amounts___iadd__ (T : Ctx K mg) : OkD P w K mg base 19 (He.ma K (He.ga K "Amounts") "__iadd__") p_Amounts___iadd__ [] (lowI K mIadd) := by
  obtain ⟨fd, F⟩ := F_Amounts___iadd__ T
  exact ⟨⟨fd, [], pfnI (N := M_Amounts___iadd__) (k := 18) (L := L_Amounts___iadd__) (CL := [.amounts]) (XL := []) (code := k_Amounts___iadd__) F scm_Amounts___iadd__ (by decide) (fun A hr => lo_Amounts___iadd__ T hr) (fun A => allN) (by kernel_rfl) (fun c fs xs Q E h => sem_iadd h), .nil, FunD.bindsN F fun _ _ _ _ _ _ us hl => match us, hl with | [_, _], _ => rfl⟩, F.kp⟩
abbrev M_Amounts___sub__ : List Str := ["self", "other", "one", "two"]
theorem scm_Amounts___sub__ : FnScope M_Amounts___sub__ p_Amounts___sub__ (defScope s_Amounts___sub__) := ⟨rfl, rfl, rfl, by decide +kernel, rfl, by decide +kernel, by decide +kernel⟩
theorem lo_Amounts___sub__ (T : Ctx K mg) {A : Around} (hr : Room 18 A) : LOk ⟨P, w, K, mg, base, A⟩ L_Amounts___sub__ [.amounts] := lokX T (op_okL T (Room.mono hr (by decide))) (.cons (g_check_lengths T (Room.mono hr (by decide))) (.cons (g_Amounts T (Room.mono hr (by decide))) .nil)) (allS (f_glo_Amounts T) allN) allN allN allN .nil allN
theorem okp_Amounts___sub__ (T : Ctx K mg) : OkD P w K mg base 19 (He.ma K (He.ga K "Amounts") "__sub__") p_Amounts___sub__ [] (lowSp K spSub) := by
  obtain ⟨fd, F⟩ := F_Amounts___sub__ T
  exact ⟨⟨fd, [], pfn (N := M_Amounts___sub__) (k := 18) (L := L_Amounts___sub__) (CL := [.amounts]) (XL := []) (code := k_Amounts___sub__) F scm_Amounts___sub__ (fun A hr => lo_Amounts___sub__ T hr) (fun A => allN) (by kernel_rfl) (by intro h; first | exact absurd h (by decide) | kernel_rfl) (fun xs Q E h => sem_sub h), .nil, FunD.bindsN F fun _ _ _ _ _ _ us hl => match us, hl with | [_, _], _ => rfl⟩, F.kp⟩
abbrev M_Amounts___mul__ : List Str := ["self", "other", "number"]
theorem scm_Amounts___mul__ : FnScope M_Amounts___mul__ p_Amounts___mul__ (defScope s_Amounts___mul__) := ⟨rfl, rfl, rfl, by decide +kernel, rfl, by decide +kernel, by decide +kernel⟩
theorem lo_Amounts___mul__ (T : Ctx K mg) {A : Around} (hr : Room 18 A) : LOk ⟨P, w, K, mg, base, A⟩ L_Amounts___mul__ [] := lokX T (op_okL T (Room.mono hr (by decide))) (.cons (g_is_number T (Room.mono hr (by decide))) (.cons (g_Amounts T (Room.mono hr (by decide))) .nil)) allN allN allN allN .nil allN
theorem okp_Amounts___mul__ (T : Ctx K mg) : OkD P w K mg base 19 (He.ma K (He.ga K "Amounts") "__mul__") p_Amounts___mul__ [] (lowSp K spMulA) := by
  obtain ⟨fd, F⟩ := F_Amounts___mul__ T
  exact ⟨⟨fd, [], pfn (N := M_Amounts___mul__) (k := 18) (L := L_Amounts___mul__) (CL := []) (XL := []) (code := k_Amounts___mul__) F scm_Amounts___mul__ (fun A hr => lo_Amounts___mul__ T hr) (fun A => allN) (by kernel_rfl) (by intro h; first | exact absurd h (by decide) | kernel_rfl) (fun xs Q E h => sem_mulA h), .nil, FunD.bindsN F fun _ _ _ _ _ _ us hl => match us, hl with | [_, _], _ => rfl⟩, F.kp⟩
abbrev M_Amounts___rmul__ : List Str := ["self", "other", "number"]
theorem scm_Amounts___rmul__ : FnScope M_Amounts___rmul__ p_Amounts___rmul__ (defScope s_Amounts___rmul__) := ⟨rfl, rfl, rfl, by decide +kernel, rfl, by decide +kernel, by decide +kernel⟩
theorem lo_Amounts___rmul__ (T : Ctx K mg) {A : Around} (hr : Room 18 A) : LOk ⟨P, w, K, mg, base, A⟩ L_Amounts___rmul__ [] := lokX T (op_okL T (Room.mono hr (by decide))) (.cons (g_is_number T (Room.mono hr (by decide))) (.cons (g_Amounts T (Room.mono hr (by decide))) .nil)) allN allN allN allN .nil allN
theorem okp_Amounts___rmul__ (T : Ctx K mg) : OkD P w K mg base 19 (He.ma K (He.ga K "Amounts") "__rmul__") p_Amounts___rmul__ [] (lowSp K spMulA) := by
  obtain ⟨fd, F⟩ := F_Amounts___rmul__ T
  exact ⟨⟨fd, [], pfn (N := M_Amounts___rmul__) (k := 18) (L := L_Amounts___rmul__) (CL := []) (XL := []) (code := k_Amounts___rmul__) F scm_Amounts___rmul__ (fun A hr => lo_Amounts___rmul__ T hr) (fun A => allN) (by kernel_rfl) (by intro h; first | exact absurd h (by decide) | kernel_rfl) (fun xs Q E h => sem_rmulA h), .nil, FunD.bindsN F fun _ _ _ _ _ _ us hl => match us, hl with | [_, _], _ => rfl⟩, F.kp⟩
abbrev M_Amounts___neg__ : List Str := ["self", "number"]
theorem scm_Amounts___neg__ : FnScope M_Amounts___neg__ p_Amounts___neg__ (defScope s_Amounts___neg__) := ⟨rfl, rfl, rfl, by decide +kernel, rfl, by decide +kernel, by decide +kernel⟩
theorem lo_Amounts___neg__ (T : Ctx K mg) {A : Around} (hr : Room 18 A) : LOk ⟨P, w, K, mg, base, A⟩ L_Amounts___neg__ [] := lokX T (op_okL T (Room.mono hr (by decide))) (.cons (g_Amounts T (Room.mono hr (by decide))) .nil) allN allN allN allN .nil allN
theorem okp_Amounts___neg__ (T : Ctx K mg) : OkD P w K mg base 19 (He.ma K (He.ga K "Amounts") "__neg__") p_Amounts___neg__ [] (lowSp K spNeg) := by
  obtain ⟨fd, F⟩ := F_Amounts___neg__ T
  exact ⟨⟨fd, [], pfn (N := M_Amounts___neg__) (k := 18) (L := L_Amounts___neg__) (CL := []) (XL := []) (code := k_Amounts___neg__) F scm_Amounts___neg__ (fun A hr => lo_Amounts___neg__ T hr) (fun A => allN) (by kernel_rfl) (by intro h; first | exact absurd h (by decide) | kernel_rfl) (fun xs Q E h => sem_neg h), .nil, FunD.bindsN F fun _ _ _ _ _ _ us hl => match us, hl with | [_], _ => rfl⟩, F.kp⟩
abbrev M_Amounts___eq__ : List Str := ["self", "other"]
theorem scm_Amounts___eq__ : FnScope M_Amounts___eq__ p_Amounts___eq__ (defScope s_Amounts___eq__) := ⟨rfl, rfl, rfl, by decide +kernel, rfl, by decide +kernel, by decide +kernel⟩
theorem lo_Amounts___eq__ (T : Ctx K mg) {A : Around} (hr : Room 18 A) : LOk ⟨P, w, K, mg, base, A⟩ L_Amounts___eq__ [.amounts] := lokX T (op_okL T (Room.mono hr (by decide))) .nil (allS (f_glo_Amounts T) allN) allN allN allN .nil allN
theorem okp_Amounts___eq__ (T : Ctx K mg) : OkD P w K mg base 19 (He.ma K (He.ga K "Amounts") "__eq__") p_Amounts___eq__ [] (lowSp K spEqA) := by
  obtain ⟨fd, F⟩ := F_Amounts___eq__ T
  exact ⟨⟨fd, [], pfn (N := M_Amounts___eq__) (k := 18) (L := L_Amounts___eq__) (CL := [.amounts]) (XL := []) (code := k_Amounts___eq__) F scm_Amounts___eq__ (fun A hr => lo_Amounts___eq__ T hr) (fun A => allN) (by kernel_rfl) (by intro h; first | exact absurd h (by decide) | kernel_rfl) (fun xs Q E h => sem_eqA h), .nil, FunD.bindsN F fun _ _ _ _ _ _ us hl => match us, hl with | [_, _], _ => rfl⟩, F.kp⟩
end
end Rt
/-! RA: the signs of Amounts. -/
namespace Rt
open PySem PySem.Spec PyProof.Rows L2 Ni Pr Pu Qw
section
variable {P : Program} {w : World} {K : PySem.W.Frag} {mg : Str → Option Value} {base : Heap}
theorem two_AR (T : Ctx K mg) : Two K (aA K) (aR K) .Mult (He.ma K (aA K) "__mul__") (He.ma K (aR K) "__rmul__") where
  c1 := f_sf_Amounts T
  c2 := f_sf_Ratio T
  hs := (Sg.of_eq d_mul (f_sg_Amounts'__mul__ T)).hs
  hf := (f_sg_Amounts'__mul__ T).hf
  hr := ⟨_, (Sg.of_eq r_mul (f_sg_Amounts'__rmul__ T)).hs, .inr ⟨_, rfl⟩⟩
  ds := ⟨_, (Sg.of_eq d_mul (f_sg_Ratio'__mul__ T)).hs, (f_sg_Ratio'__mul__ T).hf⟩
  dr := ⟨_, (Sg.of_eq r_mul (f_sg_Ratio'__rmul__ T)).hs, .inr ⟨_, rfl⟩⟩
  ne := f_ne_Amounts'Ratio T
  sub := f_sub_Ratio'Amounts T
theorem two_RA (T : Ctx K mg) : Two K (aR K) (aA K) .Mult (He.ma K (aR K) "__mul__") (He.ma K (aA K) "__rmul__") where
  c1 := f_sf_Ratio T
  c2 := f_sf_Amounts T
  hs := (Sg.of_eq d_mul (f_sg_Ratio'__mul__ T)).hs
  hf := (f_sg_Ratio'__mul__ T).hf
  hr := ⟨_, (Sg.of_eq r_mul (f_sg_Ratio'__rmul__ T)).hs, .inr ⟨_, rfl⟩⟩
  ds := ⟨_, (Sg.of_eq d_mul (f_sg_Amounts'__mul__ T)).hs, (f_sg_Amounts'__mul__ T).hf⟩
  dr := ⟨_, (Sg.of_eq r_mul (f_sg_Amounts'__rmul__ T)).hs, .inr ⟨_, rfl⟩⟩
  ne := f_ne_Ratio'Amounts T
  sub := f_sub_Amounts'Ratio T
/-- a fraction's * gives up before an Amounts -/
def spNiA (K : PySem.W.Frag) : List V → Hp → (Hp → Prop) → Prop := fun vs H Q => ∃ pl F q fs, Same F H ∧ PoolAt pl F H ∧ Reps ⟨K, pl⟩ F [.rat q, .obj .amounts fs] vs ∧ ∀ H' F', Fwd pl F H F' H' → Same F' H' → Q H'
abbrev L_ni : Lang := { G := [(.glo "is_number", spIsNum)], op := opS tabA }
theorem ni_mul (T : Ctx K mg) : NiOk P w K mg base 17 (He.ma K (aR K) "__mul__") p_Ratio___mul__ (spNiA K) := by
  obtain ⟨fd, F⟩ := F_Ratio___mul__ T
  refine ni_of (N := N_Ratio___mul__) (k := 16) F sc_Ratio___mul__ (FunD.bindsN F fun _ _ _ _ _ _ us hl => match us, hl with | [_, _], _ => rfl) (fun vs H Q ⟨pl, F, q, fs, _, _, r, _⟩ => r.len.symm) rfl (by decide +kernel) (f_free_NotImplemented T) ?_
  intro X e1 e2 e3 e4 e5 e6 e7 e8 V1 hr vs H Q h
  subst e1 e2 e3 e4 e5
  obtain ⟨pl, F, q, fs, h1, h2, h3, k⟩ := h
  have T' : Ctx X.K X.mg := T
  have S := Stt.start (N := N_Ratio___mul__) h1 h2 h3
  have hL : LOk (b6 X) L_ni [] := lokX T (op_ok T (Room.mono hr (by decide)) (tabA_ok T)) (.cons (g_is_number T (Room.mono hr (by decide))) .nil) allN allN allN allN .nil allN
  refine Wt.imp ?_ ((allE (cm := true) hL rfl (.inot (.call 0 (.cons (.var 1) .nil)))).2.1 (ct := ct0 pl H F) (all := true) rfl ⟨e7, sc_Ratio___mul__.nd, e6, fun _ => e8, fun _ => rfl, fun _ _ z => (nomatch z), fun _ => V1.calm⟩ (by kernel_rfl) S (E := fun _ => False) (P := fun b => b = true) (fun _ _ _ _ _ _ _ z => z.elim) ⟨false, rfl, rfl⟩)
  rintro b H' ⟨F', S', s', q'⟩
  exact ⟨q', k H' F' s' S'.sub⟩
theorem op_okA (T : Ctx K mg) {A : Around} (hr : Room 30 A) : ∀ k, OpOk ⟨P, w, K, mg, base, A⟩ k (opA k) := by
  intro k X hb ct F1 ρ σ H xs vs Q E S rs h0 hE
  cases hb
  have T' : Ctx X.K X.mg := T
  have h : rOpA k xs Q E := h0
  clear h0
  have rm : ∀ {k : Nat}, k ≤ 30 → Room k X.A := fun h => Room.mono hr h
  have i1 : Room 29 X.A.in1 := (Room.mono hr (show 30 ≤ 30 by decide)).in1
  unfold rOpA at h
  split at h
  · -- +
    obtain ⟨v, u, rfl, r1, r2⟩ := rs.two
    obtain ⟨a, dx, ws, rfl, e1, _⟩ := am_at S r1
    obtain ⟨b, dy, us, rfl, e2, _⟩ := am_at S r2
    exact wo_two e1 e2 (f_sf_Amounts T') (Sg.of_eq d_add (f_sg_Amounts'__add__ T')) (cal_fn (b := b6 X) (okp_Amounts___add__ T) (rm (by decide)) X rfl ct F1 ρ σ H _ _ Q E S rs h hE)
  · -- -
    obtain ⟨v, u, rfl, r1, r2⟩ := rs.two
    obtain ⟨a, dx, ws, rfl, e1, _⟩ := am_at S r1
    obtain ⟨b, dy, us, rfl, e2, _⟩ := am_at S r2
    exact wo_two e1 e2 (f_sf_Amounts T') (Sg.of_eq d_sub (f_sg_Amounts'__sub__ T')) (cal_fn (b := b6 X) (okp_Amounts___sub__ T) (rm (by decide)) X rfl ct F1 ρ σ H _ _ Q E S rs h hE)
  · -- Amounts * number
    rename PV => y
    obtain ⟨v, u, rfl, r1, r2⟩ := rs.two
    obtain ⟨a, dx, ws, rfl, e1, _⟩ := am_at S r1
    have run := cal_fn (b := b6 X) (okp_Amounts___mul__ T) (rm (by decide)) X rfl ct F1 ρ σ H _ _ Q E S rs h hE
    obtain ⟨o, hR, _⟩ := h
    cases hR with
    | ok en l m =>
      cases y with
      | int n =>
        cases r2
        obtain ⟨fo, g1⟩ := find_eq d_mul (f_find_int'__mul__ T')
        obtain ⟨ro, g2⟩ := find_eq r_mul (f_find_int'__rmul__ T')
        exact wo_left (T := "int") e1 (fun u => type_int u) (f_sf_Amounts T') (Sg.of_eq d_mul (f_sg_Amounts'__mul__ T')) (Sg.of_eq r_mul (f_sg_Amounts'__rmul__ T')).hs (.inr ⟨_, rfl⟩) g1 g2 (f_sub_int'Amounts T') run
      | rat q =>
        obtain ⟨b, rfl, dy, e2⟩ := p_isR S r2
        exact wo_cls e1 e2 (two_AR T') run
      | _ => cases en
  · -- int * Amounts
    obtain ⟨v, u, rfl, r1, r2⟩ := rs.two
    obtain ⟨a, dx, ws, rfl, e1, _⟩ := am_at S r2
    cases r1
    exact wo_right e1 (f_sf_Amounts T') (Sg.of_eq d_mul (f_sg_Amounts'__mul__ T')) (Sg.of_eq r_mul (f_sg_Amounts'__rmul__ T')) F.fills_int_mul (f_sub_Amounts'int T') F.slot_int_mul up_mul (cal_fn (b := b6 X) (okp_Amounts___rmul__ T) (rm (by decide)) X rfl ct F1 ρ σ H _ _ Q E S (.cons r2 (.cons (show Rep ⟨X.K, ct.pl⟩ F1 (.int _) (.int _) from rfl) .nil)) h hE)
  · -- fraction * Amounts
    obtain ⟨v, u, rfl, r1, r2⟩ := rs.two
    obtain ⟨b, dy, us, rfl, e2, _⟩ := am_at S r2
    obtain ⟨a, rfl, dx, e1⟩ := p_isR S r1
    refine wo_refl e1 e2 (two_RA T') (Sg.of_eq r_mul (f_sg_Amounts'__rmul__ T')).hs (f_sg_Amounts'__rmul__ T').hf (wni_ok (ni_mul T) (rm (by decide)) ⟨ct.pl, F1, _, _, S.sub, fun P s e => ⟨(S.p0 P s e).1, (S.p0 P s e).2.2⟩, rs, fun H' F' g sub => ?_⟩)
    have S2 := S.called g.gu g.gr sub
    have nx : ∀ {p : Addr} {C D : Addr} {fs : List (Str × V)}, H p = some (.ins C D fs) → H' p = some (.ins C D fs) := fun {p C D fs} e => g.gu.keep p _ e fun z => by
      rcases z with ⟨s, z⟩ | z
      · obtain ⟨_, _, _, _, e3, _⟩ := (S.p0 p s z).2.2
        rw [e] at e3
        cases e3
      · cases z
    refine ⟨nx e1, nx e2, Wf.imp (fun v H2 q => PostC.up g q) (cal_fn (b := b6 X) (okp_Amounts___rmul__ T) (rm (by decide)) X rfl ct F' ρ σ H' _ _ Q E S2 (.cons (r2.mono g.s) (.cons (r1.mono g.s) .nil)) h (hE.up g))⟩
  · -- += of unlike lengths
    obtain ⟨v, u, rfl, r1, r2⟩ := rs.two
    obtain ⟨a, dx, ws, rfl, e1, _⟩ := am_at S r1
    exact wi_own e1 (f_sf_Amounts T') (Sg.of_eq (by decide +kernel) (f_sg_Amounts'__iadd__ T')).hs (f_sg_Amounts'__iadd__ T').hf (Wf.imp (fun v H2 q => by
      obtain ⟨x, F', S', s', r', _, q'⟩ := q
      exact q'.elim) (cal_fn (b := b6 X) (okp_Amounts___iadd__F T) (rm (by decide)) X rfl ct F1 ρ σ H _ _ _ E S rs (iaddF_no h) hE))
  · -- -=
    obtain ⟨v, u, rfl, r1, r2⟩ := rs.two
    obtain ⟨a, dx, ws, rfl, e1, _⟩ := am_at S r1
    obtain ⟨b, dy, us, rfl, e2, _⟩ := am_at S r2
    exact wi_two e1 e2 (f_sf_Amounts T') (Sg.of_eq d_sub (f_sg_Amounts'__sub__ T')) (f_noi_Amounts'sub T') no_isub (cal_fn (b := b6 X) (okp_Amounts___sub__ T) (rm (by decide)) X rfl ct F1 ρ σ H _ _ Q E S rs h hE)
  · -- *=
    rename PV => y
    obtain ⟨v, u, rfl, r1, r2⟩ := rs.two
    obtain ⟨a, dx, ws, rfl, e1, _⟩ := am_at S r1
    have run := cal_fn (b := b6 X) (okp_Amounts___mul__ T) (rm (by decide)) X rfl ct F1 ρ σ H _ _ Q E S rs h hE
    obtain ⟨o, hR, _⟩ := h
    cases hR with
    | ok en l m =>
      cases y with
      | int n =>
        cases r2
        obtain ⟨ro, g2⟩ := find_eq r_mul (f_find_int'__rmul__ T')
        exact wi_int e1 (f_sf_Amounts T') (Sg.of_eq d_mul (f_sg_Amounts'__mul__ T')) (f_noi_Amounts'mul T') no_imul (Sg.of_eq r_mul (f_sg_Amounts'__rmul__ T')).hs (.inr ⟨_, rfl⟩) F.fills_int_mul g2 (f_sub_int'Amounts T') run
      | rat q =>
        obtain ⟨b, rfl, dy, e2⟩ := p_isR S r2
        exact wi_cls e1 e2 (two_AR T') (Sg.of_eq d_mul (f_sg_Amounts'__mul__ T')) (f_noi_Amounts'mul T') no_imul run
      | _ => cases en
  · -- ==
    obtain ⟨v, u, rfl, r1, r2⟩ := rs.two
    obtain ⟨a, dx, ws, rfl, e1, _⟩ := am_at S r1
    have run : Wf X _ _ σ H (PostC true X ct F1 H ρ σ Q) := Wf.imp (fun v H' q => by
      obtain ⟨x, F', S', s', r', _, im, q'⟩ := q
      exact ⟨x, F', S', s', r', fun _ => newr_imm im r', q'⟩) (cal_fn (b := b6 X) (okp_Amounts___eq__ T) (rm (by decide)) X rfl ct F1 ρ σ H _ _ _ E S rs (eq_imm h) hE)
    have g : Sg X.K (aA X.K) (cmpInfo .Eq).2.1 _ := Sg.of_eq (by decide +kernel) (f_sg_Amounts'__eq__ T')
    obtain ⟨o, hR, _⟩ := h
    cases hR with
    | am m =>
      obtain ⟨b, dy, us, rfl, e2, _⟩ := am_at S r2
      exact wo_cmp (rm (show 10 ≤ 30 by decide)) e1 (typ_ins e2) nf_self g run
    | lst => exact wo_cmp (rm (show 10 ≤ 30 by decide)) e1 (typ_non S r2 rfl) (f_nf_Amounts'list T') g run
    | tup => exact wo_cmp (rm (show 10 ≤ 30 by decide)) e1 (typ_non S r2 rfl) (f_nf_Amounts'tuple T') g run
  · -- !=
    obtain ⟨v, u, rfl, r1, r2⟩ := rs.two
    obtain ⟨a, dx, ws, rfl, e1, _⟩ := am_at S r1
    have run : WfA X X.A.in1 (.ref _) _ σ H fun v H' => ∃ c, v = .bl c ∧ PostC true X ct F1 H ρ σ Q (.bl (!c)) H' := WfA.imp (fun v H' q => by
      obtain ⟨x, F', S', s', r', _, c, rfl, q'⟩ := q
      cases r'
      exact ⟨c, rfl, .bl (!c), F', S', s', rfl, fun _ => newr_imm rfl rfl, q'⟩) (cal_fnA (okp_Amounts___eq__ T) (Room.mono i1 (by decide)) rfl S rs (eq_not h) hE)
    have g := f_sg_Amounts'__eq__ T'
    obtain ⟨o, hR, _⟩ := h
    cases hR with
    | am m =>
      obtain ⟨b, dy, us, rfl, e2, _⟩ := am_at S r2
      exact wo_neL (rm (show 11 ≤ 30 by decide)) e1 (typ_ins e2) nf_self (f_neb_Amounts T') g run
    | lst => exact wo_neL (rm (show 11 ≤ 30 by decide)) e1 (typ_non S r2 rfl) (f_nf_Amounts'list T') (f_neb_Amounts T') g run
    | tup => exact wo_neL (rm (show 11 ≤ 30 by decide)) e1 (typ_non S r2 rfl) (f_nf_Amounts'tuple T') (f_neb_Amounts T') g run
  · -- minus
    obtain ⟨v, rfl, r1⟩ := rs.one
    obtain ⟨a, dx, ws, rfl, e1, _⟩ := am_at S r1
    exact wu_negO e1 (f_sg_Amounts'__neg__ T').hs (f_sg_Amounts'__neg__ T').hf (cal_fn (b := b6 X) (okp_Amounts___neg__ T) (rm (by decide)) X rfl ct F1 ρ σ H _ _ Q E S rs h hE)
  · -- len
    obtain ⟨v, rfl, r1⟩ := rs.one
    obtain ⟨a, dx, ws, rfl, e1, _⟩ := am_at S r1
    refine wcb_lenO e1 (f_sg_Amounts'__len__ T').hs (f_sg_Amounts'__len__ T').hf fun σ' => WfA.imp (fun v H' q => ?_) (cal_fnN (okp_Amounts___len__ T) (Room.mono i1 (by decide)) rfl S rs (len_small h))
    obtain ⟨x, F', S', s', r', _, n, rfl, ln, q'⟩ := q
    cases r'
    exact ⟨n, rfl, Nat.le_trans ln (by decide), .int n, F', S', s', rfl, fun _ => newr_imm rfl rfl, q'⟩
  · -- []
    obtain ⟨v, u, rfl, r1, r2⟩ := rs.two
    obtain ⟨a, dx, ws, rfl, e1, _⟩ := am_at S r1
    exact ixn_own e1 (f_sg_Amounts'__getitem__ T').hs (f_sg_Amounts'__getitem__ T').hf (let ⟨_, F⟩ := F_Amounts___getitem__ T'; fn_in F) (cal_fnA (okp_Amounts___getitem__ T) (Room.mono i1 (by decide)) rfl S rs h hE)
  · -- [] =
    obtain ⟨v, u, z, rfl, r1, r2, r3⟩ := rs.three
    obtain ⟨a, dx, ws, rfl, e1, _⟩ := am_at S r1
    refine wset_own e1 (f_nseq_Amounts T') (f_sg_Amounts'__setitem__ T').hs (f_sg_Amounts'__setitem__ T').hf ?_
    exact Wf.imp (fun v H2 q => by
      obtain ⟨x, F', S', s', r', _, q'⟩ := q
      exact q'.elim) (cal_fn (b := b6 X) (okp_Amounts___setitem__F T) (rm (by decide)) X rfl ct F1 ρ σ H _ _ _ E S rs (setF_no h) hE)
  · obtain ⟨v, rfl, r1⟩ := rs.one
    exact OpSem.imp (fun v H' ⟨x, F', S', s', r', q'⟩ => ⟨x, F', S', s', r', nofun, q'⟩) (fl_num T' S r1 h)
  · exact op_ok T (Room.mono hr (by decide)) (tabA_ok T) _ X rfl ct F1 ρ σ H xs vs Q E S rs h hE
end
end Rt

namespace Rt
open PySem PySem.Spec PyProof.Rows L2 Ni Pr Pu Qw
section
variable {P : Program} {w : World} {K : PySem.W.Frag} {mg : Str → Option Value} {base : Heap}
abbrev L__law_low : Lang := { G := [], op := opS tab, M := [], X := [], I := [], S := [], T := [] }
abbrev M__law_low : List Str := ["_law_top", "_law_bottom", "_law_one", "_law_two", "_law_rest"]
theorem scm__law_low : FnScope M__law_low p__law_low (defScope s__law_low) := ⟨rfl, rfl, rfl, by decide +kernel, rfl, by decide +kernel, by decide +kernel⟩
theorem lo__law_low (T : Ctx K mg) {A : Around} (hr : Room 15 A) : LOk ⟨P, w, K, mg, base, A⟩ L__law_low [] := lokX T (op_ok T (Room.mono hr (by decide)) (tab_ok T)) .nil allN allN allN allN .nil allN
theorem okp__law_low (T : Ctx K mg) : OkD P w K mg base 16 (He.ga K "_law_low") p__law_low [] (lowSp K spLow) := by
  obtain ⟨fd, F⟩ := F__law_low T
  exact ⟨⟨fd, [], pfn (N := M__law_low) (k := 15) (L := L__law_low) (CL := []) (XL := []) (code := k__law_low) F scm__law_low (fun A hr => lo__law_low T hr) (fun A => allN) (by kernel_rfl) (by intro h; first | exact absurd h (by decide) | kernel_rfl) (fun xs Q E h => sem_low h), .nil, FunD.bindsN F fun _ _ _ _ _ _ us hl => match us, hl with | [_, _], _ => rfl⟩, F.kp⟩
theorem g__law_low (T : Ctx K mg) {A : Around} (hr : Room 16 A) : GOk1 ⟨P, w, K, mg, base, A⟩ (.glo "_law_low") spLow := ⟨_, f_glo__law_low T, f_keep__law_low T, cal_fn (okp__law_low T) hr⟩
abbrev L__law_whole : Lang := { G := [], op := opS tab, M := [], X := [], I := [], S := [], T := [] }
abbrev M__law_whole : List Str := ["_law_thing"]
theorem scm__law_whole : FnScope M__law_whole p__law_whole (defScope s__law_whole) := ⟨rfl, rfl, rfl, by decide +kernel, rfl, by decide +kernel, by decide +kernel⟩
theorem lo__law_whole (T : Ctx K mg) {A : Around} (hr : Room 15 A) : LOk ⟨P, w, K, mg, base, A⟩ L__law_whole [] := lokX T (op_ok T (Room.mono hr (by decide)) (tab_ok T)) .nil allN allN allN allN .nil allN
theorem okp__law_whole (T : Ctx K mg) : OkD P w K mg base 16 (He.ga K "_law_whole") p__law_whole [] (lowSp K spWhole) := by
  obtain ⟨fd, F⟩ := F__law_whole T
  exact ⟨⟨fd, [], pfn (N := M__law_whole) (k := 15) (L := L__law_whole) (CL := []) (XL := []) (code := k__law_whole) F scm__law_whole (fun A hr => lo__law_whole T hr) (fun A => allN) (by kernel_rfl) (by intro h; first | exact absurd h (by decide) | kernel_rfl) (fun xs Q E h => sem_whole h), .nil, FunD.bindsN F fun _ _ _ _ _ _ us hl => match us, hl with | [_], _ => rfl⟩, F.kp⟩
theorem g__law_whole (T : Ctx K mg) {A : Around} (hr : Room 16 A) : GOk1 ⟨P, w, K, mg, base, A⟩ (.glo "_law_whole") spWhole := ⟨_, f_glo__law_whole T, f_keep__law_whole T, cal_fn (okp__law_whole T) hr⟩
abbrev M__law_pair : List Str := ["_law_thing"]
theorem scm__law_pair : FnScope M__law_pair p__law_pair (defScope s__law_pair) := ⟨rfl, rfl, rfl, by decide +kernel, rfl, by decide +kernel, by decide +kernel⟩
theorem lo__law_pair (T : Ctx K mg) {A : Around} (hr : Room 16 A) : LOk ⟨P, w, K, mg, base, A⟩ L__law_pair [.ratio] := lokX T (op_ok T (Room.mono hr (by decide)) (tab_ok T)) (.cons (g__law_whole T (Room.mono hr (by decide))) (.cons (g__law_low T (Room.mono hr (by decide))) .nil)) (allS (f_glo_Ratio T) allN) allN allN allN .nil allN
theorem okp__law_pair (T : Ctx K mg) : OkD P w K mg base 17 (He.ga K "_law_pair") p__law_pair [] (lowSp K spPairP) := by
  obtain ⟨fd, F⟩ := F__law_pair T
  exact ⟨⟨fd, [], pfn (N := M__law_pair) (k := 16) (L := L__law_pair) (CL := [.ratio]) (XL := []) (code := k__law_pair) F scm__law_pair (fun A hr => lo__law_pair T hr) (fun A => allN) (by kernel_rfl) (by intro h; first | exact absurd h (by decide) | kernel_rfl) (fun xs Q E h => sem_pair h), .nil, FunD.bindsN F fun _ _ _ _ _ _ us hl => match us, hl with | [_], _ => rfl⟩, F.kp⟩
theorem g__law_pair (T : Ctx K mg) {A : Around} (hr : Room 17 A) : GOk1 ⟨P, w, K, mg, base, A⟩ (.glo "_law_pair") spPairP := ⟨_, f_glo__law_pair T, f_keep__law_pair T, cal_fn (okp__law_pair T) hr⟩
abbrev M__law_add : List Str := ["_law_one", "_law_two"]
theorem scm__law_add : FnScope M__law_add p__law_add (defScope s__law_add) := ⟨rfl, rfl, rfl, by decide +kernel, rfl, by decide +kernel, by decide +kernel⟩
theorem lo__law_add (T : Ctx K mg) {A : Around} (hr : Room 16 A) : LOk ⟨P, w, K, mg, base, A⟩ L__law_add [] := lokX T (op_ok T (Room.mono hr (by decide)) (tab_ok T)) (.cons (g__law_low T (Room.mono hr (by decide))) .nil) allN allN allN allN .nil allN
theorem okp__law_add (T : Ctx K mg) : OkD P w K mg base 17 (He.ga K "_law_add") p__law_add [] (lowSp K spAddP) := by
  obtain ⟨fd, F⟩ := F__law_add T
  exact ⟨⟨fd, [], pfn (N := M__law_add) (k := 16) (L := L__law_add) (CL := []) (XL := []) (code := k__law_add) F scm__law_add (fun A hr => lo__law_add T hr) (fun A => allN) (by kernel_rfl) (by intro h; first | exact absurd h (by decide) | kernel_rfl) (fun xs Q E h => sem_addP h), .nil, FunD.bindsN F fun _ _ _ _ _ _ us hl => match us, hl with | [_, _], _ => rfl⟩, F.kp⟩
theorem g__law_add (T : Ctx K mg) {A : Around} (hr : Room 17 A) : GOk1 ⟨P, w, K, mg, base, A⟩ (.glo "_law_add") spAddP := ⟨_, f_glo__law_add T, f_keep__law_add T, cal_fn (okp__law_add T) hr⟩
abbrev M__law_times : List Str := ["_law_one", "_law_two"]
theorem scm__law_times : FnScope M__law_times p__law_times (defScope s__law_times) := ⟨rfl, rfl, rfl, by decide +kernel, rfl, by decide +kernel, by decide +kernel⟩
theorem lo__law_times (T : Ctx K mg) {A : Around} (hr : Room 16 A) : LOk ⟨P, w, K, mg, base, A⟩ L__law_times [] := lokX T (op_ok T (Room.mono hr (by decide)) (tab_ok T)) (.cons (g__law_low T (Room.mono hr (by decide))) .nil) allN allN allN allN .nil allN
theorem okp__law_times (T : Ctx K mg) : OkD P w K mg base 17 (He.ga K "_law_times") p__law_times [] (lowSp K spTimesP) := by
  obtain ⟨fd, F⟩ := F__law_times T
  exact ⟨⟨fd, [], pfn (N := M__law_times) (k := 16) (L := L__law_times) (CL := []) (XL := []) (code := k__law_times) F scm__law_times (fun A hr => lo__law_times T hr) (fun A => allN) (by kernel_rfl) (by intro h; first | exact absurd h (by decide) | kernel_rfl) (fun xs Q E h => sem_timesP h), .nil, FunD.bindsN F fun _ _ _ _ _ _ us hl => match us, hl with | [_, _], _ => rfl⟩, F.kp⟩
theorem g__law_times (T : Ctx K mg) {A : Around} (hr : Room 17 A) : GOk1 ⟨P, w, K, mg, base, A⟩ (.glo "_law_times") spTimesP := ⟨_, f_glo__law_times T, f_keep__law_times T, cal_fn (okp__law_times T) hr⟩
abbrev M__law_minus : List Str := ["_law_one", "_law_two"]
theorem scm__law_minus : FnScope M__law_minus p__law_minus (defScope s__law_minus) := ⟨rfl, rfl, rfl, by decide +kernel, rfl, by decide +kernel, by decide +kernel⟩
theorem lo__law_minus (T : Ctx K mg) {A : Around} (hr : Room 16 A) : LOk ⟨P, w, K, mg, base, A⟩ L__law_minus [] := lokX T (op_ok T (Room.mono hr (by decide)) (tab_ok T)) (.cons (g__law_low T (Room.mono hr (by decide))) .nil) allN allN allN allN .nil allN
theorem okp__law_minus (T : Ctx K mg) : OkD P w K mg base 17 (He.ga K "_law_minus") p__law_minus [] (lowSp K spMinusP) := by
  obtain ⟨fd, F⟩ := F__law_minus T
  exact ⟨⟨fd, [], pfn (N := M__law_minus) (k := 16) (L := L__law_minus) (CL := []) (XL := []) (code := k__law_minus) F scm__law_minus (fun A hr => lo__law_minus T hr) (fun A => allN) (by kernel_rfl) (by intro h; first | exact absurd h (by decide) | kernel_rfl) (fun xs Q E h => sem_minusP h), .nil, FunD.bindsN F fun _ _ _ _ _ _ us hl => match us, hl with | [_, _], _ => rfl⟩, F.kp⟩
theorem g__law_minus (T : Ctx K mg) {A : Around} (hr : Room 17 A) : GOk1 ⟨P, w, K, mg, base, A⟩ (.glo "_law_minus") spMinusP := ⟨_, f_glo__law_minus T, f_keep__law_minus T, cal_fn (okp__law_minus T) hr⟩
abbrev M__law_shows : List Str := ["_law_thing", "_law_due", "_law_told", "_law_number", "_law_k"]
theorem scm__law_shows : FnScope M__law_shows p__law_shows (defScope s__law_shows) := ⟨rfl, rfl, rfl, by decide +kernel, rfl, by decide +kernel, by decide +kernel⟩
theorem lo__law_shows (T : Ctx K mg) {A : Around} (hr : Room 30 A) : LOk ⟨P, w, K, mg, base, A⟩ L__law_shows [.amounts] := lokX T (op_okA T (Room.mono hr (by decide))) (.cons (g__law_pair T (Room.mono hr (by decide))) .nil) (allS (f_glo_Amounts T) allN) allN allN (allS (iter_Amounts T (Room.mono hr (by decide))) allN) .nil allN
theorem okp__law_shows (T : Ctx K mg) : OkD P w K mg base 31 (He.ga K "_law_shows") p__law_shows [] (lowSp K spShows) := by
  obtain ⟨fd, F⟩ := F__law_shows T
  exact ⟨⟨fd, [], pfn (N := M__law_shows) (k := 30) (L := L__law_shows) (CL := [.amounts]) (XL := []) (code := k__law_shows) F scm__law_shows (fun A hr => lo__law_shows T hr) (fun A => allN) (by kernel_rfl) (by intro h; first | exact absurd h (by decide) | kernel_rfl) (fun xs Q E h => sem_shows h), .nil, FunD.bindsN F fun _ _ _ _ _ _ us hl => match us, hl with | [_, _], _ => rfl⟩, F.kp⟩
theorem g__law_shows (T : Ctx K mg) {A : Around} (hr : Room 31 A) : GOk1 ⟨P, w, K, mg, base, A⟩ (.glo "_law_shows") spShows := ⟨_, f_glo__law_shows T, f_keep__law_shows T, cal_fn (okp__law_shows T) hr⟩
abbrev M__law_made : List Str := ["_law_pairs", "_law_one"]
theorem scm__law_made : FnScope M__law_made p__law_made (defScope s__law_made) := ⟨rfl, rfl, rfl, by decide +kernel, rfl, by decide +kernel, by decide +kernel⟩
theorem lo__law_made (T : Ctx K mg) {A : Around} (hr : Room 15 A) : LOk ⟨P, w, K, mg, base, A⟩ L__law_made [] := lokX T (op_ok T (Room.mono hr (by decide)) (tab_ok T)) (.cons (cal_ratio T (Room.mono hr (by decide))) .nil) allN allN allN allN .nil allN
theorem okp__law_made (T : Ctx K mg) : OkD P w K mg base 16 (He.ga K "_law_made") p__law_made [] (lowSp K spMade) := by
  obtain ⟨fd, F⟩ := F__law_made T
  exact ⟨⟨fd, [], pfn (N := M__law_made) (k := 15) (L := L__law_made) (CL := []) (XL := []) (code := k__law_made) F scm__law_made (fun A hr => lo__law_made T hr) (fun A => allN) (by kernel_rfl) (by intro h; first | exact absurd h (by decide) | kernel_rfl) (fun xs Q E h => sem_made h), .nil, FunD.bindsN F fun _ _ _ _ _ _ us hl => match us, hl with | [_], _ => rfl⟩, F.kp⟩
theorem g__law_made (T : Ctx K mg) {A : Around} (hr : Room 16 A) : GOk1 ⟨P, w, K, mg, base, A⟩ (.glo "_law_made") spMade := ⟨_, f_glo__law_made T, f_keep__law_made T, cal_fn (okp__law_made T) hr⟩
abbrev M__law_numbers : List Str := ["_law_pool", "_law_size", "_law_width", "_law_found", "_law_k"]
theorem scm__law_numbers : FnScope M__law_numbers p__law_numbers (defScope s__law_numbers) := ⟨rfl, rfl, rfl, by decide +kernel, rfl, by decide +kernel, by decide +kernel⟩
theorem lo__law_numbers (T : Ctx K mg) {A : Around} (hr : Room 16 A) : LOk ⟨P, w, K, mg, base, A⟩ L__law_numbers [] := lokX T (op_ok T (Room.mono hr (by decide)) (tab_ok T)) (.cons (cal_draw T (Room.mono hr (by decide))) (.cons (g__law_low T (Room.mono hr (by decide))) .nil)) allN allN allN allN .nil allN
theorem okp__law_numbers (T : Ctx K mg) : OkD P w K mg base 17 (He.ga K "_law_numbers") p__law_numbers [] (lowSp K spNumbers) := by
  obtain ⟨fd, F⟩ := F__law_numbers T
  exact ⟨⟨fd, [], pfn (N := M__law_numbers) (k := 16) (L := L__law_numbers) (CL := []) (XL := []) (code := k__law_numbers) F scm__law_numbers (fun A hr => lo__law_numbers T hr) (fun A => allN) (by kernel_rfl) (by intro h; first | exact absurd h (by decide) | kernel_rfl) (fun xs Q E h => sem_numbers h), .nil, FunD.bindsN F fun _ _ _ _ _ _ us hl => match us, hl with | [_, _], _ => rfl⟩, F.kp⟩
theorem g__law_numbers (T : Ctx K mg) {A : Around} (hr : Room 17 A) : GOk1 ⟨P, w, K, mg, base, A⟩ (.glo "_law_numbers") spNumbers := ⟨_, f_glo__law_numbers T, f_keep__law_numbers T, cal_fn (okp__law_numbers T) hr⟩
abbrev M__law_refused : List Str := ["_law_one", "_law_two", "_law_way", "_law_told", "e"]
theorem scm__law_refused : FnScope M__law_refused p__law_refused (defScope s__law_refused) := ⟨rfl, rfl, rfl, by decide +kernel, rfl, by decide +kernel, by decide +kernel⟩
theorem lo__law_refused (T : Ctx K mg) {A : Around} (hr : Room 30 A) : LOk ⟨P, w, K, mg, base, A⟩ L__law_refused [.badLength, .badKind, .neverIdle] := lokX T (op_okA T (Room.mono hr (by decide))) (.cons (g_Amounts_dot T (Room.mono hr (by decide))) .nil) (allS (f_glo_BadLength T) (allS (f_glo_BadKind T) (allS (f_glo_NeverIdleError T) allN))) (allS (f_exm_BadLength'BadLength T) allN) (allS ⟨f_excc_BadLength T, f_kit_BadLength'BadKind T⟩ (allS ⟨f_excc_BadLength T, f_kit_BadLength'NeverIdleError T⟩ allN)) allN .nil allN
theorem okp__law_refused (T : Ctx K mg) : OkD P w K mg base 31 (He.ga K "_law_refused") p__law_refused [] (lowSp K spRefused6) := by
  obtain ⟨fd, F⟩ := F__law_refused T
  exact ⟨⟨fd, [], pfn (N := M__law_refused) (k := 30) (L := L__law_refused) (CL := [.badLength, .badKind, .neverIdle]) (XL := []) (code := k__law_refused) F scm__law_refused (fun A hr => lo__law_refused T hr) (fun A => allN) (by kernel_rfl) (by intro h; first | exact absurd h (by decide) | kernel_rfl) (fun xs Q E h => sem_refused6 h), .nil, FunD.bindsN F fun _ _ _ _ _ _ us hl => match us, hl with | [_, _, _], _ => rfl⟩, F.kp⟩
theorem g__law_refused (T : Ctx K mg) {A : Around} (hr : Room 31 A) : GOk1 ⟨P, w, K, mg, base, A⟩ (.glo "_law_refused") spRefused6 := ⟨_, f_glo__law_refused T, f_keep__law_refused T, cal_fn (okp__law_refused T) hr⟩
abbrev M__law_sums : List Str := ["_law_one", "_law_two", "_law_a", "_law_b", "_law_due", "_law_total", "_law_k", "_law_pair_here"]
theorem scm__law_sums : FnScope M__law_sums p__law_sums (defScope s__law_sums) := ⟨rfl, rfl, rfl, by decide +kernel, rfl, by decide +kernel, by decide +kernel⟩
theorem lo__law_sums (T : Ctx K mg) {A : Around} (hr : Room 31 A) : LOk ⟨P, w, K, mg, base, A⟩ L__law_sums [] := lokX T (op_okA T (Room.mono hr (by decide))) (.cons (g__law_shows T (Room.mono hr (by decide))) (.cons (g__law_add T (Room.mono hr (by decide))) (.cons (g__law_minus T (Room.mono hr (by decide))) (.cons (g__law_times T (Room.mono hr (by decide))) (.cons (g__law_pair T (Room.mono hr (by decide))) (.cons (g_Amounts_dot T (Room.mono hr (by decide))) (.cons (g__law_made T (Room.mono hr (by decide))) (.cons (g_Amounts_total T (Room.mono hr (by decide))) .nil)))))))) allN allN allN allN .nil allN
theorem okp__law_sums (T : Ctx K mg) : OkD P w K mg base 32 (He.ga K "_law_sums") p__law_sums [] (lowSp K spSums6) := by
  obtain ⟨fd, F⟩ := F__law_sums T
  exact ⟨⟨fd, [], pfn (N := M__law_sums) (k := 31) (L := L__law_sums) (CL := []) (XL := []) (code := k__law_sums) F scm__law_sums (fun A hr => lo__law_sums T hr) (fun A => allN) (by kernel_rfl) (by intro h; first | exact absurd h (by decide) | kernel_rfl) (fun xs Q E h => sem_sums6 h), .nil, FunD.bindsN F fun _ _ _ _ _ _ us hl => match us, hl with | [_, _, _, _], _ => rfl⟩, F.kp⟩
theorem g__law_sums (T : Ctx K mg) {A : Around} (hr : Room 32 A) : GOk1 ⟨P, w, K, mg, base, A⟩ (.glo "_law_sums") spSums6 := ⟨_, f_glo__law_sums T, f_keep__law_sums T, cal_fn (okp__law_sums T) hr⟩
abbrev M_law : List Str := ["_law_script", "_law_pool", "_law_size", "_law_a", "_law_b", "_law_n", "_law_longer", "_law_one", "_law_two", "_law_three", "_law_number", "_law_due", "_law_left", "_law_more", "_law_way", "_law_pair_here", "_law_k", "#0", "#1", "#2", "#3"]
theorem scm_law : FnScope M_law p_law (defScope s_law) := ⟨rfl, rfl, rfl, by decide +kernel, rfl, by decide +kernel, by decide +kernel⟩
theorem lo_law (T : Ctx K mg) {A : Around} (hr : Room 32 A) : LOk ⟨P, w, K, mg, base, A⟩ L_law [] := lokX T (op_okA T (Room.mono hr (by decide))) (.cons (cal_draw T (Room.mono hr (by decide))) (.cons (g__law_numbers T (Room.mono hr (by decide))) (.cons (g_Amounts T (Room.mono hr (by decide))) (.cons (g__law_made T (Room.mono hr (by decide))) (.cons (g__law_times T (Room.mono hr (by decide))) (.cons (g__law_shows T (Room.mono hr (by decide))) (.cons (g__law_sums T (Room.mono hr (by decide))) (.cons (cal_ratio T (Room.mono hr (by decide))) (.cons (g__law_minus T (Room.mono hr (by decide))) (.cons (g_Amounts_zeros T (Room.mono hr (by decide))) (.cons (g__law_refused T (Room.mono hr (by decide))) .nil))))))))))) allN allN allN allN (.cons (⟨_, f_nseq_Amounts T, f_sg_Amounts'__setitem__ T, CalS.of (okp_Amounts___setitem__ T) (Room.mono hr (by decide))⟩) .nil) allN
end
end Rt
namespace Lh
open PySem PySem.Spec PyProof.Rows L2 Ni Pr Rt Pu Qw
abbrev spLaw := Pu.spLaw
section
variable {P : Program} {w : World} {K : PySem.W.Frag} {mg : Str → Option Value} {base : Heap}
theorem fn_law (T : Pr.Ctx K mg) {fd : FuncData} {f : Addr} (F : FunD K "law" "law" (defArgs s_law) (defBody s_law) (defScope s_law) (d_law.dvs K) (d_law.kws K) f fd) : FnOk P w K mg base (L2.CX P w) 40 f fd p_law (spLaw K) :=
  fn_lawP (k := 39) (n := 19) (N := M_law) (L := L_law) (CL := []) (XL := []) (code := k_law) F scm_law rfl rfl rfl rfl (fun A hr => lo_law T (Room.mono hr (by decide))) (fun A => allN) (by kernel_rfl) sem_law
end
end Lh

end

namespace Pr
open PySem PySem.Spec PyProof.Rows L2 Ni
noncomputable abbrev whole (w : World) := HandSHeadRun.wholeF (fun p => HandSHeadRun.stepQ (HandSHeadRun.denQ HandSHeadRun.tabQ) p w) HandSHeadRun.fenceQ 20000 R.prog
set_option maxHeartbeats 0 in
theorem runL (w : World) : (whole w).map (fun x => HandSHeadRun.looksF R.prog x.1.heap x.2.abs) = some true := by
  kernel_rfl
set_option maxHeartbeats 0 in
theorem runS (w : World) : (whole w).map (fun x => HandSHeadRun.seenQ (PySem.W.view R.prog [0, 31]) loose (PySem.importedModules R.prog.main.body) (fun s => PySem.W.xlAt (PySem.W.view R.prog [0, 31]) [] s && PySem.W.recOk R.toRowW.records s) x.2.abs) = some (PySem.W.openGood (PySem.W.view R.prog [0, 31]) loose) := by
  kernel_rfl
set_option maxHeartbeats 0 in
theorem runO (w : World) : (whole w).map (fun x => ob x.2) = some (hk.val w) := by
  kernel_rfl
theorem run (w : World) : HandSHeadRun.RunEqI R (PySem.W.view R.prog [0, 31]) hk ob 20000 loose w := map3 (runL w) (runS w) (runO w)
end Pr

namespace Pr
open PySem PySem.Spec PyProof.Rows L2 Ni
theorem facts {w : World} {mg : Str → Option Value} {fa : Addr} {h : Heap} (Y : hk.says w h) (G : h.Ns mainGlobals mg) (hmg : mg ("law" : Str) = some (.ref fa)) :
    ∃ (K : PySem.W.Frag) (fd : FuncData) (sp : Sp), K.In h ∧ (∀ (s : Shared) (u : Value), BindsTo s fd ⟨[u], []⟩ [("_law_script", u)]) ∧
      (∀ (H : Hp) (a : Addr) (ns : List Int), ns.length ≤ 63 → Only H → SqL K H a (ns.map V.int) → sp [.ref a] H (fun v _ => v = .bl true) fun _ _ _ => False) ∧
      ∀ base : Heap, K.In base → base.Ns mainGlobals mg → FnOk (PySem.Challenge.rw_neveridle_k06_amounts_arithmetic).prog w K mg base (L2.CX (PySem.Challenge.rw_neveridle_k06_amounts_arithmetic).prog w) 40 fa fd ["_law_script"] sp := by
  obtain ⟨K, KX, c⟩ := Y
  have T : Ctx K mg := ⟨c, fun x v e => by
    cases v with
    | none => exact PySem.W.mg_none_of KX G e
    | some v => exact PySem.W.mg_of KX G e⟩
  obtain ⟨fd, F⟩ := F_law T
  have e := hmg.symm.trans (f_glo_law T)
  cases e
  have b := FunD.bindsA (ps := ["_law_script"]) F fun _ _ _ _ _ _ us hl => match us, hl with | [_], _ => rfl
  exact ⟨K, fd, Lh.spLaw K, KX, fun s v => b s [v] rfl, fun H a ns hl ho hS => ⟨a, ns, rfl, hS, fun _ => rfl⟩, fun base _ _ => Lh.fn_law T F⟩
end Pr

open PySem PySem.W PySem.Calls PyProof.Rows
theorem PySem.Challenge.cw_neveridle_k06_amounts_arithmetic_holds : PySem.Challenge.rw_neveridle_k06_amounts_arithmetic.Holds := by
  w_on; o_law
  refine HandSHeadRun.head_imp (r := OpenLaw.row PySem.Challenge.rw_neveridle_k06_amounts_arithmetic) (q := view (OpenLaw.row PySem.Challenge.rw_neveridle_k06_amounts_arithmetic).prog [0, 31]) (H := Pr.hk) (ob := Pr.ob) (M := 20000) (loose := Pr.loose) (d := HandSHeadRun.topDef (OpenLaw.row PySem.Challenge.rw_neveridle_k06_amounts_arithmetic).prog 31) (kwd := []) Pr.ob_eq
    Pr.run (by kernel_rfl) (by kernel_rfl) (by kernel_rfl) (by rfl) (by first | assumption | decide +kernel) (by decide +kernel) ⟨rfl, rfl, rfl, rfl, rfl, by decide +kernel⟩ ?hw ?hc
  case hw => w_witness2
  case hc =>
    refine Ni.walk_w (l := PySem.Challenge.rw_neveridle_k06_amounts_arithmetic) (n := 63) (k := 40) (x := "_law_script") (CX := fun w => L2.CX (PySem.Challenge.rw_neveridle_k06_amounts_arithmetic).prog w) rfl (by decide) (by kernel_rfl) ⟨rfl, by decide, by decide⟩ ?F (fun w H s e s' z => by
      obtain ⟨_, _, _, _, _, _, _, _, _, _, _, _, z⟩ := z
      exact z)
    intro w mg fa h Y G hmg0
    have hmg : mg ("law" : PySem.Str) = some (.ref fa) := by
      have e : (HandSHeadRun.topDef (OpenLaw.row PySem.Challenge.rw_neveridle_k06_amounts_arithmetic).prog 31).name = ("law" : PySem.Str) := by kernel_rfl
      rw [← e]
      exact hmg0
    exact Pr.facts Y G hmg
