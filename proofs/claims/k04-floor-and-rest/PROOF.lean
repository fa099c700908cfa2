import PyProof.Rows.All
import Wide.All
import OpenK.AllK
import Wide.FinOn
import HandS.Base
import HandS.Call
import HandS.List
import HandS.Exc
import HandS.ExcOwn
import HandS.CallSlots
import HandS.Defaults
import HandS.MakeKw
import HandS.OwnEq
import HandS.IsInst
import HandS.Words
import HandS.HeadHook2
import HandS.ExcIs
import HandS.Head3
import HandS.Wide
import HandS.Gcd
import HandS.HeadEnd
import PyProof.FactsAll.int_1
import PyProof.FactsAll.int_2
import PyProof.FactsAll.int_3
import PyProof.FactsAll.int_5
import PyProof.InstNe
import HandS.Comp
import HandS.Star
import HandS.Walk
import HandS.Flow
import PySem.Challenge.RW_neveridle_k04_floor_and_rest
set_option Elab.async false
set_option linter.all false
set_option maxRecDepth 100000
set_option maxHeartbeats 4000000
/-! WL: one weakest precondition for each kind of syntax, so that a body is walked in one pass. -/
namespace Ni
open PySem PySem.Spec PyProof.Rows L2

/-! ### the wishes -/
def XW (X : Cx) : WX := fun cls d σ H => ∀ u s', XE X (fun c' d' σ' H' => c' = cls ∧ d' = d ∧ σ' = σ ∧ H' = H) u s' → X.xe u s'
theorem xw_takes (X : Cx) : Takes X (XW X) := by
  intro u s' x
  obtain ⟨a, B, sI, pins, σ, H, cls, d, h1, h2, h3, h4, h5, h6, h7, h8, w⟩ := x
  exact w u s' ⟨a, B, sI, pins, σ, H, cls, d, h1, h2, h3, h4, h5, h6, h7, h8, rfl, rfl, rfl, rfl⟩
theorem xw_of {X : Cx} {W : WX} (tk : Takes X W) {cls : Value} {d : Option Addr} {σ : L2.St} {H : Hp} (h : W cls d σ H) : XW X cls d σ H := by
  intro u s' x
  refine tk u s' ?_
  obtain ⟨a, B, sI, pins, σ', H', cls', d', h1, h2, h3, h4, h5, h6, h7, h8, e1, e2, e3, e4⟩ := x
  subst e1 e2 e3 e4
  exact ⟨a, B, sI, pins, _, _, _, _, h1, h2, h3, h4, h5, h6, h7, h8, h⟩
abbrev xk (X : Cx) (σ : L2.St) : XK := fun cls d H => XW X cls d σ H

/-! ### the weakest preconditions -/
def We (X : Cx) (e : Expr) : TE := fun σ H Q => ∀ pins s, Inv X pins σ H s → wpAny (model X.prog X.w) X.A (eval e X.env) (EP X pins σ Q) X.xe s
def Wt (X : Cx) (e : Expr) : TT := fun σ H Q => ∀ pins s, Inv X pins σ H s → wpAny (model X.prog X.w) X.A (isTrue e X.env (eval e X.env)) (TP X pins σ Q) X.xe s
def Ww (X : Cx) (e : Expr) : TT := fun σ H Q => ∀ whole pins s, Inv X pins σ H s → wpAny (model X.prog X.w) X.A (isTrue e X.env whole) (TP X pins σ Q) X.xe s
def Wa (X : Cx) (es : List Expr) : TA := fun σ H Q => ∀ pos pins s, Inv X pins σ H s → wpAny (model X.prog X.w) X.A (spliced (backTo pos (starEach es X.env))) (AP X pins σ Q) X.xe s
def Wk (X : Cx) (ks : List Keyword) : TA := fun σ H Q => ∀ pos pins s, Inv X pins σ H s → wpAny (model X.prog X.w) X.A (evalAll ((backToKw pos (keywordEach ks X.env)).map (·.2))) (AP X pins σ Q) X.xe s
def Ws (X : Cx) (st : Stmt) : TS := fun D σ H => ∀ pins s, Inv X pins σ H s → wpAny (model X.prog X.w) X.A (exec st X.env) (SP X pins D) X.xe s
def Wb (X : Cx) (b : List Stmt) : TS := fun D σ H => ∀ pins s, Inv X pins σ H s → wpAny (model X.prog X.w) X.A (execs b X.env) (SP X pins D) X.xe s
def Wg (X : Cx) (tg : Expr) : TG := fun v σ H Q => ∀ pins s u, Inv X pins σ H s → RelV v u → wpAny (model X.prog X.w) X.A (assign tg X.env u) (fun _ s' => ∃ σ' H', Inv X pins σ' H' s' ∧ Q σ' H') X.xe s
def Wgs (X : Cx) (ts : List Expr) : TGs := fun vs σ H Q => ∀ pins s us, Inv X pins σ H s → Vals vs us →
    wpAny (model X.prog X.w) X.A (assignInOrder ((assignEach ts X.env).map (·.2)) us) (fun _ s' => ∃ σ' H', Inv X pins σ' H' s' ∧ Q σ' H') X.xe s
def Wo (X : Cx) (f : Value → Value → Sem Value) (x y : V) (σ : L2.St) (H : Hp) (Q : VK) : Prop := ∀ pins s v u, Inv X pins σ H s → RelV x v → RelV y u → wpAny (model X.prog X.w) X.A (f v u) (EP X pins σ Q) X.xe s
def Wu (X : Cx) (f : Value → Sem Value) (x : V) (σ : L2.St) (H : Hp) (Q : VK) : Prop := ∀ pins s v, Inv X pins σ H s → RelV x v → wpAny (model X.prog X.w) X.A (f v) (EP X pins σ Q) X.xe s
def Wf (X : Cx) (f : Value) (vs : List V) (σ : L2.St) (H : Hp) (Q : VK) : Prop := ∀ pins s us, Inv X pins σ H s → Vals vs us → wpAny (model X.prog X.w) X.A (call f us) (EP X pins σ Q) X.xe s
def Wset (X : Cx) (o i v : V) (σ : L2.St) (H : Hp) (Q : Hp → Prop) : Prop := ∀ pins s ov iv u, Inv X pins σ H s → RelV o ov → RelV i iv → RelV v u → wpAny (model X.prog X.w) X.A (setItem ov iv u) (fun _ s' => ∃ H', Inv X pins σ H' s' ∧ Q H') X.xe s

section
variable {X : Cx}
theorem We.pe {e : Expr} : PE X e (We X e) := ⟨fun pins s σ H Q I h => h pins s I⟩
theorem Wt.pt {e : Expr} : PT X e (Wt X e) := ⟨fun pins s σ H Q I h => h pins s I⟩
theorem Ww.pw {e : Expr} : PW X e (Ww X e) := ⟨fun wh pins s σ H Q I h => h wh pins s I⟩
theorem Wa.pa {es : List Expr} : PA X es (Wa X es) := ⟨fun pos pins s σ H Q I h => h pos pins s I⟩
theorem Wk.pk {es : List Keyword} : PK X es (Wk X es) := ⟨fun pos pins s σ H Q I h => h pos pins s I⟩
theorem Ws.ps {st : Stmt} : PS X st (Ws X st) := ⟨fun pins s σ H Q I h => h pins s I⟩
theorem Wb.pss {b : List Stmt} : PSs X b (Wb X b) := ⟨fun pins s σ H Q I h => h pins s I⟩
theorem Wg.pg {tg : Expr} : PG X tg (Wg X tg) := ⟨fun pins s σ H v u Q I r h => h pins s u I r⟩
theorem Wgs.pgs {tg : List Expr} : PGs X tg (Wgs X tg) := ⟨fun pins s σ H v u Q I r h => h pins s u I r⟩

variable {σ : L2.St} {H : Hp} {Q : VK} {e a b c o : Expr} {es : List Expr} {pos pos' : Pos}
theorem we_of {t : TE} (h : PE X e t) (q : t σ H Q) : We X e σ H Q := fun pins s I => h.run pins s σ H Q I q
theorem wt_of {t : TT} {Q : Bool → Hp → Prop} (h : PT X e t) (q : t σ H Q) : Wt X e σ H Q := fun pins s I => h.run pins s σ H Q I q
theorem ww_of {t : TT} {Q : Bool → Hp → Prop} (h : PW X e t) (q : t σ H Q) : Ww X e σ H Q := fun wh pins s I => h.run wh pins s σ H Q I q
theorem wa_of {t : TA} {Q : List V → Hp → Prop} (h : PA X es t) (q : t σ H Q) : Wa X es σ H Q := fun pos pins s I => h.run pos pins s σ H Q I q
theorem ws_of {st : Stmt} {t : TS} {D : Ends} (h : PS X st t) (q : t D σ H) : Ws X st D σ H := fun pins s I => h.run pins s σ H D I q
theorem wb_of {st : List Stmt} {t : TS} {D : Ends} (h : PSs X st t) (q : t D σ H) : Wb X st D σ H := fun pins s I => h.run pins s σ H D I q
theorem wg_of {t : TG} {v : V} {Q : L2.St → Hp → Prop} (h : PG X e t) (q : t v σ H Q) : Wg X e v σ H Q := fun pins s u I r => h.run pins s σ H v u Q I r q
theorem wo_of {f : Value → Value → Sem Value} {r : R2} {x y : V} (h : OpR X f r) (q : r x y H Q) : Wo X f x y σ H Q := fun pins s v u I rx ry => h pins s σ H x y v u Q I rx ry q
theorem wu_of {f : Value → Sem Value} {r : V → Hp → VK → Prop} {x : V} (h : UnR X f r) (q : r x H Q) : Wu X f x σ H Q := fun pins s v I rx => h pins s σ H x v Q I rx q
theorem wf_of {f : Value} {r : List V → Hp → VK → Prop} {vs : List V} (h : CallR X f r) (q : r vs H Q) : Wf X f vs σ H Q := fun pins s us I r' => h pins s σ H vs us Q I r' q
theorem wset_of {t : TSet} {x i v : V} {Q : Hp → Prop} (h : PSet X t) (q : t x i v H Q) : Wset X x i v σ H Q := fun pins s ov iv u I r1 r2 r3 => h pins s σ H x i v ov iv u Q I r1 r2 r3 q
theorem EP.imp {pins : List (Addr × Obj)} {Q' : VK} {u : Value} {s : Shared} (k : ∀ v H', Q v H' → Q' v H') (h : EP X pins σ Q u s) : EP X pins σ Q' u s :=
  let ⟨v, H', I, r, q⟩ := h
  ⟨v, H', I, r, k v H' q⟩
theorem We.imp {Q' : VK} (k : ∀ v H', Q v H' → Q' v H') (h : We X e σ H Q) : We X e σ H Q' := fun pins s I => thn (h pins s I) fun _ _ q => EP.imp k q
theorem Wo.imp {f : Value → Value → Sem Value} {x y : V} {Q' : VK} (k : ∀ v H', Q v H' → Q' v H') (h : Wo X f x y σ H Q) : Wo X f x y σ H Q' := fun pins s v u I rx ry => thn (h pins s v u I rx ry) fun _ _ q => EP.imp k q
theorem Wf.imp {f : Value} {vs : List V} {Q' : VK} (k : ∀ v H', Q v H' → Q' v H') (h : Wf X f vs σ H Q) : Wf X f vs σ H Q' := fun pins s us I r => thn (h pins s us I r) fun _ _ q => EP.imp k q

/-! ### expressions -/
theorem we_name {i : Nat} {x : Str} {v : V} (hN : X.N[i]? = some x) (hv : Vis X.env.scope x) (hd : (x == ("__debug__" : Str)) = false) (hcd : (x == ("__classdict__" : Str)) = false)
    (e : σ[i]? = some (some v)) (q : Q v H) : We X (.Name x pos) σ H Q := we_of (pe_var hN hv hd hcd) ⟨v, e, q⟩
theorem we_int {i : Int} {j : Nat} (q : Q (.int i) H) : We X (.Constant (.int i) j pos) σ H Q := we_of pe_int q
theorem we_bl {b : Bool} {j : Nat} (q : Q (.bl b) H) : We X (.Constant (.bool b) j pos) σ H Q := we_of pe_bl q
theorem we_non {j : Nat} (q : Q .non H) : We X (.Constant .none j pos) σ H Q := we_of pe_non q
theorem we_str {x : Str} {j : Nat} (q : Q (.str x) H) : We X (.Constant (.str x) j pos) σ H Q := we_of pe_str q
theorem we_bin {op : Operator} (h : We X a σ H fun x H1 => We X b σ H1 fun y H2 => Wo X (binaryOp op) x y σ H2 Q) : We X (.BinOp a op b pos) σ H Q := fun pins s I =>
  wpAny_BinOp (bin We.pe We.pe I h fun v u s2 x y H2 I2 rx ry q => q pins s2 v u I2 rx ry)
theorem we_un {op : UnaryOp} (h : We X a σ H fun x H1 => Wu X (unaryOp op) x σ H1 Q) (hn : op ≠ .Not) : We X (.UnaryOp op a pos) σ H Q := fun pins s I => by
  cases op <;> first | exact absurd rfl hn | skip
  all_goals exact wpAny_UnaryOp (thn (h pins s I) fun v s1 ⟨x, H1, I1, r1, q1⟩ => q1 pins s1 v I1 r1)
theorem we_not (h : We X a σ H fun x H1 => ∃ k, x = .bl k ∧ Q (.bl (!k)) H1) : We X (.UnaryOp .Not a pos) σ H Q := we_of (pe_not We.pe) h
theorem we_ite {c : Expr} (h : Wt X c σ H fun k H1 => if k = true then We X a σ H1 Q else We X b σ H1 Q) : We X (.IfExp c a b pos) σ H Q := we_of (pe_ifExp Wt.pt We.pe We.pe) h
theorem we_cmp {op : CmpOp} (hm : behindInMarks op b = false) (h : We X a σ H fun x H1 => We X b σ H1 fun y H2 => Wo X (compareOp op) x y σ H2 Q) : We X (.Compare a [op] [b] pos) σ H Q :=
  we_of (pe_cmp (op := op) (t := fun σ H Q => We X a σ H fun x H1 => We X b σ H1 fun y H2 => Wo X (compareOp op) x y σ H2 Q)
    ⟨fun pins s σ H Q I h => bin We.pe We.pe I h fun v u s2 x y H2 I2 rx ry q => q pins s2 v u I2 rx ry⟩ hm) h
theorem we_and1 (h : We X a σ H Q) : We X (.BoolOp .And [a] pos) σ H Q := we_of (pe_one We.pe) h
theorem we_or1 (h : We X a σ H Q) : We X (.BoolOp .Or [a] pos) σ H Q := we_of (pe_one We.pe) h
theorem we_and (h : We X a σ H fun x H1 => ∃ k, x = .bl k ∧ if k = true then We X (.BoolOp .And (b :: es) pos) σ H1 Q else Q (.bl false) H1) : We X (.BoolOp .And (a :: b :: es) pos) σ H Q := we_of (pe_and We.pe We.pe) h
theorem we_or (h : We X a σ H fun x H1 => ∃ k, x = .bl k ∧ if k = true then Q (.bl true) H1 else We X (.BoolOp .Or (b :: es) pos) σ H1 Q) : We X (.BoolOp .Or (a :: b :: es) pos) σ H Q := we_of (pe_or We.pe We.pe) h
theorem we_lst (h : Wa X es σ H fun vs H1 => vs.length ≤ sizeLine ∧ ∀ p, H1 p = none → Q (.ref p) (upd H1 p (.lst vs))) : We X (.List es pos) σ H Q := we_of (pe_lst Wa.pa) h

/-! ### arguments -/
theorem wa_nil {Q : List V → Hp → Prop} (q : Q [] H) : Wa X [] σ H Q := wa_of pa_nil q

/-! ### tests -/
variable {P : Bool → Hp → Prop}
theorem wt_cmp {op : CmpOp} (hm : behindInMarks op b = false) (h : We X a σ H fun x H1 => We X b σ H1 fun y H2 => Wo X (compareOp op) x y σ H2 fun z H3 => ∃ k, z = .bl k ∧ P k H3) : Wt X (.Compare a [op] [b] pos) σ H P :=
  wt_of (pt_cmp (op := op) (t := fun σ H Q => We X a σ H fun x H1 => We X b σ H1 fun y H2 => Wo X (compareOp op) x y σ H2 Q)
    ⟨fun pins s σ H Q I h => bin We.pe We.pe I h fun v u s2 x y H2 I2 rx ry q => q pins s2 v u I2 rx ry⟩ hm) h
theorem wt_not (h : Wt X a σ H fun k H1 => P (!k) H1) : Wt X (.UnaryOp .Not a pos) σ H P := wt_of (pt_not Wt.pt) h
theorem wt_ww (h : Ww X e σ H P) : Wt X e σ H P := fun pins s I => h _ pins s I
theorem ww_and1 (h : Wt X a σ H P) : Ww X (.BoolOp .And [a] pos) σ H P := ww_of (pw_and1 Wt.pt) h
theorem ww_or1 (h : Wt X a σ H P) : Ww X (.BoolOp .Or [a] pos) σ H P := ww_of (pw_or1 Wt.pt) h
theorem ww_and (h : Wt X a σ H fun k H1 => if k = true then Ww X (.BoolOp .And (b :: es) pos) σ H1 P else P false H1) : Ww X (.BoolOp .And (a :: b :: es) pos) σ H P := ww_of (pw_and Wt.pt Ww.pw) h
theorem ww_or (h : Wt X a σ H fun k H1 => if k = true then P true H1 else Ww X (.BoolOp .Or (b :: es) pos) σ H1 P) : Ww X (.BoolOp .Or (a :: b :: es) pos) σ H P := ww_of (pw_or Wt.pt Ww.pw) h
theorem wt_val (he : ∀ whole, isTrue e X.env whole = (do let v ← whole; standAt e.pos; holding [v] (truthy v))) (h : We X e σ H fun x H1 => ∃ k, x = .bl k ∧ P k H1) : Wt X e σ H P := wt_of (pt_val We.pe he) h

/-! ### statements -/
variable {D : Ends} {st : Stmt} {sts sts' : List Stmt}
theorem wb_nil (q : D.nx σ H) : Wb X [] D σ H := wb_of pss_nil q
theorem wb_cons (h : Ws X st { D with nx := Wb X sts D } σ H) : Wb X (st :: sts) D σ H := wb_of (pss_cons Ws.ps Wb.pss) h
theorem ws_expr (hs : swapsWith e none pos.line X.env = pure false) (h : We X e σ H fun _ H1 => D.nx σ H1) : Ws X (.Expr e pos) D σ H := ws_of (ps_expr We.pe hs) h
theorem ws_ret (h : We X e σ H D.rt) : Ws X (.Return (some e) pos) D σ H := ws_of (ps_ret We.pe) h
theorem ws_retN (q : D.rt .non H) : Ws X (.Return none pos) D σ H := ws_of ps_retN q
theorem ws_pass (q : D.nx σ H) : Ws X (.Pass pos) D σ H := ws_of ps_pass q
theorem ws_break (q : D.bk σ H) : Ws X (.Break pos) D σ H := ws_of ps_break q
theorem ws_continue (q : D.ct σ H) : Ws X (.Continue pos) D σ H := ws_of ps_continue q
theorem ws_doc {x : Str} {j : Nat} (q : D.nx σ H) : Ws X (.Expr (.Constant (.str x) j pos) pos') D σ H := ws_of ps_doc q
theorem ws_if (h : Wt X c σ H fun k H1 => if k = true then Wb X sts D σ H1 else Wb X sts' D σ H1) : Ws X (.If c sts sts' pos) D σ H := ws_of (ps_if Wt.pt Wb.pss Wb.pss) h
theorem ws_set {i : Nat} {x : Str} (hN : X.N.Nodup) (hi : X.N[i]? = some x) (hx : Loc X.env.scope x) (hs : swapsWith e (some (.Name x pos')) pos.line X.env = pure false) (hf : X.fn x = true ∨ X.env.scope.names.lookup x = some .local)
    (h : We X e σ H fun v H1 => D.nx (σ.set i (some v)) H1) : Ws X (.Assign [.Name x pos'] e pos) D σ H := ws_of (ps_set hN hi hx We.pe hs hf) h
theorem ws_asg {tg : Expr} (hs : swapsWithSole [tg] e pos.line X.env = pure false) (hw : swappedStores [tg] e X.env = pure none) (h1 : (assignEach [tg] X.env).map (·.2) = [assign tg X.env])
    (h : We X e σ H fun v H1 => Wg X tg v σ H1 D.nx) : Ws X (.Assign [tg] e pos) D σ H := ws_of (ps_asg We.pe Wg.pg hs hw h1) h
theorem ws_raise {t : L2.St → Hp → XK → Prop} (hc : X.calm = true) (he : PMk X e t) (q : t σ H (xk X σ)) : Ws X (.Raise (some e) none pos) D σ H := ws_of (ps_raise hc (xw_takes X) he) q
theorem wg_name {i : Nat} {x : Str} {v : V} {Q : L2.St → Hp → Prop} (hN : X.N.Nodup) (hi : X.N[i]? = some x) (hx : Loc X.env.scope x) (hf : X.fn x = true ∨ X.env.scope.names.lookup x = some .local) (q : Q (σ.set i (some v)) H) : Wg X (.Name x pos) v σ H Q :=
  wg_of (pg_name hN hi hx hf) q
end
end Ni

/-! WM: calls, attributes, items, loops, try. -/
namespace Ni
open PySem PySem.Spec PyProof.Rows L2

section
variable {X : Cx} {σ : L2.St} {H : Hp} {Q : VK} {e a b c o : Expr} {es : List Expr} {kws : List Keyword} {p pos pos' apos : Pos} {x m : Str} {D : Ends}

theorem wa_cons {QA : List V → Hp → Prop} (hs : starEach (e :: es) X.env = (false, eval e X.env) :: starEach es X.env) (h : We X e σ H fun v H1 => Wa X es σ H1 fun vs H2 => QA (v :: vs) H2) : Wa X (e :: es) σ H QA := by
  refine wa_of (pa_cons We.pe Wa.pa hs) ?_
  exact h

/-! ### what a call of a value does -/
theorem wf_fn {k : Nat} {f : Addr} {fd : FuncData} {ps : List Str} {sp : Sp} {vs dvs : List V} {ds : List Value} (F : FnOk X.prog X.w X.K X.mg X.base (L2.CX X.prog X.w) k f fd ps sp) (hr : Room k X.A) (hb : Binds X.K fd ps ds) (hd : Vals dvs ds)
    (h : sp (vs ++ dvs) H Q (xk X σ)) : Wf X (.ref f) vs σ H Q := by
  intro pins s us I r
  exact run_fnSD (E := fun σ => xk X σ) F hr hb hd (passAt (xw_takes X) σ) I r h

theorem wf_make {k : Nat} {f C : Addr} {fd : FuncData} {ps : List Str} {sp : Sp} {vs dvs : List V} {ds : List Value} (M : Mk X.K C f) (F : FnOk X.prog X.w X.K X.mg X.base (L2.CX X.prog X.w) k f fd ps sp) (hr : Room (k + 1) X.A)
    (hb : Binds X.K fd ps ds) (hd : Vals dvs ds)
    (h : ∀ x dx, H x = none → H dx = none → dx ≠ x → sp (.ref x :: (vs ++ dvs)) (upd (upd H dx (.own x)) x (.ins C dx [])) (fun v H2 => v = .non ∧ Q (.ref x) H2) (xk X σ)) : Wf X (.ref C) vs σ H Q := by
  intro pins s us I r
  let n := s.heap.objs.size
  have f1 : H (n + 1) = none := I.hok.fresh (Nat.le_succ _)
  have f0 : H n = none := I.hok.fresh (Nat.le_refl _)
  have hq := h (n + 1) n f1 f0 (Nat.ne_of_lt (Nat.lt_succ_self _))
  have J := Inv.made (C := C) I
  have rr : Vals (V.ref (n + 1) :: (vs ++ dvs)) (Value.ref (n + 1) :: (us ++ ds)) := .cons rfl (r.append hd)
  have ll : (Value.ref (n + 1) :: us ++ ds).length = ps.length := (rr.length.symm.trans (F.len _ _ _ _ hq))
  have bd := hb _ (Value.ref (n + 1) :: us) J.kIn ll
  have run := F.run _ X.stack _ _ ⟨Value.ref (n + 1) :: us, []⟩ (Value.ref (n + 1) :: (us ++ ds)) _ _ (xk X σ) (hr.make C us []) (J.env0.make C us []) bd rr hq
  refine wpAny_call (make_map (f := f) I.kIn M.makes M.init (beq_iff_eq.mp M.fn) (codeAny_mono run fun r s' z => ?_))
  match r, z with
  | .error e, z => exact passAt (xw_takes X) σ pins _ _ e s' J z
  | .ok (.ret u), z =>
    obtain ⟨v, H', I3, rv, ev, q3⟩ := J.after z
    cases ev
    exact ⟨rv, V.ref (n + 1), H', I3, rfl, q3⟩
  | .ok .next, z => exact z.elim
  | .ok .brk, z => exact z.elim
  | .ok .cont, z => exact z.elim

/-! ### calls by a global name -/
theorem we_call {f : Addr} (hg : Gl X x) (hm : X.mg x = some (.ref f)) (hk : PySem.W.keepIn X.K (.ref f) = true) (hdb : (x == ("__debug__" : Str)) = false)
    (he : starEach (e :: es) X.env = (false, eval e X.env) :: starEach es X.env) (hpl : (backTo pos (starEach es X.env)).any (·.1) = false)
    (h : Wa X (e :: es) σ H fun vs H1 => Wf X (.ref f) vs σ H1 Q) : We X (.Call (.Name x p) (e :: es) [] pos) σ H Q := by
  intro pins s I
  refine wpAny_Call_Name_kw (ld_glob I hg hm ?_ hdb)
  refine PySem.W.callWith_K (h₀ := X.base) I.ok.mod.kin hk (thn (h pos pins s I) ?_) he hpl
  rintro us s1 ⟨vs, H1, I1, r, q⟩
  exact ⟨I1.kIn, q pins s1 us I1 r⟩
theorem we_call0 {f : Addr} (hg : Gl X x) (hm : X.mg x = some (.ref f)) (hk : PySem.W.keepIn X.K (.ref f) = true) (hdb : (x == ("__debug__" : Str)) = false)
    (h : Wf X (.ref f) [] σ H Q) : We X (.Call (.Name x p) [] [] pos) σ H Q := by
  intro pins s I
  refine wpAny_Call_Name_kw (ld_glob I hg hm ?_ hdb)
  exact PySem.W.callWith_K0 I.kIn hk (h pins s [] I .nil)
/-- a built-in function, type by its name -/
def Wcb (X : Cx) (f : Value) : List V → Hp → VK → Prop := fun vs H Q => ∃ r, CallR X f r ∧ r vs H Q
theorem Wcb.ok (X : Cx) (f : Value) : CallR X f (Wcb X f) := by
  intro pins s σ H vs us Q I r h
  obtain ⟨t, ht, q⟩ := h
  exact ht pins s σ H vs us Q I r q
theorem we_callB {id : String} (hg : Gl X x) (hm : X.mg x = none) (hv : bootBuiltins x = some (.builtin id)) (hn : x ≠ "__name__") (hdb : (x == ("__debug__" : Str)) = false)
    (he : starEach (e :: es) X.env = (false, eval e X.env) :: starEach es X.env) (hpl : (backTo pos (starEach es X.env)).any (·.1) = false)
    (h : Wa X (e :: es) σ H fun vs H1 => Wcb X (.builtin id) vs H1 Q) : We X (.Call (.Name x p) (e :: es) [] pos) σ H Q :=
  we_of (pe_callB (Wcb.ok X _) hg hm hv Wa.pa hn hdb he hpl) h
theorem we_callTy {T : String} (hg : Gl X x) (hm : X.mg x = none) (hv : bootBuiltins x = some (.type T)) (hn : x ≠ "__name__") (hdb : (x == ("__debug__" : Str)) = false)
    (he : starEach (e :: es) X.env = (false, eval e X.env) :: starEach es X.env) (hpl : (backTo pos (starEach es X.env)).any (·.1) = false)
    (h : Wa X (e :: es) σ H fun vs H1 => Wcb X (.type T) vs H1 Q) : We X (.Call (.Name x p) (e :: es) [] pos) σ H Q :=
  we_of (pe_callTy (Wcb.ok X _) hg hm hv Wa.pa hn hdb he hpl) h

/-! ### attributes -/
def Fl (X : Cx) (x : V) (f : Str) (H : Hp) (Q : VK) : Prop := ∃ a C dx fs v, x = .ref a ∧ H a = some (.ins C dx fs) ∧ Cls X.K C ∧ NoAttr X.K C f ∧ fs.lookup f = some v ∧ Q v H
theorem we_fld {f : Str} (hb : attributeBase e f X.env (eval e X.env) = eval e X.env) (h : We X e σ H fun x H1 => Fl X x f H1 Q) : We X (.Attribute e f pos) σ H Q := we_of (pe_fld We.pe hb) h
def Sf (X : Cx) (x : V) (f : Str) (y : V) (H : Hp) (Q : Hp → Prop) : Prop := ∃ a C dx fs, x = .ref a ∧ H a = some (.ins C dx fs) ∧ Cls X.K C ∧ NoAttr X.K C f ∧ fs.length < 1000 ∧ Q (upd H a (.ins C dx (putF f y fs)))
theorem ws_fld {f : Str} (hs : swapsWith e (some (.Attribute o f pos')) pos.line X.env = pure false) (h : We X e σ H fun y H1 => We X o σ H1 fun x H2 => Sf X x f y H2 fun H3 => D.nx σ H3) : Ws X (.Assign [.Attribute o f pos'] e pos) D σ H :=
  ws_of (ps_fld We.pe We.pe hs) h

/-! ### slots by names -/
inductive Var : List Str → L2.St → Str → V → Prop
  | here {x : Str} {N : List Str} {v : V} {σ : L2.St} : Var (x :: N) (some v :: σ) x v
  | next {x y : Str} {N : List Str} {u : Option V} {σ : L2.St} {v : V} : Var N σ x v → Var (y :: N) (u :: σ) x v
inductive Put : List Str → L2.St → Str → V → L2.St → Prop
  | here {x : Str} {N : List Str} {u : Option V} {v : V} {σ : L2.St} : Put (x :: N) (u :: σ) x v (some v :: σ)
  | next {x y : Str} {N : List Str} {u : Option V} {σ σ' : L2.St} {v : V} : Put N σ x v σ' → Put (y :: N) (u :: σ) x v (u :: σ')
theorem Var.at {N : List Str} {x : Str} {v : V} (h : Var N σ x v) : ∃ i : Nat, N[i]? = some x ∧ σ[i]? = some (some v) := by
  induction h with
  | here => exact ⟨0, rfl, rfl⟩
  | next _ ih =>
    obtain ⟨i, h1, h2⟩ := ih
    exact ⟨i + 1, by simpa using h1, by simpa using h2⟩
theorem Put.at {N : List Str} {x : Str} {v : V} {σ' : L2.St} (h : Put N σ x v σ') : ∃ i : Nat, N[i]? = some x ∧ σ' = σ.set i (some v) := by
  induction h with
  | here => exact ⟨0, rfl, rfl⟩
  | next _ ih =>
    obtain ⟨i, h1, h2⟩ := ih
    exact ⟨i + 1, by simpa using h1, by rw [h2]; rfl⟩
/-- the def's names: what its scope says of them -/
structure Names1 (X : Cx) (N G : List Str) : Prop where
  eq : X.N = N
  nd : N.Nodup
  vis : ∀ x ∈ N, Loc X.env.scope x
  dbg : ∀ x ∈ N, (x == ("__debug__" : Str)) = false ∧ (x == ("__classdict__" : Str)) = false
  fn : ∀ x, X.fn x = true
  glb : ∀ x ∈ G, Gl X x ∧ (x == ("__debug__" : Str)) = false
/-- the global names that a body uses -/
def Gs (X : Cx) (G : List Str) : Prop := ∀ x ∈ G, Gl X x ∧ (x == ("__debug__" : Str)) = false
theorem Names1.gs {N G : List Str} (S : Names1 X N G) : Gs X G := S.glb
def visB (sc : Scope) (x : Str) : Bool := match sc.names.lookup x with
  | some .local => true
  | some .cell => true
  | some .free => true
  | _ => false
theorem visB_ok {sc : Scope} {x : Str} (h : visB sc x = true) : Vis sc x := by
  unfold visB at h
  unfold Vis
  cases e : sc.names.lookup x with
  | none => rw [e] at h; cases h
  | some k => rw [e] at h; cases k <;> simp_all
/-- the names of a comprehension's block: sc is its scope -/
structure NamesB (X : Cx) (N : List Str) (sc : Scope) (G : List Str) : Prop where
  eq : X.N = N
  nd : N.Nodup
  vis : ∀ x, visB sc x = true → Vis X.env.scope x
  loc : ∀ x, sc.names.lookup x = some .local → X.env.scope.names.lookup x = some .local
  dbg : ∀ x ∈ N, (x == ("__debug__" : Str)) = false ∧ (x == ("__classdict__" : Str)) = false
  glb : Gs X G
theorem we_varB {N G : List Str} {sc : Scope} {v : V} (S : NamesB X N sc G) (h : Var N σ x v) (hv : visB sc x = true) (q : Q v H) : We X (.Name x pos) σ H Q := by
  obtain ⟨i, h1, h2⟩ := h.at
  have hm : x ∈ N := List.mem_of_getElem? h1
  exact we_name (by rw [S.eq]; exact h1) (S.vis x hv) (S.dbg x hm).1 (S.dbg x hm).2 h2 q
theorem wg_varB {N G : List Str} {sc : Scope} {v : V} {σ' : L2.St} {QG : L2.St → Hp → Prop} (S : NamesB X N sc G) (h : Put N σ x v σ') (hv : sc.names.lookup x = some .local) (q : QG σ' H) : Wg X (.Name x pos) v σ H QG := by
  obtain ⟨i, h1, h2⟩ := h.at
  rw [h2] at q
  have hl : X.env.scope.names.lookup x = some .local := S.loc x hv
  exact wg_name (by rw [S.eq]; exact S.nd) (by rw [S.eq]; exact h1) (.inl hl) (.inr hl) q
theorem we_var {N G : List Str} {v : V} (S : Names1 X N G) (h : Var N σ x v) (q : Q v H) : We X (.Name x pos) σ H Q := by
  obtain ⟨i, h1, h2⟩ := h.at
  have hm : x ∈ N := List.mem_of_getElem? h1
  exact we_name (by rw [S.eq]; exact h1) ((S.vis x hm).elim .inl fun q => .inr (.inl q)) (S.dbg x hm).1 (S.dbg x hm).2 h2 q
theorem wg_var {N G : List Str} {v : V} {σ' : L2.St} {QG : L2.St → Hp → Prop} (S : Names1 X N G) (h : Put N σ x v σ') (q : QG σ' H) : Wg X (.Name x pos) v σ H QG := by
  obtain ⟨i, h1, h2⟩ := h.at
  have hm : x ∈ N := List.mem_of_getElem? h1
  rw [h2] at q
  exact wg_name (by rw [S.eq]; exact S.nd) (by rw [S.eq]; exact h1) (S.vis x hm) (.inl (S.fn x)) q
end
end Ni

/-! WN: a def entered, loops, try, raise. -/
namespace Ni
open PySem PySem.Spec PyProof.Rows L2

/-- what a body's context says besides its names -/
structure Env1 (X : Cx) : Prop where
  calm : X.calm = true
  stk : X.stack = X.env :: X.outer
  fr : X.env.frame = some X.env.locals
  pass : PassesOwn (model X.prog X.w) X.A X.env X.xe
/-- what the scope says of the def's names -/
structure Names0 (N G : List Str) (sc : Scope) : Prop where
  nd : N.Nodup
  vis : ∀ x ∈ N, Loc sc x
  dbg : ∀ x ∈ N, (x == ("__debug__" : Str)) = false ∧ (x == ("__classdict__" : Str)) = false
  glb : ∀ x ∈ G, sc.names.lookup x = some .globalImplicit ∧ (x == ("__debug__" : Str)) = false
section
variable {P : Program} {w : World} {K : PySem.W.Frag} {mg : Str → Option Value} {base : Heap}
theorem fn_go {x qual : Str} {params : Arguments} {body : List Stmt} {scope : Scope} {dvs : List V} {kws : List (Str × V)} {f : Addr} {fd : FuncData} {N G ps : List Str} {k : Nat} {sp : Sp}
    (F : FunD K x qual params body scope dvs kws f fd) (S : FnScope N ps scope) (T : Names0 N G scope) (len : ∀ vs H Q E, sp vs H Q E → vs.length = ps.length)
    (hb : ∀ (X : Cx), X.prog = P → X.w = w → X.K = K → X.mg = mg → X.base = base → Names1 X N G → Env1 X → Room k X.A → ∀ (vs : List V) (H : Hp) (Q : VK) (E : XK),
      (∀ cls d σ H', E cls d H' → XW X cls d σ H') → sp vs H Q E → Wb X body { nx := fun _ H' => Q .non H', rt := Q } (start N vs) H) :
    FnOk P w K mg base (L2.CX P w) (k + 1) f fd ps sp := by
  refine F.ok S len fun cdv A outer s H vs Q E hr h => ?_
  refine ⟨_, Wb.pss, hb (cxOf (L2.CX P w) P w K mg base N qual scope f cdv A outer s H E) rfl rfl rfl rfl rfl ⟨rfl, T.nd, T.vis, T.dbg, fun _ => rfl, T.glb⟩ ⟨rfl, rfl, rfl, passes_of rfl⟩ hr vs H Q E (fun cls d σ H' q => ?_) h⟩
  exact xw_of (takes_of (E := E) rfl rfl rfl rfl) q
end

section
variable {X : Cx} {σ : L2.St} {H : Hp} {Q : VK} {D : Ends} {tg iter c a e : Expr} {body sts sts' : List Stmt} {pos pos' p : Pos}
/-! ### loops -/
theorem ws_forL (V1 : Env1 X) (hs : ∀ x, foldedSetIterable iter X.env x = pure x)
    (h : We X iter σ H fun x H1 => ∃ (l : Addr) (xs : List V) (Pv : Nat → L2.St → Hp → Prop), x = .ref l ∧ SqL X.K H1 l xs ∧ Pv 0 σ H1 ∧ (∀ i σ' H', i ≤ xs.length → Pv i σ' H' → SqL X.K H' l xs) ∧
      (∀ i y σ' H', xs[i]? = some y → Pv i σ' H' → Wg X tg y σ' H' fun σ2 H2 => Wb X body { D with nx := Pv (i + 1), ct := Pv (i + 1), bk := D.nx } σ2 H2) ∧ (∀ σ' H', Pv xs.length σ' H' → D.nx σ' H')) :
    Ws X (.For tg iter body [] pos) D σ H := by
  refine ws_of (ps_for V1.pass V1.calm (pi_list We.pe) Wg.pg Wb.pss hs) (We.imp ?_ h)
  rintro x H1 ⟨l, xs, Pv, e, h1, h2, h3, h4, h5⟩
  exact ⟨l, e, ⟨xs, h1⟩, for_list Pv h2 h3 h4 h5⟩
theorem ws_forT (V1 : Env1 X) (hs : ∀ x, foldedSetIterable iter X.env x = pure x)
    (h : We X iter σ H fun x H1 => ∃ (l : Addr) (xs : List V) (Pv : Nat → L2.St → Hp → Prop), x = .ref l ∧ SqT X.K H1 l xs ∧ Pv 0 σ H1 ∧ (∀ i σ' H', i ≤ xs.length → Pv i σ' H' → SqT X.K H' l xs) ∧
      (∀ i y σ' H', xs[i]? = some y → Pv i σ' H' → Wg X tg y σ' H' fun σ2 H2 => Wb X body { D with nx := Pv (i + 1), ct := Pv (i + 1), bk := D.nx } σ2 H2) ∧ (∀ σ' H', Pv xs.length σ' H' → D.nx σ' H')) :
    Ws X (.For tg iter body [] pos) D σ H := by
  refine ws_of (ps_for V1.pass V1.calm (pi_tup We.pe) Wg.pg Wb.pss hs) (We.imp ?_ h)
  rintro x H1 ⟨l, xs, Pv, e, h1, h2, h3, h4, h5⟩
  exact ⟨l, e, ⟨xs, h1⟩, for_tup Pv h2 h3 h4 h5⟩
theorem Wa.imp {es : List Expr} {Q Q' : List V → Hp → Prop} (k : ∀ v H', Q v H' → Q' v H') (h : Wa X es σ H Q) : Wa X es σ H Q' := fun pos pins s I => thn (h pos pins s I) fun _ _ ⟨vs, H', J, r, q⟩ => ⟨vs, H', J, r, k vs H' q⟩
theorem Wt.imp {Q Q' : Bool → Hp → Prop} (k : ∀ v H', Q v H' → Q' v H') (h : Wt X e σ H Q) : Wt X e σ H Q' := fun pins s I => thn (h pins s I) fun _ _ ⟨H', J, q⟩ => ⟨H', J, k _ H' q⟩
theorem ws_forR1 (V1 : Env1 X) (hg : Gl X "range") (hm : X.mg "range" = none) (hs : starEach [a] X.env = [(false, eval a X.env)]) (hf : ∀ x, foldedSetIterable (.Call (.Name "range" p) [a] [] pos') X.env x = pure x)
    (h : Wa X [a] σ H fun vs H1 => ∃ (j : Int) (Pv : Nat → L2.St → Hp → Prop), vs = [.int j] ∧ -(2 ^ 62) ≤ j ∧ j < 2 ^ 62 ∧ Pv 0 σ H1 ∧
      (∀ i σ' H', i < j.toNat → Pv i σ' H' → Wg X tg (.int (0 + i)) σ' H' fun σ2 H2 => Wb X body { D with nx := Pv (i + 1), ct := Pv (i + 1), bk := D.nx } σ2 H2) ∧ (∀ σ' H', Pv j.toNat σ' H' → D.nx σ' H')) :
    Ws X (.For tg (.Call (.Name "range" p) [a] [] pos') body [] pos) D σ H := by
  refine ws_of (ps_for V1.pass V1.calm (pi_range1 hg hm Wa.pa hs) Wg.pg Wb.pss hf) (Wa.imp ?_ h)
  rintro x H1 ⟨j, Pv, e, l1, l2, h2, h4, h5⟩
  exact ⟨j, e, l1, l2, for_range Pv h2 h4 h5⟩
theorem ws_while (V1 : Env1 X) (W : Nat → L2.St → Hp → Prop) (m0 : Nat) (h0 : W m0 σ H)
    (h : ∀ m σ' H', W m σ' H' → Wt X c σ' H' fun k H1 => if k = true then Wb X body { D with nx := fun σ2 H2 => ∃ m', m' < m ∧ W m' σ2 H2, ct := fun σ2 H2 => ∃ m', m' < m ∧ W m' σ2 H2, bk := D.nx } σ' H1 else D.nx σ' H1) :
    Ws X (.While c body [] pos) D σ H := by
  refine ws_of (ps_while V1.pass Wt.pt Wb.pss) ⟨W, ⟨m0, h0⟩, fun m σ' H' hw => Wt.imp ?_ (h m σ' H' hw)⟩
  intro k H1 q
  cases k with
  | true => exact ⟨_, fun _ _ z => z, q⟩
  | false => exact q
/-! ### raise, try -/
theorem ws_raiseT {x m : Str} {j : Nat} {p2 p3 : Pos} {C : Addr} {bmB : List Value} {B newId initId : String} (V1 : Env1 X) (F : ExcBaseFacts B newId initId bmB) (q : PySem.W.excIn X.K C bmB newId = true) (gC : X.mg x = some (.ref C))
    (kC : PySem.W.keepIn X.K (.ref C) = true) (r : Raises X (.ref C)) (hg : Gl X x) (hdb : (x == ("__debug__" : Str)) = false) (h : XW X (.ref C) none σ H) :
    Ws X (.Raise (some (.Call (.Name x p) [.Constant (.str m) j p2] [] p3)) none pos) D σ H := ws_raise V1.calm (pmk_own F q gC kC r hg hdb) h
/-- what the suite of `except x as n` does -/
def tSuite (X : Cx) (suite : List Stmt) : Addr → Value → Option Addr → TS := fun a cls d D σ H => ∀ oe pn, Zc cls d oe → (∃ vs, oe.data = .fields vs) → Wb (X.suite a ((a, oe) :: pn)) suite D σ H
theorem ws_try {x n : Str} {i : Nat} {cv : Value} {b0 : Stmt} {np : Pos} {body suite : List Stmt} (V1 : Env1 X) (hN : X.N.Nodup) (hi : X.N[i]? = some n) (hln : X.env.kindOf n = some .local) (hc : Names X x cv)
    (h : ∀ pn xe, (∀ cls d σ' H', wAs X.K cv i (tSuite X (b0 :: suite)) (XW X) D cls d σ' H' → XW (X.tr pn xe) cls d σ' H') → PassesOwn (model X.prog X.w) X.A X.env xe → Wb (X.tr pn xe) body D σ H) :
    Ws X (.Try body [.ExceptHandler (some (.Name x np)) (some n) (b0 :: suite) pos'] [] [] pos) D σ H := by
  refine ws_of (ps_try_as V1.stk V1.fr hN hi hln hc (xw_takes X) (tb := fun W D σ H => ∀ pn xe, Takes (X.tr pn xe) W → PassesOwn (model X.prog X.w) X.A X.env xe → Wb (X.tr pn xe) body D σ H) (ts := tSuite X (b0 :: suite))
    (fun W pn xe tk ho => ⟨fun pins s σ H D I h => h pn xe tk ho pins s I⟩) (fun a oe cls d pn hz hf => ⟨fun pins s σ H D I h => h oe pn hz hf pins s I⟩)) ?_
  intro pn xe tk ho
  exact h pn xe (fun cls d σ' H' q => xw_of tk q) ho
end
end Ni
namespace Ni
open PySem PySem.Spec PyProof.Rows L2
section
variable {P : Program} {w : World} {K : PySem.W.Frag} {mg : Str → Option Value} {base : Heap}
/-- fn_go, the scope told too -/
theorem fn_goS {x qual : Str} {params : Arguments} {body : List Stmt} {scope : Scope} {dvs : List V} {kws : List (Str × V)} {f : Addr} {fd : FuncData} {N G ps : List Str} {k : Nat} {sp : Sp}
    (F : FunD K x qual params body scope dvs kws f fd) (S : FnScope N ps scope) (T : Names0 N G scope) (len : ∀ vs H Q E, sp vs H Q E → vs.length = ps.length)
    (hb : ∀ (X : Cx), X.prog = P → X.w = w → X.K = K → X.mg = mg → X.base = base → X.env.scope = scope → Names1 X N G → Env1 X → Room k X.A → ∀ (vs : List V) (H : Hp) (Q : VK) (E : XK),
      (∀ cls d σ H', E cls d H' → XW X cls d σ H') → sp vs H Q E → Wb X body { nx := fun _ H' => Q .non H', rt := Q } (start N vs) H) :
    FnOk P w K mg base (L2.CX P w) (k + 1) f fd ps sp := by
  refine F.ok S len fun cdv A outer s H vs Q E hr h => ?_
  refine ⟨_, Wb.pss, hb (cxOf (L2.CX P w) P w K mg base N qual scope f cdv A outer s H E) rfl rfl rfl rfl rfl rfl ⟨rfl, T.nd, T.vis, T.dbg, fun _ => rfl, T.glb⟩ ⟨rfl, rfl, rfl, passes_of rfl⟩ hr vs H Q E (fun cls d σ H' q => ?_) h⟩
  exact xw_of (takes_of (E := E) rfl rfl rfl rfl) q
end
section
variable {X : Cx} {σ : L2.St} {H : Hp} {D : Ends} {N G : List Str}
theorem Names1.tr (S : Names1 X N G) (pn : List (Addr × Obj)) (xe : Value → Shared → Prop) : Names1 (X.tr pn xe) N G := ⟨S.eq, S.nd, S.vis, S.dbg, S.fn, S.glb⟩
theorem Names1.suite (S : Names1 X N G) (a : Addr) (pn : List (Addr × Obj)) : Names1 (X.suite a pn) N G := ⟨S.eq, S.nd, S.vis, S.dbg, S.fn, S.glb⟩
theorem ws_tryS {x n : Str} {i : Nat} {C : Addr} {b0 : Stmt} {np pos pos' : Pos} {body suite : List Stmt} (V1 : Env1 X) (S : Names1 X N G) (hi : N[i]? = some n) (hln : X.env.scope.names.lookup n = some .local) (hx : x ∈ G) (hm : X.mg x = some (.ref C))
    (h : ∀ pn xe, Names1 (X.tr pn xe) N G → PassesOwn (model X.prog X.w) X.A X.env xe →
      (∀ cls d σ' H', wAs X.K (.ref C) i (tSuite X (b0 :: suite)) (XW X) D cls d σ' H' → XW (X.tr pn xe) cls d σ' H') → Wb (X.tr pn xe) body D σ H) :
    Ws X (.Try body [.ExceptHandler (some (.Name x np)) (some n) (b0 :: suite) pos'] [] [] pos) D σ H :=
  ws_try V1 (by rw [S.eq]; exact S.nd) (by rw [S.eq]; exact hi) hln ⟨(S.glb x hx).1, (S.glb x hx).2, .inl hm⟩ fun pn xe hq ho => h pn xe (S.tr pn xe) ho fun cls d σ' H' z => hq cls d σ' H' z
end
end Ni

/-! WO: the signs of own classes. -/
namespace Ni
open PySem PySem.Spec PyProof.Rows L2
theorem rel_told {v : V} {u : Value} (r : RelV v u) : u ≠ .notImplemented := by
  intro z
  subst z
  cases v <;> first | (obtain ⟨t, e⟩ := r; cases e) | cases r
section
variable {X : Cx} {σ : L2.St} {H : Hp} {Q : VK} {op : Operator} {cop : CmpOp} {C f a b dx dy : Addr} {fs gs : List (Str × V)}
theorem told_of {pins : List (Addr × Obj)} {u : Value} {s : Shared} (h : EP X pins σ Q u s) : PySem.W.CmpBack (EP X pins σ Q) u s := by
  obtain ⟨v, H', I, r, q⟩ := id h
  have ne := rel_told r
  cases u <;> first | exact absurd rfl ne | exact h
/-- the class's own method of a sign -/
structure Sg (K : PySem.W.Frag) (C : Addr) (m : Str) (f : Addr) : Prop where
  hs : PySem.W.findIn K (.ref C) m = some (some (.ref f))
  hf : PySem.W.isFn K (.ref f) = true
theorem inst_at {pins : List (Addr × Obj)} {s : Shared} (I : Inv X pins σ H s) (ha : H a = some (.ins C dx fs)) : ∃ od, PySem.W.InstAt s.heap a (PySem.W.instObj C dx) C (some od) := by
  obtain ⟨mA, J, _⟩ := ins_get I.hok ha
  obtain ⟨od, J, _⟩ := J.look
  exact ⟨od, J⟩
theorem wo_two (ha : H a = some (.ins C dx fs)) (hb : H b = some (.ins C dy gs)) (hc : PySem.W.selfFirst X.K C = true) (g : Sg X.K C (PySem.dunder op.info.2) f) (h : Wf X (.ref f) [.ref a, .ref b] σ H Q) : Wo X (binaryOp op) (.ref a) (.ref b) σ H Q := by
  intro pins s v u I rx ry
  cases rx
  cases ry
  obtain ⟨od, J⟩ := inst_at I ha
  obtain ⟨od', J'⟩ := inst_at I hb
  obtain ⟨m, hF⟩ := I.fr
  refine PySem.W.binop_K hF I.ok.mod.kin J J'.type hc g.hs g.hf ?_
  exact thn (h pins s [.ref a, .ref b] I (.cons rfl (.cons rfl .nil))) fun _ _ q => told_of q
/-- an instance, and a value of a built-in type T -/
theorem wo_left {T : String} {y : V} {fo ro rc : Option Value} (ha : H a = some (.ins C dx fs)) (hT : ∀ u, RelV y u → typeOf u = pure (.type T)) (hc : PySem.W.selfFirst X.K C = true) (g : Sg X.K C (PySem.dunder op.info.2) f)
    (hr : PySem.W.findIn X.K (.ref C) (dunderR op.info.2) = some rc) (hp : rc = none ∨ ∃ g : Addr, rc = some (.ref g))
    (h1 : PySem.W.findIn X.K (.type T) (PySem.dunder op.info.2) = some fo) (h2 : PySem.W.findIn X.K (.type T) (dunderR op.info.2) = some ro) (hsub : PySem.W.subIn X.K (.type T) (.ref C) = some false)
    (h : Wf X (.ref f) [.ref a, y] σ H Q) : Wo X (binaryOp op) (.ref a) y σ H Q := by
  intro pins s v u I rx ry
  cases rx
  obtain ⟨od, J⟩ := inst_at I ha
  obtain ⟨m, hF⟩ := I.fr
  refine PySem.W.ksp_binT hF I.ok.mod.kin J (hT u ry) hc g.hs g.hf hr hp h1 h2 hsub ?_
  exact thn (h pins s [.ref a, u] I (.cons rfl (.cons ry .nil))) fun _ _ q => told_of q
theorem wu_neg (ha : H a = some (.ins C dx fs)) (g : Sg X.K C "__neg__" f) (h : Wf X (.ref f) [.ref a] σ H Q) : Wu X (unaryOp .USub) (.ref a) σ H Q := by
  intro pins s v I rx
  cases rx
  obtain ⟨od, J⟩ := inst_at I ha
  obtain ⟨m, hF⟩ := I.fr
  refine PySem.W.ksp_neg hF I.ok.mod.kin J g.hs g.hf ?_
  exact h pins s [.ref a] I (.cons rfl .nil)
/-- a comparison, an instance on the left -/
theorem wo_cmp {k : Nat} {tb : Value} {y : V} (hr : Room k X.A) (ha : H a = some (.ins C dx fs)) (hT : ∀ (pins : List (Addr × Obj)) (s : Shared) (u : Value), Inv X pins σ H s → RelV y u → PySem.W.Looks (model X.prog X.w) s.heap (typeOf u) tb)
    (hn : PySem.W.notFirst X.K C tb = true) (g : Sg X.K C (cmpInfo cop).2.1 f) (h : Wf X (.ref f) [.ref a, y] σ H Q) : Wo X (richCompare cop) (.ref a) y σ H Q := by
  intro pins s v u I rx ry
  cases rx
  obtain ⟨od, J⟩ := inst_at I ha
  obtain ⟨m, hF⟩ := I.fr
  refine PySem.W.cmp_K hr.units0 hF I.ok.mod.kin J (hT pins s u I ry) hn g.hs g.hf ?_
  exact thn (h pins s [.ref a, u] I (.cons rfl (.cons ry .nil))) fun _ _ q => told_of q
end
end Ni
namespace Ni
open PySem PySem.Spec PyProof.Rows L2
/-- a def at f keeps its promise; dvs: the defaults that fill up where fewer values are written -/
structure OkD (P : Program) (w : World) (K : PySem.W.Frag) (mg : Str → Option Value) (base : Heap) (k : Nat) (f : Addr) (ps : List Str) (dvs : List V) (sp : Sp) : Prop where
  ex : ∃ fd ds, FnOk P w K mg base (L2.CX P w) k f fd ps sp ∧ Vals dvs ds ∧ Binds K fd ps ds
  kp : PySem.W.keepIn K (.ref f) = true
section
variable {X : Cx} {σ : L2.St} {H : Hp} {Q : VK} {k : Nat} {f C : Addr} {ps : List Str} {sp : Sp} {vs dvs : List V}
theorem wf_ok (O : OkD X.prog X.w X.K X.mg X.base k f ps dvs sp) (hr : Room k X.A) (h : sp (vs ++ dvs) H Q (xk X σ)) : Wf X (.ref f) vs σ H Q := by
  obtain ⟨fd, ds, F, hd, hb⟩ := O.ex
  exact wf_fn F hr hb hd h
theorem wf_new (M : Mk X.K C f) (O : OkD X.prog X.w X.K X.mg X.base k f ps dvs sp) (hr : Room (k + 1) X.A)
    (h : ∀ x dx, H x = none → H dx = none → dx ≠ x → sp (.ref x :: (vs ++ dvs)) (upd (upd H dx (.own x)) x (.ins C dx [])) (fun v H2 => v = .non ∧ Q (.ref x) H2) (xk X σ)) : Wf X (.ref C) vs σ H Q := by
  obtain ⟨fd, ds, F, hd, hb⟩ := O.ex
  exact wf_make M F hr hb hd h
end
end Ni

/-! HM: a Hook that reads the kit's facts and one more Bool. -/
namespace Ni
open PySem PySem.Spec PyProof.Rows L2
/-- the kit's facts, and a list of own ones -/
structure Says (fa : List He.Fa) (fn : List He.DefD) (ex : List (PySem.W.Frag → Bool)) (K : PySem.W.Frag) : Prop where
  d : He.SaysD fa fn K
  m : (ex.all fun f => f K) = true
def hookM (n : Nat) (fa : List He.Fa) (fn : List He.DefD) (ex : List (PySem.W.Frag → Bool)) : PySem.W.Hook where
  α := He.AlD × Bool
  obs := fun s => (He.obsDG n fa fn s.heap.get?, ex.all fun f => f (He.frG s.heap.get? (He.asD s.heap.get? n)))
  val := fun _ => (He.valD fn, true)
  says := fun _ h => ∃ K : PySem.W.Frag, K.In h ∧ Says fa fn ex K
  of := by
    intro w s e
    exact ⟨_, He.frG_in, ⟨congrArg Prod.fst e, congrArg Prod.snd e⟩⟩
  keeps := by
    intro w h h' z k
    obtain ⟨K, hK, c⟩ := z
    exact ⟨K, PySem.W.Frag.In.keeps hK k, c⟩
def obM (n : Nat) (fa : List He.Fa) (fn : List He.DefD) (ex : List (PySem.W.Frag → Bool)) (g : Addr → Option Obj) : He.AlD × Bool := (He.obsDG n fa fn g, ex.all fun f => f (He.frG g (He.asD g n)))
theorem obM_eq {n : Nat} {fa : List He.Fa} {fn : List He.DefD} {ex : List (PySem.W.Frag → Bool)} {g : Addr → Option Obj} {s : Shared} (h : ∀ a, g a = s.heap.get? a) : obM n fa fn ex g = (hookM n fa fn ex).obs s := by
  have e : g = s.heap.get? := funext h
  rw [e]
  rfl
theorem Says.x {fa : List He.Fa} {fn : List He.DefD} {ex : List (PySem.W.Frag → Bool)} {K : PySem.W.Frag} (c : Says fa fn ex K) (i : Nat) {f : PySem.W.Frag → Bool} (h : ex[i]? = some f) : f K = true :=
  List.all_eq_true.mp c.m f (List.mem_of_getElem? h)
end Ni

/-! HF: facts of the head, as Bools, and what they say. -/
namespace Ni
open PySem PySem.Spec PyProof.Rows L2
section
variable {K : PySem.W.Frag} {C : Addr}
theorem and2 {a b : Bool} (h : (a && b) = true) : a = true ∧ b = true := Bool.and_eq_true_iff.mp h
def tyxB (K : PySem.W.Frag) (C : Addr) : Bool := decide (PySem.W.findIn K (.ref C) "__class__" = some (some (.builtin "object.__class__"))) && (decide (PySem.W.specialIn K (.builtin "object.__class__") "__get__" = some (some (.builtin "getset_descriptor.__get__"))) &&
  (decide (PySem.W.takesIn K (.builtin "object.__class__") = some true) && decide (PySem.W.mroIn K C (.type "object") = some true)))
theorem tyx_of {H : Hp} {a dx : Addr} {fs : List (Str × V)} (h : tyxB K C = true) (c : Cls K C) (e : H a = some (.ins C dx fs)) : TyX K H (.ref a) (.ref C) := by
  obtain ⟨h1, h⟩ := and2 h
  obtain ⟨h2, h⟩ := and2 h
  obtain ⟨h3, h4⟩ := and2 h
  exact .base (.ins e c (of_decide_eq_true h1) (of_decide_eq_true h2) (of_decide_eq_true h3) (of_decide_eq_true h4))
def exccB (K : PySem.W.Frag) (D : Addr) : Bool := decide (PySem.W.findIn K (.ref D) "__getattribute__" = some (some (.builtin "BaseException.__getattribute__"))) && (decide (PySem.W.findIn K (.ref D) "__getattr__" = some none) &&
  (decide (PySem.W.subIn K (.ref D) (.type "BaseException") = some true) && (PySem.W.hasDictIn K D && tyxB K D)))
theorem excc_of (h : exccB K C = true) : ExcC K C := by
  obtain ⟨h1, h⟩ := and2 h
  obtain ⟨h2, h⟩ := and2 h
  obtain ⟨h3, h⟩ := and2 h
  obtain ⟨h4, h⟩ := and2 h
  obtain ⟨h5, h⟩ := and2 h
  obtain ⟨h6, h⟩ := and2 h
  obtain ⟨h7, h8⟩ := and2 h
  exact ⟨of_decide_eq_true h1, of_decide_eq_true h2, of_decide_eq_true h3, h4, of_decide_eq_true h5, of_decide_eq_true h6, of_decide_eq_true h7, of_decide_eq_true h8⟩
def conB (K : PySem.W.Frag) (C : Addr) (f : Str) (v : V) : Bool := match PySem.W.findIn K (.ref C) f with
  | some (some u) => He.relB v u && (decide (PySem.W.specialIn K u "__get__" = some none) && !PySem.W.copiedNames.contains f)
  | _ => false
theorem con_of {f : Str} {v : V} (h : conB K C f v = true) : ∃ u, Con K C f v u := by
  unfold conB at h
  match e : PySem.W.findIn K (.ref C) f, h with
  | some (some u), h =>
    obtain ⟨h1, h⟩ := and2 h
    obtain ⟨h2, h3⟩ := and2 h
    exact ⟨u, e, He.relB_ok h1, of_decide_eq_true h2, by simpa using h3⟩
  | some none, h => cases h
  | none, h => cases h
def intB (K : PySem.W.Frag) (x : Str) (i : Int) : Bool := match PySem.W.nsIn K mainGlobals x with
  | some (some (.int j _)) => decide (j = i)
  | _ => false
theorem intIn {x : Str} {i : Int} (h : intB K x i = true) : ∃ t, PySem.W.nsIn K mainGlobals x = some (some (.int i t)) := by
  unfold intB at h
  split at h
  · rename_i j t e
    rw [of_decide_eq_true h] at e
    exact ⟨t, e⟩
  · cases h
def strB (K : PySem.W.Frag) (x z : Str) : Bool := match PySem.W.nsIn K mainGlobals x with
  | some (some (.str j _)) => decide (j = z)
  | _ => false
theorem strIn {x z : Str} (h : strB K x z = true) : ∃ t, PySem.W.nsIn K mainGlobals x = some (some (.str z t)) := by
  unfold strB at h
  split at h
  · rename_i j t e
    rw [of_decide_eq_true h] at e
    exact ⟨t, e⟩
  · cases h
end
end Ni

/-! HM2: a Hook over a written list of places; the run's equation by parts. -/
namespace Ni
open PySem PySem.Spec PyProof.Rows L2
def hookL (as : List Addr) (fa : List He.Fa) (fn : List He.DefD) (ex : List (PySem.W.Frag → Bool)) : PySem.W.Hook where
  α := He.AlD × Bool
  obs := fun s => (He.obsD fa fn (He.frG s.heap.get? as), ex.all fun f => f (He.frG s.heap.get? as))
  val := fun _ => (He.valD fn, true)
  says := fun _ h => ∃ K : PySem.W.Frag, K.In h ∧ Says fa fn ex K
  of := by
    intro w s e
    exact ⟨_, He.frG_in, ⟨congrArg Prod.fst e, congrArg Prod.snd e⟩⟩
  keeps := by
    intro w h h' z k
    obtain ⟨K, hK, c⟩ := z
    exact ⟨K, PySem.W.Frag.In.keeps hK k, c⟩
def obL (as : List Addr) (fa : List He.Fa) (fn : List He.DefD) (ex : List (PySem.W.Frag → Bool)) (g : Addr → Option Obj) : He.AlD × Bool := (He.obsD fa fn (He.frG g as), ex.all fun f => f (He.frG g as))
theorem obL_eq {as : List Addr} {fa : List He.Fa} {fn : List He.DefD} {ex : List (PySem.W.Frag → Bool)} {g : Addr → Option Obj} {s : Shared} (h : ∀ a, g a = s.heap.get? a) : obL as fa fn ex g = (hookL as fa fn ex).obs s := by
  have e : g = s.heap.get? := funext h
  rw [e]
  rfl
theorem map3 {α β γ δ : Type} {o : Option α} {f : α → β} {g : α → γ} {h : α → δ} {a : β} {b : γ} {c : δ} (h1 : o.map f = some a) (h2 : o.map g = some b) (h3 : o.map h = some c) : o.map (fun x => (f x, g x, h x)) = some (a, b, c) := by
  cases o with
  | none => cases h1
  | some x =>
    cases h1
    cases h2
    cases h3
    rfl
theorem map2 {α β γ : Type} {o : Option α} {f : α → β} {g : α → γ} {a : β} {b : γ} (h1 : o.map f = some a) (h2 : o.map g = some b) : o.map (fun x => (f x, g x)) = some (a, b) := by
  cases o with
  | none => cases h1
  | some x =>
    cases h1
    cases h2
    rfl
/-- the facts, apart -/
theorem obs4 {α : Type} {o : Option α} {as : List Addr} {fa : List He.Fa} {fn : List He.DefD} {ex : List (PySem.W.Frag → Bool)} {g : α → Addr → Option Obj} (h1 : o.map (fun x => fa.all fun f => f.ok (He.frG (g x) as)) = some true) (h2 : o.map (fun x => fn.all fun d => d.ok (He.frG (g x) as)) = some true)
    (h3 : o.map (fun x => fn.map fun d => He.fnW (He.frG (g x) as) d.at_) = some (fn.map He.DefD.val)) (h4 : o.map (fun x => ex.all fun f => f (He.frG (g x) as)) = some true) : o.map (fun x => obL as fa fn ex (g x)) = some (He.valD fn, true) := by
  cases o with
  | none => cases h1
  | some x =>
    have e1 : (fa.all fun f => f.ok (He.frG (g x) as)) = true := Option.some.inj h1
    have e2 : (fn.all fun d => d.ok (He.frG (g x) as)) = true := Option.some.inj h2
    have e3 : (fn.map fun d => He.fnW (He.frG (g x) as) d.at_) = fn.map He.DefD.val := Option.some.inj h3
    have e4 : (ex.all fun f => f (He.frG (g x) as)) = true := Option.some.inj h4
    show some (((fa.all fun f => f.ok (He.frG (g x) as)) && fn.all fun d => d.ok (He.frG (g x) as), fn.map fun d => He.fnW (He.frG (g x) as) d.at_), ex.all fun f => f (He.frG (g x) as)) = _
    rw [e1, e2, e3, e4]
    rfl
end Ni

/-! WP: rules by values, in the form that the tactics take. -/
namespace Ni
open PySem PySem.Spec PyProof.Rows L2
/-- a size in bits -/
def Bd (n : Int) (k : Nat) : Prop := n.natAbs < 2 ^ k
theorem Bd.mono {n : Int} {k m : Nat} (h : Bd n k) (l : k ≤ m) : Bd n m := Nat.lt_of_lt_of_le h (Nat.pow_le_pow_right (by decide) l)
theorem Bd.add {a b : Int} {k m : Nat} (h : Bd a k) (h' : Bd b m) : Bd (a + b) (max k m + 1) := by
  have h1 := h.mono (Nat.le_max_left k m)
  have h2 := h'.mono (Nat.le_max_right k m)
  unfold Bd at *
  rw [Nat.pow_succ]
  omega
theorem Bd.neg {a : Int} {k : Nat} (h : Bd a k) : Bd (-a) k := by unfold Bd at *; rw [Int.natAbs_neg]; exact h
theorem Bd.sub {a b : Int} {k m : Nat} (h : Bd a k) (h' : Bd b m) : Bd (a - b) (max k m + 1) := by rw [Int.sub_eq_add_neg]; exact h.add h'.neg
theorem Bd.mul {a b : Int} {k m : Nat} (h : Bd a k) (h' : Bd b m) : Bd (a * b) (k + m) := wide_lt h h'
theorem Bd.of_abs {a b : Int} {k : Nat} (h : Bd b k) (l : a.natAbs ≤ b.natAbs) : Bd a k := Nat.lt_of_le_of_lt l h
theorem bd_log {n : Int} {k : Nat} (h : Bd n k) (h0 : 0 < k) : n.natAbs.log2 < k := PySem.Flt.log2_lt_of h0 h
theorem bd_mulW {i j : Int} {k m : Nat} (h : Bd i k) (h' : Bd j m) (l : k + m < 999990) : CMulW i j := wide_mul (a := k + 1) (b := m + 1) (h.mono (Nat.le_succ _)) (h'.mono (Nat.le_succ _)) (Nat.succ_pos _) (Nat.succ_pos _) (by omega)
section
variable {X : Cx} {σ : L2.St} {H : Hp} {Q : VK}
theorem wo_add {i j : Int} (q : Q (.int (i + j)) H) : Wo X (binaryOp .Add) (.int i) (.int j) σ H Q := wo_of op_add ⟨i, j, rfl, rfl, q⟩
theorem wo_sub {i j : Int} (q : Q (.int (i - j)) H) : Wo X (binaryOp .Sub) (.int i) (.int j) σ H Q := wo_of op_sub ⟨i, j, rfl, rfl, q⟩
theorem wo_mul {i j : Int} (c : CMulW i j) (q : Q (.int (i * j)) H) : Wo X (binaryOp .Mult) (.int i) (.int j) σ H Q := wo_of op_mulW ⟨i, j, rfl, rfl, c, q⟩
theorem wo_mulR {i j : Int} (c : -(2 ^ 64) < j ∧ j < 2 ^ 64) (q : Q (.int (i * j)) H) : Wo X (binaryOp .Mult) (.int i) (.int j) σ H Q := wo_of op_mul ⟨i, j, rfl, rfl, .inr c, q⟩
theorem wo_mod {i j : Int} (c : 0 < j) (q : Q (.int (i % j)) H) : Wo X (binaryOp .Mod) (.int i) (.int j) σ H Q := wo_of op_mod ⟨i, j, rfl, rfl, c, q⟩
theorem wo_div {i j : Int} {k : Nat} (c : 0 < j) (b : Bd j k) (l : 0 < k ∧ k ≤ 9000) (q : Q (.int (i / j)) H) : Wo X (binaryOp .FloorDiv) (.int i) (.int j) σ H Q := wo_of op_fdivW ⟨i, j, rfl, rfl, ⟨c, Nat.lt_of_lt_of_le (bd_log b l.1) l.2⟩, q⟩
/-- // by any number but 0 -/
theorem op_fdivZ : OpR X (binaryOp .FloorDiv) (rI (fun _ j => j ≠ 0 ∧ j.natAbs.log2 < 9000) fun i j => .int (i.fdiv j)) := opI fun i j _ _ _ _ _ hc q => floordiv_int hc.1 q (.inl (PyProof.noPylong_of_log2 hc.2))
theorem wo_fdiv {i j : Int} {k : Nat} (c : j ≠ 0) (b : Bd j k) (l : 0 < k ∧ k ≤ 9000) (q : Q (.int (i.fdiv j)) H) : Wo X (binaryOp .FloorDiv) (.int i) (.int j) σ H Q := wo_of op_fdivZ ⟨i, j, rfl, rfl, ⟨c, Nat.lt_of_lt_of_le (bd_log b l.1) l.2⟩, q⟩
theorem wo_lt {i j : Int} (q : Q (.bl (decide (i < j))) H) : Wo X (compareOp .Lt) (.int i) (.int j) σ H Q := wo_of op_lt ⟨i, j, rfl, rfl, q⟩
theorem wo_le {i j : Int} (q : Q (.bl (decide (i ≤ j))) H) : Wo X (compareOp .LtE) (.int i) (.int j) σ H Q := wo_of op_le ⟨i, j, rfl, rfl, q⟩
theorem wo_gt {i j : Int} (q : Q (.bl (decide (j < i))) H) : Wo X (compareOp .Gt) (.int i) (.int j) σ H Q := wo_of op_gt ⟨i, j, rfl, rfl, q⟩
theorem wo_ge {i j : Int} (q : Q (.bl (decide (j ≤ i))) H) : Wo X (compareOp .GtE) (.int i) (.int j) σ H Q := wo_of op_ge ⟨i, j, rfl, rfl, q⟩
theorem dec_v {i j : Int} : decide (V.int i = V.int j) = decide (i = j) := by
  by_cases h : i = j
  · rw [decide_eq_true h, decide_eq_true (congrArg V.int h)]
  · rw [decide_eq_false h, decide_eq_false (fun z => h (V.int.inj z))]
theorem wo_eqI {i j : Int} (q : Q (.bl (decide (i = j))) H) : Wo X (compareOp .Eq) (.int i) (.int j) σ H Q := wo_of op_eq ⟨rfl, by rw [dec_v]; exact q⟩
theorem wo_neI {i j : Int} (q : Q (.bl (!decide (i = j))) H) : Wo X (compareOp .NotEq) (.int i) (.int j) σ H Q := wo_of op_ne ⟨rfl, by rw [dec_v]; exact q⟩
theorem wu_negI {i : Int} (q : Q (.int (-i)) H) : Wu X (unaryOp .USub) (.int i) σ H Q := wu_of un_neg ⟨i, rfl, q⟩
theorem wo_isN {x : V} (q : Q (.bl (decide (x = .non))) H) : Wo X (compareOp .Is) x .non σ H Q := wo_of op_isN ⟨rfl, q⟩
theorem wo_notN {x : V} (q : Q (.bl (!decide (x = .non))) H) : Wo X (compareOp .IsNot) x .non σ H Q := wo_of op_notN ⟨rfl, q⟩
/-! ### tests whose outcome is open, known -/
theorem if_d {c : Prop} [Decidable c] {A B : Prop} (h1 : c → A) (h2 : ¬ c → B) : if decide c = true then A else B := by
  by_cases h : c
  · rw [decide_eq_true h, if_pos rfl]; exact h1 h
  · rw [decide_eq_false h, if_neg Bool.false_ne_true]; exact h2 h
theorem if_nd {c : Prop} [Decidable c] {A B : Prop} (h1 : ¬ c → A) (h2 : c → B) : if (!decide c) = true then A else B := by
  by_cases h : c
  · rw [decide_eq_true h, Bool.not_true, if_neg Bool.false_ne_true]; exact h2 h
  · rw [decide_eq_false h, Bool.not_false, if_pos rfl]; exact h1 h
theorem if_b {c : Bool} {A B : Prop} (h1 : c = true → A) (h2 : c = false → B) : if c = true then A else B := by
  cases c
  · exact h2 rfl
  · exact h1 rfl
theorem if_t {A B : Prop} (h : A) : if true = true then A else B := h
theorem if_f {A B : Prop} (h : B) : if false = true then A else B := h
theorem if_nt {A B : Prop} (h : B) : if (!true) = true then A else B := h
theorem if_nf {A B : Prop} (h : A) : if (!false) = true then A else B := h
theorem if_dt {c : Prop} [Decidable c] {A B : Prop} (hc : c) (h : A) : if decide c = true then A else B := by rw [decide_eq_true hc]; exact h
theorem if_df {c : Prop} [Decidable c] {A B : Prop} (hc : ¬ c) (h : B) : if decide c = true then A else B := by rw [decide_eq_false hc]; exact h
/-! ### built-ins by their rule -/
theorem wcb_gcd {t b : Int} (q : Q (.int ((Nat.gcd t.natAbs b.natAbs : Nat) : Int)) H) : Wcb X (.builtin "math.gcd") [.int t, .int b] H Q := ⟨_, cr_gcd, t, b, rfl, q⟩
theorem we_callGB {e : Expr} {es : List Expr} {x : Str} {id : String} {p pos : Pos} (hg : Gl X x) (hm : X.mg x = some (.builtin id)) (hdb : (x == ("__debug__" : Str)) = false)
    (he : starEach (e :: es) X.env = (false, eval e X.env) :: starEach es X.env) (hpl : (backTo pos (starEach es X.env)).any (·.1) = false)
    (h : Wa X (e :: es) σ H fun vs H1 => Wcb X (.builtin id) vs H1 Q) : We X (.Call (.Name x p) (e :: es) [] pos) σ H Q :=
  we_of (pe_callBfun (Wcb.ok X _) hg hm Wa.pa hdb he hpl) h
theorem wcb_abs {n : Int} (q : Q (.int (if n < 0 then -n else n)) H) : Wcb X (.builtin "abs") [.int n] H Q := ⟨_, call_abs, n, rfl, q⟩
theorem wcb_intI {n : Int} (q : Q (.int n) H) : Wcb X (.type "int") [.int n] H Q := ⟨_, call_int1, .inl ⟨n, rfl, q⟩⟩
theorem wcb_isi {x c : V} {t u : Value} {b : Bool} (k : ClsV c u) (ty : TyX X.K H x t) (e : PySem.W.kitOne X.K t u = some b) (q : Q (.bl b) H) : Wcb X (.builtin "isinstance") [x, c] H Q := ⟨_, call_isi, x, c, t, u, b, rfl, k, ty, e, q⟩
theorem wcb_len {x : V} {n : Nat} (h : LenV X.K x H n) (q : Q (.int (n : Int)) H) : Wcb X (.builtin "len") [x] H Q := ⟨_, call_len, x, n, rfl, h, q⟩
end
end Ni
namespace Ni
open PySem PySem.Spec PyProof.Rows L2
section
variable {X : Cx} {σ : L2.St} {H : Hp} {Q : VK} {N G : List Str} {e : Expr} {es : List Expr} {x : Str} {p pos : Pos}
theorem we_callS {f : Addr} (S : Gs X G) (hx : x ∈ G) (hm : X.mg x = some (.ref f)) (hk : PySem.W.keepIn X.K (.ref f) = true)
    (he : starEach (e :: es) X.env = (false, eval e X.env) :: starEach es X.env) (hpl : (backTo pos (starEach es X.env)).any (·.1) = false)
    (h : Wa X (e :: es) σ H fun vs H1 => Wf X (.ref f) vs σ H1 Q) : We X (.Call (.Name x p) (e :: es) [] pos) σ H Q := we_call (S x hx).1 hm hk (S x hx).2 he hpl h
theorem we_callS0 {f : Addr} (S : Gs X G) (hx : x ∈ G) (hm : X.mg x = some (.ref f)) (hk : PySem.W.keepIn X.K (.ref f) = true)
    (h : Wf X (.ref f) [] σ H Q) : We X (.Call (.Name x p) [] [] pos) σ H Q := we_call0 (S x hx).1 hm hk (S x hx).2 h
theorem we_callBS {id : String} (S : Gs X G) (hx : x ∈ G) (hm : X.mg x = none) (hv : bootBuiltins x = some (.builtin id)) (hn : x ≠ "__name__")
    (he : starEach (e :: es) X.env = (false, eval e X.env) :: starEach es X.env) (hpl : (backTo pos (starEach es X.env)).any (·.1) = false)
    (h : Wa X (e :: es) σ H fun vs H1 => Wcb X (.builtin id) vs H1 Q) : We X (.Call (.Name x p) (e :: es) [] pos) σ H Q := we_callB (S x hx).1 hm hv hn (S x hx).2 he hpl h
theorem we_callTS {id : String} (S : Gs X G) (hx : x ∈ G) (hm : X.mg x = none) (hv : bootBuiltins x = some (.type id)) (hn : x ≠ "__name__")
    (he : starEach (e :: es) X.env = (false, eval e X.env) :: starEach es X.env) (hpl : (backTo pos (starEach es X.env)).any (·.1) = false)
    (h : Wa X (e :: es) σ H fun vs H1 => Wcb X (.type id) vs H1 Q) : We X (.Call (.Name x p) (e :: es) [] pos) σ H Q := we_callTy (S x hx).1 hm hv hn (S x hx).2 he hpl h
theorem we_callGS {id : String} (S : Gs X G) (hx : x ∈ G) (hm : X.mg x = some (.builtin id))
    (he : starEach (e :: es) X.env = (false, eval e X.env) :: starEach es X.env) (hpl : (backTo pos (starEach es X.env)).any (·.1) = false)
    (h : Wa X (e :: es) σ H fun vs H1 => Wcb X (.builtin id) vs H1 Q) : We X (.Call (.Name x p) (e :: es) [] pos) σ H Q := we_callGB (S x hx).1 hm (S x hx).2 he hpl h
/-- a class, a def as a value -/
theorem we_gref {f : Addr} (S : Gs X G) (hx : x ∈ G) (hm : X.mg x = some (.ref f)) (q : Q (.ref f) H) : We X (.Name x pos) σ H Q := we_of (pe_glob (S x hx).1 hm (v := .ref f) rfl (S x hx).2) q
theorem we_gty {n : String} (S : Gs X G) (hx : x ∈ G) (hm : X.mg x = none) (hv : bootBuiltins x = some (.type n)) (hn : x ≠ "__name__") (q : Q (.ty n) H) : We X (.Name x pos) σ H Q := we_of (pe_bltn (S x hx).1 hm hv (v := .ty n) rfl hn (S x hx).2) q
theorem ws_raiseS {D : Ends} {m : Str} {j : Nat} {p2 p3 : Pos} {C : Addr} (V1 : Env1 X) (S : Names1 X N G) (hx : x ∈ G) (gC : X.mg x = some (.ref C))
    (q : PySem.W.excIn X.K C He.veBase "ValueError.__new__" = true ∧ PySem.W.keepIn X.K (.ref C) = true ∧ PySem.W.subIn X.K (.ref C) (.type "BaseException") = some true ∧ PySem.W.typeIn X.K (.ref C) = some (.type "type"))
    (h : XW X (.ref C) none σ H) : Ws X (.Raise (some (.Call (.Name x p) [.Constant (.str m) j p2] [] p3)) none pos) D σ H :=
  ws_raiseT V1 PySem.F.excBase_ValueError q.1 gC q.2.1 (raises_own q.2.2.1 q.2.2.2) (S.glb x hx).1 (S.glb x hx).2 h
end
/-! ### what stands stays -/
theorem same_new {H : Hp} {p : Addr} {o : HO} (h : H p = none) : Same H (upd H p o) := fun b u e => by
  rw [upd_ne (ne_of_none e h)]
  exact e
theorem same_mut {H H' : Hp} {p : Addr} {o : HO} (s : Same H H') (h : H p = none) : Same H (upd H' p o) := fun b u e => by
  rw [upd_ne (ne_of_none e h)]
  exact s b u e
theorem at_mono {H H' : Hp} {p : Addr} {o : HO} (s : Same H H') (h : H p = some o) : H' p = some o := s p o h
end Ni
namespace Ni
open PySem PySem.Spec PyProof.Rows L2
theorem wcb_isE {X : Cx} {H : Hp} {Q : VK} {a D : Addr} {oe : Obj} {pn : List (Addr × Obj)} {c : V} {cv : Value} {b : Bool} (C : exccB X.K D = true) (hz : Zc (.ref D) none oe) (hf : ∃ vs, oe.data = .fields vs)
    (hc : ClsV c cv) (e : PySem.W.kitOne X.K (.ref D) cv = some b) (q : Q (.bl b) H) : Wcb (X.suite a ((a, oe) :: pn)) (.builtin "isinstance") [.ref a, c] H Q :=
  ⟨_, call_isE (excc_of C) hz hf, c, cv, b, rfl, fun u r => hc.eq r, e, q⟩
end Ni

/-! WQ: items, tuples, equality of data. -/
namespace Ni
open PySem PySem.Spec PyProof.Rows L2
def Ix (X : Cx) (x y : V) (H : Hp) (Q : VK) : Prop := ∃ r, IxR X r ∧ r x y H Q
theorem Ix.ok (X : Cx) : IxR X (fun x y H Q => Ix X x y H Q) := by
  intro value slice pins s σ H x y v u Q I rx ry h hs
  obtain ⟨r, hr, q⟩ := h
  exact hr value slice pins s σ H x y v u Q I rx ry q hs
def St (X : Cx) (o i v : V) (H : Hp) (Q : Hp → Prop) : Prop := ∃ t, PSet X t ∧ t o i v H Q
theorem St.ok (X : Cx) : PSet X (fun o i v H Q => St X o i v H Q) := by
  intro pins s σ H o i v ov iv u Q I r1 r2 r3 h
  obtain ⟨t, ht, q⟩ := h
  exact ht pins s σ H o i v ov iv u Q I r1 r2 r3 q
section
variable {X : Cx} {σ : L2.St} {H : Hp} {Q : VK} {a b o i : Expr} {es : List Expr} {pos : Pos} {p q : Addr} {xs ys : List V} {n : Int} {v : V}
theorem we_ix (hs : PlainIx b) (h : We X a σ H fun x H1 => We X b σ H1 fun y H2 => Ix X x y H2 Q) : We X (.Subscript a b pos) σ H Q := we_of (pe_ix (Ix.ok X) We.pe We.pe hs) h
theorem ix_l (h : SqL X.K H p xs) (e : atI xs n = some v) (k : Q v H) : Ix X (.ref p) (.int n) H Q := ⟨_, ix_list, p, xs, n, v, rfl, rfl, h, e, k⟩
theorem ix_t (h : SqT X.K H p xs) (e : atI xs n = some v) (k : Q v H) : Ix X (.ref p) (.int n) H Q := ⟨_, ix_tup, p, xs, n, v, rfl, rfl, h, e, k⟩
theorem ix_lh (h : H p = some (.lst xs)) (e : atI xs n = some v) (k : Q v H) : Ix X (.ref p) (.int n) H Q := ix_l (.of h) e k
theorem ix_th (h : H p = some (.tup xs)) (e : atI xs n = some v) (k : Q v H) : Ix X (.ref p) (.int n) H Q := ix_t (.of h) e k
theorem wg_sub {QG : L2.St → Hp → Prop} (ha : ∀ v, assign (.Subscript o i pos) X.env v = (do
      let ov ← holding [v] (eval o X.env)
      let iv ← holding [v, ov] (eval i X.env)
      standAt pos
      holding [v, ov, iv] (setItem ov iv v)
      release [v, ov, iv] []))
    (h : We X o σ H fun x H1 => We X i σ H1 fun y H2 => St X x y v H2 fun H3 => QG σ H3) : Wg X (.Subscript o i pos) v σ H QG := wg_of (pg_sub We.pe We.pe (St.ok X) ha) h
theorem st_l {j : Nat} {QH : Hp → Prop} (h : H p = some (.lst xs)) (e : ixN xs.length n = some j) (k : QH (upd H p (.lst (xs.set j v)))) : St X (.ref p) (.int n) v H QH := ⟨_, set_list, p, xs, n, j, rfl, rfl, h, e, k⟩
theorem we_tup {x1 : Nat} (h : Wa X es σ H fun vs H1 => vs.length ≤ sizeLine ∧ ∀ p, H1 p = none → Q (.ref p) (upd H1 p (.tup vs))) : We X (.Tuple es x1 pos) σ H Q := we_of (pe_tup Wa.pa) h
theorem size_ok {n : Nat} (h : n ≤ 100000) : n ≤ sizeLine := Nat.le_trans h (by decide)
/-- == of data -/
theorem wo_eqD {k : Nat} {x y : V} {d e : PyData} {c : Bool} (hr : Room k X.A) (hd : Dp X.K H x d) (he : Dp X.K H y e) (sd : SeqAt.shaped d = true) (se : SeqAt.shaped e = true) (hc : PyData.eqv d e = c) (q : Q (.bl c) H) : Wo X (compareOp .Eq) x y σ H Q :=
  wo_of (op_eqD hr.units) ⟨d, e, hd, he, sd, se, by rw [hc]; exact q⟩
theorem wo_neD {k : Nat} {x y : V} {d e : PyData} {c : Bool} (hr : Room k X.A) (hd : Dp X.K H x d) (he : Dp X.K H y e) (sd : SeqAt.shaped d = true) (se : SeqAt.shaped e = true) (hc : PyData.eqv d e = c) (q : Q (.bl (!c)) H) : Wo X (compareOp .NotEq) x y σ H Q :=
  wo_of (op_neD hr.units) ⟨d, e, hd, he, sd, se, by rw [hc]; exact q⟩
theorem dp_ints {K : PySem.W.Frag} : ∀ ns : List Int, DpAll K H (ns.map V.int) (ns.map PyData.int)
  | [] => .nil
  | n :: r => .cons (.int n) (dp_ints r)
theorem wo_eq_nil {k : Nat} {ns : List Int} (hr : Room k X.A) (hp : SqL X.K H p (ns.map V.int)) (hq : H q = some (.lst [])) (c : Q (.bl (decide (ns = []))) H) : Wo X (compareOp .Eq) (.ref p) (.ref q) σ H Q := by
  refine wo_eqD hr (.lst hp (dp_ints ns)) (.lst (.of hq) .nil) (PySem.W.shaped_ints ns) (by decide) ?_ c
  cases ns with
  | nil => rfl
  | cons a r => rfl
/-- two pairs of ints -/
theorem eqv_t2 (a b c d : Int) : PyData.eqv (.tuple [.int a, .int b]) (.tuple [.int c, .int d]) = decide (a = c ∧ b = d) := by
  simp only [PyData.eqv, PyData.eqvAll, Bool.and_true]
  by_cases h : a = c <;> by_cases h2 : b = d <;> simp [h, h2]
theorem sh_t2 (a b : Int) : SeqAt.shaped (.tuple [.int a, .int b]) = true := by
  simp [SeqAt.shaped, PyData.canLay0, PyData.canLayAll0, PyData.depth, PyData.depthAll]
theorem wo_eq_t2 {k : Nat} {a b c d : Int} (hr : Room k X.A) (hp : H p = some (.tup [.int a, .int b])) (hq : H q = some (.tup [.int c, .int d])) (z : Q (.bl (decide (a = c ∧ b = d))) H) : Wo X (compareOp .Eq) (.ref p) (.ref q) σ H Q :=
  wo_eqD hr (.tup (.of hp) (.cons (.int a) (.cons (.int b) .nil))) (.tup (.of hq) (.cons (.int c) (.cons (.int d) .nil))) (sh_t2 a b) (sh_t2 c d) (eqv_t2 a b c d) z
theorem wo_ne_t2 {k : Nat} {a b c d : Int} (hr : Room k X.A) (hp : H p = some (.tup [.int a, .int b])) (hq : H q = some (.tup [.int c, .int d])) (z : Q (.bl (!decide (a = c ∧ b = d))) H) : Wo X (compareOp .NotEq) (.ref p) (.ref q) σ H Q :=
  wo_neD hr (.tup (.of hp) (.cons (.int a) (.cons (.int b) .nil))) (.tup (.of hq) (.cons (.int c) (.cons (.int d) .nil))) (sh_t2 a b) (sh_t2 c d) (eqv_t2 a b c d) z
theorem wo_divS {i j : Int} (c : 0 < j ∧ j < 1073741824) (q : Q (.int (i / j)) H) : Wo X (binaryOp .FloorDiv) (.int i) (.int j) σ H Q := wo_of op_fdiv ⟨i, j, rfl, rfl, c, q⟩
theorem wo_mulL {i j : Int} (c : -(2 ^ 64) < i ∧ i < 2 ^ 64) (q : Q (.int (i * j)) H) : Wo X (binaryOp .Mult) (.int i) (.int j) σ H Q := wo_of op_mul ⟨i, j, rfl, rfl, .inl c, q⟩
theorem wo_pow {i j : Int} (c : 0 ≤ j ∧ j ≤ 1000000 ∧ i.natAbs < 2 ^ 64) (q : Q (.int (i ^ j.toNat)) H) : Wo X (binaryOp .Pow) (.int i) (.int j) σ H Q := wo_of op_pow ⟨i, j, rfl, rfl, c, q⟩
theorem wcb_lenL (h : SqL X.K H p xs) (k : Q (.int (xs.length : Int)) H) : Wcb X (.builtin "len") [.ref p] H Q := ⟨_, call_len_seq, p, xs, rfl, .inl h, k⟩
theorem wcb_lenT (h : SqT X.K H p xs) (k : Q (.int (xs.length : Int)) H) : Wcb X (.builtin "len") [.ref p] H Q := ⟨_, call_len_seq, p, xs, rfl, .inr h, k⟩
theorem wcb_listL (h : SqL X.K H p xs) (k : ∀ l, H l = none → Q (.ref l) (upd H l (.lst xs))) : Wcb X (.type "list") [.ref p] H Q := ⟨_, call_list_of, p, xs, rfl, .inl h, k⟩
end
end Ni

/-! WR: keywords. -/
namespace Ni
open PySem PySem.Spec PyProof.Rows L2
structure OkK (P : Program) (w : World) (K : PySem.W.Frag) (mg : Str → Option Value) (base : Heap) (k : Nat) (f : Addr) (ps : List Str) (n : Nat) (ks : List Str) (gV : List V → List V → List V) (sp : Sp) : Prop where
  ex : ∃ fd g, FnOk P w K mg base (L2.CX P w) k f fd ps sp ∧ KBn K fd ps n ks g gV
  kp : PySem.W.keepIn K (.ref f) = true
section
variable {X : Cx} {σ : L2.St} {H : Hp} {Q : VK} {k n : Nat} {f C : Addr} {ps ks : List Str} {sp : Sp} {vs zs : List V} {gV : List V → List V → List V} {e : Expr} {es : List Expr} {kws : List Keyword} {x : Str} {p pos kpos : Pos} {N G : List Str} {nm : Option Str}
theorem wk_nil {QA : List V → Hp → Prop} (q : QA [] H) : Wk X [] σ H QA := fun pos pins s I => pk_nil.run pos pins s σ H _ I q
theorem wk_cons {QA : List V → Hp → Prop} (h : We X e σ H fun v H1 => Wk X kws σ H1 fun vs H2 => QA (v :: vs) H2) : Wk X (⟨nm, e, kpos⟩ :: kws) σ H QA := fun pos pins s I => (pk_cons We.pe Wk.pk).run pos pins s σ H QA I h
theorem we_newK (S : Gs X G) (hx : x ∈ G) (hm : X.mg x = some (.ref C)) (M : Mk X.K C f) (O : OkK X.prog X.w X.K X.mg X.base k f ps (n + 1) ks gV sp) (hr : Room (k + 1) X.A)
    (hall : (backToKw pos (keywordEach kws X.env)).all (·.1.isSome) = true) (hks : (backToKw pos (keywordEach kws X.env)).filterMap (·.1) = ks)
    (he : starEach (e :: es) X.env = (false, eval e X.env) :: starEach es X.env)
    (hpl : ((backTo pos (starEach (e :: es) X.env)).any (·.1) || (backToKw pos (keywordEach kws X.env)).any (·.1.isNone)) = false)
    (h : Wa X (e :: es) σ H fun vs H1 => Wk X kws σ H1 fun zs H2 => vs.length = n ∧ zs.length = ks.length ∧
      ∀ a dx, H2 a = none → H2 dx = none → dx ≠ a → sp (gV (.ref a :: vs) zs) (upd (upd H2 dx (.own a)) a (.ins C dx [])) (fun v H3 => v = .non ∧ Q (.ref a) H3) (xk X σ)) : We X (.Call (.Name x p) (e :: es) kws pos) σ H Q := by
  obtain ⟨fd, g, F, hb⟩ := O.ex
  intro pins s I
  refine wpAny_Call_Name_kw (ld_glob I (S x hx).1 hm ?_ (S x hx).2)
  refine PySem.W.callWith_KW (h₀ := X.base) I.ok.mod.kin M.kp hall (thn (h pos pins s I) fun us s1 ⟨vs, H1, I1, r, q⟩ => ?_) hpl he
  refine thn (q pos pins s1 I1) fun ws s2 ⟨zs, H2, I2, rz, l1, l2, q2⟩ => ⟨I2.kIn, ?_⟩
  rw [hks]
  have hq := q2 (s2.heap.objs.size + 1) s2.heap.objs.size (I2.hok.fresh (Nat.le_succ _)) (I2.hok.fresh (Nat.le_refl _)) (Nat.ne_of_lt (Nat.lt_succ_self _))
  have I3 := Inv.made (C := C) I2
  have r1 : Vals (V.ref (s2.heap.objs.size + 1) :: vs) (Value.ref (s2.heap.objs.size + 1) :: us) := .cons rfl r
  have r2 := hb.rel r1 rz
  have e1 : (Value.ref (s2.heap.objs.size + 1) :: us).length = n + 1 := r1.length.symm.trans (congrArg Nat.succ l1)
  have e2 : ws.length = ks.length := rz.length.symm.trans l2
  refine wpAny_call (make_map (f := f) I2.kIn M.makes M.init (beq_iff_eq.mp M.fn) (codeAny_mono (F.run _ X.stack _ _ ⟨Value.ref (s2.heap.objs.size + 1) :: us, ks.zip ws⟩ (g (Value.ref (s2.heap.objs.size + 1) :: us) ws) _ _ (xk X σ) (hr.make C us (ks.zip ws))
    (I3.env0.make C us (ks.zip ws)) (hb.to _ (Value.ref (s2.heap.objs.size + 1) :: us) ws I3.kIn e1 e2) r2 hq) fun rr s' hq' => ?_))
  cases rr with
  | error ee => exact passAt (xw_takes X) σ pins _ _ ee s' I3 hq'
  | ok fl =>
    cases fl with
    | ret u =>
      obtain ⟨v, H', I4, rv, ev, q3⟩ := I3.after hq'
      subst ev
      exact ⟨rv, ⟨V.ref (s2.heap.objs.size + 1), H', I4, rfl, q3⟩⟩
    | next => exact False.elim hq'
    | brk => exact False.elim hq'
    | cont => exact False.elim hq'
end
end Ni
namespace Ni
open PySem PySem.Spec PyProof.Rows L2
/-- a goal to stop at -/
def Jn (p : Prop) : Prop := p
section
variable {X : Cx} {σ : L2.St} {H : Hp} {b sts sts' rest : List Stmt} {D D' : Ends}
theorem SP.imp {pins : List (Addr × Obj)} {r : Flow} {s : Shared} (h1 : ∀ σ H, D.nx σ H → D'.nx σ H) (h2 : ∀ v H, D.rt v H → D'.rt v H) (h3 : ∀ σ H, D.bk σ H → D'.bk σ H) (h4 : ∀ σ H, D.ct σ H → D'.ct σ H) (h : SP X pins D r s) : SP X pins D' r s := by
  cases r with
  | next => obtain ⟨σ, H, I, q⟩ := h; exact ⟨σ, H, I, h1 _ _ q⟩
  | ret u => obtain ⟨v, σ, H, I, r, q⟩ := h; exact ⟨v, σ, H, I, r, h2 _ _ q⟩
  | brk => obtain ⟨σ, H, I, q⟩ := h; exact ⟨σ, H, I, h3 _ _ q⟩
  | cont => obtain ⟨σ, H, I, q⟩ := h; exact ⟨σ, H, I, h4 _ _ q⟩
theorem Wb.imp (k : ∀ σ H, D.nx σ H → D'.nx σ H) (k2 : ∀ v H, D.rt v H → D'.rt v H) (k3 : ∀ σ H, D.bk σ H → D'.bk σ H) (k4 : ∀ σ H, D.ct σ H → D'.ct σ H) (h : Wb X b D σ H) : Wb X b D' σ H := fun pins s I => thn (h pins s I) fun _ _ q => SP.imp k k2 k3 k4 q
/-- both branches of an if meet at J -/
theorem if_join {c : Prop} [Decidable c] (J : L2.St → Hp → Prop) (h1 : c → Wb X sts { D with nx := fun σ' H' => Jn (J σ' H') } σ H) (h2 : ¬ c → Wb X sts' { D with nx := fun σ' H' => Jn (J σ' H') } σ H) (h : ∀ σ' H', J σ' H' → Wb X rest D σ' H') :
    if decide c = true then Wb X sts { D with nx := Wb X rest D } σ H else Wb X sts' { D with nx := Wb X rest D } σ H :=
  if_d (fun z => Wb.imp (D := { D with nx := fun σ' H' => Jn (J σ' H') }) (fun σ' H' q => h σ' H' q) (fun _ _ q => q) (fun _ _ q => q) (fun _ _ q => q) (h1 z)) (fun z => Wb.imp (D := { D with nx := fun σ' H' => Jn (J σ' H') }) (fun σ' H' q => h σ' H' q) (fun _ _ q => q) (fun _ _ q => q) (fun _ _ q => q) (h2 z))
end
/-- a law, its context by the world -/
theorem walk_w {l : PySem.W.OpenLaw} {n k : Nat} {q : Program} {loose : List Str} {XP : (Str → Option Value) → Heap → Prop} {YP : World → Heap → Prop} {d : DefRec} {CX : World → CXT} {x : Str}
    (hn : l.most = some n) (hn2 : n ≤ sizeLine) (hdf : d.params.defaults = []) (hr : Room k callerA)
    (F : ∀ (w : World) (mg : Str → Option Value) (fa : Addr) (h : Heap), YP w h → h.Ns mainGlobals mg → mg d.name = some (.ref fa) →
      ∃ (K : PySem.W.Frag) (fd : FuncData) (sp : Sp), K.In h ∧ (∀ (s : Shared) (u : Value), BindsTo s fd ⟨[u], []⟩ [(x, u)]) ∧
        (∀ (H : Hp) (a : Addr) (ns : List Int), ns.length ≤ n → Only H → SqL K H a (ns.map V.int) → sp [.ref a] H (fun v _ => v = .bl true) fun _ _ _ => False) ∧
        ∀ base : Heap, K.In base → base.Ns mainGlobals mg → FnOk l.prog w K mg base (CX w) k fa fd [x] sp)
    (hCX : ∀ (w : World) (H : Hp) (s : Shared) (e : Value) (s' : Shared), CX w [] H s (fun _ _ _ => False) e s' → False) :
    PySem.W.WalkO q loose XP YP l.row.toRowW d [] (fun f vs => PySem.call f vs) := by
  refine Att.attach_call hn hdf fun w s0 s1 mg mb fa o pm cd doc a vs ns G Y ho hd hcd hmg hobj hints hlen hg => ?_
  obtain ⟨K, fd, sp, KX, hb, hsp, hF⟩ := F w mg fa _ Y G.T.g hmg
  exact law_call KX G.T.g G.T.b G.T.builtins G.T.nolimit hg hobj hints (Nat.le_trans hlen hn2) hr hF hb (fun H hO hS => hsp H a ns hlen hO hS) fun H e s' => hCX w H s1 e s'
end Ni

/-! WS: a number on the left, an instance on the right. -/
namespace Ni
open PySem PySem.Spec PyProof.Rows PySem.W
section
variable {prog : Program} {w : World} {A : Around} {E : Value → Shared → Prop} {s : Shared} {K : Frag} {x C L f f0 : Addr} {h0 : Heap} {m : Str → Option Value} {ox : Obj} {od : Option Obj} {n : Int} {t : Tok}
/-- a built-in method gives up -/
def GivesUp (id : String) : Prop := ∀ {prog : Program} {w : World} {A : Around} {E : Value → Shared → Prop} {s : Shared} {Q : Value → Shared → Prop} (n : Int) (t : Tok) (x : Addr) (o : Obj), s.heap.get? x = some o → o.data = .plain → Q .notImplemented s →
  wpAny (model prog w) A (call (.builtin id) [.int n t, .ref x]) Q E s
theorem up_bin {name : String} {g : Int → Int → Sem Fin} {s : Shared} {A : Around} {M : Model} {Q : Fin → Shared → Prop} {E : Value → Shared → Prop} (n : Int) (t : Tok) (x : Addr) (o : Obj) (h1 : s.heap.get? x = some o) (h2 : o.data = .plain)
    (q : Q (.done (.ret .notImplemented)) s) : wpAny M A (PySem.Builtin.Int.intBinary name g false ⟨[.int n t, .ref x], []⟩) Q E s := by
  unfold PySem.Builtin.Int.intBinary
  refine wpAny_bind (m := slotArgs name 1 _) (wpAny_pure ?_)
  refine wpAny_bind (m := PySem.Builtin.Int.intOfSelf (.int n t)) (wpAny_pure ?_)
  refine wpAny_bind (m := asInt? (.ref x)) ?_
  unfold asInt?
  refine wpAny_bind (wpAny_load h1 ?_)
  rw [h2]
  show wpAny M A (pure none) _ _ _
  refine wpAny_pure ?_
  exact wpAny_bind (wpAny_rule (wpAny_pure q))
theorem gives_up {id : String} {b : Builtin} {name : Str} {nm : String} {g : Int → Int → Sem Fin} (slot : Slot "int" name id) (entry : entryFor table id = some b) (args : ∀ a b : Value, argsOk id ⟨[a, b], []⟩) (e : b = PySem.Builtin.Int.intBinary nm g false) : GivesUp id := by
  intro prog w A E s Q n t x o h1 h2 q
  refine wpAny_call_entry slot (typeIs_int s n t) entry ?_ (args _ _)
  rw [e]
  exact up_bin n t x o h1 h2 ⟨_, rfl, q⟩
theorem up_add : GivesUp "int.__add__" := gives_up F.slot_int_add F.entry_int_add F.args_int_add_2 rfl
theorem up_sub : GivesUp "int.__sub__" := gives_up F.slot_int_sub F.entry_int_sub F.args_int_sub_2 rfl
theorem up_mul : GivesUp "int.__mul__" := gives_up F.slot_int_mul F.entry_int_mul F.args_int_mul_2 rfl
theorem up_mod : GivesUp "int.__mod__" := gives_up F.slot_int_mod F.entry_int_mod F.args_int_mod_2 rfl
theorem up_floordiv : GivesUp "int.__floordiv__" := by
  intro prog w A E s Q n t x o h1 h2 q
  refine wpAny_call_entry F.slot_int_floordiv (typeIs_int s n t) F.entry_int_floordiv ?_ (F.args_int_floordiv_2 _ _)
  unfold PySem.Builtin.«int.__floordiv__»
  refine wpAny_bind ?_
  have as1 : ∀ {R : Option Int → Shared → Prop}, R none s → wpAny (model prog w) A.in1 (asInt? (.ref x)) R (fun _ _ => False) s := fun {R} r => by
    unfold asInt?
    refine wpAny_bind (wpAny_load h1 ?_)
    rw [h2]
    exact wpAny_pure r
  have ex : wpAny (model prog w) A.in1 (PySem.Builtin.exactOperandsForPylong false ⟨[.int n t, .ref x], []⟩) (fun _ s' => s' = s) (fun _ _ => False) s := by
    unfold PySem.Builtin.exactOperandsForPylong
    rw [if_pos (show ([Value.int n t, Value.ref x].any Value.onHeap) = true by rfl)]
    refine wpAny_bind (m := asInt? (.int n t)) (wpAny_pure ?_)
    refine wpAny_bind (as1 ?_)
    exact wpAny_pure rfl
  refine wpAny_mono ex (fun _ s' e => ?_) fun _ _ e => False.elim e
  subst e
  exact up_bin n t x o h1 h2 ⟨_, rfl, q⟩
theorem up_lt : GivesUp "int.__lt__" := gives_up F.slot_int_lt F.entry_int_lt F.args_int_lt_2 rfl
theorem up_le : GivesUp "int.__le__" := gives_up F.slot_int_le F.entry_int_le F.args_int_le_2 rfl
theorem up_gt : GivesUp "int.__gt__" := gives_up F.slot_int_gt F.entry_int_gt F.args_int_gt_2 rfl
theorem up_ge : GivesUp "int.__ge__" := gives_up F.slot_int_ge F.entry_int_ge F.args_int_ge_2 rfl
theorem up_eq : GivesUp "int.__eq__" := gives_up F.slot_int_eq F.entry_int_eq F.args_int_eq_2 rfl
theorem up_ne : GivesUp "int.__ne__" := gives_up F.slot_int_ne F.entry_int_ne F.args_int_ne_2 rfl
theorem bin_right {op : Operator} {idl : String} {Q : Value → Shared → Prop} (F : Fr h0 L s.heap m) (X0 : K.In h0) (I : InstAt s.heap x ox C od) (hd : ox.data = .plain) (hc : selfFirst K C = true)
    (hs : findIn K (.ref C) (PySem.dunder op.info.2) = some (some (.ref f0))) (hr : findIn K (.ref C) (dunderR op.info.2) = some (some (.ref f))) (hf : isFn K (.ref f) = true)
    (hT : fillsNumberSlot (.type "int") op.info.2 = pure true) (hsub : subIn K (.ref C) (.type "int") = some false) (hl : Slot "int" (PySem.dunder op.info.2) idl) (up : GivesUp idl)
    (h : wpAny (model prog w) A (call (.ref f) [.ref x, .int n t]) (PySem.W.CmpBack Q) E s) : wpAny (model prog w) A (binaryOp op (.int n t) (.ref x)) Q E s := by
  have X := X0.keeps F.keep
  obtain ⟨cd, rest, hcd, hm⟩ := ksp_first hc
  rcases hi : op.info with ⟨sym, nm⟩
  rw [hi] at hs hr hT hl
  dsimp only at hs hr hT hl
  have one := ksp_try X I hr hf h
  have hne : (Value.type "int" == Value.ref C) = false := Bool.eq_false_iff.mpr fun q => by cases beq_iff_eq.mp q
  simp only [binaryOp, hi]
  refine wpAny_holding (wpAny_bind ?_)
  unfold binaryOp1
  refine wpAny_bind (wpAny_typeOf (typeIs_int s n t) (wpAny_bind (I.type.here (wpAny_bind (wpAny_of_eq hT ?_)))))
  simp only [hne, Bool.false_eq_true, if_false]
  refine wpAny_bind ((fills_K X hcd hm hs).here ?_)
  simp only [Bool.and_self, if_true]
  refine wpAny_bind ((looks_subIn X hsub).here ?_)
  have hpy : numberSlotInPython (.type "int") nm = pure false := rfl
  simp only [Bool.false_eq_true, if_false, pure_bind, Bool.not_false, Bool.and_self, if_true, hpy]
  refine wpAny_bind (m := tryMethod (.int n t) _ (.ref x)) ?_
  have lft : wpAny (model prog w) A (tryMethod (.int n t) (PySem.dunder nm) (.ref x)) (fun r s' => r = none ∧ s' = s) E s := by
    unfold tryMethod
    exact wpAny_bind (wpAny_callSpecial?_slot (typeIs_int s n t) hl (up n t x ox I.at_ hd (wpAny_pure ⟨rfl, rfl⟩)))
  refine wpAny_mono lft (fun r s' z => ?_) fun _ _ e => e
  obtain ⟨rfl, rfl⟩ := z
  dsimp only
  refine wpAny_bind (wpAny_mono one (fun r s' z => ?_) fun _ _ e => e)
  obtain ⟨v, rfl, hq⟩ := z
  exact wpAny_bind (wpAny_rule (wpAny_pure (wpAny_pure hq)))
theorem cmp_right {op : CmpOp} {idl : String} {Q : Value → Shared → Prop} (hu : A.units < cLine) (F : Fr h0 L s.heap m) (X0 : K.In h0) (I : InstAt s.heap x ox C od) (hd : ox.data = .plain)
    (hr : findIn K (.ref C) (cmpInfo op).2.2 = some (some (.ref f))) (hf : isFn K (.ref f) = true) (hsub : subIn K (.ref C) (.type "int") = some false) (hl : Slot "int" (cmpInfo op).2.1 idl) (up : GivesUp idl)
    (h : wpAny (model prog w) A (call (.ref f) [.ref x, .int n t]) (PySem.W.CmpBack Q) E s) : wpAny (model prog w) A (richCompare op (.int n t) (.ref x)) Q E s := by
  have X := X0.keeps F.keep
  have one : wpAny (model prog w) A (tryCompare (.ref x) (cmpInfo op).2.2 (.int n t)) (fun r s' => ∃ v, r = some v ∧ Q v s') E s := by
    unfold tryCompare
    refine wpAny_bind (ifBound_K X I hr hf (wpAny_mono h (fun v s' hv => ?_) fun _ _ e => e))
    cases v <;> first | exact hv.elim | exact wpAny_pure ⟨_, rfl, hv⟩
  have lft : wpAny (model prog w) A (tryCompare (.int n t) (cmpInfo op).2.1 (.ref x)) (fun r s' => r = none ∧ s' = s) E s := by
    unfold tryCompare
    exact wpAny_bind (wpAny_callSpecialIfBound?_slot (typeIs_int s n t) hl (up n t x ox I.at_ hd (wpAny_pure ⟨rfl, rfl⟩)))
  have hne : (Value.type "int" != Value.ref C) = true := by
    show (!(Value.type "int" == Value.ref C)) = true
    have z : (Value.type "int" == Value.ref C) = false := Bool.eq_false_iff.mpr fun q => by cases beq_iff_eq.mp q
    rw [z]
    rfl
  unfold richCompare
  simp only [(typeIs_int s n t).oneThing_none op]
  refine wpAny_holding (wpAny_bind (wpAny_cRoomFor hu ?_))
  refine wpAny_bind (wpAny_typeOf (typeIs_int s n t) (wpAny_bind (I.type.here ?_)))
  simp only [hne, if_true]
  refine wpAny_bind ((looks_subIn X hsub).here ?_)
  simp only [Bool.false_eq_true, if_false]
  refine wpAny_bind (wpAny_mono lft (fun r s' z => ?_) fun _ _ e => e)
  obtain ⟨rfl, rfl⟩ := z
  simp only [Bool.not_false, if_true]
  refine wpAny_bind (wpAny_mono one (fun r s' z => ?_) fun _ _ e => e)
  obtain ⟨v, rfl, hq⟩ := z
  exact wpAny_pure hq
end
end Ni

/-! WT: in-place signs over own classes, abs. -/
namespace Ni
open PySem PySem.Spec PyProof.Rows PySem.W PySem.Calls
/-- no in-place method of that sign -/
def noiB (K : Frag) (C : Addr) (nm : String) : Bool := (match clsIn K C with
  | some cd => decide (cd.mro = [.ref C, .type "object"])
  | none => false) && decide (findIn K (.ref C) (dunderI nm) = some none)
section
variable {prog : Program} {w : World} {M : Model} {A : Around} {E : Value → Shared → Prop} {s : Shared} {K : Frag} {x C L f f0 : Addr} {h0 : Heap} {m : Str → Option Value} {ox : Obj} {od : Option Obj} {n : Int} {t : Tok}
theorem noi_of {nm : String} {add : Bool} {h : Heap} (X : K.In h) (hn : noiB K C nm = true) (ho : typeLookup (.type "object") (dunderI nm) = pure none) : Looks M h (fillsInplaceSlot (.ref C) nm add) false := by
  intro A Q E s k q
  obtain ⟨c1, c2⟩ := Bool.and_eq_true_iff.mp hn
  cases hc : clsIn K C with
  | none => rw [hc] at c1; cases c1
  | some cd =>
    rw [hc] at c1
    have hm := of_decide_eq_true c1
    have X' := X.keeps k
    have lm : Looks M s.heap (mroOf (.ref C)) cd.mro := (looks_clsIn X' hc).andThen (f := fun cd => pure cd.mro) .now
    have li : Looks M s.heap (typeLookup (.ref C) (dunderI nm)) none := looks_findIn X' (of_decide_eq_true c2)
    unfold fillsInplaceSlot
    refine wpAny_bind (lm.here ?_)
    rw [hm, List.anyM_cons]
    refine wpAny_bind ?_
    refine wpAny_bind (li.here (wpAny_pure ?_))
    rw [if_neg Bool.false_ne_true, List.anyM_cons]
    refine wpAny_bind ?_
    refine wpAny_bind (wpAny_of_eq ho (wpAny_pure ?_))
    rw [if_neg Bool.false_ne_true]
    exact wpAny_pure q
theorem bin1_two {nm : String} {b : Value} {Q : Value → Shared → Prop} (X : K.In s.heap) (I : InstAt s.heap x ox C od) (tb : Looks M s.heap (typeOf b) (.ref C)) (hc : selfFirst K C = true)
    (hs : findIn K (.ref C) (PySem.dunder nm) = some (some (.ref f))) (one : wpAny M A (tryMethod (.ref x) (PySem.dunder nm) b) (fun r s' => ∃ v, r = some v ∧ Q v s') E s) :
    wpAny M A (binaryOp1 nm (.ref x) b) (fun r s' => ∃ v, r = some v ∧ Q v s') E s := by
  obtain ⟨cd, rest, c1, c2⟩ := ksp_first hc
  unfold binaryOp1
  refine wpAny_bind (I.type.here ?_)
  refine wpAny_bind (tb.here ?_)
  refine wpAny_bind ((fills_K X c1 c2 hs).here ?_)
  rw [if_pos (beq_self_eq_true _)]
  refine wpAny_bind (wpAny_pure ?_)
  simp only [Bool.and_false, Bool.false_and, Bool.false_eq_true, if_false, if_true, pure_bind]
  refine wpAny_bind (wpAny_mono one (fun r s' z => ?_) fun _ _ e => e)
  obtain ⟨v, rfl, q⟩ := z
  exact wpAny_pure ⟨_, rfl, q⟩
theorem bin1_int {nm : String} {b : Value} {ro rc : Option Value} {Q : Value → Shared → Prop} (X : K.In s.heap) (I : InstAt s.heap x ox C od) (tb : typeOf b = pure (.type "int")) (hc : selfFirst K C = true)
    (hs : findIn K (.ref C) (PySem.dunder nm) = some (some (.ref f))) (hr : findIn K (.ref C) (dunderR nm) = some rc) (hp : rc = none ∨ ∃ g : Addr, rc = some (.ref g)) (hT : fillsNumberSlot (.type "int") nm = pure true)
    (h2 : findIn K (.type "int") (dunderR nm) = some ro) (hsub : subIn K (.type "int") (.ref C) = some false) (one : wpAny M A (tryMethod (.ref x) (PySem.dunder nm) b) (fun r s' => ∃ v, r = some v ∧ Q v s') E s) :
    wpAny M A (binaryOp1 nm (.ref x) b) (fun r s' => ∃ v, r = some v ∧ Q v s') E s := by
  obtain ⟨cd, rest, c1, c2⟩ := ksp_first hc
  have ne : (Value.ref C == Value.type "int") = false := Bool.eq_false_iff.mpr fun q => by cases beq_iff_eq.mp q
  have hpy : numberSlotInPython (.type "int") nm = pure false := rfl
  unfold binaryOp1
  refine wpAny_bind (I.type.here ?_)
  refine wpAny_bind (wpAny_of_eq tb ?_)
  refine wpAny_bind ((fills_K X c1 c2 hs).here ?_)
  rw [if_neg (by rw [ne]; exact Bool.false_ne_true)]
  refine wpAny_bind (wpAny_of_eq hT ?_)
  simp only [Bool.and_self, if_true]
  refine wpAny_bind ((looks_subIn X hsub).here ?_)
  simp only [Bool.false_eq_true, if_false, pure_bind, Bool.not_false, Bool.and_self, if_true, hpy]
  refine wpAny_bind ((ksp_inPy X hs hr hp).here ?_)
  simp only [if_true, pure_bind, hpy, Bool.not_false]
  refine wpAny_bind ((looks_findIn X h2).here ?_)
  refine wpAny_bind (wpAny_mono one (fun r s' z => ?_) fun _ _ e => e)
  obtain ⟨v, rfl, q⟩ := z
  exact wpAny_pure ⟨_, rfl, q⟩
theorem iop_of {op : Operator} {b : Value} {Q : Value → Shared → Prop} (X : K.In s.heap) (I : InstAt s.heap x ox C od) (hn : noiB K C op.info.2 = true) (ho : typeLookup (.type "object") (dunderI op.info.2) = pure none)
    (h : wpAny M A (binaryOp1 op.info.2 (.ref x) b) (fun r s' => ∃ v, r = some v ∧ Q v s') E s) : wpAny M A (inplaceOp op (.ref x) b) Q E s := by
  unfold inplaceOp
  refine wpAny_holding ?_
  refine wpAny_bind (I.type.here ?_)
  refine wpAny_bind ((noi_of X hn ho).here ?_)
  simp only [Bool.false_eq_true, if_false, pure_bind]
  refine wpAny_bind (wpAny_mono h (fun r s' z => ?_) fun _ _ e => e)
  obtain ⟨v, rfl, q⟩ := z
  exact wpAny_pure q
theorem abs_own {Q : Value → Shared → Prop} (X : K.In s.heap) (I : InstAt s.heap x ox C od) (hs : findIn K (.ref C) "__abs__" = some (some (.ref f))) (hf : isFn K (.ref f) = true)
    (h : wpAny (model prog w) A.in1 (call (.ref f) [.ref x]) Q E s) : wpAny (model prog w) A (call (.builtin "abs") [.ref x]) Q E s := by
  refine call_function_entry kind_abs plain_abs entry_abs (args_abs _) ?_
  unfold Builtin.«abs»
  refine wpAny_bind (m := oneArg "abs" _) (wpAny_pure ?_)
  refine wpAny_bind (special_fn X I hs (beq_iff_eq.mp hf) (wpAny_mono h (fun v s' q => ?_) fun _ _ e => e))
  exact wpAny_pure ⟨_, rfl, q⟩
end
theorem no_iadd : typeLookup (.type "object") (dunderI "add") = pure none := by rw [typeLookup_type, builtinLookup_eq_fast]; kernel_rfl
theorem no_imul : typeLookup (.type "object") (dunderI "mul") = pure none := by rw [typeLookup_type, builtinLookup_eq_fast]; kernel_rfl
theorem no_isub : typeLookup (.type "object") (dunderI "sub") = pure none := by rw [typeLookup_type, builtinLookup_eq_fast]; kernel_rfl
end Ni

namespace Ni
open PySem PySem.Spec PyProof.Rows L2
section
variable {X : Cx} {σ : L2.St} {H : Hp} {Q : VK} {op : Operator} {cop : CmpOp} {C f f0 a b dx dy : Addr} {fs gs : List (Str × V)} {n : Int} {k : Nat}
/-- an int on the left, an instance on the right -/
theorem wo_right {idl : String} (ha : H a = some (.ins C dx fs)) (hc : PySem.W.selfFirst X.K C = true) (g0 : Sg X.K C (PySem.dunder op.info.2) f0) (g : Sg X.K C (dunderR op.info.2) f) (hT : fillsNumberSlot (.type "int") op.info.2 = pure true)
    (hsub : PySem.W.subIn X.K (.ref C) (.type "int") = some false) (hl : Slot "int" (PySem.dunder op.info.2) idl) (up : GivesUp idl) (h : Wf X (.ref f) [.ref a, .int n] σ H Q) : Wo X (binaryOp op) (.int n) (.ref a) σ H Q := by
  intro pins s v u I rx ry
  obtain ⟨t, rfl⟩ := rx
  cases ry
  obtain ⟨od, J⟩ := inst_at I ha
  obtain ⟨m, hF⟩ := I.fr
  refine bin_right hF I.ok.mod.kin J rfl hc g0.hs g.hs g.hf hT hsub hl up ?_
  exact thn (h pins s [.ref a, .int n t] I (.cons rfl (.cons ⟨t, rfl⟩ .nil))) fun _ _ q => told_of q
theorem wo_cmpR {idl : String} (hr : Room k X.A) (ha : H a = some (.ins C dx fs)) (g : Sg X.K C (cmpInfo cop).2.2 f) (hsub : PySem.W.subIn X.K (.ref C) (.type "int") = some false) (hl : Slot "int" (cmpInfo cop).2.1 idl) (up : GivesUp idl)
    (h : Wf X (.ref f) [.ref a, .int n] σ H Q) : Wo X (richCompare cop) (.int n) (.ref a) σ H Q := by
  intro pins s v u I rx ry
  obtain ⟨t, rfl⟩ := rx
  cases ry
  obtain ⟨od, J⟩ := inst_at I ha
  obtain ⟨m, hF⟩ := I.fr
  refine cmp_right hr.units0 hF I.ok.mod.kin J rfl g.hs g.hf hsub hl up ?_
  exact thn (h pins s [.ref a, .int n t] I (.cons rfl (.cons ⟨t, rfl⟩ .nil))) fun _ _ q => told_of q
theorem try_of {pins : List (Addr × Obj)} {s : Shared} {A : Around} {m : Str} {E : Value → Shared → Prop} {v : Value} (I : Inv X pins σ H s) (ha : H a = some (.ins C dx fs)) (g : Sg X.K C m f)
    (h : wpAny (model X.prog X.w) A (call (.ref f) [.ref a, v]) (EP X pins σ Q) E s) : wpAny (model X.prog X.w) A (tryMethod (.ref a) m v) (fun r s' => ∃ v, r = some v ∧ EP X pins σ Q v s') E s := by
  obtain ⟨od, J⟩ := inst_at I ha
  obtain ⟨m, hF⟩ := I.fr
  exact PySem.W.ksp_try (I.ok.mod.kin.keeps hF.keep) J g.hs g.hf (thn h fun _ _ q => told_of q)
theorem wi_two (ha : H a = some (.ins C dx fs)) (hb : H b = some (.ins C dy gs)) (hc : PySem.W.selfFirst X.K C = true) (g : Sg X.K C (PySem.dunder op.info.2) f) (hn : noiB X.K C op.info.2 = true) (ho : typeLookup (.type "object") (dunderI op.info.2) = pure none)
    (h : Wf X (.ref f) [.ref a, .ref b] σ H Q) : Wo X (inplaceOp op) (.ref a) (.ref b) σ H Q := by
  intro pins s v u I rx ry
  cases rx
  cases ry
  obtain ⟨od, J⟩ := inst_at I ha
  obtain ⟨od', J'⟩ := inst_at I hb
  obtain ⟨m, hF⟩ := I.fr
  have X' := I.ok.mod.kin.keeps hF.keep
  exact iop_of X' J hn ho (bin1_two X' J J'.type hc g.hs (try_of I ha g (h pins s [.ref a, .ref b] I (.cons rfl (.cons rfl .nil)))))
theorem wi_int {ro rc : Option Value} (ha : H a = some (.ins C dx fs)) (hc : PySem.W.selfFirst X.K C = true) (g : Sg X.K C (PySem.dunder op.info.2) f) (hn : noiB X.K C op.info.2 = true) (ho : typeLookup (.type "object") (dunderI op.info.2) = pure none)
    (hr : PySem.W.findIn X.K (.ref C) (dunderR op.info.2) = some rc) (hp : rc = none ∨ ∃ g : Addr, rc = some (.ref g)) (hT : fillsNumberSlot (.type "int") op.info.2 = pure true)
    (h2 : PySem.W.findIn X.K (.type "int") (dunderR op.info.2) = some ro) (hsub : PySem.W.subIn X.K (.type "int") (.ref C) = some false)
    (h : Wf X (.ref f) [.ref a, .int n] σ H Q) : Wo X (inplaceOp op) (.ref a) (.int n) σ H Q := by
  intro pins s v u I rx ry
  cases rx
  obtain ⟨t, rfl⟩ := ry
  obtain ⟨od, J⟩ := inst_at I ha
  obtain ⟨m, hF⟩ := I.fr
  have X' := I.ok.mod.kin.keeps hF.keep
  exact iop_of X' J hn ho (bin1_int X' J rfl hc g.hs hr hp hT h2 hsub (try_of I ha g (h pins s [.ref a, .int n t] I (.cons rfl (.cons ⟨t, rfl⟩ .nil)))))
/-- abs of an instance -/
theorem we_aug {e : Expr} {x : Str} {pos pos' : Pos} {D : Ends} {N G : List Str} {v : V} {σ' : V → L2.St} (S : Names1 X N G) (h0 : Var N σ x v) (h1 : ∀ u, Put N σ x u (σ' u))
    (h : We X e σ H fun y H1 => Wo X (inplaceOp op) v y σ H1 fun z H2 => D.nx (σ' z) H2) : Ws X (.AugAssign (.Name x pos') op e pos) D σ H := by
  obtain ⟨i, e1, e2⟩ := h0.at
  intro pins s I
  have hxm : x ∈ N := List.mem_of_getElem? e1
  have hloc := S.vis x hxm
  obtain ⟨m, fr, sl⟩ := I.loc
  obtain ⟨uv, ru, ld⟩ := sl i x v (by rw [S.eq]; exact e1) e2 (hloc.elim .inl fun z => .inr (.inl z))
  refine wpAny_AugAssign_Name ?_
  have body : wpAny (model X.prog X.w) X.A (eval e X.env) (fun y s2 => wpAny (model X.prog X.w) X.A (inplaceOp op uv y) (fun z s3 => wpAny (model X.prog X.w) X.A (storeName X.env x z) (fun _ => SP X pins D .next) X.xe s3) X.xe s2) X.xe s := by
    refine thn (h pins s I) fun y s2 hy => ?_
    obtain ⟨yv, H1, J1, ry, q1⟩ := hy
    refine thn (q1 pins s2 uv y J1 ru ry) fun z s3 hz => ?_
    obtain ⟨zv, H2, J2, rz, q2⟩ := hz
    obtain ⟨j, f1, f2⟩ := (h1 zv).at
    rw [f2] at q2
    exact store_ok J2 (by rw [S.eq]; exact S.nd) (by rw [S.eq]; exact f1) hloc rz (fun s4 J3 => ⟨_, H2, J3, q2⟩) (.inl (S.fn x))
  rcases ld with ⟨k1, k2⟩ | ⟨k1, c, k2, k3⟩
  · exact wpAny_loadName_local I.ok.kind k1 fr k2 body
  · rcases k1 with k1 | k1
    · exact wpAny_loadName_cell I.ok.kind k1 k2 k3 body
    · rcases hloc with z | z
      · exact absurd (z.symm.trans k1) (by decide)
      · exact absurd (z.symm.trans k1) (by decide)
/-- a call somewhere below the running body -/
def WfA (X : Cx) (A : Around) (f : Value) (vs : List V) (σ : L2.St) (H : Hp) (Q : VK) : Prop := ∀ pins s us, Inv X pins σ H s → Vals vs us → wpAny (model X.prog X.w) A (call f us) (EP X pins σ Q) X.xe s
theorem wfA_ok {A : Around} {ps : List Str} {dvs vs : List V} {sp : Sp} (O : OkD X.prog X.w X.K X.mg X.base k f ps dvs sp) (hr : Room k A) (hA : A.frames = X.A.frames) (h : sp (vs ++ dvs) H Q (xk X σ)) : WfA X A (.ref f) vs σ H Q := by
  obtain ⟨fd, ds, F, hd, hb⟩ := O.ex
  intro pins s us I r
  have r2 : Vals (vs ++ dvs) (us ++ ds) := r.append hd
  have len := r2.length.symm.trans (F.len _ _ _ _ h)
  have e0 : Env0 X.prog X.w X.K X.mg X.base A X.stack s H := by
    have e := I.env0
    exact ⟨hA.trans e.frames, e.mod, e.bs, e.bsz, e.funs, e.frf, e.hok, e.bare⟩
  refine wpAny_call (codeAny_mono (F.run A X.stack s H ⟨us, []⟩ (us ++ ds) (vs ++ dvs) Q (xk X σ) hr e0 (hb s us I.kIn len) r2 h) fun fl s2 z => ?_)
  match fl, z with
  | .error e, z => exact passAt (xw_takes X) σ pins _ _ e s2 I z
  | .ok (.ret u), z => exact I.after z
  | .ok .next, z => exact z.elim
  | .ok .brk, z => exact z.elim
  | .ok .cont, z => exact z.elim
theorem wcb_absO (ha : H a = some (.ins C dx fs)) (g : Sg X.K C "__abs__" f) (h : ∀ σ', WfA X X.A.in1 (.ref f) [.ref a] σ' H Q) : Wcb X (.builtin "abs") [.ref a] H Q := by
  refine ⟨fun vs H' Q' => vs = [.ref a] ∧ H' = H ∧ ∀ v H2, Q v H2 → Q' v H2, ?_, rfl, rfl, fun _ _ q => q⟩
  rintro pins s σ' H' vs us Q' I r ⟨rfl, rfl, k⟩
  obtain ⟨u, rfl, ru⟩ := vals1 r
  cases ru
  obtain ⟨od, J⟩ := inst_at I ha
  obtain ⟨m, hF⟩ := I.fr
  exact abs_own (I.ok.mod.kin.keeps hF.keep) J g.hs g.hf (thn (h σ' pins s _ I r) fun _ _ q => EP.imp k q)
end
end Ni

namespace Ni
open PySem PySem.Spec PyProof.Rows L2
theorem d_add : PySem.dunder (Operator.info .Add).2 = "__add__" := by decide +kernel
theorem r_add : dunderR (Operator.info .Add).2 = "__radd__" := by decide +kernel
theorem d_sub : PySem.dunder (Operator.info .Sub).2 = "__sub__" := by decide +kernel
theorem r_sub : dunderR (Operator.info .Sub).2 = "__rsub__" := by decide +kernel
theorem d_mul : PySem.dunder (Operator.info .Mult).2 = "__mul__" := by decide +kernel
theorem r_mul : dunderR (Operator.info .Mult).2 = "__rmul__" := by decide +kernel
theorem d_floordiv : PySem.dunder (Operator.info .FloorDiv).2 = "__floordiv__" := by decide +kernel
theorem r_floordiv : dunderR (Operator.info .FloorDiv).2 = "__rfloordiv__" := by decide +kernel
theorem d_mod : PySem.dunder (Operator.info .Mod).2 = "__mod__" := by decide +kernel
theorem r_mod : dunderR (Operator.info .Mod).2 = "__rmod__" := by decide +kernel
theorem d_pow : PySem.dunder (Operator.info .Pow).2 = "__pow__" := by decide +kernel
theorem r_pow : dunderR (Operator.info .Pow).2 = "__rpow__" := by decide +kernel
theorem Sg.of_eq {K : PySem.W.Frag} {C f : Addr} {m m' : Str} (e : m' = m) (g : Sg K C m f) : Sg K C m' f := e ▸ g
theorem find_eq {K : PySem.W.Frag} {c : Value} {m m' : Str} (e : m' = m) (h : ∃ fo, PySem.W.findIn K c m = some fo) : ∃ fo, PySem.W.findIn K c m' = some fo := e ▸ h
end Ni

/-! WU: != by object's own method, bool of an instance. -/
namespace Ni
open PySem PySem.Spec PyProof.Rows PySem.W PySem.Calls
/-- a class that has object's own != -/
def neB (K : Frag) (C : Addr) : Bool := decide (findIn K (.ref C) "__ne__" = some (some (.builtin "object.__ne__"))) && decide (subIn K (.ref C) (.type "object") = some true)
section
variable {prog : Program} {w : World} {M : Model} {A : Around} {E : Value → Shared → Prop} {s : Shared} {K : Frag} {x C L f f0 : Addr} {h0 : Heap} {m : Str → Option Value} {ox : Obj} {od : Option Obj} {n : Int} {t : Tok}
theorem chk_obj {id : String} {n : String} {rest : List Value} {Q : Unit → Shared → Prop} (X : K.In s.heap) (I : InstAt s.heap x ox C od) (hs : subIn K (.ref C) (.type "object") = some true) (hk : builtinKind id = some .slot) (hp : splitId id = some ("object", n))
    (ha : argsOk id ⟨.ref x :: rest, []⟩) (q : Q () s) : wpAny M A (checkBuiltinCall id ⟨.ref x :: rest, []⟩) Q E s := by
  simp only [checkBuiltinCall, hk, hp]
  refine wpAny_bind ?_
  have li : Looks M s.heap (isInstance (.ref x) (.type "object")) true := I.type.andThen (looks_subIn X hs)
  refine li.here ?_
  simp only [Bool.not_true, Bool.false_eq_true, if_false]
  cases hsig : Manifest.signature? id with
  | none => exact wpAny_pure q
  | some sig =>
    simp only [argsOk, hsig] at ha
    have h2 : Bind.checkArgs id sig ⟨.ref x :: rest, []⟩ = pure () := ha
    show wpAny M A (Bind.checkArgs id sig ⟨.ref x :: rest, []⟩) Q E s
    rw [h2]
    exact wpAny_pure q
theorem ne_try {b : Value} {Q : Option Value → Shared → Prop} (hu : A.in1.units < cLine) (X : K.In s.heap) (I : InstAt s.heap x ox C od) (hn : neB K C = true) (hs : findIn K (.ref C) "__eq__" = some (some (.ref f))) (hf : isFn K (.ref f) = true)
    (h : wpAny (model prog w) A.in1 (call (.ref f) [.ref x, b]) (fun v s' => ∃ c, v = .bool c ∧ Q (some (.bool (!c))) s') E s) : wpAny (model prog w) A (tryCompare (.ref x) "__ne__" b) Q E s := by
  obtain ⟨n1, n2⟩ := Bool.and_eq_true_iff.mp hn
  have S := F.cmp_object.ne
  unfold tryCompare
  simp only [callSpecialIfBound?, bindSpecialIfBound?]
  refine wpAny_bind ?_
  refine wpAny_holding (wpAny_bind (wpAny_bind (wpAny_bind (I.type.here ((looks_findIn X (of_decide_eq_true n1)).here ?_)))))
  refine wpAny_bind (wpAny_askSetting (wpAny_ite ?_))
  have run : wpAny (model prog w) A (call (.builtin "object.__ne__") [.ref x, b]) (fun v s' => ∃ c, v = .bool c ∧ Q (some (.bool c)) s') E s := by
    refine wpAny_call (codeAny_call_builtin S.plain F.cmpEntry_ne (chk_obj X I (of_decide_eq_true n2) F.cmpKind_ne F.cmpSplit_ne (F.cmpArgs_ne _ _) ?_))
    unfold Builtin.«object.__ne__»
    refine wpAny_bind (m := slotArgs "__ne__" 1 _) (wpAny_pure ?_)
    refine wpAny_bind (wpAny_cRoomFor hu ?_)
    refine wpAny_bind (m := callSpecialIfBound? (.ref x) "__eq__" [b]) (ifBound_K X I hs hf (wpAny_mono h (fun v s' z => ?_) fun _ _ e => e))
    obtain ⟨c, rfl, q⟩ := z
    refine wpAny_bind (m := truthy (.bool c)) (wpAny_truthy_bool ?_)
    exact wpAny_pure ⟨_, rfl, q⟩
  have fin : wpAny (model prog w) A (call (.builtin "object.__ne__") ([.ref x] ++ [b]) >>= fun v => pure (some v)) (fun v s' => ∃ c, v = some (.bool c) ∧ Q (some (.bool c)) s') E s := wpAny_bind (wpAny_mono run (fun v s' z => by
    obtain ⟨c, rfl, q⟩ := z
    exact wpAny_pure ⟨c, rfl, q⟩) fun _ _ e => e)
  simp only [S.bind]
  have fin2 : wpAny (model prog w) A (call (.builtin "object.__ne__") ([.ref x] ++ [b]) >>= fun v => pure (some v)) (fun v s' => wpAny (model prog w) A (match v with | some .notImplemented => pure none | none => pure none | some v => pure (some v)) Q E s') E s := wpAny_mono fin (fun v s' z => by
    obtain ⟨c, rfl, q⟩ := z
    exact wpAny_pure q) fun _ _ e => e
  split
  · exact wpAny_bind (wpAny_pure (wpAny_pure fin2))
  · exact wpAny_tryCatch (wpAny_bind (wpAny_pure (wpAny_pure fin2)))
/-- a != b, an instance on the left -/
theorem ne_left {b : Value} {tb : Value} {Q : Value → Shared → Prop} (hu : A.units < cLine) (hu1 : A.in1.units < cLine) (X : K.In s.heap) (I : InstAt s.heap x ox C od) (hb : Looks (model prog w) s.heap (typeOf b) tb) (nf : notFirst K C tb = true) (hn : neB K C = true)
    (hs : findIn K (.ref C) "__eq__" = some (some (.ref f))) (hf : isFn K (.ref f) = true) (h : wpAny (model prog w) A.in1 (call (.ref f) [.ref x, b]) (fun v s' => ∃ c, v = .bool c ∧ Q (.bool (!c)) s') E s) :
    wpAny (model prog w) A (richCompare .NotEq (.ref x) b) Q E s := by
  have one : wpAny (model prog w) A (tryCompare (.ref x) "__ne__" b) (fun r s' => ∃ v, r = some v ∧ Q v s') E s := ne_try hu1 X I hn hs hf (wpAny_mono h (fun v s' z => by
    obtain ⟨c, rfl, q⟩ := z
    exact ⟨c, rfl, _, rfl, q⟩) fun _ _ e => e)
  have e1 : (cmpInfo .NotEq).2.1 = "__ne__" := by decide +kernel
  unfold richCompare
  simp only [oneThing_ref]
  refine wpAny_holding (wpAny_bind (wpAny_cRoomFor hu ?_))
  refine wpAny_bind (I.type.here ?_)
  refine wpAny_bind (hb.here ?_)
  rw [cmpInfo_NotEq]
  dsimp only
  split
  · rename_i z
    have e : subIn K tb (.ref C) = some false := by
      rcases Bool.or_eq_true_iff.mp nf with y | y
      · rw [beq_iff_eq.mp y] at z
        simp at z
      · exact beq_iff_eq.mp y
    refine wpAny_bind ((looks_subIn X e).here ?_)
    rw [if_neg Bool.false_ne_true]
    refine wpAny_bind (wpAny_mono one (fun r s' z => ?_) fun _ _ e => e)
    obtain ⟨v, rfl, q⟩ := z
    exact wpAny_pure q
  · refine wpAny_bind (wpAny_pure ?_)
    rw [if_neg Bool.false_ne_true]
    refine wpAny_bind (wpAny_mono one (fun r s' z => ?_) fun _ _ e => e)
    obtain ⟨v, rfl, q⟩ := z
    exact wpAny_pure q
/-- n != b, an instance on the right -/
theorem ne_right {Q : Value → Shared → Prop} (hu : A.units < cLine) (hu1 : A.in1.units < cLine) (X : K.In s.heap) (I : InstAt s.heap x ox C od) (hd : ox.data = .plain) (hn : neB K C = true)
    (hs : findIn K (.ref C) "__eq__" = some (some (.ref f))) (hf : isFn K (.ref f) = true) (hsub : subIn K (.ref C) (.type "int") = some false) (h : wpAny (model prog w) A.in1 (call (.ref f) [.ref x, .int n t]) (fun v s' => ∃ c, v = .bool c ∧ Q (.bool (!c)) s') E s) :
    wpAny (model prog w) A (richCompare .NotEq (.int n t) (.ref x)) Q E s := by
  have one : wpAny (model prog w) A (tryCompare (.ref x) "__ne__" (.int n t)) (fun r s' => ∃ v, r = some v ∧ Q v s') E s := ne_try hu1 X I hn hs hf (wpAny_mono h (fun v s' z => by
    obtain ⟨c, rfl, q⟩ := z
    exact ⟨c, rfl, _, rfl, q⟩) fun _ _ e => e)
  have lft : wpAny (model prog w) A (tryCompare (.int n t) "__ne__" (.ref x)) (fun r s' => r = none ∧ s' = s) E s := by
    unfold tryCompare
    exact wpAny_bind (wpAny_callSpecialIfBound?_slot (typeIs_int s n t) F.slot_int_ne (up_ne n t x ox I.at_ hd (wpAny_pure ⟨rfl, rfl⟩)))
  have hne : (Value.type "int" != Value.ref C) = true := by
    show (!(Value.type "int" == Value.ref C)) = true
    have z : (Value.type "int" == Value.ref C) = false := Bool.eq_false_iff.mpr fun q => by cases beq_iff_eq.mp q
    rw [z]
    rfl
  unfold richCompare
  simp only [(typeIs_int s n t).oneThing_none .NotEq]
  refine wpAny_holding (wpAny_bind (wpAny_cRoomFor hu ?_))
  refine wpAny_bind (wpAny_typeOf (typeIs_int s n t) ?_)
  refine wpAny_bind (I.type.here ?_)
  rw [cmpInfo_NotEq]
  simp only [hne, if_true]
  refine wpAny_bind ((looks_subIn X hsub).here ?_)
  simp only [Bool.false_eq_true, if_false]
  refine wpAny_bind (wpAny_mono lft (fun r s' z => ?_) fun _ _ e => e)
  obtain ⟨rfl, rfl⟩ := z
  simp only [Bool.not_false, if_true]
  refine wpAny_bind (wpAny_mono one (fun r s' z => ?_) fun _ _ e => e)
  obtain ⟨v, rfl, q⟩ := z
  exact wpAny_pure q
end
end Ni
namespace Ni
open PySem PySem.Spec PyProof.Rows L2
section
variable {X : Cx} {σ : L2.St} {H : Hp} {Q : VK} {C f a dx : Addr} {fs : List (Str × V)} {n : Int} {k : Nat} {y : V} {tb : Value}
theorem not_bl {pins : List (Addr × Obj)} {v : Value} {s : Shared} (h : EP X pins σ (fun v H' => ∃ c, v = .bl c ∧ Q (.bl (!c)) H') v s) : ∃ c, v = .bool c ∧ EP X pins σ Q (.bool (!c)) s := by
  obtain ⟨z, H', I, r, c, rfl, q⟩ := h
  cases r
  exact ⟨c, rfl, .bl (!c), H', I, rfl, q⟩
theorem wo_neL (hr : Room (k + 1) X.A) (ha : H a = some (.ins C dx fs)) (hT : ∀ (pins : List (Addr × Obj)) (s : Shared) (u : Value), Inv X pins σ H s → RelV y u → PySem.W.Looks (model X.prog X.w) s.heap (typeOf u) tb)
    (nf : PySem.W.notFirst X.K C tb = true) (hn : neB X.K C = true) (g : Sg X.K C "__eq__" f) (h : WfA X X.A.in1 (.ref f) [.ref a, y] σ H fun v H' => ∃ c, v = .bl c ∧ Q (.bl (!c)) H') : Wo X (richCompare .NotEq) (.ref a) y σ H Q := by
  intro pins s v u I rx ry
  cases rx
  obtain ⟨od, J⟩ := inst_at I ha
  obtain ⟨m, hF⟩ := I.fr
  exact ne_left hr.units0 hr.in1.units0 (I.ok.mod.kin.keeps hF.keep) J (hT pins s u I ry) nf hn g.hs g.hf (thn (h pins s [.ref a, u] I (.cons rfl (.cons ry .nil))) fun _ _ q => not_bl q)
theorem wo_neR (hr : Room (k + 1) X.A) (ha : H a = some (.ins C dx fs)) (hn : neB X.K C = true) (g : Sg X.K C "__eq__" f) (hsub : PySem.W.subIn X.K (.ref C) (.type "int") = some false)
    (h : WfA X X.A.in1 (.ref f) [.ref a, .int n] σ H fun v H' => ∃ c, v = .bl c ∧ Q (.bl (!c)) H') : Wo X (richCompare .NotEq) (.int n) (.ref a) σ H Q := by
  intro pins s v u I rx ry
  obtain ⟨t, rfl⟩ := rx
  cases ry
  obtain ⟨od, J⟩ := inst_at I ha
  obtain ⟨m, hF⟩ := I.fr
  exact ne_right hr.units0 hr.in1.units0 (I.ok.mod.kin.keeps hF.keep) J rfl hn g.hs g.hf hsub (thn (h pins s [.ref a, .int n t] I (.cons rfl (.cons ⟨t, rfl⟩ .nil))) fun _ _ q => not_bl q)
end
end Ni

/-! WV: comprehensions, methods of lists, defs with *args. -/
namespace Ni
open PySem PySem.Spec PyProof.Rows L2
theorem rel_free {sc : Scope} : ∀ {names : List (Str × NameKind)} {x : Str}, names.lookup x = some .free →
    (names.map fun (n, k) => if (k == NameKind.free && sc.kind == .function && sc.names.lookup n == some .cell) then (n, NameKind.cell) else (n, k)).lookup x = some .free ∨
    (names.map fun (n, k) => if (k == NameKind.free && sc.kind == .function && sc.names.lookup n == some .cell) then (n, NameKind.cell) else (n, k)).lookup x = some .cell
  | [], _, h => by cases h
  | (n, k0) :: r, x, h => by
    have ih := @rel_free sc r x
    rw [List.map_cons]
    cases hx : x == n with
    | true =>
      rw [List.lookup_cons, hx] at h
      cases h
      dsimp only
      split
      · right
        rw [List.lookup_cons, hx]
      · left
        rw [List.lookup_cons, hx]
    | false =>
      rw [List.lookup_cons, hx] at h
      dsimp only
      split
      · rw [List.lookup_cons, hx]
        exact ih h
      · rw [List.lookup_cons, hx]
        exact ih h
/-- a comprehension's block stands in X' -/
def Blk (X : Cx) (scope : Scope) (X' : Cx) : Prop := ∃ s H C cl fp, X' = X.blk s H scope (compEnvC scope cl C X.env) fp
theorem Blk.names {X X' : Cx} {scope : Scope} {N G : List Str} (b : Blk X scope X') (eq : X.N = N) (nd : N.Nodup) (dbg : ∀ x ∈ N, (x == ("__debug__" : Str)) = false ∧ (x == ("__classdict__" : Str)) = false)
    (glb : ∀ x ∈ G, scope.names.lookup x = some .globalImplicit ∧ (x == ("__debug__" : Str)) = false) : NamesB X' N scope G := by
  obtain ⟨s, H, C, cl, fp, rfl⟩ := b
  refine ⟨eq, nd, fun x hx => ?_, fun x hx => lookup_relS_keep (sc := X.env.scope) (by decide) hx, dbg, fun x hx => ⟨lookup_relS_keep (sc := X.env.scope) (by decide) (glb x hx).1, (glb x hx).2⟩⟩
  unfold visB at hx
  cases e : scope.names.lookup x with
  | none => rw [e] at hx; cases hx
  | some k =>
    rw [e] at hx
    cases k <;> first | cases hx | skip
    all_goals first
      | exact .inl (lookup_relS_keep (sc := X.env.scope) (by decide) e)
      | exact .inr (.inl (lookup_relS_keep (sc := X.env.scope) (by decide) e))
      | exact (rel_free (sc := X.env.scope) e).elim (fun z => .inr (.inr z)) (fun z => .inr (.inl z))
section
variable {X : Cx} {σ : L2.St} {H : Hp} {Q : VK} {elt tg iter c o e a : Expr} {es : List Expr} {scope : Scope} {own : List (Str × Nat)} {pos p apos : Pos} {N G : List Str}
def gB (X : Cx) (scope : Scope) (tg : Expr) : TG := fun v σ H Q => ∀ X', Blk X scope X' → Wg X' tg v σ H Q
def eB (X : Cx) (scope : Scope) (elt : Expr) : TE := fun σ H Q => ∀ X', Blk X scope X' → We X' elt σ H Q
def tB (X : Cx) (scope : Scope) (c : Expr) : TT := fun σ H Q => ∀ X', Blk X scope X' → Wt X' c σ H Q
theorem gB.pg {s : Shared} {H : Hp} {C : Addr} {cl : List (Str × Addr)} {fp : List Addr} : PG (X.blk s H scope (compEnvC scope cl C X.env) fp) tg (gB X scope tg) := ⟨fun pins s2 σ H2 v u Q I r h => h _ ⟨_, _, _, _, _, rfl⟩ pins s2 u I r⟩
theorem eB.pe {s : Shared} {H : Hp} {C : Addr} {cl : List (Str × Addr)} {fp : List Addr} : PE (X.blk s H scope (compEnvC scope cl C X.env) fp) elt (eB X scope elt) := ⟨fun pins s2 σ H2 Q I h => h _ ⟨_, _, _, _, _, rfl⟩ pins s2 I⟩
theorem tB.pt {s : Shared} {H : Hp} {C : Addr} {cl : List (Str × Addr)} {fp : List Addr} : PT (X.blk s H scope (compEnvC scope cl C X.env) fp) c (tB X scope c) := ⟨fun pins s2 σ H2 Q I h => h _ ⟨_, _, _, _, _, rfl⟩ pins s2 I⟩
/-- one turn of a comprehension -/
def Turn1 (X : Cx) (scope : Scope) (own : List (Str × Nat)) (σ : L2.St) (tg elt : Expr) (x : V) (H : Hp) (D : Addr) (Nx : Hp → Prop) : Prop :=
  gB X scope tg x (wipe σ (own.map (·.2))) H fun σ2 H2 => wipe σ2 (own.map (·.2)) = wipe σ (own.map (·.2)) ∧ eB X scope elt σ2 H2 fun y H4 => ∃ acc, H4 D = some (.lst acc) ∧ acc.length < sizeLine ∧ Nx (upd H4 D (.lst (acc ++ [y])))
theorem we_lcL (V1 : Env1 X) (nd : X.N.Nodup) (ok : BlkOk X.N X.env.scope scope own) (hs : ∀ x, foldedSetIterable iter X.env x = pure x)
    (h : We X iter σ H fun x H1 => ∃ a xs, x = .ref a ∧ SqL X.K H1 a xs ∧ ∀ D, H1 D = none → ∃ Pv : Nat → Hp → Prop, Pv 0 (upd H1 D (.lst [])) ∧ (∀ i H, i ≤ xs.length → Pv i H → SqL X.K H a xs) ∧
      (∀ i x H, xs[i]? = some x → Pv i H → Turn1 X scope own σ tg elt x H D (Pv (i + 1))) ∧ (∀ H, Pv xs.length H → Q (.ref D) H)) : We X (.ListComp elt [⟨tg, iter, [], 0⟩] scope pos) σ H Q := by
  refine we_of (pe_lc V1.calm nd (pi_list We.pe) ok (fun _ _ _ _ _ => gB.pg) (fun _ _ _ _ _ => pts_nil) (fun _ _ _ _ _ => eB.pe) hs) ?_
  refine We.imp ?_ h
  rintro x H1 ⟨a, xs, rfl, h1, h2⟩
  refine ⟨a, rfl, ⟨xs, h1⟩, fun D hD => ?_⟩
  obtain ⟨Pv, p0, p1, p2, p3⟩ := h2 D hD
  exact lc_list Pv p0 p1 p2 p3
theorem we_lcT (V1 : Env1 X) (nd : X.N.Nodup) (ok : BlkOk X.N X.env.scope scope own) (hs : ∀ x, foldedSetIterable iter X.env x = pure x)
    (h : We X iter σ H fun x H1 => ∃ a xs, x = .ref a ∧ SqT X.K H1 a xs ∧ ∀ D, H1 D = none → ∃ Pv : Nat → Hp → Prop, Pv 0 (upd H1 D (.lst [])) ∧ (∀ i H, i ≤ xs.length → Pv i H → SqT X.K H a xs) ∧
      (∀ i x H, xs[i]? = some x → Pv i H → Turn1 X scope own σ tg elt x H D (Pv (i + 1))) ∧ (∀ H, Pv xs.length H → Q (.ref D) H)) : We X (.ListComp elt [⟨tg, iter, [], 0⟩] scope pos) σ H Q := by
  refine we_of (pe_lc V1.calm nd (pi_tup We.pe) ok (fun _ _ _ _ _ => gB.pg) (fun _ _ _ _ _ => pts_nil) (fun _ _ _ _ _ => eB.pe) hs) ?_
  refine We.imp ?_ h
  rintro x H1 ⟨a, xs, rfl, h1, h2⟩
  refine ⟨a, rfl, ⟨xs, h1⟩, fun D hD => ?_⟩
  obtain ⟨Pv, p0, p1, p2, p3⟩ := h2 D hD
  exact lc_tup Pv p0 p1 p2 p3
theorem we_lcR (V1 : Env1 X) (nd : X.N.Nodup) (ok : BlkOk X.N X.env.scope scope own) (hg : Gl X "range") (hm : X.mg "range" = none) (hst : starEach [a] X.env = [(false, eval a X.env)]) (hs : ∀ x, foldedSetIterable (.Call (.Name "range" p) [a] [] apos) X.env x = pure x)
    (h : Wa X [a] σ H fun vs H1 => ∃ j : Int, vs = [.int j] ∧ -(2 ^ 62) ≤ j ∧ j < 2 ^ 62 ∧ ∀ D, H1 D = none → ∃ Pv : Nat → Hp → Prop, Pv 0 (upd H1 D (.lst [])) ∧
      (∀ i H, i < j.toNat → Pv i H → Turn1 X scope own σ tg elt (.int (0 + i)) H D (Pv (i + 1))) ∧ (∀ H, Pv j.toNat H → Q (.ref D) H)) : We X (.ListComp elt [⟨tg, .Call (.Name "range" p) [a] [] apos, [], 0⟩] scope pos) σ H Q := by
  refine we_of (pe_lc V1.calm nd (pi_range1 hg hm Wa.pa hst) ok (fun _ _ _ _ _ => gB.pg) (fun _ _ _ _ _ => pts_nil) (fun _ _ _ _ _ => eB.pe) hs) ?_
  refine Wa.imp ?_ h
  rintro vs H1 ⟨j, rfl, j1, j2, h2⟩
  refine ⟨j, rfl, j1, j2, fun D hD => ?_⟩
  obtain ⟨Pv, p0, p2, p3⟩ := h2 D hD
  exact lc_range Pv p0 p2 p3
/-- o.append(e) -/
theorem we_append (hbase : attributeBase o "append" X.env (eval o X.env) = eval o X.env) (hfew : ((backTo pos (starEach [e] X.env)).all (fun x => !x.1) && (backToKw pos (keywordEach [] X.env)).all (fun x => x.1.isSome) && decide ([e].length + ([] : List Keyword).length + (if ([] : List Keyword).isEmpty then 0 else 1) < 30)) = true)
    (hline : (apos.endLine == pos.line) = true) (hs : starEach [e] X.env = (false, eval e X.env) :: starEach [] X.env) (hpl : (backTo pos (starEach [] X.env)).any (·.1) = false)
    (h : We X o σ H fun x H1 => ∃ l xs, x = .ref l ∧ H1 l = some (.lst xs) ∧ We X e σ H1 fun y H2 => ∃ ys, H2 l = some (.lst ys) ∧ ys.length < sizeLine ∧ Q .non (upd H2 l (.lst (ys ++ [y])))) : We X (.Call (.Attribute o "append" apos) [e] [] pos) σ H Q := by
  refine we_of (pe_bm (t := Wa X [e]) F.plainAttrs_list F.slot_list_append F.type_list_append mt_append We.pe Wa.pa hbase hfew hline hs hpl) ?_
  refine We.imp ?_ h
  rintro x H1 ⟨l, xs, rfl, h1, h2⟩
  refine ⟨.inl ⟨rfl, _, .of h1⟩, wa_cons hs (We.imp ?_ h2)⟩
  rintro y H2 ⟨ys, h3, h4, q⟩
  exact wa_nil ⟨l, ys, y, rfl, rfl, h3, h4, q⟩
end
section
open PySem.W PySem.Calls
variable {prog : Program} {w : World} {A : Around} {E : Value → Shared → Prop} {s : Shared} {K : Frag} {x C L f : Addr} {ox : Obj} {od : Option Obj}
theorem meets_bool_own (x : Addr) : MeetsIn prog w (Builtin.«bool.__new__» ⟨[.type "bool", .ref x], []⟩) (fun A R s => wpAny (model prog w) A.in1 (truthy (.ref x)) (fun b s' => R (.ok (.ret (.bool b))) s') (fun e s' => R (.error e) s') s) :=
  .of_wp fun A R s hs => by
    have f1 := F.conv_sub_bool
    unfold Builtin.«bool.__new__»
    obtain ⟨hp, g, d, tk, os⟩ := s
    repeat (any_goals (first | assumption | (with_reducible refine wpAny_mono hs (fun b s' q => wpAny_pure ⟨_, rfl, q⟩) fun _ _ e => e) | wp_step))
    all_goals exact wpAny_mono hs (fun b s' q => wpAny_pure ⟨_, rfl, q⟩) fun _ _ e => e
theorem call_bool_own {L : Addr} {h0 : Heap} {m : Str → Option Value} {Q : Value → Shared → Prop} (F0 : Fr h0 L s.heap m) (X0 : K.In h0) (I : InstAt s.heap x ox C od) (hs : findIn K (.ref C) "__bool__" = some (some (.ref f))) (hf : isFn K (.ref f) = true)
    (h : wpAny (model prog w) A.in1.in1 (call (.ref f) [.ref x]) (PySem.W.BoolBack fun b s' => Q (.bool b) s') E s) : wpAny (model prog w) A (call (.type "bool") [.ref x]) Q E s :=
  callType_newIn F.called_bool F.newNe_bool (F.typeCall_bool_1 _) (F.newCall_bool_1 _) (fun obj => F.args_object_init_2 obj _) F.entry_bool_new (meets_bool_own x)
    (wpAny_mono (truthy_K F0 X0 I hs hf h) (fun b s' q => ⟨rfl, q⟩) fun _ _ e => e)
end
section
variable {X : Cx} {σ : L2.St} {H : Hp} {Q : VK} {C f a dx : Addr} {fs : List (Str × V)}
theorem wcb_boolO (ha : H a = some (.ins C dx fs)) (g : Sg X.K C "__bool__" f) (h : ∀ σ', WfA X X.A.in1.in1 (.ref f) [.ref a] σ' H fun v H' => ∃ b, v = .bl b ∧ Q (.bl b) H') : Wcb X (.type "bool") [.ref a] H Q := by
  refine ⟨fun vs H' Q' => vs = [.ref a] ∧ H' = H ∧ ∀ v H2, Q v H2 → Q' v H2, ?_, rfl, rfl, fun _ _ q => q⟩
  rintro pins s σ' H' vs us Q' I r ⟨rfl, rfl, k⟩
  obtain ⟨u, rfl, ru⟩ := vals1 r
  cases ru
  obtain ⟨od, J⟩ := inst_at I ha
  obtain ⟨m, hF⟩ := I.fr
  refine call_bool_own hF I.ok.mod.kin J g.hs g.hf (thn (h σ' pins s _ I r) fun v s' q => ?_)
  obtain ⟨z, H2, I2, rz, b, rfl, q⟩ := q
  cases rz
  exact ⟨.bl b, H2, I2, rfl, k _ _ q⟩
theorem wcb_boolB {b : Bool} (q : Q (.bl b) H) : Wcb X (.type "bool") [.bl b] H Q := ⟨_, call_bool1, .inr ⟨b, rfl, q⟩⟩
theorem wcb_str {n : Int} {k : Nat} (hb : Bd n k) (l : 0 < k ∧ k ≤ 1920) (q : Q (.str (toString n)) H) : Wcb X (.type "str") [.int n] H Q := ⟨_, call_str_int, n, rfl, Nat.lt_of_lt_of_le (bd_log hb l.1) l.2, q⟩
end
/-- a def that takes *args -/
structure OkS (P : Program) (w : World) (K : PySem.W.Frag) (mg : Str → Option Value) (base : Heap) (k : Nat) (f : Addr) (sp : Sp) : Prop where
  run : FnR P w K mg base (L2.CX P w) k f sp
  kp : PySem.W.keepIn K (.ref f) = true
section
variable {X : Cx} {σ : L2.St} {H : Hp} {Q : VK} {k : Nat} {f : Addr} {sp : Sp} {vs : List V}
theorem wf_s (O : OkS X.prog X.w X.K X.mg X.base k f sp) (hr : Room k X.A) (h : sp vs H Q (xk X σ)) : Wf X (.ref f) vs σ H Q := by
  intro pins s us I r
  refine wpAny_call (codeAny_mono (O.run X.A X.stack s H us vs Q (xk X σ) hr I.env0 r h) fun fl s2 z => ?_)
  match fl, z with
  | .error e, z => exact passAt (xw_takes X) σ pins _ _ e s2 I z
  | .ok (.ret u), z => exact I.after z
  | .ok .next, z => exact z.elim
  | .ok .brk, z => exact z.elim
  | .ok .cont, z => exact z.elim
end
section
variable {P : Program} {w : World} {K : PySem.W.Frag} {mg : Str → Option Value} {base : Heap}
theorem ok_star {x qual pv : Str} {params : Arguments} {body : List Stmt} {scope : Scope} {f : Addr} {fd : FuncData} {N G ps : List Str} {k : Nat} {sp : Sp}
    (F : FunD K x qual params body scope [] [] f fd) (S : FnScope N (ps ++ [pv]) scope) (T : Names0 N G scope)
    (bnd : ∀ (kV doc pm : Value) (an : Option Addr) (cdv ct : Value) (us rest : List Value), us.length = ps.length → bindArgs (PySem.W.fnOf x qual params body scope .none kV doc pm an cdv ct) ⟨us ++ rest, []⟩ = (newTuple rest >>= fun t => pure (ps.zip us ++ [(pv, t)])))
    (hb : ∀ (X : Cx), X.prog = P → X.w = w → X.K = K → X.mg = mg → X.base = base → X.env.scope = scope → Names1 X N G → Env1 X → Room k X.A → ∀ (vs : List V) (H : Hp) (Q : VK) (E : XK),
      (∀ cls d σ H', E cls d H' → XW X cls d σ H') → sp vs H Q E → Wb X body { nx := fun _ H' => Q .non H', rt := Q } (start N vs) H) :
    OkS P w K mg base (k + 1) f (fun vs H Q E => ∃ ws rest, vs = ws ++ rest ∧ ws.length = ps.length ∧ rest.length ≤ sizeLine ∧ ∀ p, H p = none → sp (ws ++ [V.ref p]) (upd H p (.tup rest)) Q E) := by
  refine ⟨?_, F.kp⟩
  obtain ⟨oc, od, dV, kV, doc, pm, an, cdv, ct, osl, rfl, lk, hcd, hD, hK⟩ := F.ex
  rcases hD with ⟨_, rfl⟩ | ⟨e, _⟩
  · refine StX.fn_star lk hcd S StX.cxUp (fun us rest l => bnd _ _ _ _ _ _ us rest l) fun A outer s H vs Q E hr h => ?_
    refine ⟨_, Wb.pss, hb (cxOf (L2.CX P w) P w K mg base N qual scope f cdv A outer s H E) rfl rfl rfl rfl rfl rfl ⟨rfl, T.nd, T.vis, T.dbg, fun _ => rfl, T.glb⟩ ⟨rfl, rfl, rfl, passes_of rfl⟩ hr vs H Q E (fun cls d σ H' q => ?_) h⟩
    exact xw_of (takes_of (E := E) rfl rfl rfl rfl) q
  · exact absurd rfl e
end
end Ni

/-! RM: fractions as Lean's own Rat. -/
namespace Ni
/-- what gcd gives, with the sign of the bottom -/
def com (t b : Int) : Int := if b < 0 then -((Nat.gcd t.natAbs b.natAbs : Nat) : Int) else ((Nat.gcd t.natAbs b.natAbs : Nat) : Int)
theorem com_dvd_top (t b : Int) : com t b ∣ t := by
  have h : ((Nat.gcd t.natAbs b.natAbs : Nat) : Int) ∣ t := Int.ofNat_dvd_left.mpr (Nat.gcd_dvd_left _ _)
  unfold com
  split
  · exact Int.neg_dvd.mpr h
  · exact h
theorem com_dvd_bot (t b : Int) : com t b ∣ b := by
  have h : ((Nat.gcd t.natAbs b.natAbs : Nat) : Int) ∣ b := Int.ofNat_dvd_left.mpr (Nat.gcd_dvd_right _ _)
  unfold com
  split
  · exact Int.neg_dvd.mpr h
  · exact h
theorem com_ne {t b : Int} (h : b ≠ 0) : com t b ≠ 0 := by
  have : 0 < Nat.gcd t.natAbs b.natAbs := Nat.gcd_pos_of_pos_right _ (by omega)
  unfold com
  split <;> omega
theorem gcd_comm' (t b : Int) : (b.gcd t : Nat) = Nat.gcd t.natAbs b.natAbs := by
  rw [Int.gcd_eq_natAbs_gcd_natAbs, Nat.gcd_comm]
theorem com_top {t b : Int} (h : b ≠ 0) : t.fdiv (com t b) = (Rat.divInt t b).num := by
  rw [Int.fdiv_eq_ediv_of_dvd (com_dvd_top t b), Rat.num_divInt, gcd_comm']
  unfold com
  split
  · rename_i h1
    rw [Int.sign_eq_neg_one_of_neg h1, Int.ediv_neg, Int.neg_one_mul, Int.neg_ediv_of_dvd]
    exact Int.ofNat_dvd_left.mpr (Nat.gcd_dvd_left _ _)
  · rename_i h1
    rw [Int.sign_eq_one_of_pos (by omega), Int.one_mul]
theorem com_bot {t b : Int} (h : b ≠ 0) : b.fdiv (com t b) = ((Rat.divInt t b).den : Int) := by
  rw [Int.fdiv_eq_ediv_of_dvd (com_dvd_bot t b), Rat.den_divInt, if_neg h, gcd_comm']
  unfold com
  split
  · rename_i h1
    have e : ((b.natAbs : Nat) : Int) = -b := by omega
    have d : ((Nat.gcd t.natAbs b.natAbs : Nat) : Int) ∣ b := Int.ofNat_dvd_left.mpr (Nat.gcd_dvd_right _ _)
    rw [Int.ediv_neg, Int.natCast_ediv, e, Int.neg_ediv_of_dvd d]
  · rename_i h1
    have e : ((b.natAbs : Nat) : Int) = b := by omega
    rw [Int.natCast_ediv, e]
end Ni

namespace Ni
theorem q_add (q r : Rat) : Rat.divInt (q.num * (r.den : Int) + r.num * (q.den : Int)) ((q.den : Int) * (r.den : Int)) = q + r := by
  have h1 : (q.den : Int) ≠ 0 := by have := q.den_nz; omega
  have h2 : (r.den : Int) ≠ 0 := by have := r.den_nz; omega
  have e := Rat.divInt_add_divInt q.num r.num h1 h2
  rw [Rat.num_divInt_den, Rat.num_divInt_den] at e
  exact e.symm
theorem q_neg (q : Rat) : Rat.divInt (-q.num) (q.den : Int) = -q := by
  have e := Rat.neg_divInt q.num (q.den : Int)
  rw [Rat.num_divInt_den] at e
  exact e.symm
theorem q_sub (q r : Rat) : Rat.divInt (q.num * (r.den : Int) - r.num * (q.den : Int)) ((q.den : Int) * (r.den : Int)) = q - r := by
  have e := q_add q (-r)
  rw [Rat.neg_num, Rat.neg_den] at e
  rw [Rat.sub_eq_add_neg, ← e, Int.neg_mul, Int.sub_eq_add_neg]
theorem q_mul (q r : Rat) : Rat.divInt (q.num * r.num) ((q.den : Int) * (r.den : Int)) = q * r := by
  have e := Rat.divInt_mul_divInt q.num r.num (d₁ := (q.den : Int)) (d₂ := (r.den : Int))
  rw [Rat.num_divInt_den, Rat.num_divInt_den] at e
  exact e.symm
theorem den_ne (q : Rat) : (q.den : Int) ≠ 0 := by have := q.den_nz; omega
theorem den_pos (q : Rat) : (0 : Int) < (q.den : Int) := by have := q.den_nz; omega
theorem den_mul_ne (q r : Rat) : (q.den : Int) * (r.den : Int) ≠ 0 := Int.mul_ne_zero (den_ne q) (den_ne r)
end Ni
namespace Ni
theorem sz_div {t c : Int} (hc : c ≠ 0) (h : c ∣ t) : (t.fdiv c).natAbs ≤ t.natAbs := by
  rw [Int.fdiv_eq_ediv_of_dvd h]
  obtain ⟨k, rfl⟩ := h
  rw [Int.mul_ediv_cancel_left _ hc, Int.natAbs_mul]
  exact Nat.le_mul_of_pos_left _ (by omega)
theorem sz_top {t b : Int} (h : b ≠ 0) : (Rat.divInt t b).num.natAbs ≤ t.natAbs := by
  rw [← com_top h]
  exact sz_div (com_ne h) (com_dvd_top t b)
theorem sz_bot {t b : Int} (h : b ≠ 0) : ((Rat.divInt t b).den : Int).natAbs ≤ b.natAbs := by
  rw [← com_bot h]
  exact sz_div (com_ne h) (com_dvd_bot t b)
end Ni
namespace Ni
theorem q_abs (q : Rat) : Rat.divInt (if q.num < 0 then -q.num else q.num) (q.den : Int) = q.abs := by
  have hq : (q.num < 0) ↔ ¬ (0 ≤ q) := by
    rw [← Rat.num_nonneg]
    omega
  unfold Rat.abs
  by_cases h : 0 ≤ q
  · rw [if_pos h, if_neg (by rw [hq]; exact fun z => z h), Rat.num_divInt_den]
  · rw [if_neg h, if_pos (hq.mpr h), q_neg]
end Ni
namespace Ni
/-- a quotient by its equation -/
theorem div_mul {t b : Int} (h : b ≠ 0) : Rat.divInt t b * (b : Rat) = (t : Rat) := by
  have hb : (b : Rat) ≠ 0 := fun z => h (Rat.intCast_inj.mp z)
  rw [Rat.divInt_eq_div]
  exact Rat.div_mul_cancel hb
theorem is_div {x : Rat} {t b : Int} (h : b ≠ 0) (e : x * (b : Rat) = (t : Rat)) : x = Rat.divInt t b := by
  have hb : (b : Rat) ≠ 0 := fun z => h (Rat.intCast_inj.mp z)
  have e2 := div_mul (t := t) h
  grind
end Ni
namespace Ni
theorem abs_div {A B : Int} (h : 0 < B) : (Rat.divInt A B).abs = Rat.divInt (if A < 0 then -A else A) B := by
  have n : 0 ≤ Rat.divInt A B ↔ 0 ≤ A := Rat.divInt_nonneg_iff_of_pos_right h
  unfold Rat.abs
  by_cases z : 0 ≤ A
  · rw [if_pos (n.mpr z), if_neg (by omega)]
  · rw [if_neg (fun y => z (n.mp y)), if_pos (by omega), Rat.neg_divInt]
end Ni

/-! PA: values without a heap, and what of the heap shows them. -/
namespace Pu
open PySem PySem.Spec PyProof.Rows L2 Ni
inductive Cl where
  | ratio | amounts | net | trial | answer | plan | weighed | refuted | endless | best | table | piece | sort | steady | ranks | fate | paper | prices | phases | ring | bound
  | neverIdle | badNumber | zeroBottom | badValue | badLength | badKind | badHeaps | badPiece | badText | badNet | overfull | notCalm
  deriving DecidableEq
def Cl.nm : Cl → Str
  | .ratio => "Ratio" | .amounts => "Amounts" | .net => "Net" | .trial => "Trial" | .answer => "Answer" | .plan => "Plan" | .weighed => "Weighed" | .refuted => "Refuted" | .endless => "Endless" | .best => "Best" | .table => "Table"
  | .piece => "Piece" | .sort => "Sort" | .steady => "Steady" | .ranks => "Ranks" | .fate => "Fate" | .paper => "Paper" | .prices => "Prices" | .phases => "Phases" | .ring => "Ring" | .bound => "Bound"
  | .neverIdle => "NeverIdleError" | .badNumber => "BadNumber" | .zeroBottom => "ZeroBottom" | .badValue => "BadValue" | .badLength => "BadLength" | .badKind => "BadKind" | .badHeaps => "BadHeaps" | .badPiece => "BadPiece" | .badText => "BadText" | .badNet => "BadNet" | .overfull => "Overfull" | .notCalm => "NotCalm"
/-- the attributes of an instance, in the order in which they are made -/
def Cl.fs : Cl → List Str
  | .ratio => ["top", "bottom"] | .amounts => ["numbers"] | .net => ["rows", "_load"] | .trial => ["net", "kept_rows", "kept_load"] | .answer => [] | .plan => ["plan"] | .weighed => ["weights"] | .refuted => ["weights"] | .endless => ["plan", "ray"] | .best => ["plan", "weights"]
  | .table => ["width", "signs", "lines", "basis", "costs"] | .piece => ["start", "efforts", "minutes", "desks", "end"] | .sort => ["first", "last"] | .steady => ["fractions"] | .ranks => ["order", "desks"] | .fate => ["ending", "joints", "earlier", "ratio", "minutes"]
  | .paper => [] | .prices => ["lists"] | .phases => ["efforts", "stock"] | .ring => ["efforts", "stock"] | .bound => ["lists", "efforts", "stock", "portions", "start", "minutes"]
  | .badText => ["line"] | .badNet => ["row"] | .overfull => ["desk"] | .notCalm => ["ring"] | _ => []
inductive Bi where
  | len | abs | int | bool | str | isi | gcd | tuple
  deriving DecidableEq
def Bi.nm : Bi → Str
  | .len => "len" | .abs => "abs" | .int => "int" | .bool => "bool" | .str => "str" | .isi => "isinstance" | .gcd => "gcd" | .tuple => "tuple"
def Bi.val : Bi → Value
  | .len => .builtin "len" | .abs => .builtin "abs" | .int => .type "int" | .bool => .type "bool" | .str => .type "str" | .isi => .builtin "isinstance" | .gcd => .builtin "math.gcd" | .tuple => .type "tuple"
inductive PV where
  | non | bl (b : Bool) | int (n : Int) | str (s : Str) | ty (b : Bi) | cls (c : Cl) | pool
  | rat (q : Rat) | lst (xs : List PV) | tup (xs : List PV) | obj (c : Cl) (xs : List PV)
structure Kx where
  K : PySem.W.Frag
  pl : Option (Addr × Addr)
def ratF (q : Rat) : List (Str × V) := [("top", V.int q.num), ("bottom", V.int (q.den : Int))]
mutual
def Rep (k : Kx) (F : Hp) : PV → V → Prop
  | .non, v => v = .non
  | .bl b, v => v = .bl b
  | .int n, v => v = .int n
  | .str s, v => v = .str s
  | .ty b, v => ∃ n, b.val = .type n ∧ v = .ty n
  | .cls c, v => v = .ref (He.ga k.K c.nm)
  | .pool, v => ∃ P s, k.pl = some (P, s) ∧ v = .ref P
  | .rat q, v => ∃ a dx, v = .ref a ∧ F a = some (.ins (He.ga k.K "Ratio") dx (ratF q))
  | .lst xs, v => ∃ a vs, v = .ref a ∧ F a = some (.lst vs) ∧ Reps k F xs vs
  | .tup xs, v => ∃ a vs, v = .ref a ∧ F a = some (.tup vs) ∧ Reps k F xs vs
  | .obj c xs, v => ∃ a dx vs, v = .ref a ∧ F a = some (.ins (He.ga k.K c.nm) dx (c.fs.zip vs)) ∧ (xs.length ≤ c.fs.length ∧ c ≠ .ratio) ∧ Reps k F xs vs
def Reps (k : Kx) (F : Hp) : List PV → List V → Prop
  | [], vs => vs = []
  | x :: xs, vs => ∃ v ws, vs = v :: ws ∧ Rep k F x v ∧ Reps k F xs ws
end
section
variable {k : Kx} {F F' : Hp}
mutual
theorem Rep.mono (s : Same F F') : ∀ {x : PV} {v : V}, Rep k F x v → Rep k F' x v
  | .non, _, h => h
  | .bl _, _, h => h
  | .int _, _, h => h
  | .str _, _, h => h
  | .ty _, _, h => h
  | .cls _, _, h => h
  | .pool, _, h => h
  | .rat q, _, h => by
    unfold Rep at h ⊢
    obtain ⟨a, dx, e, h⟩ := h
    exact ⟨a, dx, e, s _ _ h⟩
  | .lst xs, _, h => by
    unfold Rep at h ⊢
    obtain ⟨a, vs, e, h, r⟩ := h
    exact ⟨a, vs, e, s _ _ h, Reps.mono s r⟩
  | .tup xs, _, h => by
    unfold Rep at h ⊢
    obtain ⟨a, vs, e, h, r⟩ := h
    exact ⟨a, vs, e, s _ _ h, Reps.mono s r⟩
  | .obj c xs, _, h => by
    unfold Rep at h ⊢
    obtain ⟨a, dx, vs, e, h, l, r⟩ := h
    exact ⟨a, dx, vs, e, s _ _ h, l, Reps.mono s r⟩
theorem Reps.mono (s : Same F F') : ∀ {xs : List PV} {vs : List V}, Reps k F xs vs → Reps k F' xs vs
  | [], _, h => h
  | x :: xs, _, h => by
    unfold Reps at h ⊢
    obtain ⟨v, ws, e, h, r⟩ := h
    exact ⟨v, ws, e, Rep.mono s h, Reps.mono s r⟩
end
theorem Reps.nil : Reps k F [] [] := rfl
theorem Reps.cons {x : PV} {v : V} {xs : List PV} {vs : List V} (h : Rep k F x v) (r : Reps k F xs vs) : Reps k F (x :: xs) (v :: vs) := ⟨v, vs, rfl, h, r⟩
theorem Reps.len : ∀ {xs : List PV} {vs : List V}, Reps k F xs vs → xs.length = vs.length
  | [], _, h => by cases h; rfl
  | x :: xs, _, h => by
    obtain ⟨v, ws, rfl, h, r⟩ := h
    simp [Reps.len r]
theorem Reps.append : ∀ {xs ys : List PV} {vs ws : List V}, Reps k F xs vs → Reps k F ys ws → Reps k F (xs ++ ys) (vs ++ ws)
  | [], _, _, _, h, r => by cases h; exact r
  | x :: xs, _, _, _, h, r => by
    obtain ⟨v, ws, rfl, h, r1⟩ := h
    exact Reps.cons h (Reps.append r1 r)
theorem Reps.get : ∀ {xs : List PV} {vs : List V} {i : Nat} {x : PV}, Reps k F xs vs → xs[i]? = some x → ∃ v, vs[i]? = some v ∧ Rep k F x v
  | [], _, _, _, h, e => by simp at e
  | x :: xs, _, 0, _, h, e => by
    obtain ⟨v, ws, rfl, h, r1⟩ := h
    simp at e
    subst e
    exact ⟨v, rfl, h⟩
  | x :: xs, _, i + 1, _, h, e => by
    obtain ⟨v, ws, rfl, h, r1⟩ := h
    simp at e
    obtain ⟨u, h1, h2⟩ := Reps.get r1 e
    exact ⟨u, by simpa using h1, h2⟩
theorem Reps.got : ∀ {xs : List PV} {vs : List V} {i : Nat} {v : V}, Reps k F xs vs → vs[i]? = some v → ∃ x, xs[i]? = some x ∧ Rep k F x v
  | [], _, _, _, h, e => by cases h; simp at e
  | x :: xs, _, 0, _, h, e => by
    obtain ⟨v, ws, rfl, h, r1⟩ := h
    simp at e
    subst e
    exact ⟨x, rfl, h⟩
  | x :: xs, _, i + 1, _, h, e => by
    obtain ⟨v, ws, rfl, h, r1⟩ := h
    simp at e
    obtain ⟨u, h1, h2⟩ := Reps.got r1 e
    exact ⟨u, by simpa using h1, h2⟩
theorem Reps.set {y : PV} {w : V} (hy : Rep k F y w) : ∀ {xs : List PV} {vs : List V} (i : Nat), Reps k F xs vs → Reps k F (xs.set i y) (vs.set i w)
  | [], _, _, h => by cases h; exact Reps.nil
  | x :: xs, _, 0, h => by
    obtain ⟨v, ws, rfl, h, r1⟩ := h
    exact Reps.cons hy r1
  | x :: xs, _, i + 1, h => by
    obtain ⟨v, ws, rfl, h, r1⟩ := h
    exact Reps.cons h (Reps.set hy i r1)
theorem Reps.one {x : PV} {vs : List V} (h : Reps k F [x] vs) : ∃ v, vs = [v] ∧ Rep k F x v := by
  obtain ⟨v, ws, rfl, h, r⟩ := h
  cases r
  exact ⟨v, rfl, h⟩
theorem Reps.two {x y : PV} {vs : List V} (h : Reps k F [x, y] vs) : ∃ v w, vs = [v, w] ∧ Rep k F x v ∧ Rep k F y w := by
  obtain ⟨v, ws, rfl, h, r⟩ := h
  obtain ⟨w, rfl, h2⟩ := Reps.one r
  exact ⟨v, w, rfl, h, h2⟩
end

/-! ### the state -/
/-- the law's pool: the script's copy, a place, a rest, a turn -/
def PoolS (H : Hp) (P s : Addr) : Prop := ∃ (ns : List Int) (i c t : Int), H P = some (.lst [.ref s, .int i, .int c, .int t]) ∧ H s = some (.lst (ns.map V.int)) ∧ s ≠ P ∧ 0 ≤ i ∧ 0 ≤ c
theorem PoolS.keep {H H' : Hp} {P s : Addr} (h : PoolS H P s) (k1 : H' P = H P) (k2 : H' s = H s) : PoolS H' P s := by
  obtain ⟨ns, i, c, t, h1, h2, ne, i0, c0⟩ := h
  exact ⟨ns, i, c, t, k1.trans h1, k2.trans h2, ne, i0, c0⟩
theorem PoolS.at1 {H : Hp} {P s : Addr} (h : PoolS H P s) : ∃ o, H P = some o := let ⟨_, _, _, _, h1, _⟩ := h; ⟨_, h1⟩
theorem PoolS.at2 {H : Hp} {P s : Addr} (h : PoolS H P s) : ∃ o, H s = some o := let ⟨_, _, _, _, _, h1, _⟩ := h; ⟨_, h1⟩
theorem PoolS.same {H H' : Hp} {P s : Addr} (h : PoolS H P s) (e : Same H H') : PoolS H' P s := by
  obtain ⟨o1, e1⟩ := h.at1
  obtain ⟨o2, e2⟩ := h.at2
  exact h.keep ((e _ _ e1).trans e1.symm) ((e _ _ e2).trans e2.symm)
/-- a fraction: it is never changed -/
def RatO (o : HO) : Prop := ∃ C dx q, o = .ins C dx (ratF q)
/-- what is never changed -/
def ImmO (o : HO) : Prop := RatO o ∨ ∃ vs, o = .tup vs
theorem imm_lst {vs : List V} : ¬ ImmO (.lst vs) := fun h => by
  rcases h with ⟨_, _, _, z⟩ | ⟨_, z⟩ <;> cases z
theorem pool_nimm {H : Hp} {P s : Addr} {o : HO} (h : PoolS H P s) (e : H P = some o) : ¬ ImmO o := by
  obtain ⟨ns, i, c, t, h1, _⟩ := h
  rw [h1] at e
  cases e
  exact imm_lst
/-- what may change: the pool, and what is lent -/
def Exm (pl : Option (Addr × Addr)) (mu : List Addr) (a : Addr) : Prop := (∃ s, pl = some (a, s)) ∨ a ∈ mu
structure Gua (pl : Option (Addr × Addr)) (mu : List Addr) (H H' : Hp) : Prop where
  keep : ∀ a o, H a = some o → ¬ Exm pl mu a → H' a = some o
  pool : ∀ P s, pl = some (P, s) → PoolS H' P s
  live : ∀ a ∈ mu, (∃ o, H a = some o ∧ ¬ ImmO o) → ∃ o, H' a = some o ∧ ¬ ImmO o
theorem Gua.back {pl : Option (Addr × Addr)} {mu : List Addr} {H H' : Hp} {a : Addr} (g : Gua pl mu H H') (m : ∀ a ∈ mu, ∃ o, H a = some o ∧ ¬ ImmO o) (h : H' a = none) : H a = none := by
  cases e : H a with
  | none => rfl
  | some o =>
    by_cases z : Exm pl mu a
    · rcases z with ⟨s, z⟩ | z
      · obtain ⟨o2, e2⟩ := (g.pool a s z).at1
        rw [e2] at h; cases h
      · obtain ⟨o2, e2, _⟩ := g.live a z (m a z)
        rw [e2] at h; cases h
    · rw [g.keep a o e z] at h; cases h
theorem no_mu {H : Hp} : ∀ a ∈ ([] : List Addr), ∃ o, H a = some o ∧ ¬ ImmO o := nofun
theorem Gua.trans {pl : Option (Addr × Addr)} {mu : List Addr} {H H1 H2 : Hp} (g : Gua pl mu H H1) (g2 : Gua pl mu H1 H2) : Gua pl mu H H2 :=
  ⟨fun a o h n => g2.keep a o (g.keep a o h n) n, g2.pool, fun a m h => g2.live a m (g.live a m h)⟩
theorem Gua.more {pl : Option (Addr × Addr)} {mu : List Addr} {H H1 : Hp} (g : Gua pl [] H H1) (n : ∀ P s, pl = some (P, s) → P ∉ mu) : Gua pl mu H H1 :=
  ⟨fun a o h z => g.keep a o h fun y => z (by
    rcases y with y | y
    · exact .inl y
    · cases y), g.pool, fun a m ⟨o, h, i⟩ => ⟨o, g.keep a o h (fun y => by
    rcases y with ⟨s, y⟩ | y
    · exact n a s y m
    · cases y), i⟩⟩
theorem Gua.same {pl : Option (Addr × Addr)} {mu : List Addr} {H H1 H2 : Hp} (g : Gua pl mu H H1) (g2 : Same H1 H2) : Gua pl mu H H2 :=
  ⟨fun a o h n => g2 a o (g.keep a o h n), fun P s e => (g.pool P s e).same g2, fun a m h => let ⟨o, e, i⟩ := g.live a m h; ⟨o, g2 a o e, i⟩⟩
/-- frozen: what F tells stays -/
structure Grow (F H F' : Hp) : Prop where
  s : Same F F'
  n : ∀ a o, F' a = some o → F a = some o ∨ H a = none ∨ (H a = some o ∧ ImmO o)
theorem Grow.refl {F H : Hp} : Grow F H F := ⟨fun _ _ h => h, fun _ _ h => .inl h⟩
theorem Gua.imm {pl : Option (Addr × Addr)} {mu : List Addr} {H H1 : Hp} {a : Addr} {o : HO} (u : Gua pl mu H H1) (m : ∀ a ∈ mu, ∃ o, H a = some o ∧ ¬ ImmO o) (z : H1 a = some o) (r : ImmO o) : H a = none ∨ H a = some o := by
  cases e : H a with
  | none => exact .inl rfl
  | some o2 =>
    by_cases y : Exm pl mu a
    · rcases y with ⟨s, y⟩ | y
      · exact absurd r (pool_nimm (u.pool a s y) z)
      · obtain ⟨o3, e3, n⟩ := u.live a y (m a y)
        rw [z] at e3; cases e3
        exact absurd r n
    · have := u.keep a o2 e y
      rw [z] at this
      cases this
      exact .inr rfl
theorem Grow.trans {pl : Option (Addr × Addr)} {mu : List Addr} {F H F' H' F2 : Hp} (g : Grow F H F') (u : Gua pl mu H H') (m : ∀ a ∈ mu, ∃ o, H a = some o ∧ ¬ ImmO o) (g2 : Grow F' H' F2) : Grow F H F2 := by
  refine ⟨fun a o h => g2.s a o (g.s a o h), fun a o h => ?_⟩
  rcases g2.n a o h with z | z | ⟨z, r⟩
  · exact g.n a o z
  · exact .inr (.inl (u.back m z))
  · rcases u.imm m z r with y | y
    · exact .inr (.inl y)
    · exact .inr (.inr ⟨y, r⟩)
structure Exc where
  c : Cl
  d : List PV
/-- a field of an instance of one's own: a value, or a list of one's own -/
inductive FV where
  | fr (x : PV) | nw (x : PV) | ow (xs : List PV)
/-- a value of new things, and of things that are never changed -/
def NewR (k : Kx) (F H0 : Hp) (x : PV) (v : V) : Prop := ∃ Fn, Same Fn F ∧ (∀ a o, Fn a = some o → H0 a = none ∨ ImmO o) ∧ Rep k Fn x v
theorem NewR.mono {k : Kx} {F F' H0 : Hp} {x : PV} {v : V} (h : NewR k F H0 x v) (s : Same F F') : NewR k F' H0 x v := let ⟨Fn, s1, n, r⟩ := h; ⟨Fn, fun a o e => s a o (s1 a o e), n, r⟩
theorem NewR.rep {k : Kx} {F H0 : Hp} {x : PV} {v : V} (h : NewR k F H0 x v) : Rep k F x v := let ⟨_, s1, _, r⟩ := h; r.mono s1
theorem NewR.back {k : Kx} {F H0 H1 : Hp} {x : PV} {v : V} (h : NewR k F H1 x v) (b : ∀ a, H1 a = none → H0 a = none) : NewR k F H0 x v := let ⟨Fn, s1, n, r⟩ := h; ⟨Fn, s1, fun a o e => (n a o e).imp (b a) id, r⟩
inductive SV where
  | val (x : PV) | own (xs : List PV) | obj (m : Bool) (c : Cl) (fs : List FV) | exc (e : Exc)
abbrev Env := List (Option SV)
def FV.pv : FV → PV
  | .fr x => x
  | .nw x => x
  | .ow xs => .lst xs
inductive FVs (k : Kx) (F H H0 : Hp) : List FV → List V → List Addr → Prop
  | nil : FVs k F H H0 [] [] []
  | nw {fs : List FV} {vs : List V} {os : List Addr} {x : PV} {v : V} : NewR k F H0 x v → FVs k F H H0 fs vs os → FVs k F H H0 (.nw x :: fs) (v :: vs) os
  | fr {fs : List FV} {vs : List V} {os : List Addr} {x : PV} {v : V} : Rep k F x v → FVs k F H H0 fs vs os → FVs k F H H0 (.fr x :: fs) (v :: vs) os
  | ow {fs : List FV} {vs : List V} {os : List Addr} {xs : List PV} {ws : List V} {q : Addr} : H q = some (.lst ws) → Reps k F xs ws → FVs k F H H0 fs vs os → FVs k F H H0 (.ow xs :: fs) (.ref q :: vs) (q :: os)
/-- whose a place is: one's own (new), or lent -/
def Whose (H0 : Hp) (mu : List Addr) (m : Bool) (a : Addr) : Prop := match m with
  | false => H0 a = none
  | true => a ∈ mu
structure Ct where
  pl : Option (Addr × Addr)
  mu : List Addr
  ex : Option (Addr × Exc)
  H0 : Hp
  F0 : Hp
/-- slots: some hold values, some a list or an instance of the def's own -/
inductive Slots (k : Kx) (F H H0 : Hp) (mu : List Addr) (ex : Option (Addr × Exc)) : Env → L2.St → List Addr → Prop
  | nil : Slots k F H H0 mu ex [] [] []
  | free {ρ : Env} {σ : L2.St} {os : List Addr} {v : Option V} : Slots k F H H0 mu ex ρ σ os → Slots k F H H0 mu ex (none :: ρ) (v :: σ) os
  | val {ρ : Env} {σ : L2.St} {os : List Addr} {x : PV} {v : V} : Rep k F x v → Slots k F H H0 mu ex ρ σ os → Slots k F H H0 mu ex (some (.val x) :: ρ) (some v :: σ) os
  | exc {ρ : Env} {σ : L2.St} {os : List Addr} {e : Exc} {a : Addr} : ex = some (a, e) → Slots k F H H0 mu ex ρ σ os → Slots k F H H0 mu ex (some (.exc e) :: ρ) (some (.ref a) :: σ) os
  | own {ρ : Env} {σ : L2.St} {os : List Addr} {xs : List PV} {vs : List V} {p : Addr} : H p = some (.lst vs) → Reps k F xs vs → H0 p = none → Slots k F H H0 mu ex ρ σ os →
      Slots k F H H0 mu ex (some (.own xs) :: ρ) (some (.ref p) :: σ) (p :: os)
  | obj {ρ : Env} {σ : L2.St} {os qs : List Addr} {m : Bool} {c : Cl} {fs : List FV} {vs : List V} {p dx : Addr} : H p = some (.ins (He.ga k.K c.nm) dx (c.fs.zip vs)) → FVs k F H H0 fs vs qs → fs.length ≤ c.fs.length → c ≠ .ratio → (∀ a ∈ p :: qs, Whose H0 mu m a) → (m = true → mu.head? = some p) → Slots k F H H0 mu ex ρ σ os →
      Slots k F H H0 mu ex (some (.obj m c fs) :: ρ) (some (.ref p) :: σ) (p :: (qs ++ os))
structure Stt (X : Cx) (c : Ct) (F : Hp) (ρ : Env) (σ : L2.St) (H : Hp) : Prop where
  sub : Same F H
  gr : Grow c.F0 c.H0 F
  gua : Gua c.pl c.mu c.H0 H
  p0 : ∀ P s, c.pl = some (P, s) → F P = none ∧ c.H0 P ≠ none ∧ PoolS H P s
  p1 : ∀ P s, c.pl = some (P, s) → c.H0 s ≠ none ∧ P ∉ c.mu ∧ s ∉ c.mu
  m0 : ∀ a ∈ c.mu, ∃ o, c.H0 a = some o ∧ ¬ ImmO o
  slots : ∃ os, Slots ⟨X.K, c.pl⟩ F H c.H0 c.mu c.ex ρ σ os ∧ os.Nodup ∧ ∀ a ∈ os, F a = none
section
variable {k : Kx} {F F' H H' H0 : Hp} {mu : List Addr} {ex : Option (Addr × Exc)} {ρ : Env} {σ : L2.St} {os : List Addr}
theorem fs_rat {c : Cl} {vs : List V} {q : Rat} (h : c.fs.zip vs = ratF q) : c = .ratio := by
  have e : (c.fs.zip vs).map (·.1) = [("top" : Str), "bottom"] := by rw [h]; rfl
  have l : ∀ {as : List Str} {vs : List V} {x y : Str}, (as.zip vs).map (·.1) = [x, y] → as.head? = some x := by
    intro as vs x y h
    cases as with
    | nil => simp at h
    | cons a as => cases vs with
      | nil => simp at h
      | cons v vs => simp at h; simp [h.1]
  have l3 : c.fs.head? = some ("top" : Str) := l e
  cases c <;> first | rfl | (exact absurd l3 (by decide +kernel))
theorem ins_nimm {C dx : Addr} {c : Cl} {vs : List V} (h : c ≠ .ratio) : ¬ ImmO (.ins C dx (c.fs.zip vs)) := fun z => by
  rcases z with ⟨_, _, _, z⟩ | ⟨_, z⟩
  · injection z with _ _ z
    exact h (fs_rat z)
  · cases z
theorem FVs.at_ {fs : List FV} {vs : List V} {qs : List Addr} (h : FVs k F H H0 fs vs qs) : ∀ p ∈ qs, ∃ ws, H p = some (.lst ws) := by
  induction h with
  | nil => intro p hp; cases hp
  | fr _ _ ih => exact ih
  | nw _ _ ih => exact ih
  | ow h1 _ _ ih =>
    intro p hp
    cases hp with
    | head => exact ⟨_, h1⟩
    | tail _ hp => exact ih p hp
theorem FVs.keep {fs : List FV} {vs : List V} {qs : List Addr} (h : FVs k F H H0 fs vs qs) (s : Same F F') (hk : ∀ p ∈ qs, H' p = H p) : FVs k F' H' H0 fs vs qs := by
  induction h with
  | nil => exact .nil
  | fr h1 _ ih => exact .fr (h1.mono s) (ih hk)
  | nw h1 _ ih => exact .nw (h1.mono s) (ih hk)
  | ow h1 h2 _ ih => exact .ow ((hk _ (.head _)).trans h1) (h2.mono s) (ih fun p hp => hk p (.tail _ hp))
theorem FVs.len {fs : List FV} {vs : List V} {qs : List Addr} (h : FVs k F H H0 fs vs qs) : fs.length = vs.length := by
  induction h with
  | nil => rfl
  | fr _ _ ih => simp [ih]
  | nw _ _ ih => simp [ih]
  | ow _ _ _ ih => simp [ih]
/-- frozen -/
theorem FVs.reps {fs : List FV} {vs : List V} {qs : List Addr} {FS : Hp} (h : FVs k F H H0 fs vs qs) (s : Same F FS) (hq : ∀ p ∈ qs, FS p = H p) : Reps k FS (fs.map FV.pv) vs := by
  induction h with
  | nil => exact .nil
  | fr h1 _ ih => exact .cons (h1.mono s) (ih hq)
  | nw h1 _ ih => exact .cons (h1.rep.mono s) (ih hq)
  | ow h1 h2 _ ih => exact .cons ⟨_, _, rfl, (hq _ (.head _)).trans h1, h2.mono s⟩ (ih fun p hp => hq p (.tail _ hp))
theorem Slots.own_at (h : Slots k F H H0 mu ex ρ σ os) : ∀ p ∈ os, (H0 p = none ∨ p ∈ mu) ∧ ∃ o, H p = some o ∧ ¬ ImmO o := by
  induction h with
  | nil => intro p hp; cases hp
  | free _ ih => exact ih
  | val _ _ ih => exact ih
  | exc _ _ ih => exact ih
  | own h1 h2 h3 _ ih =>
    intro p hp
    cases hp with
    | head => exact ⟨.inl h3, _, h1, imm_lst⟩
    | tail _ hp => exact ih p hp
  | @obj ρ σ os qs m c fs vs p0 dx h1 h2 h3 h4 h5 h6 _ ih =>
    intro p hp
    have w : p ∈ p0 :: qs → (H0 p = none ∨ p ∈ mu) := fun hp => by
      have := h5 p hp
      cases m
      · exact .inl this
      · exact .inr this
    cases hp with
    | head => exact ⟨w (.head _), _, h1, ins_nimm h4⟩
    | tail _ hp =>
      rcases List.mem_append.mp hp with hp | hp
      · obtain ⟨ws, e⟩ := h2.at_ p hp
        exact ⟨w (.tail _ hp), _, e, imm_lst⟩
      · exact ih p hp
/-- the heap changes elsewhere, more is frozen -/
theorem Slots.keep (h : Slots k F H H0 mu ex ρ σ os) (s : Same F F') (hk : ∀ p ∈ os, H' p = H p) : Slots k F' H' H0 mu ex ρ σ os := by
  induction h with
  | nil => exact .nil
  | free _ ih => exact .free (ih hk)
  | val h1 _ ih => exact .val (h1.mono s) (ih hk)
  | exc h1 _ ih => exact .exc h1 (ih hk)
  | own h1 h2 h3 _ ih => exact .own ((hk _ (.head _)).trans h1) (h2.mono s) h3 (ih fun p hp => hk p (.tail _ hp))
  | obj h1 h2 h3 h4 h5 h6 _ ih => exact .obj ((hk _ (.head _)).trans h1) (h2.keep s fun p hp => hk p (.tail _ (List.mem_append_left _ hp))) h3 h4 h5 h6 (ih fun p hp => hk p (.tail _ (List.mem_append_right _ hp)))
theorem Slots.len (h : Slots k F H H0 mu ex ρ σ os) : ρ.length = σ.length := by
  induction h with
  | nil => rfl
  | free _ ih => simp [ih]
  | val _ _ ih => simp [ih]
  | exc _ _ ih => simp [ih]
  | own _ _ _ _ ih => simp [ih]
  | obj _ _ _ _ _ _ _ ih => simp [ih]
/-- one slot apart: what stands there, and how it is put back -/
def Slot1 (k : Kx) (F H H0 : Hp) (mu : List Addr) (ex : Option (Addr × Exc)) (o : Option SV) (v : Option V) (qs : List Addr) : Prop := Slots k F H H0 mu ex [o] [v] qs
theorem Slots.cons1 {o : Option SV} {v : Option V} {qs : List Addr} (h1 : Slot1 k F H H0 mu ex o v qs) (h : Slots k F H H0 mu ex ρ σ os) : Slots k F H H0 mu ex (o :: ρ) (v :: σ) (qs ++ os) := by
  unfold Slot1 at h1
  cases h1 with
  | free h1 => cases h1; exact .free h
  | val a h1 => cases h1; exact .val a h
  | exc a h1 => cases h1; exact .exc a h
  | own a b c h1 => cases h1; exact .own a b c h
  | obj a b c d e f h1 =>
    cases h1
    rw [List.append_nil]
    exact .obj a b c d e f h
theorem Slots.uncons {o : Option SV} {v : Option V} (h : Slots k F H H0 mu ex (o :: ρ) (v :: σ) os) : ∃ q1 q2, os = q1 ++ q2 ∧ Slot1 k F H H0 mu ex o v q1 ∧ Slots k F H H0 mu ex ρ σ q2 := by
  cases h with
  | free h => exact ⟨[], _, rfl, .free .nil, h⟩
  | val a h => exact ⟨[], _, rfl, .val a .nil, h⟩
  | exc a h => exact ⟨[], _, rfl, .exc a .nil, h⟩
  | own a b c h => exact ⟨[_], _, rfl, .own a b c .nil, h⟩
  | obj a b c d e f h => exact ⟨_ :: _, _, rfl, by
      have := Slots.obj a b c d e f (Slots.nil (k := k) (F := F) (H := H) (H0 := H0) (mu := mu) (ex := ex))
      rw [List.append_nil] at this
      exact this, h⟩
/-- a slot taken out: the rest and the one -/
theorem Slots.split : ∀ {ρ : Env} {σ : L2.St} {os : List Addr} {i : Nat} {o : Option SV}, Slots k F H H0 mu ex ρ σ os → ρ[i]? = some o →
    ∃ v q1 q2 q3, σ[i]? = some v ∧ os = q1 ++ (q2 ++ q3) ∧ Slot1 k F H H0 mu ex o v q2 ∧ ∀ {F' H' : Hp} {o' : Option SV} {v' : Option V} {q' : List Addr}, Same F F' → (∀ p ∈ q1 ++ q3, H' p = H p) → Slot1 k F' H' H0 mu ex o' v' q' → Slots k F' H' H0 mu ex (ρ.set i o') (σ.set i v') (q1 ++ (q' ++ q3))
  | [], _, _, _, _, _, e => by simp at e
  | a :: ρ, [], _, _, _, h, _ => by cases h
  | a :: ρ, v :: σ, os, 0, o, h, e => by
    simp at e
    subst e
    obtain ⟨q1, q2, rfl, h1, h2⟩ := h.uncons
    exact ⟨v, [], q1, q2, rfl, rfl, h1, fun {F' H' o' v' q'} s hk h3 => (Slots.cons1 h3 (h2.keep s hk) : Slots k F' H' H0 mu ex (o' :: ρ) (v' :: σ) (q' ++ q2))⟩
  | a :: ρ, v :: σ, os, i + 1, o, h, e => by
    obtain ⟨q1, q2, rfl, h1, h2⟩ := h.uncons
    obtain ⟨u, r1, r2, r3, e1, rfl, h3, h4⟩ := Slots.split h2 (by simpa using e)
    refine ⟨u, q1 ++ r1, r2, r3, by simpa using e1, by simp, h3, fun s hk h5 => ?_⟩
    have z := h4 s (fun p hp => hk p (by
      rcases List.mem_append.mp hp with hp | hp
      · exact List.mem_append_left _ (List.mem_append_right _ hp)
      · exact List.mem_append_right _ hp)) h5
    rw [List.append_assoc]
    exact .cons1 (Slots.keep h1 s fun p hp => hk p (List.mem_append_left _ (List.mem_append_left _ hp))) z
theorem Slots.get (h : Slots k F H H0 mu ex ρ σ os) {i : Nat} {x : PV} (e : ρ[i]? = some (some (.val x))) : ∃ v, σ[i]? = some (some v) ∧ Rep k F x v := by
  obtain ⟨v, q1, q2, q3, e1, _, h1, _⟩ := h.split e
  cases h1 with
  | val a _ => exact ⟨_, e1, a⟩
theorem Slots.getO (h : Slots k F H H0 mu ex ρ σ os) {i : Nat} {xs : List PV} (e : ρ[i]? = some (some (.own xs))) : ∃ p vs, σ[i]? = some (some (.ref p)) ∧ H p = some (.lst vs) ∧ Reps k F xs vs ∧ p ∈ os := by
  obtain ⟨v, q1, q2, q3, e1, rfl, h1, _⟩ := h.split e
  cases h1 with
  | own a b c h1 =>
    cases h1
    exact ⟨_, _, e1, a, b, by simp⟩
theorem imm_part (F : Hp) : ∃ Fi : Hp, ∀ a o, Fi a = some o ↔ (F a = some o ∧ ImmO o) := by
  classical
  refine ⟨fun a => if ∃ o, F a = some o ∧ ImmO o then F a else none, fun a o => ?_⟩
  dsimp only
  constructor
  · intro h
    split at h
    · rename_i z
      obtain ⟨o2, e2, i2⟩ := z
      rw [e2] at h
      cases h
      exact ⟨e2, i2⟩
    · cases h
  · rintro ⟨h1, h2⟩
    rw [if_pos ⟨o, h1, h2⟩]
    exact h1
def unionH (A B : Hp) : Hp := fun a => match A a with
  | some o => some o
  | none => B a
theorem unionH_l {A B : Hp} : Same A (unionH A B) := fun a o e => by
  unfold unionH
  rw [e]
theorem unionH_r {A B C : Hp} (h1 : Same A C) (h2 : Same B C) : Same B (unionH A B) := fun a o e => by
  unfold unionH
  cases h : A a with
  | none => exact e
  | some o2 =>
    have := h1 a o2 h
    rw [h2 a o e] at this
    cases this
    rfl
theorem unionH_or {A B : Hp} {a : Addr} {o : HO} (h : unionH A B a = some o) : A a = some o ∨ B a = some o := by
  unfold unionH at h
  cases e : A a with
  | none => rw [e] at h; exact .inr h
  | some o2 => rw [e] at h; exact .inl h
end
section
variable {X : Cx} {c : Ct} {F F' H H' : Hp} {ρ : Env} {σ : L2.St}
theorem Stt.len (S : Stt X c F ρ σ H) : ρ.length = σ.length := let ⟨_, h, _⟩ := S.slots; h.len
theorem Stt.live (S : Stt X c F ρ σ H) : ∀ a ∈ c.mu, ∃ o, H a = some o ∧ ¬ ImmO o := fun a m => S.gua.live a m (S.m0 a m)
theorem Stt.pmu (S : Stt X c F ρ σ H) : ∀ P s, c.pl = some (P, s) → P ∉ c.mu := fun P s e => (S.p1 P s e).2.1
theorem Stt.nexm (S : Stt X c F ρ σ H) {a : Addr} {os : List Addr} (h : Slots ⟨X.K, c.pl⟩ F H c.H0 c.mu c.ex ρ σ os) (m : a ∈ os) : ¬ Exm c.pl [] a := fun z => by
  rcases z with ⟨s, z⟩ | z
  · rcases (h.own_at a m).1 with y | y
    · exact (S.p0 a s z).2.1 y
    · exact (S.p1 a s z).2.1 y
  · cases z
theorem Gua.keepS {H H' : Hp} (g : Gua c.pl [] H H') {os : List Addr} (S : Stt X c F ρ σ H) (h : Slots ⟨X.K, c.pl⟩ F H c.H0 c.mu c.ex ρ σ os) : ∀ p ∈ os, H' p = H p := fun p hp => by
  obtain ⟨_, o, e, _⟩ := h.own_at p hp
  rw [e]
  exact g.keep p o e (S.nexm h hp)
/-- after a call that keeps its promise -/
theorem Stt.called (S : Stt X c F ρ σ H) (g : Gua c.pl [] H H') (gr : Grow F H F') (sub : Same F' H') : Stt X c F' ρ σ H' := by
  refine ⟨sub, S.gr.trans S.gua S.m0 gr, S.gua.trans (g.more S.pmu), fun P s e => ?_, S.p1, S.m0, ?_⟩
  · obtain ⟨h1, h2, h3⟩ := S.p0 P s e
    refine ⟨?_, h2, g.pool P s e⟩
    cases z : F' P with
    | none => rfl
    | some o =>
      rcases gr.n P o z with z2 | z2 | ⟨z2, r⟩
      · rw [h1] at z2; cases z2
      · obtain ⟨o2, e2⟩ := h3.at1
        rw [e2] at z2; cases z2
      · exact absurd r (pool_nimm h3 z2)
  · obtain ⟨os, hs, nd, hf⟩ := S.slots
    refine ⟨os, hs.keep gr.s (g.keepS S hs), nd, fun p hp => ?_⟩
    obtain ⟨_, o, a3, nr⟩ := hs.own_at p hp
    cases z : F' p with
    | none => rfl
    | some o2 =>
      rcases gr.n p o2 z with z2 | z2 | ⟨z2, r⟩
      · rw [hf p hp] at z2; cases z2
      · rw [a3] at z2; cases z2
      · rw [a3] at z2; cases z2; exact absurd r nr
theorem gua_refl {pl : Option (Addr × Addr)} {H : Hp} (h : ∀ P s, pl = some (P, s) → PoolS H P s) : Gua pl [] H H := ⟨fun _ _ z _ => z, h, nofun⟩
theorem Stt.gself (S : Stt X c F ρ σ H) : Gua c.pl [] H H := gua_refl fun P s e => (S.p0 P s e).2.2
/-- more in the heap -/
theorem Stt.same (S : Stt X c F ρ σ H) (g : Same H H') : Stt X c F ρ σ H' := S.called (S.gself.same g) .refl (fun a o h => g a o (S.sub a o h))
theorem Stt.fnone (S : Stt X c F ρ σ H) {p : Addr} (h : H p = none) : F p = none := by
  cases z : F p with
  | none => rfl
  | some o2 => rw [S.sub p o2 z] at h; cases h
theorem Stt.h0 (S : Stt X c F ρ σ H) {p : Addr} (h : H p = none) : c.H0 p = none := S.gua.back S.m0 h
/-- a new object, frozen at once -/
theorem Stt.new (S : Stt X c F ρ σ H) {p : Addr} {o : HO} (h : H p = none) : Stt X c (upd F p o) ρ σ (upd H p o) ∧ Same F (upd F p o) := by
  have sm : Same F (upd F p o) := same_new (S.fnone h)
  refine ⟨S.called (S.gself.same (same_new h)) ⟨sm, fun a o2 e => ?_⟩ (fun a o2 e => ?_), sm⟩
  · by_cases z : a = p
    · subst z; exact .inr (.inl h)
    · rw [upd_ne z] at e; exact .inl e
  · by_cases z : a = p
    · subst z; rw [upd_same] at e ⊢; exact e
    · rw [upd_ne z] at e ⊢; exact S.sub a o2 e
theorem Stt.get (S : Stt X c F ρ σ H) {i : Nat} {x : PV} (e : ρ[i]? = some (some (.val x))) : ∃ v, σ[i]? = some (some v) ∧ Rep ⟨X.K, c.pl⟩ F x v := let ⟨_, hs, _⟩ := S.slots; hs.get e
/-- a slot gets something that is no one's own -/
theorem Stt.put0 (S : Stt X c F ρ σ H) {o : Option SV} {v : Option V} (r : Slot1 ⟨X.K, c.pl⟩ F H c.H0 c.mu c.ex o v []) (i : Nat) : Stt X c F (ρ.set i o) (σ.set i v) H := by
  obtain ⟨os, hs, nd, hf⟩ := S.slots
  cases e : ρ[i]? with
  | none =>
    have l : ρ.length ≤ i := by simpa using e
    rw [List.set_eq_of_length_le l, List.set_eq_of_length_le (by rw [← S.len]; exact l)]
    exact S
  | some o2 =>
    obtain ⟨_, q1, q2, q3, _, rfl, _, h2⟩ := hs.split e
    refine ⟨S.sub, S.gr, S.gua, S.p0, S.p1, S.m0, _, h2 (fun _ _ z => z) (fun _ _ => rfl) r, ?_, fun a m => hf a ?_⟩
    · rw [List.nil_append]
      rw [List.nodup_append] at nd ⊢
      obtain ⟨n1, n2, n3⟩ := nd
      rw [List.nodup_append] at n2
      exact ⟨n1, n2.2.1, fun a ha b hb => n3 a ha b (List.mem_append_right _ hb)⟩
    · rw [List.nil_append] at m
      rcases List.mem_append.mp m with m | m
      · exact List.mem_append_left _ m
      · exact List.mem_append_right _ (List.mem_append_right _ m)
theorem Stt.set (S : Stt X c F ρ σ H) {x : PV} {v : V} (r : Rep ⟨X.K, c.pl⟩ F x v) (i : Nat) : Stt X c F (ρ.set i (some (.val x))) (σ.set i (some v)) H := S.put0 (.val r .nil) i
theorem Stt.wipe1 (S : Stt X c F ρ σ H) (u : Option V) (i : Nat) : Stt X c F (ρ.set i none) (σ.set i u) H := S.put0 (.free .nil) i
end
end Pu

/-! PB: codes, what they mean over values without a heap, and which syntax they stand for. -/
namespace Pu
open PySem PySem.Spec PyProof.Rows L2 Ni
/-- a promise over values; fresh: what it gives is new, or never changed -/
structure PSpec where
  fresh : Bool := false
  run : List PV → (PV → Prop) → (Exc → Prop) → Prop
  mono : ∀ {xs : List PV} {Q Q' : PV → Prop} {E E' : Exc → Prop}, (∀ x, Q x → Q' x) → (∀ e, E e → E' e) → run xs Q E → run xs Q' E'
inductive OpK where
  | bin (op : Operator) | ipl (op : Operator) | cmp (op : CmpOp) | neg | bi (b : Bi) | ix | fld (c : Cl) (j : Nat)
inductive GK where
  | glo (x : Str) | met (c : Cl) (m : Str)
inductive MK where
  | met (c : Cl) (m : Str) | set (c : Cl) | iop (c : Cl) (op : Operator) | prp (c : Cl) (m : Str) | ini (c : Cl)
/-- a promise of what changes its first argument: the fields ahead, the others; the value and the fields behind -/
structure MSpec where
  run : Cl → List FV → List PV → (PV → List FV → Prop) → (Exc → List FV → Prop) → Prop
  mono : ∀ {c : Cl} {fs : List FV} {xs : List PV} {Q Q' : PV → List FV → Prop} {E E' : Exc → List FV → Prop}, (∀ x gs, Q x gs → Q' x gs) → (∀ e gs, E e gs → E' e gs) → run c fs xs Q E → run c fs xs Q' E'
structure Lang where
  G : List (GK × PSpec)
  op : OpK → PSpec
  M : List (MK × MSpec) := []
  X : List (Cl × Cl) := []
  I : List (Cl × Cl) := []
mutual
inductive CE where
  | var (i : Nat) | int (n : Int) | bl (b : Bool) | non | str (s : Str) | ty (n : Bi) | cls (c : Cl)
  | tup (es : CEs) | fr (o : CO)
  | bin (op : Operator) (a b : CE) | neg (a : CE) | inot (a : CE)
  | cmp (op : CmpOp) (a b : CE) | cmp2 (o1 o2 : CmpOp) (a b c : CE)
  | and (es : CEs) | or (es : CEs) | ite (c a b : CE)
  | call (i : Nat) (es : CEs) | meth (i : Nat) (a : CE) (es : CEs) | bi (b : Bi) (es : CEs)
  | fld (c : Cl) (j : Nat) (a : CE) | ix (a b : CE) | ixo (i : Nat) (b : CE) | leno (i : Nat)
  | snap (e : CE) | snapF (e : CE) | isX (i : Nat) (c : Cl)
inductive CEs where
  | nil | cons (e : CE) (es : CEs)
inductive CO where
  | lst (es : CEs) | comp (t : Tgt) (it : CIt) (cs : CEs) (e : CE) (own : List (Str × Nat)) | ofL (a : CE) | ofT (a : CE) | cat (a b : CE) | rep (a b : CE) | sl (a lo hi : CE) | snapO (o : CO)
inductive CIt where
  | seqV (i : Nat) | seqL (a : CE) | seqT (a : CE) | range (a : CE) | range2 (a b : CE) | zip (a b : CE) | enum (a : CE)
inductive Tgt where
  | nm (i : Nat) | tup (ts : Tgts)
inductive Tgts where
  | nil | cons (t : Tgt) (ts : Tgts)
end
mutual
inductive CS where
  | asg (t : Tgt) (e : CE) | own (i : Nat) (o : CO) | frz (i : Nat) | seto (i : Nat) (k v : CE) | app (i : Nat) (e : CE) | setf (i : Nat) (c : Cl) (j : Nat) (e : CE) | setfO (i : Nat) (c : Cl) (j : Nat) (o : CO)
  | ownE (i : Nat) (e : CE) | retI (e : CE) | retO (i : Nat) | seti (i : Nat) (j : Nat) (k v : CE)
  | ownC (i : Nat) (o : CO) | par (i j : Nat) (a b : CE) | aug (i : Nat) (op : Operator) (e : CE)
  | ret (e : CE) | retN | pass | brk | cont | doc | expr (e : CE)
  | ite (c : CE) (a b : CSs) | for_ (t : Tgt) (it : CIt) (b : CSs) | while_ (c : CE) (b : CSs)
  | raise_ (c : Cl) | raiseE (c : Cl) (e : CE) | tryX (b : CSs) (c : Cl) (i : Nat) (h : CSs)
  | mut (t : Option Nat) (i m : Nat) (es : CEs)
inductive CSs where
  | nil | cons (s : CS) (b : CSs)
end

/-! ### what codes mean -/
def nth {α : Type} : List α → Nat → Option α
  | [], _ => none
  | x :: _, 0 => some x
  | _ :: xs, n + 1 => nth xs n
theorem nth_eq {α : Type} : ∀ (l : List α) (n : Nat), nth l n = l[n]?
  | [], _ => by simp [nth]
  | _ :: _, 0 => by simp [nth]
  | _ :: xs, n + 1 => by simp [nth, nth_eq xs n]
def put {α : Type} (v : α) : List α → Nat → List α
  | [], _ => []
  | _ :: xs, 0 => v :: xs
  | x :: xs, n + 1 => x :: put v xs n
theorem put_eq {α : Type} (v : α) : ∀ (l : List α) (n : Nat), put v l n = l.set n v
  | [], _ => by simp [put]
  | _ :: _, 0 => by simp [put]
  | _ :: xs, n + 1 => by simp [put, put_eq v xs n]
abbrev KE := Exc → Prop
def getV (ρ : Env) (i : Nat) (Q : PV → Prop) : Prop := match nth ρ i with
  | some (some (.val x)) => Q x
  | _ => False
def getO (ρ : Env) (i : Nat) (Q : List PV → Prop) : Prop := match nth ρ i with
  | some (some (.own xs)) => Q xs
  | _ => False
def asB (x : PV) (Q : Bool → Prop) : Prop := match x with
  | .bl b => Q b
  | _ => False
def asI (x : PV) (Q : Int → Prop) : Prop := match x with
  | .int n => Q n
  | _ => False
def asL (x : PV) (Q : List PV → Prop) : Prop := match x with
  | .lst xs => Q xs
  | _ => False
def asT (x : PV) (Q : List PV → Prop) : Prop := match x with
  | .tup xs => Q xs
  | _ => False
def asS (x : PV) (Q : List PV → Prop) : Prop := match x with
  | .lst xs => Q xs
  | .tup xs => Q xs
  | _ => False
def ifT (a b : Bool) : Bool := match a with
  | true => b
  | false => false
/-- a test -/
def ifB (b : Bool) (A B : Prop) : Prop := match b with
  | true => A
  | false => B
abbrev Lang.of (G : List (GK × PSpec)) (op : OpK → PSpec) : Lang := { G := G, op := op }
mutual
/-- what is never changed, and nothing in it -/
def immP : PV → Bool
  | .lst _ => false
  | .obj _ _ => false
  | .pool => false
  | .tup xs => immPs xs
  | _ => true
def immPs : List PV → Bool
  | [] => true
  | x :: xs => ifT (immP x) (immPs xs)
end
/-- a field that can be given away -/
def freshFV : FV → Bool
  | .fr x => immP x
  | .nw _ => true
  | .ow xs => immPs xs
def freshFVs : List FV → Bool
  | [] => true
  | f :: fs => ifT (freshFV f) (freshFVs fs)
/-- all slots as values -/
def snapV : Option SV → Option SV
  | some (.own xs) => some (.val (.lst xs))
  | some (.obj _ c fs) => some (.val (.obj c (fs.map FV.pv)))
  | some (.val x) => some (.val x)
  | some (.exc e) => some (.exc e)
  | none => none
def snapE : Env → Env
  | [] => []
  | o :: ρ => snapV o :: snapE ρ
/-- the fields of a new instance that becomes one's own: at most one list -/
def thawFs : Bool → List PV → Option (List FV)
  | _, [] => some []
  | u, .lst ys :: xs => match u with
    | true => none
    | false => (match immPs ys with
      | true => (match thawFs true xs with
        | some fs => some (.ow ys :: fs)
        | none => none)
      | false => none)
  | u, x :: xs => match immP x with
    | true => (match thawFs u xs with
      | some fs => some (.fr x :: fs)
      | none => none)
    | false => none
/-- a new value becomes one's own -/
def thaw : PV → Option SV
  | .lst xs => match immPs xs with
    | true => some (.own xs)
    | false => none
  | .obj c xs => match thawFs false xs with
    | some fs => some (.obj false c fs)
    | none => none
  | _ => none
def PSpec.never : PSpec := ⟨true, fun _ _ _ => False, fun _ _ h => h⟩
/-- what may be said while an error is handled -/
def Lang.hot (L : Lang) : Lang := ⟨L.G.map fun q => (q.1, .never), fun _ => .never, [], [], L.I⟩
def optS (o : Option SV) (Q : SV → Prop) : Prop := match o with
  | some x => Q x
  | none => False
/-- no error is held any more -/
def noX : Env → Env
  | [] => []
  | some (.exc _) :: ρ => none :: noX ρ
  | o :: ρ => o :: noX ρ
def frG (L : Lang) (i : Nat) : Bool := match nth L.G i with
  | some p => p.2.fresh
  | none => false
mutual
/-- what gives something new, or something that is never changed -/
def frE (L : Lang) : CE → Bool
  | .int _ => true
  | .bl _ => true
  | .non => true
  | .str _ => true
  | .call i _ => frG L i
  | .meth i _ _ => frG L i
  | .bin op _ _ => (L.op (.bin op)).fresh
  | .cmp op _ _ => (L.op (.cmp op)).fresh
  | .neg _ => (L.op .neg).fresh
  | .bi b _ => (L.op (.bi b)).fresh
  | .tup es => frEs L es
  | .snap _ => true
  | .snapF _ => true
  | .isX _ _ => true
  | _ => false
def frEs (L : Lang) : CEs → Bool
  | .nil => true
  | .cons e es => ifT (frE L e) (frEs L es)
end
def retFr (L : Lang) : CS → Bool
  | .ret e => frE L e
  | _ => true
mutual
/-- all that is returned is new, or never changed -/
def retsF (L : Lang) : CS → Bool
  | .ret e => frE L e
  | .ite _ a b => ifT (retsB L a) (retsB L b)
  | .for_ _ _ b => retsB L b
  | .while_ _ b => retsB L b
  | .tryX b _ _ h => ifT (retsB L b) (retsB L.hot h)
  | _ => true
def retsB (L : Lang) : CSs → Bool
  | .nil => true
  | .cons s b => ifT (retsF L s) (retsB L b)
end
def subE : Cl → Cl → Bool
  | _, .neverIdle => true
  | c, d => decide (c = d)
def pairIn : List (Cl × Cl) → Cl → Cl → Bool
  | [], _, _ => false
  | q :: l, a, b => match ifT (decide (q.1 = a)) (decide (q.2 = b)) with
    | true => true
    | false => pairIn l a b
def isNil : List PV → Bool
  | [] => true
  | _ :: _ => false
def getX (ρ : Env) (i : Nat) (Q : Exc → Prop) : Prop := match nth ρ i with
  | some (some (.exc e)) => Q e
  | _ => False
def excs : List Cl := [.neverIdle, .badNumber, .zeroBottom, .badValue, .badLength, .badKind, .badHeaps, .badPiece, .badText, .badNet, .overfull, .notCalm]
def callG (L : Lang) (i : Nat) (xs : List PV) (Q : PV → Prop) (E : KE) : Prop := match nth L.G i with
  | some p => p.2.run xs Q E
  | none => False
def isCl (c : Cl) (x : PV) (Q : Prop) : Prop := match x with
  | .obj d _ => if d = c then Q else False
  | .rat _ => if c = .ratio then Q else False
  | _ => False
/-- the length of a list stays small -/
def SmallL (n : Nat) : Prop := n ≤ 100000
def tlen : Tgts → Nat
  | .nil => 0
  | .cons _ ts => tlen ts + 1
mutual
def bindT : Tgt → PV → Env → (Env → Prop) → Prop
  | .nm i, x, ρ, Q => Q (put (some (.val x)) ρ i)
  | .tup ts, x, ρ, Q => asT x fun xs => ifB (Nat.beq (tlen ts) xs.length) (bindTs ts xs ρ Q) False
def bindTs : Tgts → List PV → Env → (Env → Prop) → Prop
  | .nil, xs, ρ, Q => match xs with
    | [] => Q ρ
    | _ :: _ => False
  | .cons t ts, xs, ρ, Q => match xs with
    | [] => False
    | x :: xs => bindT t x ρ fun ρ => bindTs ts xs ρ Q
end
def wipes (ρ : Env) : List (Str × Nat) → Env
  | [] => ρ
  | v :: vs => put none (wipes ρ vs) v.2
def zipP : List PV → List PV → List PV
  | x :: xs, y :: ys => .tup [x, y] :: zipP xs ys
  | _, _ => []
def enumP (n : Nat) : List PV → List PV
  | [] => []
  | x :: xs => .tup [.int n, x] :: enumP (n + 1) xs
def rangeP (lo : Int) : Nat → List PV
  | 0 => []
  | n + 1 => .int lo :: rangeP (lo + 1) n
def denComp (step : PV → (Option PV → Prop) → Prop) : List PV → List PV → (List PV → Prop) → Prop
  | [], acc, Q => Q acc
  | x :: xs, acc, Q => step x fun y => match y with
    | some y => denComp step xs (acc ++ [y]) Q
    | none => denComp step xs acc Q
def FarI (n : Int) : Prop := -(2 ^ 62) ≤ n ∧ n < 2 ^ 62
def cutP (xs : List PV) (lo hi : Option Int) : List PV := (xs.drop (HT.sIx xs.length 0 lo)).take (HT.sIx xs.length xs.length hi - HT.sIx xs.length 0 lo)
def isNon : CE → Bool
  | .non => true
  | _ => false
def optP (o : Option PV) (Q : PV → Prop) : Prop := match o with
  | some x => Q x
  | none => False
def atP (xs : List PV) (n : Int) (Q : PV → Prop) : Prop := match n with
  | .ofNat k => optP (nth xs k) Q
  | .negSucc k => ifB (Nat.ble (k + 1) xs.length) (optP (nth xs (xs.length - (k + 1))) Q) False
mutual
def denE (L : Lang) : CE → Env → (PV → Prop) → KE → Prop
  | .var i, ρ, Q, _ => getV ρ i Q
  | .int n, _, Q, _ => Q (.int n)
  | .bl b, _, Q, _ => Q (.bl b)
  | .non, _, Q, _ => Q .non
  | .str s, _, Q, _ => Q (.str s)
  | .ty b, _, Q, _ => Q (.ty b)
  | .cls c, _, Q, _ => Q (.cls c)
  | .tup es, ρ, Q, E => denEs L es ρ (fun xs => Q (.tup xs)) E
  | .fr o, ρ, Q, E => denO L o ρ (fun xs => Q (.lst xs)) E
  | .bin op a b, ρ, Q, E => denE L a ρ (fun x => denE L b ρ (fun y => (L.op (.bin op)).run [x, y] Q E) E) E
  | .neg a, ρ, Q, E => denE L a ρ (fun x => (L.op .neg).run [x] Q E) E
  | .inot a, ρ, Q, E => denE L a ρ (fun x => asB x fun b => Q (.bl (!b))) E
  | .cmp op a b, ρ, Q, E => denE L a ρ (fun x => denE L b ρ (fun y => (L.op (.cmp op)).run [x, y] Q E) E) E
  | .cmp2 o1 o2 a b c, ρ, Q, E => denE L a ρ (fun x => denE L b ρ (fun y => (L.op (.cmp o1)).run [x, y] (fun z => asB z fun k => ifB k (denE L c ρ (fun z => (L.op (.cmp o2)).run [y, z] Q E) E) (Q (.bl false))) E) E) E
  | .and es, ρ, Q, E => denAnd L es ρ Q E
  | .or es, ρ, Q, E => denOr L es ρ Q E
  | .ite c a b, ρ, Q, E => denE L c ρ (fun x => asB x fun k => ifB k (denE L a ρ Q E) (denE L b ρ Q E)) E
  | .call i es, ρ, Q, E => denEs L es ρ (fun xs => callG L i xs Q E) E
  | .meth i a es, ρ, Q, E => denE L a ρ (fun x => match nth L.G i with
    | some (.met c _, _) => isCl c x (denEs L es ρ (fun xs => callG L i (x :: xs) Q E) E)
    | _ => False) E
  | .bi b es, ρ, Q, E => denEs L es ρ (fun xs => (L.op (.bi b)).run xs Q E) E
  | .fld c j a, ρ, Q, E => denE L a ρ (fun x => (L.op (.fld c j)).run [x] Q E) E
  | .ix a b, ρ, Q, E => denE L a ρ (fun x => denE L b ρ (fun y => (L.op .ix).run [x, y] Q E) E) E
  | .ixo i b, ρ, Q, E => getO ρ i fun xs => denE L b ρ (fun y => asI y fun n => atP xs n Q) E
  | .leno i, ρ, Q, _ => getO ρ i fun xs => Q (.int xs.length)
  | .snap e, ρ, Q, E => denE L e (snapE ρ) (fun x => ifB (immP x) (Q x) False) fun e => ifB (immPs e.d) (E e) False
  | .snapF e, ρ, Q, E => ifB (frE L e) (denE L e (snapE ρ) Q fun e => ifB (immPs e.d) (E e) False) False
  | .isX i c, ρ, Q, _ => getX ρ i fun e => ifB (isNil e.d) (ifB (pairIn L.I e.c c) (Q (.bl (subE e.c c))) False) False
def denEs (L : Lang) : CEs → Env → (List PV → Prop) → KE → Prop
  | .nil, _, Q, _ => Q []
  | .cons e es, ρ, Q, E => denE L e ρ (fun x => denEs L es ρ (fun xs => Q (x :: xs)) E) E
def denAnd (L : Lang) : CEs → Env → (PV → Prop) → KE → Prop
  | .nil, _, _, _ => False
  | .cons e .nil, ρ, Q, E => denE L e ρ Q E
  | .cons e (.cons e2 es), ρ, Q, E => denE L e ρ (fun x => asB x fun k => ifB k (denAnd L (.cons e2 es) ρ Q E) (Q (.bl false))) E
def denOr (L : Lang) : CEs → Env → (PV → Prop) → KE → Prop
  | .nil, _, _, _ => False
  | .cons e .nil, ρ, Q, E => denE L e ρ Q E
  | .cons e (.cons e2 es), ρ, Q, E => denE L e ρ (fun x => asB x fun k => ifB k (Q (.bl true)) (denOr L (.cons e2 es) ρ Q E)) E
def denO (L : Lang) : CO → Env → (List PV → Prop) → KE → Prop
  | .lst es, ρ, Q, E => denEs L es ρ Q E
  | .comp t it cs e own, ρ, Q, E => denIt L it ρ (fun xs => SmallL xs.length ∧ denComp (fun x K => bindT t x (wipes ρ own) fun ρ2 => denConds L cs ρ2 (fun b => ifB b (denE L e ρ2 (fun y => K (some y)) fun _ => False) (K none))) xs [] Q) E
  | .ofL a, ρ, Q, E => denE L a ρ (fun x => asL x Q) E
  | .ofT a, ρ, Q, E => denE L a ρ (fun x => asT x Q) E
  | .cat a b, ρ, Q, E => denE L a ρ (fun x => denE L b ρ (fun y => asL x fun xs => asL y fun ys => SmallL (xs.length + ys.length) ∧ Q (xs ++ ys)) E) E
  | .snapO o, ρ, Q, E => denO L o (snapE ρ) (fun xs => ifB (immPs xs) (Q xs) False) fun e => ifB (immPs e.d) (E e) False
  | .rep a b, ρ, Q, E => denE L a ρ (fun x => denE L b ρ (fun y => asL x fun xs => asI y fun n => 0 ≤ n ∧ n ≤ 100000 ∧ SmallL (xs.length * n.toNat) ∧ Q ((List.replicate n.toNat xs).flatten)) E) E
  | .sl a lo hi, ρ, Q, E => denE L a ρ (fun x => asL x fun xs => (fun K => ifB (isNon lo) (K none) (denE L lo ρ (fun x => asI x fun n => K (some n)) E)) fun l => (fun K => ifB (isNon hi) (K none) (denE L hi ρ (fun x => asI x fun n => K (some n)) E)) fun h => Q (cutP xs l h)) E
def denConds (L : Lang) : CEs → Env → (Bool → Prop) → Prop
  | .nil, _, Q => Q true
  | .cons e .nil, ρ, Q => denE L e ρ (fun x => asB x Q) fun _ => False
  | .cons _ (.cons _ _), _, _ => False
def denIt (L : Lang) : CIt → Env → (List PV → Prop) → KE → Prop
  | .seqV i, ρ, Q, _ => getV ρ i fun x => asS x Q
  | .seqL a, ρ, Q, E => denE L a ρ (fun x => asL x Q) E
  | .seqT a, ρ, Q, E => denE L a ρ (fun x => asT x Q) E
  | .range a, ρ, Q, E => denE L a ρ (fun x => asI x fun n => FarI n ∧ Q (rangeP 0 n.toNat)) E
  | .range2 a b, ρ, Q, E => denE L a ρ (fun x => denE L b ρ (fun y => asI x fun n => asI y fun m => FarI n ∧ FarI m ∧ Q (rangeP n (m - n).toNat)) E) E
  | .zip a b, ρ, Q, E => denE L a ρ (fun x => denE L b ρ (fun y => asL x fun xs => asL y fun ys => Q (zipP xs ys)) E) E
  | .enum a, ρ, Q, E => denE L a ρ (fun x => asL x fun xs => Q (enumP 0 xs)) E
end
structure PEnds where
  nx : Env → Prop
  rt : PV → Env → Prop
  bk : Env → Prop := fun _ => False
  ct : Env → Prop := fun _ => False
  ex : Exc → Env → Prop
def denFor (step : PV → Env → (Env → Prop) → Prop) : List PV → Env → (Env → Prop) → Prop
  | [], ρ, K => K ρ
  | x :: xs, ρ, K => step x ρ fun ρ => denFor step xs ρ K
def frzV (ρ : Env) (i : Nat) (Q : Env → Prop) : Prop := match nth ρ i with
  | some (some (.own xs)) => Q (put (some (.val (.lst xs))) ρ i)
  | some (some (.obj m c fs)) => ifB m False (Q (put (some (.val (.obj c (fs.map FV.pv)))) ρ i))
  | _ => False
def setF (ρ : Env) (i : Nat) (c : Cl) (j : Nat) (x : FV) (Q : Env → Prop) : Prop := match nth ρ i with
  | some (some (.obj m d fs)) => ifB (decide (d.fs[j]? = c.fs[j]?)) (ifB (Nat.blt j d.fs.length) (ifB (Nat.beq j fs.length) (Q (put (some (.obj m d (fs ++ [x]))) ρ i)) (ifB (Nat.blt j fs.length) (Q (put (some (.obj m d (put x fs j))) ρ i)) False)) False) False
  | _ => False
def getM (ρ : Env) (i : Nat) (Q : Bool → Cl → List FV → Prop) : Prop := match nth ρ i with
  | some (some (.obj m c fs)) => Q m c fs
  | _ => False
def getFO (fs : List FV) (j : Nat) (Q : List PV → Prop) : Prop := match nth fs j with
  | some (.ow xs) => Q xs
  | _ => False
def fvOf (b : Bool) (x : PV) : FV := match b with
  | true => .nw x
  | false => .fr x
def retS (ρ : Env) (i : Nat) (Q : PV → Prop) : Prop := match nth ρ i with
  | some (some (.own xs)) => ifB (immPs xs) (Q (.lst xs)) False
  | some (some (.obj m c fs)) => ifB m False (ifB (freshFVs fs) (Q (.obj c (fs.map FV.pv))) False)
  | _ => False
def putT (t : Option Nat) (y : PV) (ρ : Env) : Env := match t with
  | some k => put (some (.val y)) ρ k
  | none => ρ
def callM (L : Lang) (m : Nat) (c : Cl) (fs : List FV) (xs : List PV) (Q : PV → List FV → Prop) (E : Exc → List FV → Prop) : Prop := match nth L.M m with
  | some p => p.2.run c fs xs Q E
  | none => False
def setP (xs : List PV) (n : Int) (x : PV) (Q : List PV → Prop) : Prop := match n with
  | .ofNat k => ifB (Nat.blt k xs.length) (Q (put x xs k)) False
  | .negSucc _ => False
mutual
def denS (L : Lang) : CS → Env → PEnds → Prop
  | .asg t e, ρ, D => denE L e ρ (fun x => bindT t x ρ D.nx) fun e => D.ex e ρ
  | .own i o, ρ, D => denO L o ρ (fun xs => ifB (Nat.blt i ρ.length) (D.nx (put (some (.own xs)) ρ i)) False) fun e => D.ex e ρ
  | .ownC i o, ρ, D => denO L o ρ (fun xs => ifB (Nat.blt i ρ.length) (D.nx (put (some (.own xs)) ρ i)) False) fun e => D.ex e ρ
  | .frz i, ρ, D => frzV ρ i D.nx
  | .seto i k v, ρ, D => getO ρ i fun xs => denE L v ρ (fun x => denE L k ρ (fun y => asI y fun n => setP xs n x fun ys => D.nx (put (some (.own ys)) ρ i)) fun e => D.ex e ρ) fun e => D.ex e ρ
  | .app i e, ρ, D => getO ρ i fun xs => denE L e ρ (fun x => SmallL (xs.length + 1) ∧ D.nx (put (some (.own (xs ++ [x]))) ρ i)) fun e => D.ex e ρ
  | .setf i c j e, ρ, D => denE L e ρ (fun x => setF ρ i c j (fvOf (frE L e) x) D.nx) fun e => D.ex e ρ
  | .setfO i c j o, ρ, D => denO L o ρ (fun xs => setF ρ i c j (.ow xs) D.nx) fun e => D.ex e ρ
  | .ownE i e, ρ, D => ifB (frE L e) (denE L e ρ (fun x => optS (thaw x) fun sv => ifB (Nat.blt i ρ.length) (D.nx (put (some sv) ρ i)) False) fun e => D.ex e ρ) False
  | .retI e, ρ, D => denE L e ρ (fun x => ifB (immP x) (D.rt x ρ) False) fun e => D.ex e ρ
  | .retO i, ρ, D => retS ρ i fun x => D.rt x (put (some (.val x)) ρ i)
  | .seti i j k v, ρ, D => getM ρ i fun m c fs => getFO fs j fun xs => denE L v ρ (fun x => denE L k ρ (fun y => asI y fun n => setP xs n x fun ys => D.nx (put (some (.obj m c (put (.ow ys) fs j))) ρ i)) fun e => D.ex e ρ) fun e => D.ex e ρ
  | .mut t i m es, ρ, D => getM ρ i fun b c fs => denEs L es ρ (fun xs => callM L m c fs xs (fun y gs => ifB (immP y) (D.nx (putT t y (put (some (.obj b c gs)) ρ i))) False) fun e gs => D.ex e (put (some (.obj b c gs)) ρ i)) fun e => D.ex e ρ
  | .par i j a b, ρ, D => denE L a ρ (fun x => denE L b ρ (fun y => D.nx (put (some (.val y)) (put (some (.val x)) ρ i) j)) fun e => D.ex e ρ) fun e => D.ex e ρ
  | .aug i op e, ρ, D => getV ρ i fun x => denE L e ρ (fun y => (L.op (.ipl op)).run [x, y] (fun z => D.nx (put (some (.val z)) ρ i)) fun e => D.ex e ρ) fun e => D.ex e ρ
  | .ret e, ρ, D => denE L e ρ (fun x => D.rt x ρ) fun e => D.ex e ρ
  | .retN, ρ, D => D.rt .non ρ
  | .pass, ρ, D => D.nx ρ
  | .brk, ρ, D => D.bk ρ
  | .cont, ρ, D => D.ct ρ
  | .doc, ρ, D => D.nx ρ
  | .expr e, ρ, D => denE L e ρ (fun _ => D.nx ρ) fun e => D.ex e ρ
  | .ite c a b, ρ, D => denE L c ρ (fun x => asB x fun k => ifB k (denB L a ρ D) (denB L b ρ D)) fun e => D.ex e ρ
  | .for_ t it b, ρ, D => denIt L it ρ (fun xs => denFor (fun x ρ K => bindT t x ρ fun ρ => denB L b ρ { D with nx := K, ct := K, bk := D.nx }) xs ρ D.nx) fun e => D.ex e ρ
  | .while_ c b, ρ, D => ∃ (W : Nat → Env → Prop), (∃ m, W m ρ) ∧ ∀ m ρ, W m ρ → denE L c ρ (fun x => asB x fun k => ifB k (denB L b ρ { D with nx := fun ρ => ∃ m', m' < m ∧ W m' ρ, ct := fun ρ => ∃ m', m' < m ∧ W m' ρ, bk := D.nx }) (D.nx ρ)) fun e => D.ex e ρ
  | .raise_ c, ρ, D => D.ex ⟨c, []⟩ ρ
  | .raiseE c e, ρ, D => denE L e ρ (fun x => D.ex ⟨c, [x]⟩ ρ) fun e => D.ex e ρ
  | .tryX b c i h, ρ, D => denB L b ρ { D with ex := fun e ρ' => ifB (pairIn L.X e.c c) (ifB (subE e.c c) (denB L.hot h (put (some (.exc e)) ρ' i) { nx := fun ρ => D.nx (put none (noX ρ) i), rt := fun x ρ => D.rt x (noX ρ), bk := fun ρ => D.bk (put none (noX ρ) i), ct := fun ρ => D.ct (put none (noX ρ) i), ex := fun _ _ => False }) (D.ex e ρ')) False }
def denB (L : Lang) : CSs → Env → PEnds → Prop
  | .nil, ρ, D => D.nx ρ
  | .cons s b, ρ, D => denS L s ρ { D with nx := fun ρ => denB L b ρ D }
end
end Pu

/-! PC: which syntax a code stands for; what is asked of a context. -/
namespace Pu
open PySem PySem.Spec PyProof.Rows L2 Ni
def relS (sc scope : Scope) : Scope := { scope with names := scope.names.map fun (n, k) => if (k == NameKind.free && sc.kind == .function && sc.names.lookup n == some .cell) then (n, NameKind.cell) else (n, k) }
def locB (all : Bool) (sc : Scope) (x : Str) : Bool := match sc.names.lookup x with
  | some .local => true
  | some .cell => all
  | _ => false
def gloB (sc : Scope) (x : Str) : Bool := decide (sc.names.lookup x = some .globalImplicit) && !(x == ("__debug__" : Str)) && decide (x ≠ "__name__")
def okN (x : Str) : Bool := !(x == ("__debug__" : Str)) && !(x == ("__classdict__" : Str))
def noStar : Expr → Bool
  | .Starred _ _ => false
  | _ => true
def noSet : Expr → Bool
  | .Set _ _ _ => false
  | _ => true
def noComp : Expr → Bool
  | .ListComp _ _ _ _ => false
  | .SetComp _ _ _ _ => false
  | .DictComp _ _ _ _ _ => false
  | _ => true
def noSup : Expr → Bool
  | .Call (.Name _ _) [] [] _ => false
  | _ => true
def noTup : Expr → Bool
  | .Tuple _ _ _ => false
  | _ => true
/-- a tuple of constants -/
def fldT : Expr → Bool
  | .Tuple vs _ _ => vs.all (foldedForSure 8)
  | _ => false
def noSlice : Expr → Bool
  | .Slice _ _ _ _ => false
  | _ => true
section
variable (N : List Str) (G : List GK) (CL : List Cl) (cm : Bool)
def isGlo (i : Nat) (x : Str) : Bool := match nth G i with
  | some (.glo y) => decide (x = y)
  | _ => false
def isMet (i : Nat) (m : Str) : Bool := match nth G i with
  | some (.met _ y) => decide (m = y)
  | _ => false
mutual
def mT (all : Bool) (sc : Scope) : Tgt → Expr → Bool
  | .nm i, e => match e with
    | .Name x _ => decide (N[i]? = some x) && locB all sc x && okN x
    | _ => false
  | .tup ts, e => match e with
    | .Tuple es _ _ => cm && mTs all sc ts es
    | _ => false
def mTs (all : Bool) (sc : Scope) : Tgts → List Expr → Bool
  | .nil, es => match es with
    | [] => true
    | _ => false
  | .cons t ts, es => match es with
    | e :: es => noStar e && mT all sc t e && mTs all sc ts es
    | _ => false
end
mutual
def inT (vs : List Nat) : Tgt → Bool
  | .nm i => decide (i ∈ vs)
  | .tup ts => inTs vs ts
def inTs (vs : List Nat) : Tgts → Bool
  | .nil => true
  | .cons t ts => inT vs t && inTs vs ts
end
def isTup : Expr → Bool
  | .Tuple _ _ _ => true
  | _ => false
mutual
def mE (sc : Scope) : CE → Expr → Bool
  | .var i, e => match e with
    | .Name x _ => decide (N[i]? = some x) && visB sc x && okN x
    | _ => false
  | .int n, e => match e with
    | .Constant (.int m) _ _ => decide (n = m)
    | _ => false
  | .bl b, e => match e with
    | .Constant (.bool c) _ _ => decide (b = c)
    | _ => false
  | .non, e => match e with
    | .Constant .none _ _ => true
    | _ => false
  | .str s, e => match e with
    | .Constant (.str t) _ _ => decide (s = t)
    | _ => false
  | .ty b, e => match e with
    | .Name x _ => decide (x = b.nm) && gloB sc x && (match b with
      | .int => true
      | .bool => true
      | .str => true
      | .tuple => true
      | _ => false)
    | _ => false
  | .cls c, e => match e with
    | .Name x _ => decide (c ∈ CL) && decide (x = c.nm) && gloB sc x
    | _ => false
  | .tup es, e => match e with
    | .Tuple xs _ _ => mEs sc es xs && decide (xs.length ≤ 1000)
    | _ => false
  | .fr o, e => mO sc o e
  | .bin op a b, e => match e with
    | .BinOp x o y _ => decide (op = o) && mE sc a x && mE sc b y
    | _ => false
  | .neg a, e => match e with
    | .UnaryOp .USub x _ => mE sc a x
    | _ => false
  | .inot a, e => match e with
    | .UnaryOp .Not x _ => mE sc a x
    | _ => false
  | .cmp op a b, e => match e with
    | .Compare x [o] [y] _ => decide (op = o) && noSet y && mE sc a x && mE sc b y
    | _ => false
  | .cmp2 o1 o2 a b c, e => match e with
    | .Compare x [p1, p2] [y, z] _ => decide (o1 = p1) && decide (o2 = p2) && noSet y && noSet z && mE sc a x && mE sc b y && mE sc c z
    | _ => false
  | .and es, e => match e with
    | .BoolOp .And xs _ => mEs sc es xs
    | _ => false
  | .or es, e => match e with
    | .BoolOp .Or xs _ => mEs sc es xs
    | _ => false
  | .ite c a b, e => match e with
    | .IfExp t x y _ => mE sc c t && mE sc a x && mE sc b y
    | _ => false
  | .call i es, e => match e with
    | .Call (.Name x _) xs [] _ => isGlo G i x && gloB sc x && mEs sc es xs
    | _ => false
  | .meth i a es, e => match e with
    | .Call (.Attribute o m ap) xs [] p => isMet G i m && noSup o && (ap.endLine == p.line) && decide (xs.length ≤ 20) && mE sc a o && mEs sc es xs
    | _ => false
  | .bi b es, e => match e with
    | .Call (.Name x _) (y :: xs) [] _ => decide (x = b.nm) && gloB sc x && mEs sc es (y :: xs)
    | _ => false
  | .fld c j a, e => match e with
    | .Attribute o f _ => decide (c.fs[j]? = some f) && noSup o && mE sc a o
    | _ => false
  | .ix a b, e => match e with
    | .Subscript x y _ => noSlice y && mE sc a x && mE sc b y
    | _ => false
  | .ixo i b, e => match e with
    | .Subscript (.Name x _) y _ => decide (N[i]? = some x) && visB sc x && okN x && noSlice y && mE sc b y
    | _ => false
  | .snap a, e => mE sc a e
  | .snapF a, e => mE sc a e
  | .isX i c, e => match e with
    | .Call (.Name l _) [.Name x _, .Name k _] [] _ => decide (l = "isinstance") && gloB sc l && decide (N[i]? = some x) && visB sc x && okN x && decide (c ∈ CL) && decide (k = c.nm) && gloB sc k
    | _ => false
  | .leno i, e => match e with
    | .Call (.Name l _) [.Name x _] [] _ => decide (l = "len") && gloB sc l && decide (N[i]? = some x) && visB sc x && okN x
    | _ => false
def mEs (sc : Scope) : CEs → List Expr → Bool
  | .nil, es => match es with
    | [] => true
    | _ => false
  | .cons c cs, es => match es with
    | e :: es => noStar e && mE sc c e && mEs sc cs es
    | _ => false
def mO (sc : Scope) : CO → Expr → Bool
  | .lst es, e => match e with
    | .List xs _ => mEs sc es xs && decide (xs.length ≤ 1000)
    | _ => false
  | .comp t it cs el own, e => match e with
    | .ListComp elt [⟨tg, iter, ifs, a⟩] scope _ => cm && decide (a = 0) && blkC N sc scope own && noSet iter && inT (own.map (·.2)) t && mIt sc it tg iter && mT N cm false (relS sc scope) t tg && mEs (relS sc scope) cs ifs && mE (relS sc scope) el elt
    | _ => false
  | .ofL a, e => match e with
    | .Call (.Name x _) [y] [] _ => decide (x = "list") && gloB sc x && noStar y && mE sc a y
    | _ => false
  | .ofT a, e => match e with
    | .Call (.Name x _) [y] [] _ => decide (x = "list") && gloB sc x && noStar y && mE sc a y
    | _ => false
  | .cat a b, e => match e with
    | .BinOp x .Add y _ => mE sc a x && mE sc b y
    | _ => false
  | .snapO o, e => mO sc o e
  | .rep a b, e => match e with
    | .BinOp x .Mult y _ => mE sc a x && mE sc b y
    | _ => false
  | .sl a lo hi, e => match e with
    | .Subscript x (.Slice l h none _) _ => mE sc a x && (match l with
      | none => isNon lo
      | some e => !isNon lo && mE sc lo e) && (match h with
      | none => isNon hi
      | some e => !isNon hi && mE sc hi e)
    | _ => false
def mIt (sc : Scope) : CIt → Expr → Expr → Bool
  | .seqV i, _, e => match e with
    | .Name x _ => decide (N[i]? = some x) && visB sc x && okN x
    | _ => false
  | .seqL a, _, e => mE sc a e
  | .seqT a, _, e => mE sc a e
  | .range a, _, e => match e with
    | .Call (.Name x _) [y] [] _ => decide (x = "range") && gloB sc x && noStar y && mE sc a y
    | _ => false
  | .range2 a b, _, e => match e with
    | .Call (.Name x _) [y, z] [] _ => decide (x = "range") && gloB sc x && noStar y && noStar z && mE sc a y && mE sc b z
    | _ => false
  | .zip a b, tg, e => match e with
    | .Call (.Name x _) [y, z] [] _ => decide (x = "zip") && isTup tg && gloB sc x && noStar y && noStar z && mE sc a y && mE sc b z
    | _ => false
  | .enum a, tg, e => match e with
    | .Call (.Name x _) [y] [] _ => decide (x = "enumerate") && isTup tg && gloB sc x && noStar y && mE sc a y
    | _ => false
end
def isComp : CO → Bool
  | .comp _ _ _ _ _ => true
  | .snapO (.comp _ _ _ _ _) => true
  | _ => false
end
section
variable (N : List Str) (G : List GK) (CL XL : List Cl)
mutual
def mS (cm all : Bool) (sc : Scope) : CS → Stmt → Bool
  | .asg t e, s => match s with
    | .Assign [tg] v _ => noStar tg && noComp v && (noTup tg || noTup v || fldT v) && mT N cm all sc t tg && mE N G CL cm sc e v
    | _ => false
  | .own i o, s => match s with
    | .Assign [.Name x _] v _ => decide (N[i]? = some x) && locB all sc x && okN x && noComp v && noTup v && mO N G CL cm sc o v
    | _ => false
  | .ownC i o, s => match s with
    | .Assign [.Name x px] (.ListComp elt gs scope lp) _ => decide (N[i]? = some x) && decide (sc.names.lookup x = some .local) && okN x && decide (sc.kind = .function) && (px.line == lp.line) && !(scope.names.any fun (n, k) => n == x && (k == .local || k == .cell)) && isComp o && mO N G CL cm sc o (.ListComp elt gs scope lp)
    | _ => false
  | .frz _, _ => false
  | .ownE i e, s => match s with
    | .Assign [.Name x _] v _ => decide (N[i]? = some x) && locB all sc x && okN x && noComp v && noTup v && mE N G CL cm sc e v
    | _ => false
  | .retI e, s => match s with
    | .Return (some v) _ => mE N G CL cm sc e v
    | _ => false
  | .retO i, s => match s with
    | .Return (some (.Name x _)) _ => decide (N[i]? = some x) && visB sc x && okN x
    | _ => false
  | .seti i j k v, s => match s with
    | .Assign [.Subscript (.Attribute (.Name x _) f _) y _] z _ => false
    | _ => false
  | .setfO _ _ _ _, _ => false
  | .raiseE _ _, _ => false
  | .mut _ _ _ _, _ => false
  | .seto i k v, s => match s with
    | .Assign [.Subscript (.Name x _) y _] z _ => decide (N[i]? = some x) && visB sc x && okN x && noSlice y && noComp z && mE N G CL cm sc k y && mE N G CL cm sc v z
    | _ => false
  | .app i e, s => match s with
    | .Expr (.Call (.Attribute (.Name x _) m a) [y] [] p) _ => decide (N[i]? = some x) && visB sc x && okN x && decide (m = "append") && noStar y && (a.endLine == p.line) && mE N G CL cm sc e y
    | _ => false
  | .setf _ _ _ _, _ => false
  | .par i j a b, s => match s with
    | .Assign [.Tuple [.Name x px, .Name y py] _ _] (.Tuple [u, v] _ _) _ => cm && decide (N[i]? = some x) && decide (N[j]? = some y) && decide (i ≠ j) && decide (x ≠ y) && decide (sc.names.lookup x = some .local) && decide (sc.names.lookup y = some .local) && decide (px.line = py.line) && okN x && okN y &&
        noStar u && noStar v && !([u, v].all (foldedForSure 8)) && !([u, v].all (constantsAlone 8)) && decide (sc.kind = .function) && mE N G CL cm sc a u && mE N G CL cm sc b v
    | _ => false
  | .aug i op e, s => match s with
    | .AugAssign (.Name x _) o v _ => decide (op = o) && decide (N[i]? = some x) && locB all sc x && okN x && mE N G CL cm sc e v
    | _ => false
  | .ret e, s => match s with
    | .Return (some v) _ => mE N G CL cm sc e v
    | _ => false
  | .retN, s => match s with
    | .Return none _ => true
    | _ => false
  | .pass, s => match s with
    | .Pass _ => true
    | _ => false
  | .brk, s => match s with
    | .Break _ => true
    | _ => false
  | .cont, s => match s with
    | .Continue _ => true
    | _ => false
  | .doc, s => match s with
    | .Expr (.Constant (.str _) _ _) _ => true
    | _ => false
  | .expr e, s => match s with
    | .Expr v _ => noComp v && mE N G CL cm sc e v
    | _ => false
  | .ite c a b, s => match s with
    | .If t x y _ => mE N G CL cm sc c t && mB cm all sc a x && mB cm all sc b y
    | _ => false
  | .for_ t it b, s => match s with
    | .For tg iter body [] _ => cm && noSet iter && mT N cm all sc t tg && mIt N G CL cm sc it tg iter && mB cm all sc b body
    | _ => false
  | .while_ c b, s => match s with
    | .While t body [] _ => cm && mE N G CL cm sc c t && mB cm all sc b body
    | _ => false
  | .raise_ c, s => match s with
    | .Raise (some (.Call (.Name x _) [.Constant (.str _) _ _] [] _)) none _ => cm && decide (c ∈ XL) && decide (x = c.nm) && gloB sc x
    | _ => false
  | .tryX b c i h, s => match s with
    | .Try body [.ExceptHandler (some (.Name x _)) (some n) (b0 :: suite) _] [] [] _ => cm && decide (c ∈ CL) && decide (x = c.nm) && gloB sc x && decide (N[i]? = some n) && decide (sc.names.lookup n = some .local) && mB cm all sc b body && mB false all sc h (b0 :: suite)
    | _ => false
def mB (cm all : Bool) (sc : Scope) : CSs → List Stmt → Bool
  | .nil, b => match b with
    | [] => true
    | _ => false
  | .cons (.frz _) cs, b => mB cm all sc cs b
  | .cons c cs, b => match b with
    | s :: b => mS cm all sc c s && mB cm all sc cs b
    | _ => false
end
end
end Pu

/-! PD: what is asked of a context; the codes of expressions are sound. -/
namespace Pu
open PySem PySem.Spec PyProof.Rows L2 Ni
structure B6 where
  prog : Program
  w : World
  K : PySem.W.Frag
  mg : Str → Option Value
  base : Heap
  A : Around
abbrev b6 (X : Cx) : B6 := ⟨X.prog, X.w, X.K, X.mg, X.base, X.A⟩
def XData (X : Cx) (ct : Ct) (F H : Hp) (e : Exc) (d : Option Addr) : Prop := match e.d with
  | [] => d = none
  | _ :: _ => ∃ a vs, d = some a ∧ H a = some (.xd (e.c.fs.zip vs)) ∧ Reps ⟨X.K, ct.pl⟩ F e.d vs
def Eok (X : Cx) (ct : Ct) (F : Hp) (ρ : Env) (σ : L2.St) (E : KE) : Prop := ∀ e d F' H', Stt X ct F' ρ σ H' → Same F F' → XData X ct F' H' e d → E e → XW X (.ref (He.ga X.K e.c.nm)) d σ H'
theorem Same.trans' {A B C : Hp} (h : Same A B) (k : Same B C) : Same A C := fun a o e => k a o (h a o e)
/-- from F, H to F', H': nothing that stood is changed, what is frozen anew is new -/
structure Fwd (pl : Option (Addr × Addr)) (F H F' H' : Hp) : Prop where
  gr : Grow F H F'
  gu : Gua pl [] H H'
theorem Fwd.s {pl : Option (Addr × Addr)} {F H F' H' : Hp} (e : Fwd pl F H F' H') : Same F F' := e.gr.s
theorem Fwd.trans {pl : Option (Addr × Addr)} {F H F1 H1 F2 H2 : Hp} (a : Fwd pl F H F1 H1) (b : Fwd pl F1 H1 F2 H2) : Fwd pl F H F2 H2 := ⟨a.gr.trans a.gu no_mu b.gr, a.gu.trans b.gu⟩
theorem Fwd.refl {X : Cx} {ct : Ct} {F H : Hp} {ρ : Env} {σ : L2.St} (S : Stt X ct F ρ σ H) : Fwd ct.pl F H F H := ⟨.refl, S.gself⟩
theorem Stt.ext {X : Cx} {ct : Ct} {F H F' H' : Hp} {ρ : Env} {σ : L2.St} (S : Stt X ct F ρ σ H) (g : Same H H') (gr : Grow F H F') (sub : Same F' H') : Stt X ct F' ρ σ H' ∧ Fwd ct.pl F H F' H' := ⟨S.called (S.gself.same g) gr sub, gr, S.gself.same g⟩
theorem Stt.newE {X : Cx} {ct : Ct} {F H : Hp} {ρ : Env} {σ : L2.St} (S : Stt X ct F ρ σ H) {p : Addr} {o : HO} (h : H p = none) : Stt X ct (upd F p o) ρ σ (upd H p o) ∧ Fwd ct.pl F H (upd F p o) (upd H p o) := by
  obtain ⟨S2, s2⟩ := S.new (o := o) h
  refine ⟨S2, ⟨s2, fun a b e => ?_⟩, S.gself.same (same_new h)⟩
  by_cases z : a = p
  · subst z; exact .inr (.inl h)
  · rw [upd_ne z] at e; exact .inl e
theorem Eok.up {X : Cx} {ct : Ct} {F H F1 H1 : Hp} {ρ : Env} {σ : L2.St} {E : KE} (h : Eok X ct F ρ σ E) (s : Fwd ct.pl F H F1 H1) : Eok X ct F1 ρ σ E := fun e d F' H' S s' x q => h e d F' H' S (Same.trans' s.s s') x q
def Post (X : Cx) (ct : Ct) (F H : Hp) (ρ : Env) (σ : L2.St) (Q : PV → Prop) : VK := fun v H' => ∃ x F', Stt X ct F' ρ σ H' ∧ Fwd ct.pl F H F' H' ∧ Rep ⟨X.K, ct.pl⟩ F' x v ∧ Q x
/-- .. that is new or never changed, if fr says so -/
def PostC (fr : Bool) (X : Cx) (ct : Ct) (F H : Hp) (ρ : Env) (σ : L2.St) (Q : PV → Prop) : VK := fun v H' => ∃ x F', Stt X ct F' ρ σ H' ∧ Fwd ct.pl F H F' H' ∧ Rep ⟨X.K, ct.pl⟩ F' x v ∧ (fr = true → NewR ⟨X.K, ct.pl⟩ F' H x v) ∧ Q x
def PostA (X : Cx) (ct : Ct) (F H : Hp) (ρ : Env) (σ : L2.St) (Q : List PV → Prop) : List V → Hp → Prop := fun vs H' => ∃ xs F', Stt X ct F' ρ σ H' ∧ Fwd ct.pl F H F' H' ∧ Reps ⟨X.K, ct.pl⟩ F' xs vs ∧ Q xs
/-- a list of one's own at p, held by no slot -/
structure Own (X : Cx) (ct : Ct) (F : Hp) (ρ : Env) (σ : L2.St) (H : Hp) (p : Addr) (vs : List V) : Prop where
  at_ : H p = some (.lst vs)
  f : F p = none
  h : ct.H0 p = none
  os : ∀ F' os, Slots ⟨X.K, ct.pl⟩ F' H ct.H0 ct.mu ct.ex ρ σ os → p ∉ os
  s : ∀ P s, ct.pl = some (P, s) → s ≠ p
/-- a new list of one's own -/
def PostO (X : Cx) (ct : Ct) (F H : Hp) (ρ : Env) (σ : L2.St) (Q : List PV → Prop) : VK := fun v H' => ∃ p xs vs F', v = .ref p ∧ Stt X ct F' ρ σ H' ∧ Fwd ct.pl F H F' H' ∧ H p = none ∧ Own X ct F' ρ σ H' p vs ∧ Reps ⟨X.K, ct.pl⟩ F' xs vs ∧ Q xs
theorem FVs.uniq {k k' : Kx} {F H H0 F' H' H0' : Hp} {fs : List FV} {vs : List V} {os os' : List Addr} (h : FVs k F H H0 fs vs os) (h' : FVs k' F' H' H0' fs vs os') : os = os' := by
  induction h generalizing os' with
  | nil => cases h'; rfl
  | fr _ _ ih => cases h' with | fr _ h' => exact ih h'
  | nw _ _ ih => cases h' with | nw _ h' => exact ih h'
  | ow _ _ _ ih => cases h' with | ow _ _ h' => rw [ih h']
theorem zip_inj : ∀ {fs : List Str} {vs ws : List V}, vs.length ≤ fs.length → ws.length = vs.length → fs.zip vs = fs.zip ws → vs = ws
  | _, [], [], _, _, _ => rfl
  | [], v :: vs, _, l, _, _ => by simp at l
  | f :: fs, v :: vs, w :: ws, l, l2, e => by
    simp at l l2 e
    rw [e.1, zip_inj l l2 e.2]
/-- what is owned is told by the heap -/
theorem Slots.uniq {k k' : Kx} {F H H0 F' H0' : Hp} {mu mu' : List Addr} {ex ex' : Option (Addr × Exc)} {ρ : Env} {σ : L2.St} {os os' : List Addr} (h : Slots k F H H0 mu ex ρ σ os) (h' : Slots k' F' H H0' mu' ex' ρ σ os') : os = os' := by
  induction h generalizing os' with
  | nil => cases h'; rfl
  | free _ ih => cases h' with | free h' => exact ih h'
  | val _ _ ih => cases h' with | val _ h' => exact ih h'
  | exc _ _ ih => cases h' with | exc _ h' => exact ih h'
  | own _ _ _ _ ih => cases h' with | own _ _ _ h' => rw [ih h']
  | obj a b c d _ _ _ ih => cases h' with
    | obj a' b' c' d' _ _ h' =>
      rw [a] at a'
      injection a' with a'
      injection a' with _ _ a'
      have := zip_inj (by rw [← b.len]; exact c) (by rw [← b.len, ← b'.len]) a'
      subst this
      rw [ih h', b.uniq b']
section
variable {X : Cx} {ct : Ct} {F F1 H H1 : Hp} {ρ : Env} {σ : L2.St}
theorem Post.up {Q : PV → Prop} (s : Fwd ct.pl F H F1 H1) {v : V} {H' : Hp} (h : Post X ct F1 H1 ρ σ Q v H') : Post X ct F H ρ σ Q v H' := by
  obtain ⟨x, F', S, s', r, q⟩ := h
  exact ⟨x, F', S, s.trans s', r, q⟩
theorem PostC.post {fr : Bool} {Q : PV → Prop} {v : V} {H' : Hp} (h : PostC fr X ct F H ρ σ Q v H') : Post X ct F H ρ σ Q v H' := by
  obtain ⟨x, F', S, s', r, _, q⟩ := h
  exact ⟨x, F', S, s', r, q⟩
theorem PostC.up {fr : Bool} {Q : PV → Prop} (s : Fwd ct.pl F H F1 H1) {v : V} {H' : Hp} (h : PostC fr X ct F1 H1 ρ σ Q v H') : PostC fr X ct F H ρ σ Q v H' := by
  obtain ⟨x, F', S, s', r, n, q⟩ := h
  exact ⟨x, F', S, s.trans s', r, fun z => (n z).back fun a e => s.gu.back no_mu e, q⟩
theorem PostA.up {Q : List PV → Prop} (s : Fwd ct.pl F H F1 H1) {v : List V} {H' : Hp} (h : PostA X ct F1 H1 ρ σ Q v H') : PostA X ct F H ρ σ Q v H' := by
  obtain ⟨x, F', S, s', r, q⟩ := h
  exact ⟨x, F', S, s.trans s', r, q⟩
theorem PostO.up {Q : List PV → Prop} (s : Fwd ct.pl F H F1 H1) {v : V} {H' : Hp} (h : PostO X ct F1 H1 ρ σ Q v H') : PostO X ct F H ρ σ Q v H' := by
  obtain ⟨p, xs, vs, F', e, S, s', hp, o, r, q⟩ := h
  exact ⟨p, xs, vs, F', e, S, s.trans s', s.gu.back no_mu hp, o, r, q⟩
theorem Stt.frzAt {p : Addr} {vs : List V} (S : Stt X ct F ρ σ H) (o : Own X ct F ρ σ H p vs) : Stt X ct (upd F p (.lst vs)) ρ σ H ∧ Same F (upd F p (.lst vs)) := by
  have sm : Same F (upd F p (.lst vs)) := same_new o.f
  refine ⟨⟨fun a b e => ?_, ⟨Same.trans' S.gr.s sm, fun a b e => ?_⟩, S.gua, fun P s e => ?_, S.p1, S.m0, ?_⟩, sm⟩
  · by_cases z : a = p
    · subst z; rw [upd_same] at e; rw [← e]; exact o.at_
    · rw [upd_ne z] at e; exact S.sub a b e
  · by_cases z : a = p
    · subst z; exact .inr (.inl o.h)
    · rw [upd_ne z] at e; exact S.gr.n a b e
  · obtain ⟨h1, h2, h3⟩ := S.p0 P s e
    have ne : P ≠ p := fun z => h2 (z ▸ o.h)
    exact ⟨by rw [upd_ne ne]; exact h1, h2, h3⟩
  · obtain ⟨os, hs, nd, hf⟩ := S.slots
    refine ⟨os, hs.keep sm (fun _ _ => rfl), nd, fun q hq => ?_⟩
    have ne : q ≠ p := fun z => o.os _ _ hs (z ▸ hq)
    rw [upd_ne ne]
    exact hf q hq
theorem PostO.frz {Q : PV → Prop} {v : V} {H' : Hp} (h : PostO X ct F H ρ σ (fun xs => Q (.lst xs)) v H') : Post X ct F H ρ σ Q v H' := by
  obtain ⟨p, xs, vs, F', rfl, S, s', hp, o, r, q⟩ := h
  obtain ⟨S2, s2⟩ := S.frzAt o
  refine ⟨.lst xs, _, S2, ⟨⟨Same.trans' s'.s s2, fun a b e => ?_⟩, s'.gu⟩, ⟨p, vs, rfl, upd_same, r.mono s2⟩, q⟩
  by_cases z : a = p
  · subst z; exact .inr (.inl hp)
  · rw [upd_ne z] at e; exact s'.gr.n a b e
/-- a place that is new is one's own -/
theorem Own.new {p : Addr} {vs : List V} (S : Stt X ct F ρ σ H) (hp : H p = none) : Own X ct F ρ σ (upd H p (.lst vs)) p vs := by
  refine ⟨upd_same, S.fnone hp, S.h0 hp, fun F' os hs z => ?_, fun P s e z => ?_⟩
  · obtain ⟨os2, hs2, _⟩ := S.slots
    have n2 : p ∉ os2 := fun y => by
      obtain ⟨_, o, e, _⟩ := hs2.own_at p y
      rw [e] at hp; cases hp
    have hs3 := hs2.keep (F' := F) (H' := upd H p (.lst vs)) (fun _ _ z => z) (fun q hq => upd_ne fun y => n2 (y ▸ hq))
    rw [hs.uniq hs3] at z
    exact n2 z
  · subst z
    obtain ⟨o, e2⟩ := (S.p0 P s e).2.2.at2
    rw [e2] at hp; cases hp
theorem PostO.new {Q : List PV → Prop} {p : Addr} {xs : List PV} {vs : List V} (S : Stt X ct F1 ρ σ H1) (s : Fwd ct.pl F H F1 H1) (hp : H1 p = none) (r : Reps ⟨X.K, ct.pl⟩ F1 xs vs) (q : Q xs) : PostO X ct F H ρ σ Q (.ref p) (upd H1 p (.lst vs)) :=
  ⟨p, xs, vs, F1, rfl, S.same (same_new hp), ⟨s.gr, s.gu.same (same_new hp)⟩, s.gu.back no_mu hp, .new S hp, r, q⟩
/-- it grows -/
theorem Stt.updAt {p : Addr} {vs ws : List V} (S : Stt X ct F ρ σ H) (o : Own X ct F ρ σ H p vs) : Stt X ct F ρ σ (upd H p (.lst ws)) ∧ Own X ct F ρ σ (upd H p (.lst ws)) p ws := by
  obtain ⟨os, hs, nd, hf⟩ := S.slots
  have np := o.os _ _ hs
  have hs2 : Slots ⟨X.K, ct.pl⟩ F (upd H p (.lst ws)) ct.H0 ct.mu ct.ex ρ σ os := hs.keep (fun _ _ z => z) (fun q hq => upd_ne fun z => np (z ▸ hq))
  refine ⟨⟨fun a b e => ?_, S.gr, ?_, fun P s e => ?_, S.p1, S.m0, os, hs2, nd, hf⟩, upd_same, o.f, o.h, fun F' os' h => (by rw [h.uniq hs2]; exact np), o.s⟩
  · have ne : a ≠ p := fun z => by subst z; rw [o.f] at e; cases e
    rw [upd_ne ne]
    exact S.sub a b e
  · have g := S.gua
    refine ⟨fun a b z n => ?_, fun P s e => ?_, fun a m z => ?_⟩
    · have ne : a ≠ p := fun y => by subst y; rw [o.h] at z; cases z
      rw [upd_ne ne]
      exact g.keep a b z n
    · have n1 : P ≠ p := fun z => (S.p0 P s e).2.1 (z ▸ o.h)
      exact (g.pool P s e).keep (upd_ne n1) (upd_ne (o.s P s e))
    · have ne : a ≠ p := fun y => by
        subst y
        obtain ⟨o2, e2, _⟩ := z
        rw [o.h] at e2; cases e2
      rw [upd_ne ne]
      exact g.live a m z
  · obtain ⟨h1, h2, h3⟩ := S.p0 P s e
    have n1 : P ≠ p := fun z => h2 (z ▸ o.h)
    exact ⟨h1, h2, h3.keep (upd_ne n1) (upd_ne (o.s P s e))⟩
/-- what one evaluates leaves it -/
theorem Own.ext {H' F' : Hp} {p : Addr} {vs : List V} (S : Stt X ct F ρ σ H) (o : Own X ct F ρ σ H p vs) (e : Fwd ct.pl F H F' H') : Own X ct F' ρ σ H' p vs := by
  have np : ¬ Exm ct.pl [] p := fun z => by
    rcases z with ⟨s, z⟩ | z
    · exact (S.p0 p s z).2.1 o.h
    · cases z
  refine ⟨e.gu.keep p _ o.at_ np, ?_, o.h, fun F2 os' h => ?_, o.s⟩
  · cases z : F' p with
    | none => rfl
    | some b =>
      rcases e.gr.n p b z with z2 | z2 | ⟨z2, r⟩
      · rw [o.f] at z2; cases z2
      · rw [o.at_] at z2; cases z2
      · rw [o.at_] at z2; cases z2
        exact absurd r imm_lst
  · obtain ⟨os, hs, _⟩ := S.slots
    have hs2 := hs.keep (F' := F) (fun _ _ z => z) (e.gu.keepS S hs)
    rw [h.uniq hs2]
    exact o.os _ _ hs
end
def OpSem (X : Cx) (k : OpK) (vs : List V) (σ : L2.St) (H : Hp) (Q : VK) : Prop := match k, vs with
  | .bin op, [x, y] => Wo X (binaryOp op) x y σ H Q
  | .ipl op, [x, y] => Wo X (inplaceOp op) x y σ H Q
  | .cmp op, [x, y] => Wo X (compareOp op) x y σ H Q
  | .neg, [x] => Wu X (unaryOp .USub) x σ H Q
  | .bi b, vs => Wcb X b.val vs H Q
  | .ix, [x, y] => Ix X x y H Q
  | .fld c j, [x] => match c.fs[j]? with
    | some f => Fl X x f H Q
    | none => False
  | _, _ => False
theorem OpSem.imp {X : Cx} {k : OpK} {vs : List V} {σ : L2.St} {H : Hp} {Q Q' : VK} (h : ∀ v H', Q v H' → Q' v H') (o : OpSem X k vs σ H Q) : OpSem X k vs σ H Q' := by
  unfold OpSem at o ⊢
  split at o
  · exact Wo.imp h o
  · exact Wo.imp h o
  · exact Wo.imp h o
  · exact fun pins s u I r => thn (o pins s u I r) fun _ _ q => EP.imp h q
  · obtain ⟨r, hr, q⟩ := o
    refine ⟨fun vs' H' Q2 => r vs' H' Q ∧ ∀ v H2, Q v H2 → Q2 v H2, ?_, q, h⟩
    intro pins s σ' H' vs' us Q2 I rr hq
    exact thn (hr pins s σ' H' vs' us _ I rr hq.1) fun _ _ z => EP.imp hq.2 z
  · obtain ⟨r, hr, q⟩ := o
    refine ⟨fun x' y' H' Q2 => r x' y' H' Q ∧ ∀ v H3, Q v H3 → Q2 v H3, ?_, q, h⟩
    intro value slice pins s σ' H' x' y' v' u' Q2 I ra rb hq hs
    exact thn (hr value slice pins s σ' H' x' y' v' u' _ I ra rb hq.1 hs) fun _ _ z => EP.imp hq.2 z
  · rename_i c j x
    cases e : c.fs[j]? with
    | none => rw [e] at o; exact o
    | some f =>
      rw [e] at o
      obtain ⟨a, C', dx, fs, u, e1, e2, e3, e4, e5, q⟩ := o
      exact ⟨a, C', dx, fs, u, e1, e2, e3, e4, e5, h _ _ q⟩
  · exact o
def OpOk (b : B6) (k : OpK) (p : PSpec) : Prop := ∀ X, b6 X = b → ∀ ct F ρ σ H xs vs Q E, Stt X ct F ρ σ H → Reps ⟨X.K, ct.pl⟩ F xs vs → p.run xs Q E → Eok X ct F ρ σ E → OpSem X k vs σ H (PostC p.fresh X ct F H ρ σ Q)
def Cal (b : B6) (f : Value) (p : PSpec) : Prop := ∀ X, b6 X = b → ∀ ct F ρ σ H xs vs Q E, Stt X ct F ρ σ H → Reps ⟨X.K, ct.pl⟩ F xs vs → p.run xs Q E → Eok X ct F ρ σ E → Wf X f vs σ H (PostC p.fresh X ct F H ρ σ Q)
def insOf (c : Cl) : PV → Prop
  | .obj d _ => d = c
  | .rat _ => c = .ratio
  | _ => False
structure CalM (b : B6) (c : Cl) (m : Str) (p : PSpec) : Prop where
  ex : ∃ f, Cls b.K (He.ga b.K c.nm) ∧ Meth b.K (He.ga b.K c.nm) m f ∧ (∀ fs : List (Str × V), (∃ n, fs.map (·.1) = c.fs.take n) → fs.lookup m = none) ∧ Cal b (.ref f) p
/-- what a body may lean on -/
structure LOk (b : B6) (L : Lang) (cl : List Cl) : Prop where
  g : ∀ i x p, nth L.G i = some (.glo x, p) → ∃ f, b.mg x = some (.ref f) ∧ PySem.W.keepIn b.K (.ref f) = true ∧ Cal b (.ref f) p
  m : ∀ i c m p, nth L.G i = some (.met c m, p) → CalM b c m p
  op : ∀ k, OpOk b k (L.op k)
  cl : ∀ c ∈ cl, b.mg c.nm = some (.ref (He.ga b.K c.nm))
  bi : ∀ t : Bi, t ≠ .gcd → b.mg t.nm = none
  gcd : b.mg "gcd" = some (.builtin "math.gcd")
  x : ∀ q ∈ L.X, PySem.W.exmOne b.K (.ref (He.ga b.K q.1.nm)) (.ref (He.ga b.K q.2.nm)) = some (subE q.1 q.2)
  i : ∀ q ∈ L.I, exccB b.K (He.ga b.K q.1.nm) = true ∧ PySem.W.kitOne b.K (.ref (He.ga b.K q.1.nm)) (.ref (He.ga b.K q.2.nm)) = some (subE q.1 q.2)
  it : b.mg "range" = none ∧ b.mg "zip" = none ∧ b.mg "enumerate" = none ∧ b.mg "list" = none
theorem LOk.opP {b : B6} {L : Lang} {cl : List Cl} (h : LOk b L cl) (k : OpK) (X : Cx) (e : b6 X = b) (ct : Ct) (F : Hp) (ρ : Env) (σ : L2.St) (H : Hp) (xs : List PV) (vs : List V) (Q : PV → Prop) (E : KE) (S : Stt X ct F ρ σ H) (r : Reps ⟨X.K, ct.pl⟩ F xs vs) (q : (L.op k).run xs Q E) (hE : Eok X ct F ρ σ E) : OpSem X k vs σ H (Post X ct F H ρ σ Q) :=
  OpSem.imp (fun _ _ z => z.post) (h.op k X e ct F ρ σ H xs vs Q E S r q hE)
theorem LOk.hot {b : B6} {L : Lang} {cl : List Cl} (h : LOk b L cl) (A : Around) : LOk { b with A := A } L.hot cl := by
  have at_ : ∀ i q, nth L.hot.G i = some q → ∃ p, nth L.G i = some p ∧ q = (p.1, .never) := fun i q e => by
    rw [nth_eq] at e
    have e : (L.G.map fun q => (q.1, PSpec.never))[i]? = some q := e
    rw [List.getElem?_map] at e
    obtain ⟨p, e1, e2⟩ := Option.map_eq_some_iff.mp e
    exact ⟨p, by rw [nth_eq]; exact e1, e2.symm⟩
  refine ⟨fun i x p e => ?_, fun i c m p e => ?_, fun k X hb ct F ρ σ H xs vs Q E S r q hE => q.elim, h.cl, h.bi, h.gcd, nofun, h.i, h.it⟩
  · obtain ⟨⟨k, p0⟩, e1, e2⟩ := at_ i _ e
    injection e2 with e2 e3
    subst e2 e3
    obtain ⟨f, f1, f2, _⟩ := h.g i x p0 e1
    exact ⟨f, f1, f2, fun X hb ct F ρ σ H xs vs Q E S r q hE => q.elim⟩
  · obtain ⟨⟨k, p0⟩, e1, e2⟩ := at_ i _ e
    injection e2 with e2 e3
    subst e2 e3
    obtain ⟨f, f1, f2, f3, _⟩ := (h.m i c m p0 e1).ex
    exact ⟨f, f1, f2, f3, fun X hb ct F ρ σ H xs vs Q E S r q hE => q.elim⟩
/-- the error classes that a body raises -/
def ExOk (b : B6) (xl : List Cl) : Prop := ∀ c ∈ xl, b.mg c.nm = some (.ref (He.ga b.K c.nm)) ∧ PySem.W.excIn b.K (He.ga b.K c.nm) He.veBase "ValueError.__new__" = true ∧ PySem.W.keepIn b.K (.ref (He.ga b.K c.nm)) = true ∧ PySem.W.subIn b.K (.ref (He.ga b.K c.nm)) (.type "BaseException") = some true ∧ PySem.W.typeIn b.K (.ref (He.ga b.K c.nm)) = some (.type "type")
/-- the error that is being handled -/
def ExcAt (X : Cx) (a : Addr) (e : Exc) : Prop := ∃ (X' : Cx) (oe : Obj) (pn : List (Addr × Obj)) (d : Option Addr), X = X'.suite a ((a, oe) :: pn) ∧ Zc (.ref (He.ga X.K e.c.nm)) d oe ∧ (e.d = [] → d = none) ∧ ∃ vs, oe.data = .fields vs
structure Cok (X : Cx) (N : List Str) (cm all : Bool) (sc : Scope) (ex : Option (Addr × Exc)) : Prop where
  n : X.N = N
  nd : N.Nodup
  sc : X.env.scope = sc
  fn : all = true → ∀ x, X.fn x = true
  cx : cm = true → ex = none
  xo : ∀ a e, ex = some (a, e) → ExcAt X a e
  cm : cm = true → X.calm = true
section
variable {X : Cx} {N : List Str} {cm all : Bool} {sc : Scope} {ex : Option (Addr × Exc)}
theorem Cok.vis (C : Cok X N cm all sc ex) {x : Str} (h : visB sc x = true) : Vis X.env.scope x := by
  rw [C.sc]
  exact visB_ok h
theorem Cok.gl (C : Cok X N cm all sc ex) {x : Str} (h : gloB sc x = true) : Gl X x ∧ (x == ("__debug__" : Str)) = false ∧ x ≠ "__name__" := by
  unfold gloB at h
  simp only [Bool.and_eq_true, decide_eq_true_eq, Bool.not_eq_true'] at h
  refine ⟨?_, h.1.2, h.2⟩
  show X.env.scope.names.lookup x = _
  rw [C.sc]
  exact h.1.1
theorem okN_ok {x : Str} (h : okN x = true) : (x == ("__debug__" : Str)) = false ∧ (x == ("__classdict__" : Str)) = false := by
  unfold okN at h
  simpa [Bool.and_eq_true] using h
theorem Cok.loc (C : Cok X N cm all sc ex) {x : Str} (h : locB all sc x = true) : Loc X.env.scope x ∧ (X.fn x = true ∨ X.env.scope.names.lookup x = some .local) := by
  rw [C.sc]
  unfold locB at h
  unfold L2.Loc
  split at h
  · rename_i e; exact ⟨.inl e, .inr e⟩
  · rename_i e; exact ⟨.inr e, .inl (C.fn h x)⟩
  · cases h
theorem Cok.blk (C : Cok X N cm all sc ex) (hx : ex = none) {X' : Cx} {scope : Scope} (b : Blk X scope X') : Cok X' N cm false (relS sc scope) ex ∧ b6 X' = b6 X := by
  obtain ⟨s, H, K, cl, fp, rfl⟩ := b
  refine ⟨⟨C.n, C.nd, ?_, fun z => (by cases z), C.cx, fun _ _ z => (by rw [hx] at z; cases z), C.cm⟩, rfl⟩
  show relabel scope X.env = _
  rw [← C.sc]
  rfl
end
theorem star_cons {e : Expr} {es : List Expr} {env : PySem.Env} (h : noStar e = true) : starEach (e :: es) env = (false, eval e env) :: starEach es env := by
  cases e <;> first | rfl | cases h
theorem star_pl {pos : Pos} {env : PySem.Env} : ∀ {es : List Expr}, (∀ e ∈ es, noStar e = true) → (backTo pos (starEach es env)).any (·.1) = false
  | [], _ => rfl
  | e :: es, h => by
    rw [star_cons (h e (.head _))]
    unfold backTo
    rw [List.map_cons, List.any_cons]
    have ih := star_pl (pos := pos) (env := env) (es := es) fun e he => h e (.tail _ he)
    unfold backTo at ih
    rw [ih]
    rfl
theorem set_id {e : Expr} {env : PySem.Env} (h : noSet e = true) (x : Value) : foldedSetIterable e env x = pure x := by
  cases e <;> first | rfl | cases h
theorem mark_no {op : CmpOp} {e : Expr} (h : noSet e = true) : behindInMarks op e = false := by
  cases e <;> first | rfl | cases h
theorem attr_id {e : Expr} {f : Str} {env : PySem.Env} {t : Sem Value} (h : noSup e = true) : attributeBase e f env t = t := by
  cases e with
  | Call g xs ks p => cases g <;> cases xs <;> cases ks <;> first | rfl | cases h
  | _ => rfl
theorem ix_plain {e : Expr} (h : noSlice e = true) : PlainIx e := by
  intro o i
  cases e <;> first | rfl | cases h
theorem zip_map : ∀ {fs : List Str} {vs : List V}, fs.length = vs.length → (fs.zip vs).map (·.1) = fs
  | [], [], _ => rfl
  | f :: fs, v :: vs, h => by
    simp at h
    simp [zip_map h]
theorem zip_look : ∀ {fs : List Str} {vs : List V} {j : Nat} {f : Str} {v : V}, fs.Nodup → fs[j]? = some f → vs[j]? = some v → (fs.zip vs).lookup f = some v
  | [], _, _, _, _, _, h, _ => by simp at h
  | _ :: _, [], _, _, _, _, _, h => by simp at h
  | g :: fs, w :: vs, 0, f, v, nd, h1, h2 => by
    simp at h1 h2
    subst h1 h2
    simp [List.lookup]
  | g :: fs, w :: vs, j + 1, f, v, nd, h1, h2 => by
    simp at h1 h2
    have ne : (f == g) = false := by
      rw [beq_eq_false_iff_ne]
      intro z
      subst z
      exact (List.nodup_cons.mp nd).1 (List.mem_of_getElem? h1)
    show (match f == g with | true => some w | false => (fs.zip vs).lookup f) = some v
    rw [ne]
    exact zip_look (List.nodup_cons.mp nd).2 h1 h2
end Pu

/-! PE: the codes of expressions are sound. -/
namespace Pu
open PySem PySem.Spec PyProof.Rows L2 Ni
theorem We.up {X : Cx} {e : Expr} {σ : L2.St} {H : Hp} {Q Q' : VK} (h : We X e σ H Q) (k : ∀ v H', Q v H' → Q' v H') : We X e σ H Q' := We.imp k h
theorem we_chain {X : Cx} {op op' : CmpOp} {a b c : Expr} {pos : Pos} {σ : L2.St} {H : Hp} {Q : VK} (hm : lastMarks [op, op'] [b, c] = false)
    (h : We X a σ H fun x H1 => We X b σ H1 fun y H2 => Wo X (compareOp op) x y σ H2 fun z H3 => ∃ k, z = .bl k ∧ if k = true then We X c σ H3 fun w H4 => Wo X (compareOp op') y w σ H4 Q else Q (.bl false) H3) : We X (.Compare a [op, op'] [b, c] pos) σ H Q := by
  intro pins s I
  refine Compare_chain (thn (h pins s I) fun v s1 ⟨x, H1, I1, r1, q1⟩ => chain_link (thn (q1 pins s1 I1) fun u s2 ⟨y, H2, I2, r2, q2⟩ =>
    thn (q2 pins s2 v u I2 r1 r2) fun d s3 ⟨z, H3, I3, r3, k, e, q3⟩ => ?_)) hm
  subst e
  cases r3
  refine wpAny_truthy_bool ?_
  cases k with
  | false => exact ite_ff ⟨.bl false, H3, I3, rfl, q3⟩
  | true => exact ite_tt (chain_last (thn (q3 pins s3 I3) fun w' s4 ⟨z', H4, I4, r4, q4⟩ => q4 pins s4 u w' I4 r2 r4))
theorem marks2 {o1 o2 : CmpOp} {b c : Expr} (h1 : noSet b = true) (h2 : noSet c = true) : lastMarks [o1, o2] [b, c] = false := by
  show behindInMarks o2 c = false
  exact mark_no h2
theorem star_false {pos : Pos} {env : PySem.Env} : ∀ {es : List Expr}, (∀ e ∈ es, noStar e = true) → (backTo pos (starEach es env)).all (fun x => !x.1) = true ∧ (backTo pos (starEach es env)).length = es.length
  | [], _ => ⟨rfl, rfl⟩
  | e :: es, h => by
    obtain ⟨i1, i2⟩ := star_false (pos := pos) (env := env) (es := es) fun e he => h e (.tail _ he)
    rw [star_cons (h e (.head _))]
    unfold backTo at *
    rw [List.map_cons, List.all_cons, List.length_cons, i2, i1]
    exact ⟨rfl, rfl⟩
theorem eval_meth {env : PySem.Env} {o : Expr} {m : Str} {apos pos : Pos} {xs : List Expr} (h1 : noSup o = true) (h2 : (apos.endLine == pos.line) = true) (h3 : ∀ e ∈ xs, noStar e = true) (h4 : xs.length ≤ 20) :
    eval (.Call (.Attribute o m apos) xs [] pos) env = (do
      let ov ← eval o env
      standAt apos.atName
      let (f, first) ← holding [ov] (getMethod ov m (do return (← importBound o env).getD true))
      callWith pos f first (backTo pos (starEach xs env)) (backToKw pos (keywordEach [] env))) := by
  have few : methodCallForm (xs.length + ([] : List Keyword).length) (backTo pos (starEach xs env)) (backToKw pos (keywordEach [] env)) = true := by
    unfold methodCallForm
    rw [(star_false h3).1]
    show (true && true && decide (xs.length + 0 + 0 < 30)) = true
    simp
    omega
  show (do
    let ov ← attributeBase o m env (eval o env)
    standAt apos.atName
    methodCall o m apos pos env ov (xs.length + ([] : List Keyword).length) (backTo pos (starEach xs env)) (backToKw pos (keywordEach [] env))) = _
  rw [attr_id h1]
  unfold methodCall calleeOf methodCallPos
  simp only [few, h2]
  rfl
/-- o.m(e, ..) by what the method does -/
theorem we_meth {X : Cx} {o e : Expr} {es : List Expr} {m : Str} {apos pos : Pos} {C f : Addr} {σ : L2.St} {H : Hp} {Q : VK} (c : L2.Cls X.K C) (hm : L2.Meth X.K C m f)
    (h1 : noSup o = true) (h2 : (apos.endLine == pos.line) = true) (h3 : ∀ x ∈ e :: es, noStar x = true) (h4 : (e :: es).length ≤ 20)
    (h : We X o σ H fun x H1 => ∃ a dx fs, x = .ref a ∧ H1 a = some (.ins C dx fs) ∧ fs.lookup m = none ∧ Wa X (e :: es) σ H1 fun vs H2 => Wf X (.ref f) (.ref a :: vs) σ H2 Q) : We X (.Call (.Attribute o m apos) (e :: es) [] pos) σ H Q := by
  intro pins s I
  refine PySem.W.methodCall_KW (pl := _) (thn (h pins s I) fun u s1 ⟨x, H1, I1, rx, a, dx, fs, ex, ea, l, q⟩ => ?_) (eval_meth h1 h2 h3 h4)
  subst ex
  obtain rfl : u = Value.ref a := rx
  refine getmeth_ok I1 ea c hm l ?_
  refine PySem.W.callWith_K (first := [.ref a]) (h₀ := X.base) I1.ok.mod.kin hm.kp (thn (q pos pins s1 I1) fun us s2 ⟨vs, H2, I2, r, q2⟩ => ⟨I2.kIn, ?_⟩) (star_cons (h3 _ (.head _))) (star_pl fun e he => h3 e (.tail _ he))
  exact q2 pins s2 (.ref a :: us) I2 (.cons rfl r)
theorem we_meth0 {X : Cx} {o : Expr} {m : Str} {apos pos : Pos} {C f : Addr} {σ : L2.St} {H : Hp} {Q : VK} (c : L2.Cls X.K C) (hm : L2.Meth X.K C m f)
    (h1 : noSup o = true) (h2 : (apos.endLine == pos.line) = true)
    (h : We X o σ H fun x H1 => ∃ a dx fs, x = .ref a ∧ H1 a = some (.ins C dx fs) ∧ fs.lookup m = none ∧ Wf X (.ref f) [.ref a] σ H1 Q) : We X (.Call (.Attribute o m apos) [] [] pos) σ H Q := by
  intro pins s I
  refine PySem.W.methodCall_KW (pl := _) (thn (h pins s I) fun u s1 ⟨x, H1, I1, rx, a, dx, fs, ex, ea, l, q⟩ => ?_) (eval_meth h1 h2 (fun e he => (by cases he)) (by decide))
  subst ex
  obtain rfl : u = Value.ref a := rx
  refine getmeth_ok I1 ea c hm l ?_
  exact PySem.W.callWith_K0 (first := [.ref a]) I1.kIn hm.kp (q pins s1 [.ref a] I1 (.cons rfl .nil))
theorem getV_ok {ρ : Env} {i : Nat} {Q : PV → Prop} (h : getV ρ i Q) : ∃ x, ρ[i]? = some (some (.val x)) ∧ Q x := by
  unfold getV at h
  rw [nth_eq] at h
  split at h
  · rename_i x e; exact ⟨x, e, h⟩
  · exact h.elim
theorem getO_ok {ρ : Env} {i : Nat} {Q : List PV → Prop} (h : getO ρ i Q) : ∃ x, ρ[i]? = some (some (.own x)) ∧ Q x := by
  unfold getO at h
  rw [nth_eq] at h
  split at h
  · rename_i x e; exact ⟨x, e, h⟩
  · exact h.elim
theorem asB_ok {x : PV} {Q : Bool → Prop} (h : asB x Q) : ∃ b, x = .bl b ∧ Q b := by
  unfold asB at h
  split at h
  · exact ⟨_, rfl, h⟩
  · exact h.elim
theorem asI_ok {x : PV} {Q : Int → Prop} (h : asI x Q) : ∃ b, x = .int b ∧ Q b := by
  unfold asI at h
  split at h
  · exact ⟨_, rfl, h⟩
  · exact h.elim
theorem asL_ok {x : PV} {Q : List PV → Prop} (h : asL x Q) : ∃ b, x = .lst b ∧ Q b := by
  unfold asL at h
  split at h
  · exact ⟨_, rfl, h⟩
  · exact h.elim
theorem asT_ok {x : PV} {Q : List PV → Prop} (h : asT x Q) : ∃ b, x = .tup b ∧ Q b := by
  unfold asT at h
  split at h
  · exact ⟨_, rfl, h⟩
  · exact h.elim
theorem asS_ok {x : PV} {Q : List PV → Prop} (h : asS x Q) : ∃ b, (x = .lst b ∨ x = .tup b) ∧ Q b := by
  unfold asS at h
  split at h
  · exact ⟨_, .inl rfl, h⟩
  · exact ⟨_, .inr rfl, h⟩
  · exact h.elim
theorem ifB_if {b : Bool} {A B : Prop} (h : ifB b A B) : if b = true then A else B := by
  cases b
  · exact h
  · exact h
section
variable {X : Cx} {ct : Ct} {L : Lang} {N : List Str} {cl : List Cl} {G : List GK} {cm all : Bool}
theorem keys_at (hG : G = L.G.map (·.1)) {i : Nat} {k : GK} (h : nth G i = some k) : ∃ p, nth L.G i = some (k, p) := by
  subst hG
  rw [nth_eq, List.getElem?_map] at h
  obtain ⟨⟨a, p⟩, h1, h2⟩ := Option.map_eq_some_iff.mp h
  simp at h2
  subst h2
  exact ⟨p, by rw [nth_eq]; exact h1⟩
theorem callG_ok {i : Nat} {k : GK} {p : PSpec} {xs : List PV} {Q : PV → Prop} {E : KE} (e : nth L.G i = some (k, p)) (h : callG L i xs Q E) : p.run xs Q E := by
  unfold callG at h
  rw [e] at h
  exact h
end
end Pu

/-! PF: targets, walks, expressions: sound. -/
namespace Pu
open PySem PySem.Spec PyProof.Rows L2 Ni
theorem ifB_f {b : Bool} {A : Prop} (h : ifB b A False) : b = true ∧ A := by
  cases b
  · exact h.elim
  · exact ⟨rfl, h⟩
theorem wipe_get (σ : L2.St) : ∀ (vs : List Nat) (j : Nat), (wipe σ vs)[j]? = if j ∈ vs then (σ[j]?).map (fun _ => none) else σ[j]?
  | [], j => by simp [wipe]
  | v :: vs, j => by
    show ((wipe σ vs).set v none)[j]? = _
    rw [List.getElem?_set, wipe_length]
    by_cases h : v = j
    · subst h
      by_cases h2 : v < σ.length
      · simp [h2]
      · simp [h2]
    · rw [if_neg h, wipe_get σ vs j]
      have : (j ∈ v :: vs) ↔ j ∈ vs := by simp [Ne.symm h]
      simp only [this]
theorem wipe_set {σ : L2.St} {vs : List Nat} {i : Nat} (u : Option V) (h : i ∈ vs) : wipe (σ.set i u) vs = wipe σ vs := by
  apply List.ext_getElem?
  intro j
  rw [wipe_get, wipe_get, List.getElem?_set]
  by_cases hj : i = j
  · subst hj
    rw [if_pos h, if_pos h]
    simp only [if_true]
    split
    · rename_i l; simp [List.getElem?_eq_getElem l]
    · rename_i l
      rw [List.getElem?_eq_none (by omega)]
  · rw [if_neg hj]
section
variable {X : Cx} {ct : Ct} {F H : Hp} {ρ : Env} {σ : L2.St}
theorem Stt.wipes (S : Stt X ct F ρ σ H) : ∀ own : List (Str × Nat), Stt X ct F (wipes ρ own) (wipe σ (own.map (·.2))) H
  | [] => S
  | v :: vs => by
    have ih := Stt.wipes S vs
    have q := ih.wipe1 none v.2
    rw [← put_eq] at q
    exact q
theorem asg_cons {e : Expr} {es : List Expr} {env : PySem.Env} (h : noStar e = true) : assignEach (e :: es) env = (false, assign e env) :: assignEach es env := by
  cases e <;> first | rfl | cases h
theorem asg_all {env : PySem.Env} : ∀ {es : List Expr}, (∀ e ∈ es, noStar e = true) → (assignEach es env).length = es.length ∧ (assignEach es env).findIdx? (·.1) = none
  | [], _ => ⟨rfl, rfl⟩
  | e :: es, h => by
    obtain ⟨i1, i2⟩ := asg_all (env := env) (es := es) fun e he => h e (.tail _ he)
    rw [asg_cons (h e (.head _))]
    refine ⟨by simp [i1], ?_⟩
    rw [List.findIdx?_cons]
    simp [i2]
end
section
variable {X : Cx} {ct : Ct} {N : List Str} {cm all : Bool} {sc : Scope}
theorem mTs_star {ts : Tgts} {es : List Expr} (h : mTs N cm all sc ts es = true) : ∀ e ∈ es, noStar e = true := by
  induction es generalizing ts with
  | nil => intro e he; cases he
  | cons e es ih =>
    cases ts with
    | nil => simp [mTs] at h
    | cons t ts =>
      simp only [mTs, Bool.and_eq_true] at h
      intro x hx
      cases hx with
      | head => exact h.1.1
      | tail _ hx => exact ih h.2 x hx
theorem mTs_len {ts : Tgts} {es : List Expr} (h : mTs N cm all sc ts es = true) : tlen ts = es.length := by
  induction es generalizing ts with
  | nil =>
    cases ts with
    | nil => rfl
    | cons t ts => simp [mTs] at h
  | cons e es ih =>
    cases ts with
    | nil => simp [mTs] at h
    | cons t ts =>
      simp only [mTs, Bool.and_eq_true] at h
      simp [tlen, ih h.2]
def PostG (X : Cx) (ct : Ct) (F H : Hp) (σ : L2.St) (vs : List Nat) (w : Bool) (Q : Env → Prop) : L2.St → Hp → Prop := fun σ' H' => H' = H ∧ (w = true → wipe σ' vs = wipe σ vs) ∧ ∃ ρ', Stt X ct F ρ' σ' H ∧ Q ρ'
theorem Wg.imp {tg : Expr} {v : V} {σ : L2.St} {H : Hp} {Q Q' : L2.St → Hp → Prop} (k : ∀ σ' H', Q σ' H' → Q' σ' H') (h : Wg X tg v σ H Q) : Wg X tg v σ H Q' := fun pins s u I r => thn (h pins s u I r) fun _ _ ⟨σ', H', J, q⟩ => ⟨σ', H', J, k _ _ q⟩
theorem Wgs.imp {tg : List Expr} {v : List V} {σ : L2.St} {H : Hp} {Q Q' : L2.St → Hp → Prop} (k : ∀ σ' H', Q σ' H' → Q' σ' H') (h : Wgs X tg v σ H Q) : Wgs X tg v σ H Q' := fun pins s u I r => thn (h pins s u I r) fun _ _ ⟨σ', H', J, q⟩ => ⟨σ', H', J, k _ _ q⟩
theorem wgs_cons {e : Expr} {es : List Expr} {v : V} {vs : List V} {σ : L2.St} {H : Hp} {Q : L2.St → Hp → Prop} (hs : (assignEach (e :: es) X.env).map (·.2) = assign e X.env :: (assignEach es X.env).map (·.2))
    (h : Wg X e v σ H fun σ' H' => Wgs X es vs σ' H' Q) : Wgs X (e :: es) (v :: vs) σ H Q := fun pins s us I r => (pgs_cons Wg.pg Wgs.pgs hs).run pins s σ H (v :: vs) us Q I r ⟨v, vs, rfl, h⟩
theorem wgs_nil {σ : L2.St} {H : Hp} {Q : L2.St → Hp → Prop} (h : Q σ H) : Wgs X [] [] σ H Q := fun pins s us I r => pgs_nil.run pins s σ H [] us Q I r ⟨rfl, h⟩
theorem wg_tup {es : List Expr} {k n : Nat} {pos : Pos} {v : V} {σ : L2.St} {H : Hp} {Q : L2.St → Hp → Prop} (hc : X.calm = true) (hn : (assignEach es X.env).length = n) (hst : (assignEach es X.env).findIdx? (·.1) = none)
    (h : ∃ a xs, v = .ref a ∧ SqT X.K H a xs ∧ xs.length = n ∧ Wgs X es xs σ H Q) : Wg X (.Tuple es k pos) v σ H Q := fun pins s u I r => (pg_tup hc Wgs.pgs hn hst).run pins s σ H v u Q I r h
mutual
theorem bT : ∀ (t : Tgt) {e : Expr}, Cok X N cm all sc ct.ex → mT N cm all sc t e = true → ∀ {F : Hp} {ρ : Env} {σ : L2.St} {H : Hp} {x : PV} {v : V} {Q : Env → Prop} (vs : List Nat), Stt X ct F ρ σ H → Rep ⟨X.K, ct.pl⟩ F x v → bindT t x ρ Q → Wg X e v σ H (PostG X ct F H σ vs (inT vs t) Q)
  | .nm i, e, C, m, F, ρ, σ, H, x, v, Q, vs, S, r, h => by
    unfold mT at m
    split at m
    · rename_i y pos
      simp only [Bool.and_eq_true, decide_eq_true_eq] at m
      obtain ⟨⟨m1, m2⟩, m3⟩ := m
      obtain ⟨l1, l2⟩ := C.loc m2
      unfold bindT at h
      rw [put_eq] at h
      refine wg_name (i := i) (by rw [C.n]; exact C.nd) (by rw [C.n]; exact m1) l1 l2 ⟨rfl, fun w => ?_, _, S.set r i, h⟩
      unfold inT at w
      exact wipe_set _ (of_decide_eq_true w)
    · cases m
  | .tup ts, e, C, m, F, ρ, σ, H, x, v, Q, vs, S, r, h => by
    unfold mT at m
    split at m
    · rename_i es k pos
      simp only [Bool.and_eq_true] at m
      obtain ⟨m1, m2⟩ := m
      unfold bindT at h
      obtain ⟨xs, rfl, h1⟩ := asT_ok h
      obtain ⟨l, h2⟩ := ifB_f h1
      unfold Rep at r
      obtain ⟨a, ws, rfl, ha, rs⟩ := r
      have st := mTs_star m2
      have hw := bTs ts C m2 vs S rs h2
      have l := Nat.eq_of_beq_eq_true l
      rw [mTs_len m2, rs.len] at l
      exact wg_tup (C.cm m1) (asg_all st).1 (asg_all st).2 ⟨a, ws, rfl, .of (S.sub _ _ ha), l.symm, Wgs.imp (fun σ' H' q => by unfold inT; exact q) hw⟩
    · cases m
theorem bTs : ∀ (ts : Tgts) {es : List Expr}, Cok X N cm all sc ct.ex → mTs N cm all sc ts es = true → ∀ {F : Hp} {ρ : Env} {σ : L2.St} {H : Hp} {xs : List PV} {ws : List V} {Q : Env → Prop} (vs : List Nat), Stt X ct F ρ σ H → Reps ⟨X.K, ct.pl⟩ F xs ws → bindTs ts xs ρ Q →
    Wgs X es ws σ H (PostG X ct F H σ vs (inTs vs ts) Q)
  | .nil, es, C, m, F, ρ, σ, H, xs, ws, Q, vs, S, r, h => by
    unfold mTs at m
    unfold bindTs at h
    split at m
    · split at h
      · cases r
        exact wgs_nil ⟨rfl, fun _ => rfl, ρ, S, h⟩
      · exact h.elim
    · cases m
  | .cons t ts, es, C, m, F, ρ, σ, H, xs, ws, Q, vs, S, r, h => by
    unfold mTs at m
    unfold bindTs at h
    split at m
    · rename_i e es
      simp only [Bool.and_eq_true] at m
      obtain ⟨⟨m1, m2⟩, m3⟩ := m
      split at h
      · exact h.elim
      · rename_i x xs
        obtain ⟨v, ws, rfl, rv, rs⟩ := r
        have hw := bT t C m2 vs S rv h
        refine wgs_cons (by rw [asg_cons m1]; rfl) (Wg.imp ?_ hw)
        rintro σ' H' ⟨rfl, w1, ρ', S', h'⟩
        have hw2 := bTs ts C m3 vs S' rs h'
        refine Wgs.imp ?_ hw2
        rintro σ2 H2 ⟨rfl, w2, ρ2, S2, h2⟩
        refine ⟨rfl, fun w => ?_, ρ2, S2, h2⟩
        unfold inTs at w
        obtain ⟨w3, w4⟩ := Bool.and_eq_true_iff.mp w
        exact (w2 w4).trans (w1 w3)
    · cases m
end
end
end Pu

/-! PG: expressions are sound. -/
namespace Pu
open PySem PySem.Spec PyProof.Rows L2 Ni
/-- a walk over values -/
structure Wlk (X : Cx) (ct : Ct) (F1 : Hp) (J : It) (xs : List PV) : Prop where
  w : Walk J xs.length (fun H => Same F1 H) (fun i H v H' => ∃ x, xs[i]? = some x ∧ Same H H' ∧ ∀ F, Same F1 F → Same F H → ∃ F', Grow F H F' ∧ Same F' H' ∧ Rep ⟨X.K, ct.pl⟩ F' x v)
theorem grow_new {F H : Hp} {p : Addr} {o : HO} (s : Same F H) (h : H p = none) : Grow F H (upd F p o) ∧ Same (upd F p o) (upd H p o) := by
  have f0 : F p = none := by
    cases z : F p with
    | none => rfl
    | some o2 => rw [s p o2 z] at h; cases h
  refine ⟨⟨same_new f0, fun a b e => ?_⟩, fun a b e => ?_⟩
  · by_cases z : a = p
    · subst z; exact .inr (.inl h)
    · rw [upd_ne z] at e; exact .inl e
  · by_cases z : a = p
    · subst z; rw [upd_same] at e ⊢; exact e
    · rw [upd_ne z] at e ⊢; exact s a b e
section
variable {X : Cx} {ct : Ct} {F : Hp}
theorem Wlk.list {a : Addr} {xs : List PV} {vs : List V} (h : F a = some (.lst vs)) (r : Reps ⟨X.K, ct.pl⟩ F xs vs) : Wlk X ct F (Itl X.K a) xs := by
  refine ⟨?_⟩
  rw [r.len]
  refine walk_list.mono (fun H s => .of (s _ _ h)) fun i H v H' hi s y => ?_
  obtain ⟨rfl, e⟩ := y
  obtain ⟨x, e2, rx⟩ := r.got e
  exact ⟨x, e2, fun _ _ z => z, fun F' s2 s3 => ⟨F', .refl, s3, rx.mono s2⟩⟩
theorem Wlk.tup {a : Addr} {xs : List PV} {vs : List V} (h : F a = some (.tup vs)) (r : Reps ⟨X.K, ct.pl⟩ F xs vs) : Wlk X ct F (Itt X.K a) xs := by
  refine ⟨?_⟩
  rw [r.len]
  refine walk_tup.mono (fun H s => .of (s _ _ h)) fun i H v H' hi s y => ?_
  obtain ⟨rfl, e⟩ := y
  obtain ⟨x, e2, rx⟩ := r.got e
  exact ⟨x, e2, fun _ _ z => z, fun F' s2 s3 => ⟨F', .refl, s3, rx.mono s2⟩⟩
theorem rangeP_len (lo : Int) : ∀ n, (rangeP lo n).length = n
  | 0 => rfl
  | n + 1 => by simp [rangeP, rangeP_len]
theorem rangeP_get : ∀ (n : Nat) (lo : Int) (i : Nat), i < n → (rangeP lo n)[i]? = some (.int (lo + i))
  | 0, _, _, h => by omega
  | n + 1, lo, 0, _ => by simp [rangeP]
  | n + 1, lo, i + 1, h => by
    have := rangeP_get n (lo + 1) i (by omega)
    simp only [rangeP, List.getElem?_cons_succ, this]
    congr 2
    omega
theorem Wlk.range (lo : Int) (n : Nat) : Wlk X ct F (Itr lo n) (rangeP lo n) := by
  refine ⟨?_⟩
  rw [rangeP_len]
  refine walk_range.mono (fun H s => trivial) fun i H v H' hi s y => ?_
  obtain ⟨rfl, rfl⟩ := y
  exact ⟨_, rangeP_get n lo i hi, fun _ _ z => z, fun F' s2 s3 => ⟨F', .refl, s3, rfl⟩⟩
theorem zipP_len : ∀ xs ys : List PV, (zipP xs ys).length = min xs.length ys.length
  | [], _ => by simp [zipP]
  | _ :: _, [] => by simp [zipP]
  | x :: xs, y :: ys => by simp only [zipP, List.length_cons, zipP_len xs ys]; omega
theorem zipP_get : ∀ {xs ys : List PV} {i : Nat} {x y : PV}, xs[i]? = some x → ys[i]? = some y → (zipP xs ys)[i]? = some (.tup [x, y])
  | [], _, _, _, _, h, _ => by simp at h
  | _ :: _, [], _, _, _, _, h => by simp at h
  | _ :: _, _ :: _, 0, _, _, h, k => by
    simp at h k
    subst h k
    simp [zipP]
  | _ :: xs, _ :: ys, i + 1, x, y, h, k => by
    simp at h k
    simp [zipP, zipP_get h k]
theorem Wlk.zip {a b : Addr} {xs ys : List PV} {vs ws : List V} (h : F a = some (.lst vs)) (r : Reps ⟨X.K, ct.pl⟩ F xs vs) (h' : F b = some (.lst ws)) (r' : Reps ⟨X.K, ct.pl⟩ F ys ws) : Wlk X ct F (Itz X.K a b) (zipP xs ys) := by
  refine ⟨?_⟩
  rw [zipP_len, r.len, r'.len]
  refine (walk_zip rfl).mono (fun H s => ⟨.of (s _ _ h), .of (s _ _ h')⟩) fun i H v H' hi s y => ?_
  obtain ⟨T, u, w, rfl, hT, rfl, e, e'⟩ := y
  obtain ⟨x, e2, rx⟩ := r.got e
  obtain ⟨z, e3, rz⟩ := r'.got e'
  refine ⟨_, zipP_get e2 e3, same_new hT, fun F' s2 sH => ?_⟩
  obtain ⟨gr, sub⟩ := grow_new (o := .tup [u, w]) sH hT
  have s3 := gr.s
  exact ⟨_, gr, sub, T, [u, w], rfl, upd_same, .cons ((rx.mono s2).mono s3) (.cons ((rz.mono s2).mono s3) .nil)⟩
theorem enumP_len : ∀ (n : Nat) (xs : List PV), (enumP n xs).length = xs.length
  | _, [] => rfl
  | n, _ :: xs => by simp [enumP, enumP_len]
theorem enumP_get : ∀ {xs : List PV} {n i : Nat} {x : PV}, xs[i]? = some x → (enumP n xs)[i]? = some (.tup [.int ((n + i : Nat) : Int), x])
  | [], _, _, _, h => by simp at h
  | _ :: _, n, 0, _, h => by
    simp at h
    subst h
    simp [enumP]
  | _ :: xs, n, i + 1, x, h => by
    simp at h
    have := enumP_get (n := n + 1) h
    simp only [enumP, List.getElem?_cons_succ, this]
    congr 4
    omega
theorem Wlk.enum {a : Addr} {xs : List PV} {vs : List V} (h : F a = some (.lst vs)) (r : Reps ⟨X.K, ct.pl⟩ F xs vs) : Wlk X ct F (Ite X.K a) (enumP 0 xs) := by
  refine ⟨?_⟩
  rw [enumP_len, r.len]
  refine walk_enum.mono (fun H s => .of (s _ _ h)) fun i H v H' hi s y => ?_
  obtain ⟨T, u, w, rfl, hT, rfl, e, e'⟩ := y
  cases e
  obtain ⟨x, e2, rx⟩ := r.got e'
  refine ⟨_, enumP_get e2, same_new hT, fun F' s2 sH => ?_⟩
  obtain ⟨gr, sub⟩ := grow_new (o := .tup [V.int (i : Nat), w]) sH hT
  have s3 := gr.s
  refine ⟨_, gr, sub, T, [V.int (i : Nat), w], rfl, upd_same, .cons ?_ (.cons ((rx.mono s2).mono s3) .nil)⟩
  show V.int (i : Nat) = .int ((0 + i : Nat) : Int)
  rw [Nat.zero_add]
end
/-- walks, as they come to be -/
def ItP (X : Cx) (ct : Ct) (F : Hp) (ρ : Env) (σ : L2.St) (H : Hp) (tg iter : Expr) (Q : List PV → Prop) : Prop := ∃ wi, PI X tg iter wi ∧ ∀ R : It → Hp → Prop, (∀ J H1 F1 xs, Stt X ct F1 ρ σ H1 → Fwd ct.pl F H F1 H1 → Q xs → Wlk X ct F1 J xs → R J H1) → wi σ H R
theorem sizeOk {n : Nat} (h : n ≤ 100000) : n ≤ sizeLine := Nat.le_trans h (by decide)
theorem sizeOk' {n : Nat} (h : n < 100000) : n < sizeLine := Nat.lt_of_lt_of_le h (by decide)
theorem boot_of {b : Bi} (h : b ≠ .gcd) : bootBuiltins b.nm = some b.val := by
  cases b <;> first | exact absurd rfl h | decide +kernel
theorem Wa.up {X : Cx} {es : List Expr} {σ : L2.St} {H : Hp} {Q Q' : List V → Hp → Prop} (h : Wa X es σ H Q) (k : ∀ v H', Q v H' → Q' v H') : Wa X es σ H Q' := Wa.imp k h
section
variable {b : B6} {L : Lang} {N : List Str} {CL : List Cl} {G : List GK} {cm all : Bool} {ct : Ct}
theorem mEs_star {sc : Scope} : ∀ {cs : CEs} {es : List Expr}, mEs N G CL cm sc cs es = true → ∀ e ∈ es, noStar e = true
  | .nil, es, h => by
    unfold mEs at h
    split at h
    · intro e he; cases he
    · cases h
  | .cons c cs, es, h => by
    unfold mEs at h
    split at h
    · simp only [Bool.and_eq_true] at h
      intro e he
      cases he with
      | head => exact h.1.1
      | tail _ he => exact mEs_star h.2 e he
    · cases h
end
end Pu

/-! PGS: all slots as values for the length of an expression. -/
namespace Pu
open PySem PySem.Spec PyProof.Rows L2 Ni
theorem ifT_ok {a b : Bool} (h : ifT a b = true) : a = true ∧ b = true := by
  cases a
  · cases h
  · exact ⟨rfl, h⟩
theorem pairIn_mem : ∀ {l : List (Cl × Cl)} {a b : Cl}, pairIn l a b = true → (a, b) ∈ l
  | [], _, _, h => by cases h
  | q :: l, a, b, h => by
    unfold pairIn at h
    split at h
    · rename_i e
      obtain ⟨e1, e2⟩ := ifT_ok e
      have e1 := of_decide_eq_true e1
      have e2 := of_decide_eq_true e2
      subst e1 e2
      exact .head _
    · exact .tail _ (pairIn_mem h)
section
variable {k : Kx} {F F' Fi H H0 : Hp}
mutual
theorem Rep.imm (hi : ∀ a o, F a = some o → ImmO o → Fi a = some o) : ∀ {x : PV} {v : V}, immP x = true → Rep k F x v → Rep k Fi x v
  | .non, _, _, h => h
  | .bl _, _, _, h => h
  | .int _, _, _, h => h
  | .str _, _, _, h => h
  | .ty _, _, _, h => h
  | .cls _, _, _, h => h
  | .rat q, _, _, h => by
    unfold Rep at h ⊢
    obtain ⟨a, dx, e, h⟩ := h
    exact ⟨a, dx, e, hi _ _ h (.inl ⟨_, _, _, rfl⟩)⟩
  | .tup xs, _, m, h => by
    unfold Rep at h ⊢
    obtain ⟨a, vs, e, h, r⟩ := h
    exact ⟨a, vs, e, hi _ _ h (.inr ⟨_, rfl⟩), Reps.imm hi (by unfold immP at m; exact m) r⟩
theorem Reps.imm (hi : ∀ a o, F a = some o → ImmO o → Fi a = some o) : ∀ {xs : List PV} {vs : List V}, immPs xs = true → Reps k F xs vs → Reps k Fi xs vs
  | [], _, _, h => h
  | x :: xs, _, m, h => by
    unfold Reps at h ⊢
    obtain ⟨v, ws, e, h, r⟩ := h
    unfold immPs at m
    obtain ⟨m1, m2⟩ := ifT_ok m
    exact ⟨v, ws, e, Rep.imm hi m1 h, Reps.imm hi m2 r⟩
end
/-- what is never changed is as good as new -/
theorem newr_imm {x : PV} {v : V} (m : immP x = true) (h : Rep k F x v) : NewR k F H0 x v := by
  obtain ⟨Fi, hF⟩ := imm_part F
  exact ⟨Fi, fun a o e => ((hF a o).mp e).1, fun a o e => .inr ((hF a o).mp e).2, h.imm (fun a o e i => (hF a o).mpr ⟨e, i⟩) m⟩
end
section
variable {X : Cx} {ct : Ct} {F F' FS H H' : Hp} {ρ : Env} {σ : L2.St}
theorem Slots.snap {k : Kx} {H0 : Hp} {mu : List Addr} {ex : Option (Addr × Exc)} {os : List Addr} (h : Slots k F H H0 mu ex ρ σ os) (s : Same F FS) (hq : ∀ p ∈ os, FS p = H p) : Slots k FS H H [] ex (snapE ρ) σ [] := by
  induction h with
  | nil => exact .nil
  | free _ ih => exact .free (ih hq)
  | val h1 _ ih => exact .val (h1.mono s) (ih hq)
  | exc h1 _ ih => exact .exc h1 (ih hq)
  | own h1 h2 h3 _ ih => exact .val ⟨_, _, rfl, (hq _ (.head _)).trans h1, h2.mono s⟩ (ih fun p hp => hq p (.tail _ hp))
  | obj h1 h2 h3 h4 h5 h6 _ ih =>
    exact .val ⟨_, _, _, rfl, (hq _ (.head _)).trans h1, ⟨by rw [List.length_map]; exact h3, h4⟩, h2.reps s fun p hp => hq p (.tail _ (List.mem_append_left _ hp))⟩ (ih fun p hp => hq p (.tail _ (List.mem_append_right _ hp)))
/-- the context for the length of an expression -/
abbrev ctS (ct : Ct) (H FS : Hp) : Ct := ⟨ct.pl, [], ct.ex, H, FS⟩
theorem Stt.snap (S : Stt X ct F ρ σ H) : ∃ FS, Same F FS ∧ Same FS H ∧ Stt X (ctS ct H FS) FS (snapE ρ) σ H := by
  classical
  obtain ⟨os, hs, nd, hf⟩ := S.slots
  refine ⟨fun a => if a ∈ os then H a else F a, fun a o e => ?_, fun a o e => ?_, fun a o e => ?_, .refl, S.gself, fun P s e => ?_, fun P s e => ?_, nofun, [], hs.snap (fun a o e => ?_) (fun p hp => ?_), .nil, nofun⟩
  · by_cases m : a ∈ os
    · rw [hf a m] at e; cases e
    · exact (if_neg m).trans e
  · by_cases m : a ∈ os
    · exact (if_pos m).symm.trans e
    · exact S.sub a o ((if_neg m).symm.trans e)
  · by_cases m : a ∈ os
    · exact (if_pos m).symm.trans e
    · exact S.sub a o ((if_neg m).symm.trans e)
  · obtain ⟨h1, h2, h3⟩ := S.p0 P s e
    refine ⟨?_, fun z => ?_, h3⟩
    · exact (if_neg fun m => S.nexm hs m (.inl ⟨s, e⟩)).trans h1
    · obtain ⟨o, e2⟩ := h3.at1
      have z : H P = none := z
      rw [z] at e2; cases e2
  · refine ⟨fun z => ?_, nofun, nofun⟩
    obtain ⟨o, e2⟩ := (S.p0 P s e).2.2.at2
    have z : H s = none := z
    rw [z] at e2; cases e2
  · by_cases m : a ∈ os
    · rw [hf a m] at e; cases e
    · exact (if_neg m).trans e
  · exact if_pos hp
theorem Stt.unsnap (S : Stt X ct F ρ σ H) (s1 : Same F FS) (S' : Stt X (ctS ct H FS) F' (snapE ρ) σ H') : Stt X ct F ρ σ H' ∧ Fwd ct.pl F H F H' := by
  have g : Gua ct.pl [] H H' := S'.gua
  exact ⟨S.called g .refl fun a o e => S'.sub a o (S'.gr.s a o (s1 a o e)), .refl, g⟩
theorem Stt.unsnapV (S : Stt X ct F ρ σ H) (s1 : Same F FS) (s2 : Same FS H) (S' : Stt X (ctS ct H FS) F' (snapE ρ) σ H') {x : PV} {v : V} (n : NewR ⟨X.K, ct.pl⟩ F' H x v) :
    ∃ F2, Stt X ct F2 ρ σ H' ∧ Fwd ct.pl F H F2 H' ∧ Rep ⟨X.K, ct.pl⟩ F2 x v ∧ NewR ⟨X.K, ct.pl⟩ F2 H x v := by
  have g : Gua ct.pl [] H H' := S'.gua
  obtain ⟨Fn, n1, n2, r⟩ := n
  have sF : Same F F' := fun a o e => S'.gr.s a o (s1 a o e)
  have sm : Same F (unionH Fn F) := unionH_r n1 sF
  have gr : Grow F H (unionH Fn F) := ⟨sm, fun a o e => by
    rcases unionH_or e with y | y
    · rcases n2 a o y with z | z
      · exact .inr (.inl z)
      · rcases S'.gr.n a o (n1 a o y) with q | q | ⟨q, _⟩
        · exact .inr (.inr ⟨s2 a o q, z⟩)
        · exact .inr (.inl q)
        · exact .inr (.inr ⟨q, z⟩)
    · exact .inl y⟩
  refine ⟨unionH Fn F, S.called g gr fun a o e => ?_, ⟨gr, g⟩, r.mono unionH_l, Fn, unionH_l, n2, r⟩
  rcases unionH_or e with y | y
  · exact S'.sub a o (n1 a o y)
  · exact S'.sub a o (sF a o y)
/-- back, with all that is never changed -/
theorem Stt.unsnapI (S : Stt X ct F ρ σ H) (s1 : Same F FS) (s2 : Same FS H) (S' : Stt X (ctS ct H FS) F' (snapE ρ) σ H') :
    ∃ F2, Stt X ct F2 ρ σ H' ∧ Fwd ct.pl F H F2 H' ∧ (∀ a o, F' a = some o → ImmO o → F2 a = some o) ∧ ∀ a o, F2 a = some o → F a = some o ∨ F' a = some o := by
  have g : Gua ct.pl [] H H' := S'.gua
  obtain ⟨Fi, hF⟩ := imm_part F'
  have n1 : Same Fi F' := fun a o e => ((hF a o).mp e).1
  have sF : Same F F' := fun a o e => S'.gr.s a o (s1 a o e)
  have sm : Same F (unionH Fi F) := unionH_r n1 sF
  have gr : Grow F H (unionH Fi F) := ⟨sm, fun a o e => by
    rcases unionH_or e with y | y
    · obtain ⟨y1, y2⟩ := (hF a o).mp y
      rcases S'.gr.n a o y1 with z | z | ⟨z, _⟩
      · exact .inr (.inr ⟨s2 a o z, y2⟩)
      · exact .inr (.inl z)
      · exact .inr (.inr ⟨z, y2⟩)
    · exact .inl y⟩
  refine ⟨unionH Fi F, S.called g gr fun a o e => ?_, ⟨gr, g⟩, fun a o e i => unionH_l a o ((hF a o).mpr ⟨e, i⟩), fun a o e => ?_⟩
  · rcases unionH_or e with y | y
    · exact S'.sub a o (n1 a o y)
    · exact S'.sub a o (sF a o y)
  · rcases unionH_or e with y | y
    · exact .inr (n1 a o y)
    · exact .inl y
theorem Eok.snap {E : KE} (S : Stt X ct F ρ σ H) (s1 : Same F FS) (s2 : Same FS H) (hE : Eok X ct F ρ σ E) : Eok X (ctS ct H FS) FS (snapE ρ) σ (fun e => ifB (immPs e.d) (E e) False) := by
  intro e d F' H' S' s' x q
  obtain ⟨m, q⟩ := ifB_f q
  obtain ⟨F2, S2, f2, i2, _⟩ := S.unsnapI s1 s2 S'
  refine hE e d F2 H' S2 f2.s ?_ q
  unfold XData at x ⊢
  split at x
  · exact x
  · obtain ⟨a, vs, e1, e2, r⟩ := x
    exact ⟨a, vs, e1, e2, r.imm i2 m⟩
theorem PostO.unsnap {Q : List PV → Prop} {v : V} (S : Stt X ct F ρ σ H) (s1 : Same F FS) (s2 : Same FS H) (h : PostO X (ctS ct H FS) FS H (snapE ρ) σ (fun xs => ifB (immPs xs) (Q xs) False) v H') : PostO X ct F H ρ σ Q v H' := by
  obtain ⟨p, xs, vs, F1, rfl, S1, e1, hp, oo, rs, q1⟩ := h
  obtain ⟨im, q1⟩ := ifB_f q1
  obtain ⟨F2, S2, f2, i2, o2⟩ := S.unsnapI s1 s2 S1
  refine ⟨p, xs, vs, F2, rfl, S2, f2, hp, ⟨oo.at_, ?_, S.h0 hp, fun F3 os h3 => ?_, oo.s⟩, rs.imm i2 im, q1⟩
  · cases z : F2 p with
    | none => rfl
    | some o =>
      rcases o2 p o z with y | y
      · rw [S.fnone hp] at y; cases y
      · rw [oo.f] at y; cases y
  · obtain ⟨os0, hs0, _⟩ := S.slots
    have hk := hs0.keep (F' := F) (fun _ _ z => z) (Gua.keepS (c := ct) (S1.gua : Gua ct.pl [] H H') S hs0)
    rw [h3.uniq hk]
    intro z
    obtain ⟨_, o, e, _⟩ := hs0.own_at p z
    rw [e] at hp; cases hp
end
end Pu

/-! PH: expressions are sound. -/
namespace Pu
open PySem PySem.Spec PyProof.Rows L2 Ni
def plainT : Expr → Bool
  | .UnaryOp .Not _ _ => false
  | .BoolOp _ _ _ => false
  | .IfExp _ _ _ _ => false
  | .Compare _ _ _ _ => false
  | _ => true
theorem isTrue_plain {e : Expr} {env : PySem.Env} (h : plainT e = true) (whole : Sem Value) : isTrue e env whole = (do let v ← whole; standAt e.pos; holding [v] (truthy v)) := by
  cases e with
  | UnaryOp op a p => cases op <;> first | rfl | cases h
  | _ => first | rfl | cases h
theorem wt_chain {X : Cx} {op op' : CmpOp} {a b c : Expr} {pos : Pos} {σ : L2.St} {H : Hp} {P : Bool → Hp → Prop} (hm : lastMarks [op, op'] [b, c] = false)
    (h : We X a σ H fun x H1 => We X b σ H1 fun y H2 => Wo X (compareOp op) x y σ H2 fun z H3 => ∃ k, z = .bl k ∧ if k = true then We X c σ H3 fun w H4 => Wo X (compareOp op') y w σ H4 fun z H5 => ∃ k, z = .bl k ∧ P k H5 else P false H3) : Wt X (.Compare a [op, op'] [b, c] pos) σ H P := by
  intro pins s I
  refine isTrue_chain (thn (h pins s I) fun v1 s1 ⟨x, H1, I1, r1, q1⟩ => test_link (thn (q1 pins s1 I1) fun v2 s2 ⟨y, H2, I2, r2, q2⟩ =>
    thn (q2 pins s2 v1 v2 I2 r1 r2) fun v3 s3 ⟨z, H3, I3, r3, k, e, q3⟩ => ?_)) hm
  subst e
  cases r3
  refine wpAny_truthy_bool ?_
  cases k
  · exact ite_ff ⟨H3, I3, q3⟩
  · refine ite_tt (test_last (thn (q3 pins s3 I3) fun v4 s4 ⟨u, H4, I4, r4, q4⟩ => thn (q4 pins s4 v2 v4 I4 r2 r4) fun v5 s5 ⟨z2, H5, I5, r5, k2, e2, q5⟩ => ?_))
    subst e2
    cases r5
    exact wpAny_truthy_bool ⟨H5, I5, q5⟩
theorem wt_ite {X : Cx} {t x y : Expr} {pos : Pos} {σ : L2.St} {H : Hp} {P : Bool → Hp → Prop} (h : Wt X t σ H fun k H1 => if k = true then Wt X x σ H1 P else Wt X y σ H1 P) : Wt X (.IfExp t x y pos) σ H P := by
  intro pins s I
  refine wpAny_bind (thn (h pins s I) fun k s1 ⟨H1, I1, q⟩ => ?_)
  cases k
  · exact q pins s1 I1
  · exact q pins s1 I1
def PostT (X : Cx) (ct : Ct) (F H : Hp) (ρ : Env) (σ : L2.St) (P : Bool → Prop) : Bool → Hp → Prop := fun k H' => ∃ F', Stt X ct F' ρ σ H' ∧ Fwd ct.pl F H F' H' ∧ P k
theorem ifB_mono {k : Bool} {A B A' B' : Prop} (h : ifB k A B) (h1 : A → A') (h2 : B → B') : if k = true then A' else B' := by
  cases k
  · exact h2 h
  · exact h1 h
theorem asB_bl {k : Bool} {Q : Bool → Prop} : asB (.bl k) Q = Q k := rfl
theorem optP_ok {o : Option PV} {Q : PV → Prop} (h : optP o Q) : ∃ x, o = some x ∧ Q x := by
  cases o with
  | none => exact h.elim
  | some x => exact ⟨x, rfl, h⟩
theorem atP_ok {xs : List PV} {n : Int} {Q : PV → Prop} (h : atP xs n Q) : ∃ x, atI xs n = some x ∧ Q x := by
  cases n with
  | ofNat k =>
    obtain ⟨x, e, q⟩ := optP_ok h
    rw [nth_eq] at e
    exact ⟨x, atI_nat e, q⟩
  | negSucc k =>
    obtain ⟨l, h⟩ := ifB_f h
    obtain ⟨x, e, q⟩ := optP_ok h
    have l := Nat.le_of_ble_eq_true l
    rw [nth_eq] at e
    refine ⟨x, ?_, q⟩
    unfold atI ixN
    rw [if_neg (by omega), if_pos (by omega)]
    show xs[(Int.negSucc k + (xs.length : Int)).toNat]? = some x
    rw [show (Int.negSucc k + (xs.length : Int)).toNat = xs.length - (k + 1) by omega]
    exact e
theorem at_rep {k : Kx} {F : Hp} {xs : List PV} {vs : List V} {n : Int} {x : PV} (r : Reps k F xs vs) (h : atI xs n = some x) : ∃ v, atI vs n = some v ∧ Rep k F x v := by
  unfold atI at *
  rw [← r.len]
  obtain ⟨j, e1, e2⟩ := Option.bind_eq_some_iff.mp h
  obtain ⟨v, e3, rv⟩ := r.get e2
  exact ⟨v, by rw [e1]; exact e3, rv⟩
theorem Reps.rep {k : Kx} {F : Hp} {xs : List PV} {vs : List V} (h : Reps k F xs vs) : ∀ n, Reps k F (List.replicate n xs).flatten (List.replicate n vs).flatten
  | 0 => .nil
  | n + 1 => by
    rw [List.replicate_succ, List.replicate_succ, List.flatten_cons, List.flatten_cons]
    exact h.append (Reps.rep h n)
theorem Stt.cast {X X' : Cx} {ct : Ct} {F H : Hp} {ρ : Env} {σ : L2.St} (S : Stt X ct F ρ σ H) (hK : X.K = X'.K) : Stt X' ct F ρ σ H := ⟨S.sub, S.gr, S.gua, S.p0, S.p1, S.m0, by rw [← hK]; exact S.slots⟩
theorem wipe_wipe (σ : L2.St) (vs : List Nat) : wipe (wipe σ vs) vs = wipe σ vs := by
  apply List.ext_getElem?
  intro j
  rw [wipe_get, wipe_get]
  by_cases h : j ∈ vs
  · simp only [if_pos h, Option.map_map]
    rfl
  · simp only [if_neg h]
def tOf (X : Cx) : Option Expr → TO
  | none => tNoPart
  | some e => tPart (We X e)
theorem po_of {X : Cx} {o : Option Expr} : PO X o (tOf X o) := by
  cases o with
  | none => exact po_none
  | some e => exact po_some We.pe
theorem Reps.take {k : Kx} {F : Hp} : ∀ {xs : List PV} {vs : List V} (n : Nat), Reps k F xs vs → Reps k F (xs.take n) (vs.take n)
  | _, _, 0, _ => .nil
  | [], _, n + 1, h => by cases h; exact .nil
  | x :: xs, _, n + 1, h => by
    obtain ⟨v, ws, rfl, h1, h2⟩ := h
    exact .cons h1 (Reps.take n h2)
theorem Reps.drop {k : Kx} {F : Hp} : ∀ {xs : List PV} {vs : List V} (n : Nat), Reps k F xs vs → Reps k F (xs.drop n) (vs.drop n)
  | _, _, 0, h => h
  | [], _, n + 1, h => by cases h; exact .nil
  | x :: xs, _, n + 1, h => by
    obtain ⟨v, ws, rfl, h1, h2⟩ := h
    exact Reps.drop n h2
theorem cut_rep {k : Kx} {F : Hp} {xs : List PV} {vs : List V} (r : Reps k F xs vs) (lo hi : Option Int) : Reps k F (cutP xs lo hi) (cutV vs lo hi) := by
  unfold cutP cutV
  rw [← r.len]
  exact (r.drop _).take _
theorem tOf_ok {X : Cx} {ct : Ct} {L : Lang} {m : CE → Expr → Bool} {c : CE} {o : Option Expr} {F H : Hp} {ρ : Env} {σ : L2.St} {K : Option Int → Prop} {E : KE} {R : Option Int → Hp → Prop} (mm : (match o with
      | none => isNon c
      | some e => !isNon c && m c e) = true) (S : Stt X ct F ρ σ H) (h : ifB (isNon c) (K none) (denE L c ρ (fun x => asI x fun n => K (some n)) E))
    (ih : denE L c ρ (fun x => asI x fun n => K (some n)) E → ∀ e, m c e = true → We X e σ H (Post X ct F H ρ σ fun x => asI x fun n => K (some n))) (k : ∀ l H1 F1, Stt X ct F1 ρ σ H1 → Fwd ct.pl F H F1 H1 → K l → R l H1) : tOf X o σ H R := by
  cases o with
  | none =>
    have mm : isNon c = true := mm
    rw [mm] at h
    exact k none H F S (.refl S) h
  | some e =>
    have mm : (!isNon c && m c e) = true := mm
    simp only [Bool.and_eq_true, Bool.not_eq_true'] at mm
    rw [mm.1] at h
    refine We.up (ih h e mm.2) ?_
    rintro v H1 ⟨x, F1, S1, s1, r1, q1⟩
    obtain ⟨n, rfl, q1⟩ := asI_ok q1
    cases r1
    exact ⟨n, rfl, k _ H1 F1 S1 s1 q1⟩
theorem wtGen {X : Cx} {ct : Ct} {e : Expr} {F H : Hp} {ρ : Env} {σ : L2.St} {P : Bool → Prop} (z : plainT e = true) (h : We X e σ H (Post X ct F H ρ σ fun x => asB x P)) : Wt X e σ H (PostT X ct F H ρ σ P) := wt_val (fun whole => isTrue_plain z whole) (We.up h fun v H1 ⟨x, F1, S1, s1, r1, q1⟩ => by
  obtain ⟨k, rfl, q1⟩ := asB_ok q1
  exact ⟨k, r1, F1, S1, s1, q1⟩)
/-- the tests of a comprehension, none or one -/
def condTT (X : Cx) (scope : Scope) : List Expr → TT
  | [] => tYes
  | [c] => tB X scope c
  | _ => fun _ _ _ => False
theorem condPT {X : Cx} {scope : Scope} {ifs : List Expr} {s : Shared} {H : Hp} {C : Addr} {cl : List (Str × Addr)} {fp : List Addr} : PTs (X.blk s H scope (compEnvC scope cl C X.env) fp) ifs (condTT X scope ifs) := by
  match ifs with
  | [] => exact pts_nil
  | [c] => exact pts_one tB.pt
  | _ :: _ :: _ => exact ⟨fun _ _ _ _ _ _ h => h.elim⟩
section
variable {b : B6} {L : Lang} {N : List Str} {CL : List Cl} {G : List GK} {cm all : Bool} {ct : Ct}
theorem e_var {X : Cx} {sc : Scope} {i : Nat} {x : Str} {pos : Pos} {σ : L2.St} {H : Hp} {Q : VK} {v : V} (C : Cok X N cm all sc ct.ex) (m : (decide (N[i]? = some x) && visB sc x && okN x) = true) (hv : σ[i]? = some (some v)) (q : Q v H) : We X (.Name x pos) σ H Q := by
  simp only [Bool.and_eq_true, decide_eq_true_eq] at m
  obtain ⟨⟨m1, m2⟩, m3⟩ := m
  exact we_name (by rw [C.n]; exact m1) (C.vis m2) (okN_ok m3).1 (okN_ok m3).2 hv q
theorem isGlo_ok {i : Nat} {x : Str} (h : isGlo G i x = true) : nth G i = some (.glo x) := by
  unfold isGlo at h
  split at h
  · rename_i y e
    rw [e, of_decide_eq_true h]
  · cases h
theorem isMet_ok {i : Nat} {m : Str} (h : isMet G i m = true) : ∃ c, nth G i = some (.met c m) := by
  unfold isMet at h
  split at h
  · rename_i c y e
    exact ⟨c, by rw [e, of_decide_eq_true h]⟩
  · cases h
theorem zip_map' : ∀ {fs : List Str} {vs : List V} {n : Nat}, vs.length ≤ fs.length → vs.length = n → (fs.zip vs).map (·.1) = fs.take n
  | _, [], _, _, e => by subst e; simp
  | [], v :: vs, _, l, _ => by simp at l
  | f :: fs, v :: vs, _, l, e => by
    subst e
    simp at l
    simp [zip_map' l rfl]
theorem ins_at {X : Cx} {F H : Hp} {x : PV} {v : V} {c : Cl} (s : Same F H) (r : Rep ⟨X.K, ct.pl⟩ F x v) (h : insOf c x) : ∃ a dx fs, v = .ref a ∧ H a = some (.ins (He.ga X.K c.nm) dx fs) ∧ ∃ n, fs.map (·.1) = c.fs.take n := by
  cases x with
  | obj d xs =>
    cases h
    unfold Rep at r
    obtain ⟨a, dx, vs, rfl, e, l, rs⟩ := r
    exact ⟨a, dx, _, rfl, s _ _ e, xs.length, zip_map' (by rw [← rs.len]; exact l.1) rs.len.symm⟩
  | rat q =>
    cases h
    unfold Rep at r
    obtain ⟨a, dx, rfl, e⟩ := r
    exact ⟨a, dx, _, rfl, s _ _ e, 2, rfl⟩
  | _ => exact h.elim
theorem isCl_ok {c : Cl} {x : PV} {Q : Prop} (h : isCl c x Q) : insOf c x ∧ Q := by
  unfold isCl at h
  cases x with
  | obj d xs =>
    simp only at h
    split at h
    · rename_i e; exact ⟨e, h⟩
    · exact h.elim
  | rat q =>
    simp only at h
    split at h
    · rename_i e; exact ⟨e, h⟩
    · exact h.elim
  | _ => exact h.elim
end
def SE (b : B6) (L : Lang) (N : List Str) (CL : List Cl) (G : List GK) (cm : Bool) (c : CE) : Prop := ∀ {ct : Ct} {X : Cx} {all : Bool} {sc : Scope} {e : Expr}, b6 X = b → Cok X N cm all sc ct.ex → mE N G CL cm sc c e = true → ∀ {F : Hp} {ρ : Env} {σ : L2.St} {H : Hp} {Q : PV → Prop} {E : KE}, Stt X ct F ρ σ H → Eok X ct F ρ σ E → denE L c ρ Q E → We X e σ H (Post X ct F H ρ σ Q)
def SEs (b : B6) (L : Lang) (N : List Str) (CL : List Cl) (G : List GK) (cm : Bool) (cs : CEs) : Prop := ∀ {ct : Ct} {X : Cx} {all : Bool} {sc : Scope} {es : List Expr}, b6 X = b → Cok X N cm all sc ct.ex → mEs N G CL cm sc cs es = true → ∀ {F : Hp} {ρ : Env} {σ : L2.St} {H : Hp} {Q : List PV → Prop} {E : KE}, Stt X ct F ρ σ H → Eok X ct F ρ σ E → denEs L cs ρ Q E →
    Wa X es σ H fun vs H' => vs.length = es.length ∧ PostA X ct F H ρ σ Q vs H'
def SAnd (b : B6) (L : Lang) (N : List Str) (CL : List Cl) (G : List GK) (cm : Bool) (cs : CEs) : Prop := ∀ {ct : Ct} {X : Cx} {all : Bool} {sc : Scope} {es : List Expr} {pos : Pos}, b6 X = b → Cok X N cm all sc ct.ex → mEs N G CL cm sc cs es = true → ∀ {F : Hp} {ρ : Env} {σ : L2.St} {H : Hp} {Q : PV → Prop} {E : KE}, Stt X ct F ρ σ H → Eok X ct F ρ σ E → denAnd L cs ρ Q E →
    We X (.BoolOp .And es pos) σ H (Post X ct F H ρ σ Q)
def SOr (b : B6) (L : Lang) (N : List Str) (CL : List Cl) (G : List GK) (cm : Bool) (cs : CEs) : Prop := ∀ {ct : Ct} {X : Cx} {all : Bool} {sc : Scope} {es : List Expr} {pos : Pos}, b6 X = b → Cok X N cm all sc ct.ex → mEs N G CL cm sc cs es = true → ∀ {F : Hp} {ρ : Env} {σ : L2.St} {H : Hp} {Q : PV → Prop} {E : KE}, Stt X ct F ρ σ H → Eok X ct F ρ σ E → denOr L cs ρ Q E →
    We X (.BoolOp .Or es pos) σ H (Post X ct F H ρ σ Q)
def SO (b : B6) (L : Lang) (N : List Str) (CL : List Cl) (G : List GK) (cm : Bool) (o : CO) : Prop := ∀ {ct : Ct} {X : Cx} {all : Bool} {sc : Scope} {e : Expr}, b6 X = b → Cok X N cm all sc ct.ex → mO N G CL cm sc o e = true → ∀ {F : Hp} {ρ : Env} {σ : L2.St} {H : Hp} {Q : List PV → Prop} {E : KE}, Stt X ct F ρ σ H → Eok X ct F ρ σ E → denO L o ρ Q E → We X e σ H (PostO X ct F H ρ σ Q)
def SIt (b : B6) (L : Lang) (N : List Str) (CL : List Cl) (G : List GK) (cm : Bool) (it : CIt) : Prop := ∀ {ct : Ct} {X : Cx} {all : Bool} {sc : Scope} {tg e : Expr}, b6 X = b → Cok X N cm all sc ct.ex → mIt N G CL cm sc it tg e = true → ∀ {F : Hp} {ρ : Env} {σ : L2.St} {H : Hp} {Q : List PV → Prop} {E : KE}, Stt X ct F ρ σ H → Eok X ct F ρ σ E → denIt L it ρ Q E → ItP X ct F ρ σ H tg e Q
def SAndT (b : B6) (L : Lang) (N : List Str) (CL : List Cl) (G : List GK) (cm : Bool) (cs : CEs) : Prop := ∀ {ct : Ct} {X : Cx} {all : Bool} {sc : Scope} {es : List Expr}, b6 X = b → Cok X N cm all sc ct.ex → mEs N G CL cm sc cs es = true → ∀ {F : Hp} {ρ : Env} {σ : L2.St} {H : Hp} {P : Bool → Prop} {E : KE}, Stt X ct F ρ σ H → Eok X ct F ρ σ E → denAnd L cs ρ (fun x => asB x P) E →
    ∀ pos, Ww X (.BoolOp .And es pos) σ H (PostT X ct F H ρ σ P)
def SOrT (b : B6) (L : Lang) (N : List Str) (CL : List Cl) (G : List GK) (cm : Bool) (cs : CEs) : Prop := ∀ {ct : Ct} {X : Cx} {all : Bool} {sc : Scope} {es : List Expr}, b6 X = b → Cok X N cm all sc ct.ex → mEs N G CL cm sc cs es = true → ∀ {F : Hp} {ρ : Env} {σ : L2.St} {H : Hp} {P : Bool → Prop} {E : KE}, Stt X ct F ρ σ H → Eok X ct F ρ σ E → denOr L cs ρ (fun x => asB x P) E →
    ∀ pos, Ww X (.BoolOp .Or es pos) σ H (PostT X ct F H ρ σ P)
def ST (b : B6) (L : Lang) (N : List Str) (CL : List Cl) (G : List GK) (cm : Bool) (c : CE) : Prop := ∀ {ct : Ct} {X : Cx} {all : Bool} {sc : Scope} {e : Expr}, b6 X = b → Cok X N cm all sc ct.ex → mE N G CL cm sc c e = true → ∀ {F : Hp} {ρ : Env} {σ : L2.St} {H : Hp} {P : Bool → Prop} {E : KE}, Stt X ct F ρ σ H → Eok X ct F ρ σ E → denE L c ρ (fun x => asB x P) E →
    Wt X e σ H (PostT X ct F H ρ σ P)
def SCond (b : B6) (L : Lang) (N : List Str) (CL : List Cl) (G : List GK) (cm : Bool) (cs : CEs) : Prop := ∀ {ct : Ct} {X : Cx} {all : Bool} {sc scope : Scope} {ifs : List Expr}, b6 X = b → Cok X N cm all sc ct.ex → ct.ex = none → mEs N G CL cm (relS sc scope) cs ifs = true → ∀ {F : Hp} {ρ : Env} {σ : L2.St} {H : Hp} {P : Bool → Prop} {R : Bool → Hp → Prop}, Stt X ct F ρ σ H → denConds L cs ρ P →
    (∀ k H' F', Stt X ct F' ρ σ H' → Fwd ct.pl F H F' H' → P k → R k H') → condTT X scope ifs σ H R
section
variable {b : B6} {L : Lang} {N : List Str} {CL : List Cl} {G : List GK} {cm : Bool} {ct : Ct} (hL : LOk b L CL) (hG : G = L.G.map (·.1))
include hL hG
theorem sE_0 {i}  : SE b L N CL G cm (.var i) := by
  unfold SE
  intro ct X all sc e hb C m F ρ σ H Q E S hE h
  unfold mE at m
  split at m
  · obtain ⟨x, e1, q⟩ := getV_ok h
    obtain ⟨v, e2, r⟩ := S.get e1
    exact e_var C m e2 ⟨x, F, S, (.refl S), r, q⟩
  · cases m
theorem sE_1 {n}  : SE b L N CL G cm (.int n) := by
  unfold SE
  intro ct X all sc e hb C m F ρ σ H Q E S hE h
  unfold mE at m
  split at m
  · cases of_decide_eq_true m
    exact we_int ⟨.int n, F, S, (.refl S), rfl, h⟩
  · cases m
theorem sE_2 {n}  : SE b L N CL G cm (.bl n) := by
  unfold SE
  intro ct X all sc e hb C m F ρ σ H Q E S hE h
  unfold mE at m
  split at m
  · cases of_decide_eq_true m
    exact we_bl ⟨.bl n, F, S, (.refl S), rfl, h⟩
  · cases m
theorem sE_3  : SE b L N CL G cm (.non) := by
  unfold SE
  intro ct X all sc e hb C m F ρ σ H Q E S hE h
  unfold mE at m
  split at m
  · exact we_non ⟨.non, F, S, (.refl S), rfl, h⟩
  · cases m
theorem sE_4 {n}  : SE b L N CL G cm (.str n) := by
  unfold SE
  intro ct X all sc e hb C m F ρ σ H Q E S hE h
  unfold mE at m
  split at m
  · cases of_decide_eq_true m
    exact we_str ⟨.str n, F, S, (.refl S), rfl, h⟩
  · cases m
theorem sE_5 {t}  : SE b L N CL G cm (.ty t) := by
  unfold SE
  intro ct X all sc e hb C m F ρ σ H Q E S hE h
  unfold mE at m
  split at m
  · rename_i x pos
    have hL2 : LOk (b6 X) L CL := hb ▸ hL
    simp only [Bool.and_eq_true, decide_eq_true_eq] at m
    obtain ⟨⟨m1, m2⟩, m3⟩ := m
    subst m1
    obtain ⟨g1, g2, g3⟩ := C.gl m2
    have key : ∀ n, t.val = .type n → t ≠ .gcd → We X (.Name t.nm pos) σ H (Post X ct F H ρ σ Q) := fun n e1 e2 =>
      we_of (pe_bltn g1 (hL2.bi t e2) (by rw [← e1]; exact boot_of e2) (v := .ty n) rfl g3 g2) ⟨.ty t, F, S, (.refl S), ⟨n, e1, rfl⟩, h⟩
    cases t <;> first | exact key _ rfl (by intro z; cases z) | cases m3
  · cases m
theorem sE_6 {c}  : SE b L N CL G cm (.cls c) := by
  unfold SE
  intro ct X all sc e hb C m F ρ σ H Q E S hE h
  unfold mE at m
  split at m
  · have hL2 : LOk (b6 X) L CL := hb ▸ hL
    simp only [Bool.and_eq_true, decide_eq_true_eq] at m
    obtain ⟨⟨m0, m1⟩, m2⟩ := m
    subst m1
    obtain ⟨g1, g2, g3⟩ := C.gl m2
    exact we_of (pe_glob g1 (hL2.cl c m0) (v := .ref (He.ga X.K c.nm)) rfl g2) ⟨.cls c, F, S, (.refl S), rfl, h⟩
  · cases m
theorem sE_7 {es} (iEs_es : SEs b L N CL G cm es) : SE b L N CL G cm (.tup es) := by
  unfold SE
  intro ct X all sc e hb C m F ρ σ H Q E S hE h
  unfold mE at m
  split at m
  · simp only [Bool.and_eq_true, decide_eq_true_eq] at m
    refine we_tup (Wa.up (iEs_es hb C m.1 S hE h) ?_)
    rintro vs H1 ⟨l, xs, F1, S1, s1, r1, q1⟩
    refine ⟨sizeOk (by omega), fun p hp => ?_⟩
    obtain ⟨S2, s2⟩ := S1.newE (o := .tup vs) hp
    exact ⟨.tup xs, _, S2, Fwd.trans s1 s2, ⟨p, vs, rfl, upd_same, r1.mono s2.s⟩, q1⟩
  · cases m
theorem sE_8 {o} (iO_o : SO b L N CL G cm o) : SE b L N CL G cm (.fr o) := by
  unfold SE
  intro ct X all sc e hb C m F ρ σ H Q E S hE h
  unfold mE at m
  exact We.up (iO_o hb C m S hE h) fun v H1 q => q.frz
theorem sE_9 {op x y} (iE_x : SE b L N CL G cm x) (iE_y : SE b L N CL G cm y) : SE b L N CL G cm (.bin op x y) := by
  unfold SE
  intro ct X all sc e hb C m F ρ σ H Q E S hE h
  unfold mE at m
  split at m
  · simp only [Bool.and_eq_true, decide_eq_true_eq] at m
    obtain ⟨⟨rfl, m1⟩, m2⟩ := m
    refine we_bin (We.up (iE_x hb C m1 S hE h) ?_)
    rintro v H1 ⟨x, F1, S1, s1, r1, q1⟩
    refine We.up (iE_y hb C m2 S1 (hE.up s1) q1) ?_
    rintro w H2 ⟨y, F2, S2, s2, r2, q2⟩
    exact Wo.imp (fun v H q => Post.up (Fwd.trans s1 s2) q) (hL.opP (.bin op) X hb ct F2 ρ σ H2 [x, y] [v, w] Q E S2 (.cons (r1.mono s2.s) (.cons r2 .nil)) q2 ((hE.up s1).up s2))
  · cases m
theorem sE_10 {x} (iE_x : SE b L N CL G cm x) : SE b L N CL G cm (.neg x) := by
  unfold SE
  intro ct X all sc e hb C m F ρ σ H Q E S hE h
  unfold mE at m
  split at m
  · refine we_un (We.up (iE_x hb C m S hE h) ?_) (by intro z; cases z)
    rintro v H1 ⟨x, F1, S1, s1, r1, q1⟩
    have o : Wu X (unaryOp .USub) v σ H1 (Post X ct F1 H1 ρ σ Q) := hL.opP .neg X hb ct F1 ρ σ H1 [x] [v] Q E S1 (.cons r1 .nil) q1 (hE.up s1)
    exact fun pins s u I r => thn (o pins s u I r) fun _ _ q => EP.imp (fun v H q => Post.up s1 q) q
  · cases m
theorem sE_11 {x} (iE_x : SE b L N CL G cm x) : SE b L N CL G cm (.inot x) := by
  unfold SE
  intro ct X all sc e hb C m F ρ σ H Q E S hE h
  unfold mE at m
  split at m
  · refine we_not (We.up (iE_x hb C m S hE h) ?_)
    rintro v H1 ⟨x, F1, S1, s1, r1, q1⟩
    obtain ⟨k, rfl, q1⟩ := asB_ok q1
    exact ⟨k, r1, .bl (!k), F1, S1, s1, rfl, q1⟩
  · cases m
theorem sE_12 {op x y} (iE_x : SE b L N CL G cm x) (iE_y : SE b L N CL G cm y) : SE b L N CL G cm (.cmp op x y) := by
  unfold SE
  intro ct X all sc e hb C m F ρ σ H Q E S hE h
  unfold mE at m
  split at m
  · simp only [Bool.and_eq_true, decide_eq_true_eq] at m
    obtain ⟨⟨⟨rfl, m0⟩, m1⟩, m2⟩ := m
    refine we_cmp (mark_no m0) (We.up (iE_x hb C m1 S hE h) ?_)
    rintro v H1 ⟨x, F1, S1, s1, r1, q1⟩
    refine We.up (iE_y hb C m2 S1 (hE.up s1) q1) ?_
    rintro w H2 ⟨y, F2, S2, s2, r2, q2⟩
    exact Wo.imp (fun v H q => Post.up (Fwd.trans s1 s2) q) (hL.opP (.cmp op) X hb ct F2 ρ σ H2 [x, y] [v, w] Q E S2 (.cons (r1.mono s2.s) (.cons r2 .nil)) q2 ((hE.up s1).up s2))
  · cases m
theorem sE_13 {o1 o2 x y z} (iE_x : SE b L N CL G cm x) (iE_y : SE b L N CL G cm y) (iE_z : SE b L N CL G cm z) : SE b L N CL G cm (.cmp2 o1 o2 x y z) := by
  unfold SE
  intro ct X all sc e hb C m F ρ σ H Q E S hE h
  unfold mE at m
  split at m
  · simp only [Bool.and_eq_true, decide_eq_true_eq] at m
    obtain ⟨⟨⟨⟨⟨⟨rfl, rfl⟩, m3⟩, m4⟩, m5⟩, m6⟩, m7⟩ := m
    refine we_chain (marks2 m3 m4) (We.up (iE_x hb C m5 S hE h) ?_)
    rintro v H1 ⟨x, F1, S1, s1, r1, q1⟩
    refine We.up (iE_y hb C m6 S1 (hE.up s1) q1) ?_
    rintro w H2 ⟨y, F2, S2, s2, r2, q2⟩
    refine Wo.imp ?_ (hL.opP (.cmp o1) X hb ct F2 ρ σ H2 [x, y] [v, w] _ E S2 (.cons (r1.mono s2.s) (.cons r2 .nil)) q2 ((hE.up s1).up s2))
    rintro u H3 ⟨u', F3, S3, s3, r3, q3⟩
    obtain ⟨k, rfl, q3⟩ := asB_ok q3
    refine ⟨k, r3, ifB_mono q3 (fun q => ?_) (fun q => ⟨.bl false, F3, S3, Fwd.trans (Fwd.trans s1 s2) s3, rfl, q⟩)⟩
    refine We.up (iE_z hb C m7 S3 (((hE.up s1).up s2).up s3) q) ?_
    rintro w2 H4 ⟨z, F4, S4, s4, r4, q4⟩
    exact Wo.imp (fun v H q => Post.up (Fwd.trans (Fwd.trans (Fwd.trans s1 s2) s3) s4) q) (hL.opP (.cmp o2) X hb ct F4 ρ σ H4 [y, z] [w, w2] Q E S4 (.cons ((r2.mono s3.s).mono s4.s) (.cons r4 .nil)) q4 ((((hE.up s1).up s2).up s3).up s4))
  · cases m
theorem sE_14 {es} (iAnd_es : SAnd b L N CL G cm es) : SE b L N CL G cm (.and es) := by
  unfold SE
  intro ct X all sc e hb C m F ρ σ H Q E S hE h
  unfold mE at m
  split at m
  · exact iAnd_es hb C m S hE h
  · cases m
theorem sE_15 {es} (iOr_es : SOr b L N CL G cm es) : SE b L N CL G cm (.or es) := by
  unfold SE
  intro ct X all sc e hb C m F ρ σ H Q E S hE h
  unfold mE at m
  split at m
  · exact iOr_es hb C m S hE h
  · cases m
theorem sE_16 {c x y} (iT_c : ST b L N CL G cm c) (iE_x : SE b L N CL G cm x) (iE_y : SE b L N CL G cm y) : SE b L N CL G cm (.ite c x y) := by
  unfold SE
  intro ct X all sc e hb C m F ρ σ H Q E S hE h
  unfold mE at m
  split at m
  · simp only [Bool.and_eq_true] at m
    obtain ⟨⟨m1, m2⟩, m3⟩ := m
    refine we_ite (Wt.imp ?_ (iT_c hb C m1 S hE h))
    rintro k H1 ⟨F1, S1, s1, q1⟩
    exact ifB_mono q1 (fun q => We.up (iE_x hb C m2 S1 (hE.up s1) q) fun v H q => Post.up s1 q) (fun q => We.up (iE_y hb C m3 S1 (hE.up s1) q) fun v H q => Post.up s1 q)
  · cases m
theorem sE_17 {i es} (iEs_es : SEs b L N CL G cm es) : SE b L N CL G cm (.call i es) := by
  unfold SE
  intro ct X all sc e hb C m F ρ σ H Q E S hE h
  unfold mE at m
  split at m
  · rename_i x _ xs pos
    simp only [Bool.and_eq_true] at m
    obtain ⟨⟨m1, m2⟩, m3⟩ := m
    have hL2 : LOk (b6 X) L CL := hb ▸ hL
    obtain ⟨p, hp⟩ := keys_at hG (isGlo_ok m1)
    obtain ⟨f, f1, f2, f3⟩ := hL2.g i x p hp
    obtain ⟨g1, g2, g3⟩ := C.gl m2
    cases xs with
    | nil =>
      cases es with
      | nil => exact we_call0 g1 f1 f2 g2 (Wf.imp (fun v H q => q.post) (f3 X rfl ct F ρ σ H [] [] Q E S .nil (callG_ok hp h) hE))
      | cons c cs => simp [mEs] at m3
    | cons y ys =>
      have st := mEs_star m3
      refine we_call g1 f1 f2 g2 (star_cons (st _ (.head _))) (star_pl fun e he => st e (.tail _ he)) (Wa.up (iEs_es hb C m3 S hE h) ?_)
      rintro vs H1 ⟨l, xs, F1, S1, s1, r1, q1⟩
      exact Wf.imp (fun v H q => Post.up s1 q.post) (f3 X rfl ct F1 ρ σ H1 xs vs Q E S1 r1 (callG_ok hp q1) (hE.up s1))
  · cases m
theorem sE_18 {i a es} (iE_a : SE b L N CL G cm a) (iEs_es : SEs b L N CL G cm es) : SE b L N CL G cm (.meth i a es) := by
  unfold SE
  intro ct X all sc e hb C m F ρ σ H Q E S hE h
  unfold mE at m
  split at m
  · rename_i o mm ap xs pos
    simp only [Bool.and_eq_true, decide_eq_true_eq] at m
    obtain ⟨⟨⟨⟨⟨m1, m2⟩, m3⟩, m4⟩, m5⟩, m6⟩ := m
    have hL2 : LOk (b6 X) L CL := hb ▸ hL
    obtain ⟨c, hc⟩ := isMet_ok m1
    obtain ⟨p, hp⟩ := keys_at hG hc
    obtain ⟨f, f1, f2, f3, f4⟩ := (hL2.m i c mm p hp).ex
    unfold denE at h
    have st := mEs_star m6
    cases xs with
    | nil =>
      cases es with
      | nil =>
        refine we_meth0 f1 f2 m2 m3 (We.up (iE_a hb C m5 S hE h) ?_)
        rintro v H1 ⟨x, F1, S1, s1, r1, q1⟩
        rw [hp] at q1
        obtain ⟨ic, q1⟩ := isCl_ok q1
        unfold denEs at q1
        obtain ⟨z, dx, fs, rfl, hz, hf⟩ := ins_at (ct := ct) S1.sub r1 ic
        exact ⟨z, dx, fs, rfl, hz, f3 fs hf, Wf.imp (fun v H q => Post.up s1 q.post) (f4 X rfl ct F1 ρ σ H1 [x] [.ref z] Q E S1 (.cons r1 .nil) (callG_ok hp q1) (hE.up s1))⟩
      | cons c cs => simp [mEs] at m6
    | cons y ys =>
      refine we_meth f1 f2 m2 m3 st m4 (We.up (iE_a hb C m5 S hE h) ?_)
      rintro v H1 ⟨x, F1, S1, s1, r1, q1⟩
      rw [hp] at q1
      obtain ⟨ic, q1⟩ := isCl_ok q1
      obtain ⟨z, dx, fs, rfl, hz, hf⟩ := ins_at (ct := ct) S1.sub r1 ic
      refine ⟨z, dx, fs, rfl, hz, f3 fs hf, Wa.up (iEs_es hb C m6 S1 (hE.up s1) q1) ?_⟩
      rintro vs H2 ⟨l, xs, F2, S2, s2, r2, q2⟩
      exact Wf.imp (fun v H q => Post.up (Fwd.trans s1 s2) q.post) (f4 X rfl ct F2 ρ σ H2 (x :: xs) (.ref z :: vs) Q E S2 (.cons (r1.mono s2.s) r2) (callG_ok hp q2) ((hE.up s1).up s2))
  · cases m
theorem sE_19 {t es} (iEs_es : SEs b L N CL G cm es) : SE b L N CL G cm (.bi t es) := by
  unfold SE
  intro ct X all sc e hb C m F ρ σ H Q E S hE h
  unfold mE at m
  split at m
  · rename_i x _ y ys pos
    simp only [Bool.and_eq_true, decide_eq_true_eq] at m
    obtain ⟨⟨rfl, m2⟩, m3⟩ := m
    have hL2 : LOk (b6 X) L CL := hb ▸ hL
    obtain ⟨g1, g2, g3⟩ := C.gl m2
    have st := mEs_star m3
    have body : Wa X (y :: ys) σ H fun vs H1 => Wcb X t.val vs H1 (Post X ct F H ρ σ Q) := by
      refine Wa.up (iEs_es hb C m3 S hE h) ?_
      rintro vs H1 ⟨l, xs, F1, S1, s1, r1, q1⟩
      obtain ⟨r, hr, q⟩ := hL2.opP (.bi t) X rfl ct F1 ρ σ H1 xs vs Q E S1 r1 q1 (hE.up s1)
      refine ⟨fun vs' H' Q' => r vs' H' (Post X ct F1 H1 ρ σ Q) ∧ ∀ v H2, Post X ct F1 H1 ρ σ Q v H2 → Q' v H2, ?_, q, fun v H2 q => Post.up s1 q⟩
      intro pins s σ' H' vs' us Q' I rr hq
      exact thn (hr pins s σ' H' vs' us _ I rr hq.1) fun _ _ z => EP.imp hq.2 z
    have a1 := star_cons (env := X.env) (es := ys) (st _ (.head _))
    have a2 := star_pl (pos := pos) (env := X.env) (es := ys) fun e he => st e (.tail _ he)
    by_cases hgc : t = .gcd
    · subst hgc
      exact we_callGB g1 hL2.gcd g2 a1 a2 body
    · have bt := boot_of hgc
      have fr := hL2.bi t hgc
      cases t <;> first | exact absurd rfl hgc | exact we_callB g1 fr bt g3 g2 a1 a2 body | exact we_callTy g1 fr bt g3 g2 a1 a2 body
  · cases m
theorem sE_20 {c j a} (iE_a : SE b L N CL G cm a) : SE b L N CL G cm (.fld c j a) := by
  unfold SE
  intro ct X all sc e hb C m F ρ σ H Q E S hE h
  unfold mE at m
  split at m
  · rename_i o f pos
    simp only [Bool.and_eq_true, decide_eq_true_eq] at m
    obtain ⟨⟨m1, m2⟩, m3⟩ := m
    refine we_fld (attr_id m2) (We.up (iE_a hb C m3 S hE h) ?_)
    rintro v H1 ⟨x, F1, S1, s1, r1, q1⟩
    have o := hL.opP (.fld c j) X hb ct F1 ρ σ H1 [x] [v] Q E S1 (.cons r1 .nil) q1 (hE.up s1)
    unfold OpSem at o
    simp only [m1] at o
    obtain ⟨a, C', dx, fs, u, e1, e2, e3, e4, e5, q⟩ := o
    exact ⟨a, C', dx, fs, u, e1, e2, e3, e4, e5, Post.up s1 q⟩
  · cases m
theorem sE_21 {x y} (iE_x : SE b L N CL G cm x) (iE_y : SE b L N CL G cm y) : SE b L N CL G cm (.ix x y) := by
  unfold SE
  intro ct X all sc e hb C m F ρ σ H Q E S hE h
  unfold mE at m
  split at m
  · simp only [Bool.and_eq_true] at m
    obtain ⟨⟨m0, m1⟩, m2⟩ := m
    refine we_ix (ix_plain m0) (We.up (iE_x hb C m1 S hE h) ?_)
    rintro v H1 ⟨x, F1, S1, s1, r1, q1⟩
    refine We.up (iE_y hb C m2 S1 (hE.up s1) q1) ?_
    rintro w H2 ⟨y, F2, S2, s2, r2, q2⟩
    obtain ⟨r, hr, q⟩ := hL.opP .ix X hb ct F2 ρ σ H2 [x, y] [v, w] Q E S2 (.cons (r1.mono s2.s) (.cons r2 .nil)) q2 ((hE.up s1).up s2)
    refine ⟨fun x' y' H' Q' => r x' y' H' (Post X ct F2 H2 ρ σ Q) ∧ ∀ v H3, Post X ct F2 H2 ρ σ Q v H3 → Q' v H3, ?_, q, fun v H3 q => Post.up (Fwd.trans s1 s2) q⟩
    intro value slice pins s σ' H' x' y' v' u' Q' I ra rb hq hs
    exact thn (hr value slice pins s σ' H' x' y' v' u' _ I ra rb hq.1 hs) fun _ _ z => EP.imp hq.2 z
  · cases m
theorem sE_22 {i y} (iE_y : SE b L N CL G cm y) : SE b L N CL G cm (.ixo i y) := by
  unfold SE
  intro ct X all sc e hb C m F ρ σ H Q E S hE h
  unfold mE at m
  split at m
  · rename_i x _ z _
    simp only [Bool.and_eq_true, decide_eq_true_eq] at m
    obtain ⟨⟨⟨⟨m1, m2⟩, m3⟩, m4⟩, m5⟩ := m
    obtain ⟨xs, e1, q⟩ := getO_ok h
    obtain ⟨os, hs, _⟩ := S.slots
    obtain ⟨p, vs, e2, e3, e4, e5⟩ := hs.getO e1
    refine we_ix (ix_plain m4) (e_var C (by simp [m1, m2, m3]) e2 (We.up (iE_y hb C m5 S hE q) ?_))
    rintro w H2 ⟨y, F2, S2, s2, r2, q2⟩
    obtain ⟨n, rfl, q2⟩ := asI_ok q2
    cases r2
    obtain ⟨os', hs', _⟩ := S2.slots
    obtain ⟨p', vs', e2', e3', e4', e5'⟩ := hs'.getO e1
    rw [e2] at e2'
    cases e2'
    obtain ⟨x, ex, q2⟩ := atP_ok q2
    obtain ⟨v, ev, rv⟩ := at_rep e4' ex
    exact ix_lh e3' ev ⟨x, F2, S2, s2, rv, q2⟩
  · cases m
theorem sE_23 {i}  : SE b L N CL G cm (.leno i) := by
  unfold SE
  intro ct X all sc e hb C m F ρ σ H Q E S hE h
  unfold mE at m
  split at m
  · rename_i l _ x _ pos
    simp only [Bool.and_eq_true, decide_eq_true_eq] at m
    obtain ⟨⟨⟨⟨rfl, m2⟩, m3⟩, m4⟩, m5⟩ := m
    have hL2 : LOk (b6 X) L CL := hb ▸ hL
    obtain ⟨g1, g2, g3⟩ := C.gl m2
    obtain ⟨xs, e1, q⟩ := getO_ok h
    obtain ⟨os, hs, _⟩ := S.slots
    obtain ⟨p, vs, e2, e3, e4, e5⟩ := hs.getO e1
    refine we_callB (id := "len") g1 (hL2.bi .len (by intro z; cases z)) (boot_of (b := .len) (by intro z; cases z)) g3 g2 rfl rfl (wa_cons rfl (e_var C (by simp [m3, m4, m5]) e2 (wa_nil ?_)))
    refine wcb_lenL (.of e3) ?_
    rw [← e4.len]
    exact ⟨.int xs.length, F, S, (.refl S), rfl, q⟩
  · cases m
theorem sE_snap {x} (iE_x : SE b L N CL G cm x) : SE b L N CL G cm (.snap x) := by
  unfold SE
  intro ct X all sc e hb C m F ρ σ H Q E S hE h
  unfold mE at m
  unfold denE at h
  obtain ⟨FS, s1, s2, SS⟩ := S.snap
  refine We.up (iE_x (ct := ctS ct H FS) hb C m SS (hE.snap S s1 s2) h) ?_
  rintro v H1 ⟨y, F1, S1, e1, r1, q1⟩
  obtain ⟨im, q1⟩ := ifB_f q1
  obtain ⟨F2, S2, e2, r2, _⟩ := S.unsnapV s1 s2 S1 (newr_imm im r1)
  exact ⟨y, F2, S2, e2, r2, q1⟩
theorem sT_snap {x} (iT_x : ST b L N CL G cm x) : ST b L N CL G cm (.snap x) := by
  unfold ST
  intro ct X all sc e hb C m F ρ σ H P E S hE h
  unfold mE at m
  unfold denE at h
  have ef : (fun x : PV => ifB (immP x) (asB x P) False) = (fun x => asB x P) := by
    funext x
    cases x <;> first | rfl | (unfold asB ifB; split <;> rfl)
  rw [ef] at h
  obtain ⟨FS, s1, s2, SS⟩ := S.snap
  refine Wt.imp ?_ (iT_x (ct := ctS ct H FS) hb C m SS (hE.snap S s1 s2) h)
  rintro k H1 ⟨F1, S1, e1, q1⟩
  obtain ⟨S2, e2⟩ := S.unsnap s1 S1
  exact ⟨F, S2, e2, q1⟩
/-- what gives something new -/
def SN (b : B6) (L : Lang) (N : List Str) (CL : List Cl) (G : List GK) (cm : Bool) (c : CE) : Prop := frE L c = true → ∀ {ct : Ct} {X : Cx} {all : Bool} {sc : Scope} {e : Expr}, b6 X = b → Cok X N cm all sc ct.ex → mE N G CL cm sc c e = true → ∀ {F : Hp} {ρ : Env} {σ : L2.St} {H : Hp} {Q : PV → Prop} {E : KE}, Stt X ct F ρ σ H → Eok X ct F ρ σ E → denE L c ρ Q E → We X e σ H (PostC true X ct F H ρ σ Q)
theorem sE_snapF {x} (iN_x : SN b L N CL G cm x) : SE b L N CL G cm (.snapF x) := by
  unfold SE
  intro ct X all sc e hb C m F ρ σ H Q E S hE h
  unfold mE at m
  unfold denE at h
  obtain ⟨fr, h⟩ := ifB_f h
  obtain ⟨FS, s1, s2, SS⟩ := S.snap
  refine We.up (iN_x fr (ct := ctS ct H FS) hb C m SS (hE.snap S s1 s2) h) ?_
  rintro v H1 ⟨y, F1, S1, e1, r1, n1, q1⟩
  obtain ⟨F2, S2, e2, r2, _⟩ := S.unsnapV s1 s2 S1 (n1 rfl)
  exact ⟨y, F2, S2, e2, r2, q1⟩
theorem sN_snapF {x} (iN_x : SN b L N CL G cm x) : SN b L N CL G cm (.snapF x) := by
  unfold SN
  intro _ ct X all sc e hb C m F ρ σ H Q E S hE h
  unfold mE at m
  unfold denE at h
  obtain ⟨fr, h⟩ := ifB_f h
  obtain ⟨FS, s1, s2, SS⟩ := S.snap
  refine We.up (iN_x fr (ct := ctS ct H FS) hb C m SS (hE.snap S s1 s2) h) ?_
  rintro v H1 ⟨y, F1, S1, e1, r1, n1, q1⟩
  obtain ⟨F2, S2, e2, r2, n2⟩ := S.unsnapV s1 s2 S1 (n1 rfl)
  exact ⟨y, F2, S2, e2, r2, fun _ => n2, q1⟩
/-- by what is never changed -/
theorem sN_imm {c : CE} (hi : ∀ {ρ : Env} {Q : PV → Prop} {E : KE}, denE L c ρ Q E → denE L c ρ (fun x => immP x = true ∧ Q x) E) (h : SE b L N CL G cm c) : SN b L N CL G cm c := by
  unfold SN
  intro _ ct X all sc e hb C m F ρ σ H Q E S hE hd
  refine We.up (h hb C m S hE (hi hd)) ?_
  rintro v H1 ⟨y, F1, S1, e1, r1, im, q1⟩
  exact ⟨y, F1, S1, e1, r1, fun _ => newr_imm im r1, q1⟩
theorem sN_no {c : CE} (h : frE L c = false) : SN b L N CL G cm c := by
  unfold SN
  intro z
  rw [h] at z
  cases z
theorem sN_snap {x} (iE_x : SE b L N CL G cm x) : SN b L N CL G cm (.snap x) := by
  unfold SN
  intro _ ct X all sc e hb C m F ρ σ H Q E S hE h
  unfold mE at m
  unfold denE at h
  obtain ⟨FS, s1, s2, SS⟩ := S.snap
  refine We.up (iE_x (ct := ctS ct H FS) hb C m SS (hE.snap S s1 s2) h) ?_
  rintro v H1 ⟨y, F1, S1, e1, r1, q1⟩
  obtain ⟨im, q1⟩ := ifB_f q1
  obtain ⟨F2, S2, e2, r2, n2⟩ := S.unsnapV s1 s2 S1 (newr_imm im r1)
  exact ⟨y, F2, S2, e2, r2, fun _ => n2, q1⟩
theorem sN_9 {op x y} (iE_x : SE b L N CL G cm x) (iE_y : SE b L N CL G cm y) : SN b L N CL G cm (.bin op x y) := by
  unfold SN
  intro hfr ct X all sc e hb C m F ρ σ H Q E S hE h
  have hfr : (L.op (.bin op)).fresh = true := hfr
  unfold mE at m
  split at m
  · simp only [Bool.and_eq_true, decide_eq_true_eq] at m
    obtain ⟨⟨rfl, m1⟩, m2⟩ := m
    refine we_bin (We.up (iE_x hb C m1 S hE h) ?_)
    rintro v H1 ⟨x, F1, S1, s1, r1, q1⟩
    refine We.up (iE_y hb C m2 S1 (hE.up s1) q1) ?_
    rintro w H2 ⟨y, F2, S2, s2, r2, q2⟩
    rw [← hfr]
    exact Wo.imp (fun v H q => PostC.up (Fwd.trans s1 s2) q) (hL.op (.bin op) X hb ct F2 ρ σ H2 [x, y] [v, w] Q E S2 (.cons (r1.mono s2.s) (.cons r2 .nil)) q2 ((hE.up s1).up s2))
  · cases m
theorem sN_10 {x} (iE_x : SE b L N CL G cm x) : SN b L N CL G cm (.neg x) := by
  unfold SN
  intro hfr ct X all sc e hb C m F ρ σ H Q E S hE h
  have hfr : (L.op .neg).fresh = true := hfr
  unfold mE at m
  split at m
  · refine we_un (We.up (iE_x hb C m S hE h) ?_) (by intro z; cases z)
    rintro v H1 ⟨x, F1, S1, s1, r1, q1⟩
    rw [← hfr]
    have o : Wu X (unaryOp .USub) v σ H1 (PostC (L.op .neg).fresh X ct F1 H1 ρ σ Q) := hL.op .neg X hb ct F1 ρ σ H1 [x] [v] Q E S1 (.cons r1 .nil) q1 (hE.up s1)
    exact fun pins s u I r => thn (o pins s u I r) fun _ _ q => EP.imp (fun v H q => PostC.up s1 q) q
  · cases m
theorem sN_12 {op x y} (iE_x : SE b L N CL G cm x) (iE_y : SE b L N CL G cm y) : SN b L N CL G cm (.cmp op x y) := by
  unfold SN
  intro hfr ct X all sc e hb C m F ρ σ H Q E S hE h
  have hfr : (L.op (.cmp op)).fresh = true := hfr
  unfold mE at m
  split at m
  · simp only [Bool.and_eq_true, decide_eq_true_eq] at m
    obtain ⟨⟨⟨rfl, m0⟩, m1⟩, m2⟩ := m
    refine we_cmp (mark_no m0) (We.up (iE_x hb C m1 S hE h) ?_)
    rintro v H1 ⟨x, F1, S1, s1, r1, q1⟩
    refine We.up (iE_y hb C m2 S1 (hE.up s1) q1) ?_
    rintro w H2 ⟨y, F2, S2, s2, r2, q2⟩
    rw [← hfr]
    exact Wo.imp (fun v H q => PostC.up (Fwd.trans s1 s2) q) (hL.op (.cmp op) X hb ct F2 ρ σ H2 [x, y] [v, w] Q E S2 (.cons (r1.mono s2.s) (.cons r2 .nil)) q2 ((hE.up s1).up s2))
  · cases m
theorem sN_17 {i es} (iEs_es : SEs b L N CL G cm es) : SN b L N CL G cm (.call i es) := by
  unfold SN
  intro hfr ct X all sc e hb C m F ρ σ H Q E S hE h
  have hfr : frG L i = true := hfr
  unfold mE at m
  split at m
  · rename_i x _ xs pos
    simp only [Bool.and_eq_true] at m
    obtain ⟨⟨m1, m2⟩, m3⟩ := m
    have hL2 : LOk (b6 X) L CL := hb ▸ hL
    obtain ⟨p, hp⟩ := keys_at hG (isGlo_ok m1)
    obtain ⟨f, f1, f2, f3⟩ := hL2.g i x p hp
    have hp3 : p.fresh = true := by
      unfold frG at hfr
      rw [hp] at hfr
      exact hfr
    rw [← hp3]
    obtain ⟨g1, g2, g3⟩ := C.gl m2
    cases xs with
    | nil =>
      cases es with
      | nil => exact we_call0 g1 f1 f2 g2 (Wf.imp (fun v H q => q) (f3 X rfl ct F ρ σ H [] [] Q E S .nil (callG_ok hp h) hE))
      | cons c cs => simp [mEs] at m3
    | cons y ys =>
      have st := mEs_star m3
      refine we_call g1 f1 f2 g2 (star_cons (st _ (.head _))) (star_pl fun e he => st e (.tail _ he)) (Wa.up (iEs_es hb C m3 S hE h) ?_)
      rintro vs H1 ⟨l, xs, F1, S1, s1, r1, q1⟩
      exact Wf.imp (fun v H q => PostC.up s1 q) (f3 X rfl ct F1 ρ σ H1 xs vs Q E S1 r1 (callG_ok hp q1) (hE.up s1))
  · cases m
theorem sN_18 {i a es} (iE_a : SE b L N CL G cm a) (iEs_es : SEs b L N CL G cm es) : SN b L N CL G cm (.meth i a es) := by
  unfold SN
  intro hfr ct X all sc e hb C m F ρ σ H Q E S hE h
  have hfr : frG L i = true := hfr
  unfold mE at m
  split at m
  · rename_i o mm ap xs pos
    simp only [Bool.and_eq_true, decide_eq_true_eq] at m
    obtain ⟨⟨⟨⟨⟨m1, m2⟩, m3⟩, m4⟩, m5⟩, m6⟩ := m
    have hL2 : LOk (b6 X) L CL := hb ▸ hL
    obtain ⟨c, hc⟩ := isMet_ok m1
    obtain ⟨p, hp⟩ := keys_at hG hc
    obtain ⟨f, f1, f2, f3, f4⟩ := (hL2.m i c mm p hp).ex
    have hp3 : p.fresh = true := by
      unfold frG at hfr
      rw [hp] at hfr
      exact hfr
    rw [← hp3]
    unfold denE at h
    have st := mEs_star m6
    cases xs with
    | nil =>
      cases es with
      | nil =>
        refine we_meth0 f1 f2 m2 m3 (We.up (iE_a hb C m5 S hE h) ?_)
        rintro v H1 ⟨x, F1, S1, s1, r1, q1⟩
        rw [hp] at q1
        obtain ⟨ic, q1⟩ := isCl_ok q1
        unfold denEs at q1
        obtain ⟨z, dx, fs, rfl, hz, hf⟩ := ins_at (ct := ct) S1.sub r1 ic
        exact ⟨z, dx, fs, rfl, hz, f3 fs hf, Wf.imp (fun v H q => PostC.up s1 q) (f4 X rfl ct F1 ρ σ H1 [x] [.ref z] Q E S1 (.cons r1 .nil) (callG_ok hp q1) (hE.up s1))⟩
      | cons c cs => simp [mEs] at m6
    | cons y ys =>
      refine we_meth f1 f2 m2 m3 st m4 (We.up (iE_a hb C m5 S hE h) ?_)
      rintro v H1 ⟨x, F1, S1, s1, r1, q1⟩
      rw [hp] at q1
      obtain ⟨ic, q1⟩ := isCl_ok q1
      obtain ⟨z, dx, fs, rfl, hz, hf⟩ := ins_at (ct := ct) S1.sub r1 ic
      refine ⟨z, dx, fs, rfl, hz, f3 fs hf, Wa.up (iEs_es hb C m6 S1 (hE.up s1) q1) ?_⟩
      rintro vs H2 ⟨l, xs, F2, S2, s2, r2, q2⟩
      exact Wf.imp (fun v H q => PostC.up (Fwd.trans s1 s2) q) (f4 X rfl ct F2 ρ σ H2 (x :: xs) (.ref z :: vs) Q E S2 (.cons (r1.mono s2.s) r2) (callG_ok hp q2) ((hE.up s1).up s2))
  · cases m
theorem sN_19 {t es} (iEs_es : SEs b L N CL G cm es) : SN b L N CL G cm (.bi t es) := by
  unfold SN
  intro hfr ct X all sc e hb C m F ρ σ H Q E S hE h
  have hfr : (L.op (.bi t)).fresh = true := hfr
  unfold mE at m
  split at m
  · rename_i x _ y ys pos
    simp only [Bool.and_eq_true, decide_eq_true_eq] at m
    obtain ⟨⟨rfl, m2⟩, m3⟩ := m
    have hL2 : LOk (b6 X) L CL := hb ▸ hL
    obtain ⟨g1, g2, g3⟩ := C.gl m2
    have st := mEs_star m3
    rw [← hfr]
    have body : Wa X (y :: ys) σ H fun vs H1 => Wcb X t.val vs H1 (PostC (L.op (.bi t)).fresh X ct F H ρ σ Q) := by
      refine Wa.up (iEs_es hb C m3 S hE h) ?_
      rintro vs H1 ⟨l, xs, F1, S1, s1, r1, q1⟩
      obtain ⟨r, hr, q⟩ := hL2.op (.bi t) X rfl ct F1 ρ σ H1 xs vs Q E S1 r1 q1 (hE.up s1)
      refine ⟨fun vs' H' Q' => r vs' H' (PostC (L.op (.bi t)).fresh X ct F1 H1 ρ σ Q) ∧ ∀ v H2, PostC (L.op (.bi t)).fresh X ct F1 H1 ρ σ Q v H2 → Q' v H2, ?_, q, fun v H2 q => PostC.up s1 q⟩
      intro pins s σ' H' vs' us Q' I rr hq
      exact thn (hr pins s σ' H' vs' us _ I rr hq.1) fun _ _ z => EP.imp hq.2 z
    have a1 := star_cons (env := X.env) (es := ys) (st _ (.head _))
    have a2 := star_pl (pos := pos) (env := X.env) (es := ys) fun e he => st e (.tail _ he)
    by_cases hgc : t = .gcd
    · subst hgc
      exact we_callGB g1 hL2.gcd g2 a1 a2 body
    · have bt := boot_of hgc
      have fr := hL2.bi t hgc
      cases t <;> first | exact absurd rfl hgc | exact we_callB g1 fr bt g3 g2 a1 a2 body | exact we_callTy g1 fr bt g3 g2 a1 a2 body
  · cases m
/-- arguments, each new or never changed -/
def SNs (b : B6) (L : Lang) (N : List Str) (CL : List Cl) (G : List GK) (cm : Bool) (cs : CEs) : Prop := frEs L cs = true → ∀ {ct : Ct} {X : Cx} {all : Bool} {sc : Scope} {es : List Expr}, b6 X = b → Cok X N cm all sc ct.ex → mEs N G CL cm sc cs es = true → ∀ {F : Hp} {ρ : Env} {σ : L2.St} {H : Hp} {Q : List PV → Prop} {E : KE}, Stt X ct F ρ σ H → Eok X ct F ρ σ E → denEs L cs ρ Q E →
    Wa X es σ H fun vs H' => vs.length = es.length ∧ ∃ xs F', Stt X ct F' ρ σ H' ∧ Fwd ct.pl F H F' H' ∧ (∃ Fn, Same Fn F' ∧ (∀ a o, Fn a = some o → H a = none ∨ ImmO o) ∧ Reps ⟨X.K, ct.pl⟩ Fn xs vs) ∧ Q xs
theorem sNs_nil : SNs b L N CL G cm .nil := by
  unfold SNs
  intro _ ct X all sc es hb C m F ρ σ H Q E S hE h
  unfold mEs at m
  split at m
  · exact wa_nil ⟨rfl, [], F, S, .refl S, ⟨fun _ => none, nofun, nofun, .nil⟩, h⟩
  · cases m
theorem sNs_cons {c cs} (iN_c : SN b L N CL G cm c) (iNs : SNs b L N CL G cm cs) : SNs b L N CL G cm (.cons c cs) := by
  unfold SNs
  intro hf ct X all sc es hb C m F ρ σ H Q E S hE h
  obtain ⟨f1, f2⟩ := ifT_ok hf
  unfold mEs at m
  split at m
  · simp only [Bool.and_eq_true] at m
    refine wa_cons (star_cons m.1.1) (We.up (iN_c f1 hb C m.1.2 S hE h) ?_)
    rintro v H1 ⟨x, F1, S1, s1, r1, n1, q1⟩
    refine Wa.up (iNs f2 hb C m.2 S1 (hE.up s1) q1) ?_
    rintro vs H2 ⟨l, xs, F2, S2, s2, ⟨Fn, a1, a2, a3⟩, q2⟩
    obtain ⟨Fm, b1, b2, b3⟩ := n1 rfl
    have b1' : Same Fm F2 := Same.trans' b1 s2.s
    refine ⟨by simp [l], x :: xs, F2, S2, s1.trans s2, ⟨unionH Fm Fn, fun a o e => ?_, fun a o e => ?_, .cons (b3.mono unionH_l) (a3.mono (unionH_r b1' a1))⟩, q2⟩
    · rcases unionH_or e with y | y
      · exact b1' a o y
      · exact a1 a o y
    · rcases unionH_or e with y | y
      · exact b2 a o y
      · exact (a2 a o y).imp (s1.gu.back no_mu) id
  · cases m
theorem sN_tup {es} (iNs : SNs b L N CL G cm es) : SN b L N CL G cm (.tup es) := by
  unfold SN
  intro hf ct X all sc e hb C m F ρ σ H Q E S hE h
  unfold mE at m
  split at m
  · simp only [Bool.and_eq_true, decide_eq_true_eq] at m
    refine we_tup (Wa.up (iNs hf hb C m.1 S hE h) ?_)
    rintro vs H1 ⟨l, xs, F1, S1, s1, ⟨Fn, a1, a2, a3⟩, q1⟩
    refine ⟨sizeOk (by omega), fun p hp => ?_⟩
    obtain ⟨S2, s2⟩ := S1.newE (o := .tup vs) hp
    have fp : Fn p = none := by
      cases z : Fn p with
      | none => rfl
      | some o => have := a1 p o z; rw [S1.fnone hp] at this; cases this
    have rp : Rep ⟨X.K, ct.pl⟩ (upd Fn p (.tup vs)) (.tup xs) (.ref p) := ⟨p, vs, rfl, upd_same, a3.mono (same_new fp)⟩
    have sm : Same (upd Fn p (.tup vs)) (upd F1 p (.tup vs)) := fun a o e => by
      by_cases z : a = p
      · subst z; rw [upd_same] at e ⊢; exact e
      · rw [upd_ne z] at e ⊢; exact a1 a o e
    refine ⟨.tup xs, _, S2, Fwd.trans s1 s2, rp.mono sm, fun _ => ⟨_, sm, fun a o e => ?_, rp⟩, q1⟩
    by_cases z : a = p
    · subst z; rw [upd_same] at e; cases e; exact .inr (.inr ⟨_, rfl⟩)
    · rw [upd_ne z] at e; exact a2 a o e
  · cases m
theorem sE_isX {i : Nat} {c : Cl} : SE b L N CL G cm (.isX i c) := by
  unfold SE
  intro ct X all sc e hb C m F ρ σ H Q E S hE h
  unfold mE at m
  split at m
  · rename_i l _ x _ k _ pos
    simp only [Bool.and_eq_true, decide_eq_true_eq] at m
    obtain ⟨⟨⟨⟨⟨⟨⟨rfl, m2⟩, m3⟩, m4⟩, m5⟩, m6⟩, rfl⟩, m8⟩ := m
    have hL2 : LOk (b6 X) L CL := hb ▸ hL
    obtain ⟨g1, g2, g3⟩ := C.gl m2
    obtain ⟨g4, g5, g6⟩ := C.gl m8
    unfold denE getX at h
    rw [nth_eq] at h
    split at h
    · rename_i ex ee
      obtain ⟨nd, h⟩ := ifB_f h
      obtain ⟨pi, q⟩ := ifB_f h
      obtain ⟨os, hs, _⟩ := S.slots
      obtain ⟨v, q1, q2, q3, e1, _, h1, _⟩ := hs.split ee
      cases h1 with
      | exc a h1 =>
        rename_i ad
        obtain ⟨t1, t2⟩ := hL2.i (ex.c, c) (pairIn_mem pi)
        obtain ⟨X', oe, pn, d, eX, hz, hd, hf⟩ := C.xo _ _ a
        have hdn : d = none := hd (by
          cases z : ex.d with
          | nil => rfl
          | cons y ys => rw [z] at nd; cases nd)
        subst hdn
        refine we_callB (id := "isinstance") g1 (hL2.bi .isi (by intro z; cases z)) (boot_of (b := .isi) (by intro z; cases z)) g3 g2 rfl rfl (wa_cons rfl (e_var C (by simp [m3, m4, m5]) e1 (wa_cons rfl (we_of (pe_glob g4 (hL2.cl c m6) (v := .ref (He.ga X.K c.nm)) rfl g5) (wa_nil ?_)))))
        clear hE hL2
        subst eX
        exact wcb_isE t1 hz hf (.own _) t2 ⟨.bl _, F, S, .refl S, rfl, q⟩
    · exact h.elim
  · cases m
theorem sT_snapF {x} (iT_x : ST b L N CL G cm x) : ST b L N CL G cm (.snapF x) := by
  unfold ST
  intro ct X all sc e hb C m F ρ σ H P E S hE h
  unfold mE at m
  unfold denE at h
  obtain ⟨_, h⟩ := ifB_f h
  obtain ⟨FS, s1, s2, SS⟩ := S.snap
  refine Wt.imp ?_ (iT_x (ct := ctS ct H FS) hb C m SS (hE.snap S s1 s2) h)
  rintro k H1 ⟨F1, S1, e1, q1⟩
  obtain ⟨S2, e2⟩ := S.unsnap s1 S1
  exact ⟨F, S2, e2, q1⟩
theorem sO_snap {o} (iO : SO b L N CL G cm o) : SO b L N CL G cm (.snapO o) := by
  unfold SO
  intro ct X all sc e hb C m F ρ σ H Q E S hE h
  unfold mO at m
  unfold denO at h
  obtain ⟨FS, s1, s2, SS⟩ := S.snap
  exact We.up (iO (ct := ctS ct H FS) hb C m SS (hE.snap S s1 s2) h) fun v H1 q => q.unsnap S s1 s2
theorem sEs_24  : SEs b L N CL G cm (.nil) := by
  unfold SEs
  intro ct X all sc es hb C m F ρ σ H Q E S hE h
  unfold mEs at m
  split at m
  · exact wa_nil ⟨rfl, [], F, S, (.refl S), .nil, h⟩
  · cases m
theorem sEs_25 {c cs} (iE_c : SE b L N CL G cm c) (iEs_cs : SEs b L N CL G cm cs) : SEs b L N CL G cm (.cons c cs) := by
  unfold SEs
  intro ct X all sc es hb C m F ρ σ H Q E S hE h
  unfold mEs at m
  split at m
  · rename_i e es
    simp only [Bool.and_eq_true] at m
    obtain ⟨⟨m1, m2⟩, m3⟩ := m
    refine wa_cons (star_cons m1) (We.up (iE_c hb C m2 S hE h) ?_)
    rintro v H1 ⟨x, F1, S1, s1, r1, q1⟩
    refine Wa.up (iEs_cs hb C m3 S1 (hE.up s1) q1) ?_
    rintro vs H2 ⟨l, xs, F2, S2, s2, r2, q2⟩
    exact ⟨by simp [l], x :: xs, F2, S2, Fwd.trans s1 s2, .cons (r1.mono s2.s) r2, q2⟩
  · cases m
theorem sAnd_26  : SAnd b L N CL G cm (.nil) := by
  unfold SAnd
  intro ct X all sc es pos hb C m F ρ σ H Q E S hE h
  exact h.elim
theorem sAnd_27 {c} (iE_c : SE b L N CL G cm c) : SAnd b L N CL G cm (.cons c .nil) := by
  unfold SAnd
  intro ct X all sc es pos hb C m F ρ σ H Q E S hE h
  unfold mEs at m
  split at m
  · rename_i e es
    simp only [Bool.and_eq_true] at m
    obtain ⟨⟨m1, m2⟩, m3⟩ := m
    unfold mEs at m3
    split at m3
    · exact we_and1 (iE_c hb C m2 S hE h)
    · cases m3
  · cases m
theorem sAnd_28 {c c2 cs} (iE_c : SE b L N CL G cm c) (iAnd_consc2cs : SAnd b L N CL G cm (.cons c2 cs)) : SAnd b L N CL G cm (.cons c (.cons c2 cs)) := by
  unfold SAnd
  intro ct X all sc es pos hb C m F ρ σ H Q E S hE h
  unfold mEs at m
  split at m
  · rename_i e es
    simp only [Bool.and_eq_true] at m
    obtain ⟨⟨m1, m2⟩, m3⟩ := m
    have m4 := m3
    unfold mEs at m3
    split at m3
    · rename_i e2 es2
      refine we_and (We.up (iE_c hb C m2 S hE h) ?_)
      rintro v H1 ⟨x, F1, S1, s1, r1, q1⟩
      obtain ⟨k, rfl, q1⟩ := asB_ok q1
      exact ⟨k, r1, ifB_mono q1 (fun q => We.up (iAnd_consc2cs hb C m4 S1 (hE.up s1) q) fun v H q => Post.up s1 q) fun q => ⟨.bl false, F1, S1, s1, rfl, q⟩⟩
    · cases m3
  · cases m
theorem sOr_29  : SOr b L N CL G cm (.nil) := by
  unfold SOr
  intro ct X all sc es pos hb C m F ρ σ H Q E S hE h
  exact h.elim
theorem sOr_30 {c} (iE_c : SE b L N CL G cm c) : SOr b L N CL G cm (.cons c .nil) := by
  unfold SOr
  intro ct X all sc es pos hb C m F ρ σ H Q E S hE h
  unfold mEs at m
  split at m
  · rename_i e es
    simp only [Bool.and_eq_true] at m
    obtain ⟨⟨m1, m2⟩, m3⟩ := m
    unfold mEs at m3
    split at m3
    · exact we_or1 (iE_c hb C m2 S hE h)
    · cases m3
  · cases m
theorem sOr_31 {c c2 cs} (iE_c : SE b L N CL G cm c) (iOr_consc2cs : SOr b L N CL G cm (.cons c2 cs)) : SOr b L N CL G cm (.cons c (.cons c2 cs)) := by
  unfold SOr
  intro ct X all sc es pos hb C m F ρ σ H Q E S hE h
  unfold mEs at m
  split at m
  · rename_i e es
    simp only [Bool.and_eq_true] at m
    obtain ⟨⟨m1, m2⟩, m3⟩ := m
    have m4 := m3
    unfold mEs at m3
    split at m3
    · rename_i e2 es2
      refine we_or (We.up (iE_c hb C m2 S hE h) ?_)
      rintro v H1 ⟨x, F1, S1, s1, r1, q1⟩
      obtain ⟨k, rfl, q1⟩ := asB_ok q1
      exact ⟨k, r1, ifB_mono q1 (fun q => ⟨.bl true, F1, S1, s1, rfl, q⟩) fun q => We.up (iOr_consc2cs hb C m4 S1 (hE.up s1) q) fun v H q => Post.up s1 q⟩
    · cases m3
  · cases m
theorem sO_32 {es} (iEs_es : SEs b L N CL G cm es) : SO b L N CL G cm (.lst es) := by
  unfold SO
  intro ct X all sc e hb C m F ρ σ H Q E S hE h
  unfold mO at m
  split at m
  · simp only [Bool.and_eq_true, decide_eq_true_eq] at m
    refine we_lst (Wa.up (iEs_es hb C m.1 S hE h) ?_)
    rintro vs H1 ⟨l, xs, F1, S1, s1, r1, q1⟩
    exact ⟨sizeOk (by omega), fun p hp => .new S1 s1 hp r1 q1⟩
  · cases m
theorem comp_ok {t it cs el own} (iIt_it : SIt b L N CL G cm it) (iCond_cs : SCond b L N CL G cm cs) (iE_el : SE b L N CL G cm el) {X : Cx} {all : Bool} {sc scope : Scope} {elt tg iter : Expr} {ifs : List Expr} {a : Int} {pos : Pos} (hb : b6 X = b) (C : Cok X N cm all sc ct.ex)
    (m : mO N G CL cm sc (.comp t it cs el own) (.ListComp elt [⟨tg, iter, ifs, a⟩] scope pos) = true) {F : Hp} {ρ : Env} {σ : L2.St} {H : Hp} {Q : List PV → Prop} {E : KE} (S : Stt X ct F ρ σ H) (hE : Eok X ct F ρ σ E) (h : denO L (.comp t it cs el own) ρ Q E) :
    ∃ wi, PI X tg iter wi ∧ a = 0 ∧ X.calm = true ∧ BlkOk X.N X.env.scope scope own ∧ noSet iter = true ∧ ∀ Q' : VK, (∀ v H', PostO X ct F H ρ σ Q v H' → Q' v H') → tLc wi (gB X scope tg) (condTT X scope ifs) (eB X scope elt) (own.map (·.2)) σ H Q' := by
  unfold mO at m
  simp only [Bool.and_eq_true, decide_eq_true_eq] at m
  obtain ⟨⟨⟨⟨⟨⟨⟨⟨m1, rfl⟩, m3⟩, m4⟩, m5⟩, m6⟩, m7⟩, m8⟩, m9⟩ := m
  obtain ⟨wi, hPI, hwi⟩ := iIt_it hb C m6 S hE h
  refine ⟨wi, hPI, rfl, C.cm m1, by rw [C.n, C.sc]; exact blkOk_by m3, m4, fun Q' hQ => ?_⟩
  refine hwi _ fun J H1 F1 xs S1 s1 q1 hw D hD => ?_
  obtain ⟨sml, q1⟩ := q1
  refine lc_it hw.w (fun i H' => ∃ F' acc vs, Stt X ct F' ρ σ H' ∧ Same F1 F' ∧ Fwd ct.pl F H F' H' ∧ Own X ct F' ρ σ H' D vs ∧ Reps ⟨X.K, ct.pl⟩ F' acc vs ∧ vs.length ≤ i ∧ denComp (fun x K => bindT t x (wipes ρ own) fun ρ2 => denConds L cs ρ2 (fun b => ifB b (denE L el ρ2 (fun y => K (some y)) fun _ => False) (K none))) (xs.drop i) acc Q)
    ⟨F1, [], [], S1.same (same_new hD), fun _ _ z => z, ⟨s1.gr, s1.gu.same (same_new hD)⟩, .new S1 hD, .nil, Nat.le_refl _, q1⟩ ?hG ?hs ?hd
  case hG =>
    rintro i H' hi ⟨F', acc, vs, S', s', _⟩
    exact fun a o e => S'.sub _ _ (s' _ _ e)
  case hd =>
    rintro H' ⟨F', acc, vs, S', s', e', o, r, l, q⟩
    rw [List.drop_length] at q
    exact hQ _ _ ⟨D, acc, vs, F', rfl, S', e', s1.gu.back no_mu hD, o, r, q⟩
  case hs =>
    rintro i v Ha Hb hi ⟨F', acc, vs, S', s', e', o, r, l, q⟩ ⟨x, ex, sab, yx⟩
    obtain ⟨F2, gr2, sub2, rx⟩ := yx F' s' S'.sub
    obtain ⟨S2, e2⟩ := S'.ext sab gr2 sub2
    have o2 := o.ext S' e2
    have ed : xs.drop i = x :: xs.drop (i + 1) := by
      obtain ⟨l1, l2⟩ := List.getElem?_eq_some_iff.mp ex
      rw [List.drop_eq_getElem_cons l1, l2]
    rw [ed] at q
    have Sw := S2.wipes own
    intro X' hX
    obtain ⟨C', hb'⟩ := C.blk (C.cx m1) hX
    have hK : X'.K = X.K := congrArg B6.K hb'
    have Sw' : Stt X' ct F2 (wipes ρ own) (wipe σ (own.map (·.2))) Hb := Sw.cast hK.symm
    refine Wg.imp ?_ (bT t C' m7 (own.map (·.2)) Sw' (by rw [hK]; exact rx) q)
    rintro σ2 H2 ⟨rfl, w, ρ2, S3, q3⟩
    refine ⟨(w m5).trans (wipe_wipe _ _), ?_⟩
    have hE' : Eok X' ct F2 ρ2 σ2 (fun _ => False) := fun _ _ _ _ _ _ _ z => z.elim
    -- the end of a turn
    have fin : ∀ F4 H4 acc2 vs2, Fwd ct.pl F2 H2 F4 H4 → Same F4 H4 → Own X ct F4 ρ σ H4 D vs2 → Reps ⟨X.K, ct.pl⟩ F4 acc2 vs2 → vs2.length ≤ i + 1 → denComp (fun x K => bindT t x (wipes ρ own) fun ρ2 => denConds L cs ρ2 (fun b => ifB b (denE L el ρ2 (fun y => K (some y)) fun _ => False) (K none))) (xs.drop (i + 1)) acc2 Q →
        ∃ F' acc vs, Stt X ct F' ρ σ H4 ∧ Same F1 F' ∧ Fwd ct.pl F H F' H4 ∧ Own X ct F' ρ σ H4 D vs ∧ Reps ⟨X.K, ct.pl⟩ F' acc vs ∧ vs.length ≤ i + 1 ∧ denComp (fun x K => bindT t x (wipes ρ own) fun ρ2 => denConds L cs ρ2 (fun b => ifB b (denE L el ρ2 (fun y => K (some y)) fun _ => False) (K none))) (xs.drop (i + 1)) acc Q := fun F4 H4 acc2 vs2 e4 sb o4 r4 l4 q4 =>
      ⟨F4, acc2, vs2, S2.called e4.gu e4.gr sb, Same.trans' (Same.trans' s' e2.s) e4.s, e'.trans (e2.trans e4), o4, r4, l4, q4⟩
    refine iCond_cs hb C (C.cx m1) m8 (S3.cast hK) q3 ?_
    rintro k H3 F3 S4 e3 q4
    have e3' : Fwd ct.pl F2 H2 F3 H3 := e3
    have o3 := o2.ext S2 e3'
    refine ifB_mono q4 (fun q5 => ?_) (fun q5 => fin F3 H3 acc vs e3' S4.sub o3 ((r.mono e2.s).mono e3.s) (by omega) q5)
    intro X2 hX2
    obtain ⟨C2, hb2⟩ := C.blk (C.cx m1) hX2
    have hK2 : X2.K = X.K := congrArg B6.K hb2
    have S5 : Stt X2 ct F3 ρ2 σ2 H3 := S4.cast hK2.symm
    have hE2 : Eok X2 ct F3 ρ2 σ2 (fun _ => False) := fun _ _ _ _ _ _ _ z => z.elim
    refine We.up (iE_el (hb2.trans hb) C2 m9 S5 hE2 q5) ?_
    rintro y H4 ⟨py, F4, S6, e4, ry, q6⟩
    have e34 : Fwd ct.pl F2 H2 F4 H4 := e3'.trans e4
    have o4 := o2.ext S2 e34
    have S7 : Stt X ct F4 ρ σ H4 := S2.called e34.gu e34.gr S6.sub
    refine ⟨vs, o4.at_, sizeOk' (by have : xs.length ≤ 100000 := sml; omega), ?_⟩
    obtain ⟨S8, o5⟩ := S7.updAt (ws := vs ++ [y]) o4
    refine ⟨F4, acc ++ [py], vs ++ [y], S8, Same.trans' (Same.trans' s' e2.s) e34.s, ?_, o5, ((r.mono e2.s).mono e34.s).append (.cons (by rw [hK2] at ry; exact ry) .nil), by simp; omega, q6⟩
    have eF : Fwd ct.pl F H F4 H4 := e'.trans (e2.trans e34)
    refine ⟨eF.gr, ?_⟩
    have hDH : H D = none := s1.gu.back no_mu hD
    refine ⟨fun a b z n => ?_, fun P s ep => (S8.p0 P s ep).2.2, nofun⟩
    have ne : a ≠ D := fun y => by subst y; rw [hDH] at z; cases z
    rw [upd_ne ne]
    exact eF.gu.keep a b z n
theorem sO_33 {t it cs el own} (iIt_it : SIt b L N CL G cm it) (iCond_cs : SCond b L N CL G cm cs) (iE_el : SE b L N CL G cm el) : SO b L N CL G cm (.comp t it cs el own) := by
  unfold SO
  intro ct X all sc e hb C m F ρ σ H Q E S hE h
  have m' := m
  unfold mO at m
  split at m
  · obtain ⟨wi, hPI, rfl, hc, bo, ns, hd⟩ := comp_ok hL hG iIt_it iCond_cs iE_el hb C m' S hE h
    exact we_of (pe_lc (g := gB X _ _) (tt := condTT X _ _) (te := eB X _ _) hc (by rw [C.n]; exact C.nd) hPI bo (fun _ _ _ _ _ => gB.pg) (fun _ _ _ _ _ => condPT) (fun _ _ _ _ _ => eB.pe) (fun x => set_id ns x)) (hd _ fun _ _ q => q)
  · cases m
theorem sO_34 {a} (iE_a : SE b L N CL G cm a) : SO b L N CL G cm (.ofL a) := by
  unfold SO
  intro ct X all sc e hb C m F ρ σ H Q E S hE h
  unfold mO at m
  split at m
  · rename_i x _ y pos
    simp only [Bool.and_eq_true, decide_eq_true_eq] at m
    obtain ⟨⟨⟨rfl, m2⟩, m3⟩, m4⟩ := m
    have hL2 : LOk (b6 X) L CL := hb ▸ hL
    obtain ⟨g1, g2, g3⟩ := C.gl m2
    refine we_callTy (T := "list") g1 hL2.it.2.2.2 (by decide +kernel) g3 g2 (star_cons m3) rfl (wa_cons (star_cons m3) (We.up (iE_a hb C m4 S hE h) ?_))
    rintro v H1 ⟨x, F1, S1, s1, r1, q1⟩
    obtain ⟨xs, rfl, q1⟩ := asL_ok q1
    unfold Rep at r1
    obtain ⟨p, vs, rfl, hp, rs⟩ := r1
    exact wa_nil ⟨_, call_list_of, p, vs, rfl, .inl (.of (S1.sub _ _ hp)), fun l hl => .new S1 s1 hl rs q1⟩
  · cases m
theorem sO_35 {a} (iE_a : SE b L N CL G cm a) : SO b L N CL G cm (.ofT a) := by
  unfold SO
  intro ct X all sc e hb C m F ρ σ H Q E S hE h
  unfold mO at m
  split at m
  · rename_i x _ y pos
    simp only [Bool.and_eq_true, decide_eq_true_eq] at m
    obtain ⟨⟨⟨rfl, m2⟩, m3⟩, m4⟩ := m
    have hL2 : LOk (b6 X) L CL := hb ▸ hL
    obtain ⟨g1, g2, g3⟩ := C.gl m2
    refine we_callTy (T := "list") g1 hL2.it.2.2.2 (by decide +kernel) g3 g2 (star_cons m3) rfl (wa_cons (star_cons m3) (We.up (iE_a hb C m4 S hE h) ?_))
    rintro v H1 ⟨x, F1, S1, s1, r1, q1⟩
    obtain ⟨xs, rfl, q1⟩ := asT_ok q1
    unfold Rep at r1
    obtain ⟨p, vs, rfl, hp, rs⟩ := r1
    exact wa_nil ⟨_, call_list_of, p, vs, rfl, .inr (.of (S1.sub _ _ hp)), fun l hl => .new S1 s1 hl rs q1⟩
  · cases m
theorem sO_36 {x y} (iE_x : SE b L N CL G cm x) (iE_y : SE b L N CL G cm y) : SO b L N CL G cm (.cat x y) := by
  unfold SO
  intro ct X all sc e hb C m F ρ σ H Q E S hE h
  unfold mO at m
  split at m
  · simp only [Bool.and_eq_true] at m
    refine we_bin (We.up (iE_x hb C m.1 S hE h) ?_)
    rintro v H1 ⟨x, F1, S1, s1, r1, q1⟩
    refine We.up (iE_y hb C m.2 S1 (hE.up s1) q1) ?_
    rintro w H2 ⟨y, F2, S2, s2, r2, q2⟩
    obtain ⟨xs, rfl, q3⟩ := asL_ok q2
    obtain ⟨ys, rfl, q4⟩ := asL_ok q3
    have r1 := r1.mono s2.s
    unfold Rep at r1 r2
    obtain ⟨p, vs, rfl, hp, rs⟩ := r1
    obtain ⟨p', vs', rfl, hp', rs'⟩ := r2
    refine wo_of op_cat ⟨p, p', vs, vs', rfl, rfl, S2.sub _ _ hp, S2.sub _ _ hp', ?_, fun l hl => .new S2 (Fwd.trans s1 s2) hl (rs.append rs') q4.2⟩
    rw [← rs.len, ← rs'.len]
    exact sizeOk q4.1
  · cases m
theorem sO_37 {x y} (iE_x : SE b L N CL G cm x) (iE_y : SE b L N CL G cm y) : SO b L N CL G cm (.rep x y) := by
  unfold SO
  intro ct X all sc e hb C m F ρ σ H Q E S hE h
  unfold mO at m
  split at m
  · simp only [Bool.and_eq_true] at m
    refine we_bin (We.up (iE_x hb C m.1 S hE h) ?_)
    rintro v H1 ⟨x, F1, S1, s1, r1, q1⟩
    refine We.up (iE_y hb C m.2 S1 (hE.up s1) q1) ?_
    rintro w H2 ⟨y, F2, S2, s2, r2, q2⟩
    obtain ⟨xs, rfl, q2⟩ := asL_ok q2
    obtain ⟨n, rfl, q2⟩ := asI_ok q2
    cases r2
    have r1 := r1.mono s2.s
    unfold Rep at r1
    obtain ⟨p, vs, rfl, hp, rs⟩ := r1
    obtain ⟨n1, n2, n3, q2⟩ := q2
    refine wo_of op_rep ⟨p, n, vs, rfl, rfl, S2.sub _ _ hp, by omega, by omega, ?_, fun l hl => .new S2 (Fwd.trans s1 s2) hl (rs.rep n.toNat) q2⟩
    rw [← rs.len]
    exact sizeOk n3
  · cases m
theorem sO_38 {x lo hi} (iE_x : SE b L N CL G cm x) (iE_lo : SE b L N CL G cm lo) (iE_hi : SE b L N CL G cm hi) : SO b L N CL G cm (.sl x lo hi) := by
  unfold SO
  intro ct X all sc e hb C m F ρ σ H Q E S hE h
  unfold mO at m
  split at m
  · rename_i y l hh pos pos2
    simp only [Bool.and_eq_true] at m
    obtain ⟨⟨m1, m2⟩, m3⟩ := m
    refine we_of (pe_slice sl_list We.pe po_of po_of) (We.up (iE_x hb C m1 S hE h) ?_)
    rintro v H1 ⟨x, F1, S1, s1, r1, q1⟩
    obtain ⟨xs, rfl, q1⟩ := asL_ok q1
    refine tOf_ok (K := fun l => ifB (isNon hi) (Q (cutP xs l none)) (denE L hi ρ (fun x => asI x fun n => Q (cutP xs l (some n))) E)) m2 S1 q1 (fun z e mm => iE_lo hb C mm S1 (hE.up s1) z) fun l H2 F2 S2 s2 q2 => ?_
    refine tOf_ok (K := fun h => Q (cutP xs l h)) m3 S2 q2 (fun z e mm => iE_hi hb C mm S2 ((hE.up s1).up s2) z) fun h H3 F3 S3 s3 q3 => ?_
    have r1 := (r1.mono s2.s).mono s3.s
    unfold Rep at r1
    obtain ⟨p, vs, rfl, hp, rs⟩ := r1
    exact ⟨p, vs, rfl, .of (S3.sub _ _ hp), fun l hl => .new S3 (s1.trans (s2.trans s3)) hl (cut_rep rs _ _) q3⟩
  · cases m
theorem sIt_39 {i}  : SIt b L N CL G cm (.seqV i) := by
  unfold SIt
  intro ct X all sc tg e hb C m F ρ σ H Q E S hE h
  unfold mIt at m
  split at m
  · obtain ⟨x, e1, q⟩ := getV_ok h
    obtain ⟨v, e2, r⟩ := S.get e1
    obtain ⟨xs, e3, q⟩ := asS_ok q
    rcases e3 with rfl | rfl
    · unfold Rep at r
      obtain ⟨p, vs, rfl, hp, rs⟩ := r
      exact ⟨_, pi_list We.pe, fun R hR => e_var C m e2 ⟨p, rfl, ⟨vs, .of (S.sub _ _ hp)⟩, hR _ _ F xs S ((.refl S)) q (.list hp rs)⟩⟩
    · unfold Rep at r
      obtain ⟨p, vs, rfl, hp, rs⟩ := r
      exact ⟨_, pi_tup We.pe, fun R hR => e_var C m e2 ⟨p, rfl, ⟨vs, .of (S.sub _ _ hp)⟩, hR _ _ F xs S ((.refl S)) q (.tup hp rs)⟩⟩
  · cases m
theorem sIt_40 {a} (iE_a : SE b L N CL G cm a) : SIt b L N CL G cm (.seqL a) := by
  unfold SIt
  intro ct X all sc tg e hb C m F ρ σ H Q E S hE h
  unfold mIt at m
  refine ⟨_, pi_list We.pe, fun R hR => We.up (iE_a hb C m S hE h) ?_⟩
  rintro v H1 ⟨x, F1, S1, s1, r1, q1⟩
  obtain ⟨xs, rfl, q1⟩ := asL_ok q1
  unfold Rep at r1
  obtain ⟨p, vs, rfl, hp, rs⟩ := r1
  exact ⟨p, rfl, ⟨vs, .of (S1.sub _ _ hp)⟩, hR _ _ F1 xs S1 s1 q1 (.list hp rs)⟩
theorem sIt_41 {a} (iE_a : SE b L N CL G cm a) : SIt b L N CL G cm (.seqT a) := by
  unfold SIt
  intro ct X all sc tg e hb C m F ρ σ H Q E S hE h
  unfold mIt at m
  refine ⟨_, pi_tup We.pe, fun R hR => We.up (iE_a hb C m S hE h) ?_⟩
  rintro v H1 ⟨x, F1, S1, s1, r1, q1⟩
  obtain ⟨xs, rfl, q1⟩ := asT_ok q1
  unfold Rep at r1
  obtain ⟨p, vs, rfl, hp, rs⟩ := r1
  exact ⟨p, rfl, ⟨vs, .of (S1.sub _ _ hp)⟩, hR _ _ F1 xs S1 s1 q1 (.tup hp rs)⟩
theorem sIt_42 {a} (iE_a : SE b L N CL G cm a) : SIt b L N CL G cm (.range a) := by
  unfold SIt
  intro ct X all sc tg e hb C m F ρ σ H Q E S hE h
  unfold mIt at m
  split at m
  · rename_i x _ y pos
    simp only [Bool.and_eq_true, decide_eq_true_eq] at m
    obtain ⟨⟨⟨rfl, m2⟩, m3⟩, m4⟩ := m
    have hL2 : LOk (b6 X) L CL := hb ▸ hL
    obtain ⟨g1, g2, g3⟩ := C.gl m2
    refine ⟨_, pi_range1 (ta := Wa X [y]) g1 hL2.it.1 Wa.pa (star_cons m3), fun R hR => wa_cons (star_cons m3) (We.up (iE_a hb C m4 S hE h) ?_)⟩
    rintro v H1 ⟨x, F1, S1, s1, r1, q1⟩
    obtain ⟨n, rfl, q1⟩ := asI_ok q1
    cases r1
    exact wa_nil ⟨n, rfl, q1.1.1, q1.1.2, hR _ _ F1 _ S1 s1 q1.2 (.range 0 n.toNat)⟩
  · cases m
theorem sIt_43 {a c} (iE_a : SE b L N CL G cm a) (iE_c : SE b L N CL G cm c) : SIt b L N CL G cm (.range2 a c) := by
  unfold SIt
  intro ct X all sc tg e hb C m F ρ σ H Q E S hE h
  unfold mIt at m
  split at m
  · rename_i x _ y z pos
    simp only [Bool.and_eq_true, decide_eq_true_eq] at m
    obtain ⟨⟨⟨⟨⟨rfl, m2⟩, m3⟩, m4⟩, m5⟩, m6⟩ := m
    have hL2 : LOk (b6 X) L CL := hb ▸ hL
    obtain ⟨g1, g2, g3⟩ := C.gl m2
    refine ⟨_, pi_range2 (ta := Wa X [y, z]) g1 hL2.it.1 Wa.pa (by rw [star_cons m3, star_cons m4]; rfl) (by rw [star_cons m4]; rfl), fun R hR => wa_cons (star_cons m3) (We.up (iE_a hb C m5 S hE h) ?_)⟩
    rintro v H1 ⟨x, F1, S1, s1, r1, q1⟩
    refine wa_cons (star_cons m4) (We.up (iE_c hb C m6 S1 (hE.up s1) q1) ?_)
    rintro w H2 ⟨y, F2, S2, s2, r2, q2⟩
    obtain ⟨n, rfl, q3⟩ := asI_ok q2
    obtain ⟨k, rfl, q4⟩ := asI_ok q3
    cases r1
    cases r2
    exact wa_nil ⟨n, k, rfl, ⟨q4.1.1, q4.1.2, q4.2.1.1, q4.2.1.2⟩, hR _ _ F2 _ S2 (Fwd.trans s1 s2) q4.2.2 (.range n (k - n).toNat)⟩
  · cases m
theorem sIt_44 {a c} (iE_a : SE b L N CL G cm a) (iE_c : SE b L N CL G cm c) : SIt b L N CL G cm (.zip a c) := by
  unfold SIt
  intro ct X all sc tg e hb C m F ρ σ H Q E S hE h
  unfold mIt at m
  split at m
  · rename_i x _ y z pos
    simp only [Bool.and_eq_true, decide_eq_true_eq] at m
    obtain ⟨⟨⟨⟨⟨⟨rfl, mt⟩, m2⟩, m3⟩, m4⟩, m5⟩, m6⟩ := m
    have hL2 : LOk (b6 X) L CL := hb ▸ hL
    obtain ⟨g1, g2, g3⟩ := C.gl m2
    cases tg with
    | Tuple elts kk tpos =>
      refine ⟨_, pi_zip (ta := Wa X [y, z]) g1 hL2.it.2.1 Wa.pa (star_cons m3) (star_pl fun e he => by cases he with | head => exact m4 | tail _ he => cases he), fun R hR => wa_cons (star_cons m3) (We.up (iE_a hb C m5 S hE h) ?_)⟩
      rintro v H1 ⟨x, F1, S1, s1, r1, q1⟩
      refine wa_cons (star_cons m4) (We.up (iE_c hb C m6 S1 (hE.up s1) q1) ?_)
      rintro w H2 ⟨y, F2, S2, s2, r2, q2⟩
      obtain ⟨xs, rfl, q3⟩ := asL_ok q2
      obtain ⟨ys, rfl, q4⟩ := asL_ok q3
      have r1 := r1.mono s2.s
      unfold Rep at r1 r2
      obtain ⟨p, vs, rfl, hp, rs⟩ := r1
      obtain ⟨p', vs', rfl, hp', rs'⟩ := r2
      exact wa_nil ⟨p, p', vs, vs', rfl, .of (S2.sub _ _ hp), .of (S2.sub _ _ hp'), hR _ _ F2 _ S2 (Fwd.trans s1 s2) q4 (.zip hp rs hp' rs')⟩
    | _ => cases mt
  · cases m
theorem sIt_45 {a} (iE_a : SE b L N CL G cm a) : SIt b L N CL G cm (.enum a) := by
  unfold SIt
  intro ct X all sc tg e hb C m F ρ σ H Q E S hE h
  unfold mIt at m
  split at m
  · rename_i x _ y pos
    simp only [Bool.and_eq_true, decide_eq_true_eq] at m
    obtain ⟨⟨⟨⟨rfl, mt⟩, m2⟩, m3⟩, m4⟩ := m
    have hL2 : LOk (b6 X) L CL := hb ▸ hL
    obtain ⟨g1, g2, g3⟩ := C.gl m2
    cases tg with
    | Tuple elts kk tpos =>
      refine ⟨_, pi_enum (ta := Wa X [y]) g1 hL2.it.2.2.1 Wa.pa (star_cons m3), fun R hR => wa_cons (star_cons m3) (We.up (iE_a hb C m4 S hE h) ?_)⟩
      rintro v H1 ⟨x, F1, S1, s1, r1, q1⟩
      obtain ⟨xs, rfl, q1⟩ := asL_ok q1
      unfold Rep at r1
      obtain ⟨p, vs, rfl, hp, rs⟩ := r1
      exact wa_nil ⟨p, vs, rfl, .of (S1.sub _ _ hp), hR _ _ F1 _ S1 s1 q1 (.enum hp rs)⟩
    | _ => cases mt
  · cases m
theorem sAndT_46  : SAndT b L N CL G cm (.nil) := by
  unfold SAndT
  intro ct X all sc es hb C m F ρ σ H P E S hE h
  exact h.elim
theorem sAndT_47 {c} (iT_c : ST b L N CL G cm c) : SAndT b L N CL G cm (.cons c .nil) := by
  unfold SAndT
  intro ct X all sc es hb C m F ρ σ H P E S hE h
  unfold mEs at m
  split at m
  · simp only [Bool.and_eq_true] at m
    obtain ⟨⟨m1, m2⟩, m3⟩ := m
    unfold mEs at m3
    split at m3
    · exact fun pos => ww_and1 (iT_c hb C m2 S hE h)
    · cases m3
  · cases m
theorem sAndT_48 {c c2 cs} (iT_c : ST b L N CL G cm c) (iAndT_consc2cs : SAndT b L N CL G cm (.cons c2 cs)) : SAndT b L N CL G cm (.cons c (.cons c2 cs)) := by
  unfold SAndT
  intro ct X all sc es hb C m F ρ σ H P E S hE h
  unfold mEs at m
  split at m
  · simp only [Bool.and_eq_true] at m
    obtain ⟨⟨m1, m2⟩, m3⟩ := m
    have m4 := m3
    unfold mEs at m3
    split at m3
    · refine fun pos => ww_and (Wt.imp ?_ (iT_c hb C m2 S hE h))
      rintro k H1 ⟨F1, S1, s1, q1⟩
      exact ifB_mono q1 (fun q wh pins s I => thn (iAndT_consc2cs hb C m4 S1 (hE.up s1) q pos wh pins s I) fun _ _ ⟨H', J, F', S', s', q'⟩ => ⟨H', J, F', S', s1.trans s', q'⟩) fun q => ⟨F1, S1, s1, q⟩
    · cases m3
  · cases m
theorem sOrT_49  : SOrT b L N CL G cm (.nil) := by
  unfold SOrT
  intro ct X all sc es hb C m F ρ σ H P E S hE h
  exact h.elim
theorem sOrT_50 {c} (iT_c : ST b L N CL G cm c) : SOrT b L N CL G cm (.cons c .nil) := by
  unfold SOrT
  intro ct X all sc es hb C m F ρ σ H P E S hE h
  unfold mEs at m
  split at m
  · simp only [Bool.and_eq_true] at m
    obtain ⟨⟨m1, m2⟩, m3⟩ := m
    unfold mEs at m3
    split at m3
    · exact fun pos => ww_or1 (iT_c hb C m2 S hE h)
    · cases m3
  · cases m
theorem sOrT_51 {c c2 cs} (iT_c : ST b L N CL G cm c) (iOrT_consc2cs : SOrT b L N CL G cm (.cons c2 cs)) : SOrT b L N CL G cm (.cons c (.cons c2 cs)) := by
  unfold SOrT
  intro ct X all sc es hb C m F ρ σ H P E S hE h
  unfold mEs at m
  split at m
  · simp only [Bool.and_eq_true] at m
    obtain ⟨⟨m1, m2⟩, m3⟩ := m
    have m4 := m3
    unfold mEs at m3
    split at m3
    · refine fun pos => ww_or (Wt.imp ?_ (iT_c hb C m2 S hE h))
      rintro k H1 ⟨F1, S1, s1, q1⟩
      exact ifB_mono q1 (fun q => ⟨F1, S1, s1, q⟩) fun q wh pins s I => thn (iOrT_consc2cs hb C m4 S1 (hE.up s1) q pos wh pins s I) fun _ _ ⟨H', J, F', S', s', q'⟩ => ⟨H', J, F', S', s1.trans s', q'⟩
    · cases m3
  · cases m
theorem sT_52 {x} (iT_x : ST b L N CL G cm x) : ST b L N CL G cm (.inot x) := by
  unfold ST
  intro ct X all sc e hb C m F ρ σ H P E S hE h
  unfold mE at m
  split at m
  · exact wt_not (iT_x (P := fun b => P (!b)) hb C m S hE h)
  · cases m
theorem sT_53 {es} (iAndT_es : SAndT b L N CL G cm es) : ST b L N CL G cm (.and es) := by
  unfold ST
  intro ct X all sc e hb C m F ρ σ H P E S hE h
  unfold mE at m
  split at m
  · exact wt_ww (iAndT_es hb C m S hE h _)
  · cases m
theorem sT_54 {es} (iOrT_es : SOrT b L N CL G cm es) : ST b L N CL G cm (.or es) := by
  unfold ST
  intro ct X all sc e hb C m F ρ σ H P E S hE h
  unfold mE at m
  split at m
  · exact wt_ww (iOrT_es hb C m S hE h _)
  · cases m
theorem sT_55 {op x y} (iE_x : SE b L N CL G cm x) (iE_y : SE b L N CL G cm y) : ST b L N CL G cm (.cmp op x y) := by
  unfold ST
  intro ct X all sc e hb C m F ρ σ H P E S hE h
  unfold mE at m
  split at m
  · simp only [Bool.and_eq_true, decide_eq_true_eq] at m
    obtain ⟨⟨⟨rfl, m0⟩, m1⟩, m2⟩ := m
    refine wt_cmp (mark_no m0) (We.up (iE_x hb C m1 S hE h) ?_)
    rintro v H1 ⟨x, F1, S1, s1, r1, q1⟩
    refine We.up (iE_y hb C m2 S1 (hE.up s1) q1) ?_
    rintro w H2 ⟨y, F2, S2, s2, r2, q2⟩
    refine Wo.imp ?_ (hL.opP (.cmp op) X hb ct F2 ρ σ H2 [x, y] [v, w] _ E S2 (.cons (r1.mono s2.s) (.cons r2 .nil)) q2 ((hE.up s1).up s2))
    rintro u H3 ⟨u', F3, S3, s3, r3, q3⟩
    obtain ⟨k, rfl, q3⟩ := asB_ok q3
    exact ⟨k, r3, F3, S3, s1.trans (s2.trans s3), q3⟩
  · cases m
theorem sT_56 {o1 o2 x y z} (iE_x : SE b L N CL G cm x) (iE_y : SE b L N CL G cm y) (iE_z : SE b L N CL G cm z) : ST b L N CL G cm (.cmp2 o1 o2 x y z) := by
  unfold ST
  intro ct X all sc e hb C m F ρ σ H P E S hE h
  unfold mE at m
  split at m
  · simp only [Bool.and_eq_true, decide_eq_true_eq] at m
    obtain ⟨⟨⟨⟨⟨⟨rfl, rfl⟩, m3⟩, m4⟩, m5⟩, m6⟩, m7⟩ := m
    refine wt_chain (marks2 m3 m4) (We.up (iE_x hb C m5 S hE h) ?_)
    rintro v H1 ⟨x, F1, S1, s1, r1, q1⟩
    refine We.up (iE_y hb C m6 S1 (hE.up s1) q1) ?_
    rintro w H2 ⟨y, F2, S2, s2, r2, q2⟩
    refine Wo.imp ?_ (hL.opP (.cmp o1) X hb ct F2 ρ σ H2 [x, y] [v, w] _ E S2 (.cons (r1.mono s2.s) (.cons r2 .nil)) q2 ((hE.up s1).up s2))
    rintro u H3 ⟨u', F3, S3, s3, r3, q3⟩
    obtain ⟨k, rfl, q3⟩ := asB_ok q3
    refine ⟨k, r3, ifB_mono q3 (fun q => ?_) (fun q => ⟨F3, S3, s1.trans (s2.trans s3), q⟩)⟩
    refine We.up (iE_z hb C m7 S3 (((hE.up s1).up s2).up s3) q) ?_
    rintro w2 H4 ⟨z, F4, S4, s4, r4, q4⟩
    refine Wo.imp ?_ (hL.opP (.cmp o2) X hb ct F4 ρ σ H4 [y, z] [w, w2] _ E S4 (.cons ((r2.mono s3.s).mono s4.s) (.cons r4 .nil)) q4 ((((hE.up s1).up s2).up s3).up s4))
    rintro u H5 ⟨u', F5, S5, s5, r5, q5⟩
    obtain ⟨k, rfl, q5⟩ := asB_ok q5
    exact ⟨k, r5, F5, S5, s1.trans (s2.trans (s3.trans (s4.trans s5))), q5⟩
  · cases m
theorem sT_57 {c x y} (iT_c : ST b L N CL G cm c) (iT_x : ST b L N CL G cm x) (iT_y : ST b L N CL G cm y) : ST b L N CL G cm (.ite c x y) := by
  unfold ST
  intro ct X all sc e hb C m F ρ σ H P E S hE h
  unfold mE at m
  split at m
  · simp only [Bool.and_eq_true] at m
    obtain ⟨⟨m1, m2⟩, m3⟩ := m
    refine wt_ite (Wt.imp ?_ (iT_c hb C m1 S hE h))
    rintro k H1 ⟨F1, S1, s1, q1⟩
    exact ifB_mono q1 (fun q => Wt.imp (fun k H' ⟨F', S', s', q'⟩ => ⟨F', S', s1.trans s', q'⟩) (iT_x hb C m2 S1 (hE.up s1) q)) (fun q => Wt.imp (fun k H' ⟨F', S', s', q'⟩ => ⟨F', S', s1.trans s', q'⟩) (iT_y hb C m3 S1 (hE.up s1) q))
  · cases m
theorem condW_58  : SCond b L N CL G cm (.nil) := by
  unfold SCond
  intro ct X all sc scope ifs hb C hx m F ρ σ H P R S h k
  unfold mEs at m
  split at m
  · exact k true H F S (.refl S) h
  · cases m
theorem condW_59 {c} (iT_c : ST b L N CL G cm c) : SCond b L N CL G cm (.cons c .nil) := by
  unfold SCond
  intro ct X all sc scope ifs hb C hx m F ρ σ H P R S h k
  unfold mEs at m
  split at m
  · simp only [Bool.and_eq_true] at m
    obtain ⟨⟨m1, m2⟩, m3⟩ := m
    unfold mEs at m3
    split at m3
    · intro X2 hX2
      obtain ⟨C2, hb2⟩ := C.blk hx hX2
      have hK : X2.K = X.K := congrArg B6.K hb2
      refine Wt.imp ?_ (iT_c (E := fun _ => False) (hb2.trans hb) C2 m2 (S.cast hK.symm) (fun _ _ _ _ _ _ _ z => z.elim) h)
      rintro kk H1 ⟨F1, S1, s1, q1⟩
      exact k kk H1 F1 (S1.cast hK) s1 q1
    · cases m3
  · cases m
theorem condW_60 {c c2 cs}  : SCond b L N CL G cm (.cons c (.cons c2 cs)) := by
  unfold SCond
  intro ct X all sc scope ifs hb C hx m F ρ σ H P R S h k
  exact h.elim
end
theorem st_gen {b : B6} {L : Lang} {N : List Str} {CL : List Cl} {G : List GK} {cm : Bool} {c : CE} (hp : ∀ sc e, mE N G CL cm sc c e = true → plainT e = true) (h : SE b L N CL G cm c) : ST b L N CL G cm c := by
  unfold ST
  intro ct X all sc e hb C m F ρ σ H P E S hE hd
  exact wtGen (hp sc e m) (h hb C m S hE hd)
theorem mO_plain {N : List Str} {G : List GK} {CL : List Cl} {cm : Bool} {sc : Scope} : ∀ {o : CO} {e : Expr}, mO N G CL cm sc o e = true → plainT e = true
  | .snapO o, e, m => by unfold mO at m; exact mO_plain m
  | .lst _, e, m => by unfold mO at m; split at m <;> first | rfl | cases m
  | .comp _ _ _ _ _, e, m => by unfold mO at m; split at m <;> first | rfl | cases m
  | .ofL _, e, m => by unfold mO at m; split at m <;> first | rfl | cases m
  | .ofT _, e, m => by unfold mO at m; split at m <;> first | rfl | cases m
  | .cat _ _, e, m => by unfold mO at m; split at m <;> first | rfl | cases m
  | .rep _ _, e, m => by unfold mO at m; split at m <;> first | rfl | cases m
  | .sl _ _ _, e, m => by unfold mO at m; split at m <;> first | rfl | cases m
theorem isX_imm {L : Lang} {i : Nat} {c : Cl} {ρ : Env} {Q : PV → Prop} {E : KE} (h : denE L (.isX i c) ρ Q E) : denE L (.isX i c) ρ (fun x => immP x = true ∧ Q x) E := by
  unfold denE getX at h ⊢
  split at h
  · rename_i e ee
    obtain ⟨a, h⟩ := ifB_f h
    obtain ⟨a2, h⟩ := ifB_f h
    rw [a, a2]
    exact ⟨rfl, h⟩
  · exact h.elim
section
variable {b : B6} {L : Lang} {N : List Str} {CL : List Cl} {G : List GK} {cm : Bool} (hL : LOk b L CL) (hG : G = L.G.map (·.1))
include hL hG
theorem allE (c : CE) : SE b L N CL G cm c ∧ ST b L N CL G cm c ∧ SN b L N CL G cm c :=
  CE.rec (motive_1 := fun c => SE b L N CL G cm c ∧ ST b L N CL G cm c ∧ SN b L N CL G cm c) (motive_2 := fun cs => SEs b L N CL G cm cs ∧ SAnd b L N CL G cm cs ∧ SOr b L N CL G cm cs ∧ SAndT b L N CL G cm cs ∧ SOrT b L N CL G cm cs ∧ SCond b L N CL G cm cs ∧ SNs b L N CL G cm cs) (motive_3 := fun o => SO b L N CL G cm o) (motive_4 := fun it => SIt b L N CL G cm it) (motive_5 := fun _ => True) (motive_6 := fun _ => True)
    (fun i => ⟨(sE_0 hL hG), (st_gen (fun sc e m => by unfold mE at m; split at m <;> first | rfl | cases m) (sE_0 hL hG)), sN_no hL hG rfl⟩)
    (fun n => ⟨(sE_1 hL hG), (st_gen (fun sc e m => by unfold mE at m; split at m <;> first | rfl | cases m) (sE_1 hL hG)), sN_imm hL hG (fun h => ⟨rfl, h⟩) (sE_1 hL hG)⟩)
    (fun n => ⟨(sE_2 hL hG), (st_gen (fun sc e m => by unfold mE at m; split at m <;> first | rfl | cases m) (sE_2 hL hG)), sN_imm hL hG (fun h => ⟨rfl, h⟩) (sE_2 hL hG)⟩)
    ⟨(sE_3 hL hG), (st_gen (fun sc e m => by unfold mE at m; split at m <;> first | rfl | cases m) (sE_3 hL hG)), sN_imm hL hG (fun h => ⟨rfl, h⟩) (sE_3 hL hG)⟩
    (fun n => ⟨(sE_4 hL hG), (st_gen (fun sc e m => by unfold mE at m; split at m <;> first | rfl | cases m) (sE_4 hL hG)), sN_imm hL hG (fun h => ⟨rfl, h⟩) (sE_4 hL hG)⟩)
    (fun t => ⟨(sE_5 hL hG), (st_gen (fun sc e m => by unfold mE at m; split at m <;> first | rfl | cases m) (sE_5 hL hG)), sN_no hL hG rfl⟩)
    (fun c => ⟨(sE_6 hL hG), (st_gen (fun sc e m => by unfold mE at m; split at m <;> first | rfl | cases m) (sE_6 hL hG)), sN_no hL hG rfl⟩)
    (fun es i_es => ⟨(sE_7 hL hG i_es.1), (st_gen (fun sc e m => by unfold mE at m; split at m <;> first | rfl | cases m) (sE_7 hL hG i_es.1)), sN_tup hL hG i_es.2.2.2.2.2.2⟩)
    (fun o i_o => ⟨(sE_8 hL hG i_o), (st_gen (fun sc e m => by unfold mE at m; exact mO_plain m) (sE_8 hL hG i_o)), sN_no hL hG rfl⟩)
    (fun op x y i_x i_y => ⟨(sE_9 hL hG i_x.1 i_y.1), (st_gen (fun sc e m => by unfold mE at m; split at m <;> first | rfl | cases m) (sE_9 hL hG i_x.1 i_y.1)), sN_9 hL hG i_x.1 i_y.1⟩)
    (fun x i_x => ⟨(sE_10 hL hG i_x.1), (st_gen (fun sc e m => by unfold mE at m; split at m <;> first | rfl | cases m) (sE_10 hL hG i_x.1)), sN_10 hL hG i_x.1⟩)
    (fun x i_x => ⟨(sE_11 hL hG i_x.1), (sT_52 hL hG i_x.2.1), sN_no hL hG rfl⟩)
    (fun op x y i_x i_y => ⟨(sE_12 hL hG i_x.1 i_y.1), (sT_55 hL hG i_x.1 i_y.1), sN_12 hL hG i_x.1 i_y.1⟩)
    (fun o1 o2 x y z i_x i_y i_z => ⟨(sE_13 hL hG i_x.1 i_y.1 i_z.1), (sT_56 hL hG i_x.1 i_y.1 i_z.1), sN_no hL hG rfl⟩)
    (fun es i_es => ⟨(sE_14 hL hG i_es.2.1), (sT_53 hL hG i_es.2.2.2.1), sN_no hL hG rfl⟩)
    (fun es i_es => ⟨(sE_15 hL hG i_es.2.2.1), (sT_54 hL hG i_es.2.2.2.2.1), sN_no hL hG rfl⟩)
    (fun c x y i_c i_x i_y => ⟨(sE_16 hL hG i_c.2.1 i_x.1 i_y.1), (sT_57 hL hG i_c.2.1 i_x.2.1 i_y.2.1), sN_no hL hG rfl⟩)
    (fun i es i_es => ⟨(sE_17 hL hG i_es.1), (st_gen (fun sc e m => by unfold mE at m; split at m <;> first | rfl | cases m) (sE_17 hL hG i_es.1)), sN_17 hL hG i_es.1⟩)
    (fun i a es i_a i_es => ⟨(sE_18 hL hG i_a.1 i_es.1), (st_gen (fun sc e m => by unfold mE at m; split at m <;> first | rfl | cases m) (sE_18 hL hG i_a.1 i_es.1)), sN_18 hL hG i_a.1 i_es.1⟩)
    (fun t es i_es => ⟨(sE_19 hL hG i_es.1), (st_gen (fun sc e m => by unfold mE at m; split at m <;> first | rfl | cases m) (sE_19 hL hG i_es.1)), sN_19 hL hG i_es.1⟩)
    (fun c j a i_a => ⟨(sE_20 hL hG i_a.1), (st_gen (fun sc e m => by unfold mE at m; split at m <;> first | rfl | cases m) (sE_20 hL hG i_a.1)), sN_no hL hG rfl⟩)
    (fun x y i_x i_y => ⟨(sE_21 hL hG i_x.1 i_y.1), (st_gen (fun sc e m => by unfold mE at m; split at m <;> first | rfl | cases m) (sE_21 hL hG i_x.1 i_y.1)), sN_no hL hG rfl⟩)
    (fun i y i_y => ⟨(sE_22 hL hG i_y.1), (st_gen (fun sc e m => by unfold mE at m; split at m <;> first | rfl | cases m) (sE_22 hL hG i_y.1)), sN_no hL hG rfl⟩)
    (fun i => ⟨(sE_23 hL hG), (st_gen (fun sc e m => by unfold mE at m; split at m <;> first | rfl | cases m) (sE_23 hL hG)), sN_no hL hG rfl⟩)
    (fun x i_x => ⟨(sE_snap hL hG i_x.1), (sT_snap hL hG i_x.2.1), sN_snap hL hG i_x.1⟩)
    (fun x i_x => ⟨(sE_snapF hL hG i_x.2.2), (sT_snapF hL hG i_x.2.1), sN_snapF hL hG i_x.2.2⟩)
    (fun i c => ⟨(sE_isX hL hG), (st_gen (fun sc e m => by unfold mE at m; split at m <;> first | rfl | cases m) (sE_isX hL hG)), sN_imm hL hG (isX_imm) (sE_isX hL hG)⟩)
    ⟨(sEs_24 hL hG), (sAnd_26 hL hG), (sOr_29 hL hG), (sAndT_46 hL hG), (sOrT_49 hL hG), (condW_58 hL hG), (sNs_nil hL hG)⟩
    (fun c cs i_c i_cs => ⟨(sEs_25 hL hG i_c.1 i_cs.1), (match cs, i_cs with | .nil, _ => sAnd_27 hL hG i_c.1 | .cons c2 cs, i_cs => sAnd_28 hL hG i_c.1 i_cs.2.1), (match cs, i_cs with | .nil, _ => sOr_30 hL hG i_c.1 | .cons c2 cs, i_cs => sOr_31 hL hG i_c.1 i_cs.2.2.1), (match cs, i_cs with | .nil, _ => sAndT_47 hL hG i_c.2.1 | .cons c2 cs, i_cs => sAndT_48 hL hG i_c.2.1 i_cs.2.2.2.1), (match cs, i_cs with | .nil, _ => sOrT_50 hL hG i_c.2.1 | .cons c2 cs, i_cs => sOrT_51 hL hG i_c.2.1 i_cs.2.2.2.2.1), (match cs, i_cs with | .nil, _ => condW_59 hL hG i_c.2.1 | .cons c2 cs, i_cs => condW_60 hL hG), (sNs_cons hL hG i_c.2.2 i_cs.2.2.2.2.2.2)⟩)
    (fun es i_es => (sO_32 hL hG i_es.1))
    (fun t it cs el own i_t i_it i_cs i_el => (sO_33 hL hG i_it i_cs.2.2.2.2.2.1 i_el.1))
    (fun a i_a => (sO_34 hL hG i_a.1))
    (fun a i_a => (sO_35 hL hG i_a.1))
    (fun x y i_x i_y => (sO_36 hL hG i_x.1 i_y.1))
    (fun x y i_x i_y => (sO_37 hL hG i_x.1 i_y.1))
    (fun x lo hi i_x i_lo i_hi => (sO_38 hL hG i_x.1 i_lo.1 i_hi.1))
    (fun o i_o => (sO_snap hL hG i_o))
    (fun i => (sIt_39 hL hG))
    (fun a i_a => (sIt_40 hL hG i_a.1))
    (fun a i_a => (sIt_41 hL hG i_a.1))
    (fun a i_a => (sIt_42 hL hG i_a.1))
    (fun a c i_a i_c => (sIt_43 hL hG i_a.1 i_c.1))
    (fun a c i_a i_c => (sIt_44 hL hG i_a.1 i_c.1))
    (fun a i_a => (sIt_45 hL hG i_a.1))
    (fun _ => trivial)
    (fun _ _ => trivial)
    trivial
    (fun _ _ _ _ => trivial) c
theorem allC (c : CEs) : SEs b L N CL G cm c ∧ SAnd b L N CL G cm c ∧ SOr b L N CL G cm c ∧ SAndT b L N CL G cm c ∧ SOrT b L N CL G cm c ∧ SCond b L N CL G cm c ∧ SNs b L N CL G cm c :=
  CEs.rec (motive_1 := fun c => SE b L N CL G cm c ∧ ST b L N CL G cm c ∧ SN b L N CL G cm c) (motive_2 := fun cs => SEs b L N CL G cm cs ∧ SAnd b L N CL G cm cs ∧ SOr b L N CL G cm cs ∧ SAndT b L N CL G cm cs ∧ SOrT b L N CL G cm cs ∧ SCond b L N CL G cm cs ∧ SNs b L N CL G cm cs) (motive_3 := fun o => SO b L N CL G cm o) (motive_4 := fun it => SIt b L N CL G cm it) (motive_5 := fun _ => True) (motive_6 := fun _ => True)
    (fun i => ⟨(sE_0 hL hG), (st_gen (fun sc e m => by unfold mE at m; split at m <;> first | rfl | cases m) (sE_0 hL hG)), sN_no hL hG rfl⟩)
    (fun n => ⟨(sE_1 hL hG), (st_gen (fun sc e m => by unfold mE at m; split at m <;> first | rfl | cases m) (sE_1 hL hG)), sN_imm hL hG (fun h => ⟨rfl, h⟩) (sE_1 hL hG)⟩)
    (fun n => ⟨(sE_2 hL hG), (st_gen (fun sc e m => by unfold mE at m; split at m <;> first | rfl | cases m) (sE_2 hL hG)), sN_imm hL hG (fun h => ⟨rfl, h⟩) (sE_2 hL hG)⟩)
    ⟨(sE_3 hL hG), (st_gen (fun sc e m => by unfold mE at m; split at m <;> first | rfl | cases m) (sE_3 hL hG)), sN_imm hL hG (fun h => ⟨rfl, h⟩) (sE_3 hL hG)⟩
    (fun n => ⟨(sE_4 hL hG), (st_gen (fun sc e m => by unfold mE at m; split at m <;> first | rfl | cases m) (sE_4 hL hG)), sN_imm hL hG (fun h => ⟨rfl, h⟩) (sE_4 hL hG)⟩)
    (fun t => ⟨(sE_5 hL hG), (st_gen (fun sc e m => by unfold mE at m; split at m <;> first | rfl | cases m) (sE_5 hL hG)), sN_no hL hG rfl⟩)
    (fun c => ⟨(sE_6 hL hG), (st_gen (fun sc e m => by unfold mE at m; split at m <;> first | rfl | cases m) (sE_6 hL hG)), sN_no hL hG rfl⟩)
    (fun es i_es => ⟨(sE_7 hL hG i_es.1), (st_gen (fun sc e m => by unfold mE at m; split at m <;> first | rfl | cases m) (sE_7 hL hG i_es.1)), sN_tup hL hG i_es.2.2.2.2.2.2⟩)
    (fun o i_o => ⟨(sE_8 hL hG i_o), (st_gen (fun sc e m => by unfold mE at m; exact mO_plain m) (sE_8 hL hG i_o)), sN_no hL hG rfl⟩)
    (fun op x y i_x i_y => ⟨(sE_9 hL hG i_x.1 i_y.1), (st_gen (fun sc e m => by unfold mE at m; split at m <;> first | rfl | cases m) (sE_9 hL hG i_x.1 i_y.1)), sN_9 hL hG i_x.1 i_y.1⟩)
    (fun x i_x => ⟨(sE_10 hL hG i_x.1), (st_gen (fun sc e m => by unfold mE at m; split at m <;> first | rfl | cases m) (sE_10 hL hG i_x.1)), sN_10 hL hG i_x.1⟩)
    (fun x i_x => ⟨(sE_11 hL hG i_x.1), (sT_52 hL hG i_x.2.1), sN_no hL hG rfl⟩)
    (fun op x y i_x i_y => ⟨(sE_12 hL hG i_x.1 i_y.1), (sT_55 hL hG i_x.1 i_y.1), sN_12 hL hG i_x.1 i_y.1⟩)
    (fun o1 o2 x y z i_x i_y i_z => ⟨(sE_13 hL hG i_x.1 i_y.1 i_z.1), (sT_56 hL hG i_x.1 i_y.1 i_z.1), sN_no hL hG rfl⟩)
    (fun es i_es => ⟨(sE_14 hL hG i_es.2.1), (sT_53 hL hG i_es.2.2.2.1), sN_no hL hG rfl⟩)
    (fun es i_es => ⟨(sE_15 hL hG i_es.2.2.1), (sT_54 hL hG i_es.2.2.2.2.1), sN_no hL hG rfl⟩)
    (fun c x y i_c i_x i_y => ⟨(sE_16 hL hG i_c.2.1 i_x.1 i_y.1), (sT_57 hL hG i_c.2.1 i_x.2.1 i_y.2.1), sN_no hL hG rfl⟩)
    (fun i es i_es => ⟨(sE_17 hL hG i_es.1), (st_gen (fun sc e m => by unfold mE at m; split at m <;> first | rfl | cases m) (sE_17 hL hG i_es.1)), sN_17 hL hG i_es.1⟩)
    (fun i a es i_a i_es => ⟨(sE_18 hL hG i_a.1 i_es.1), (st_gen (fun sc e m => by unfold mE at m; split at m <;> first | rfl | cases m) (sE_18 hL hG i_a.1 i_es.1)), sN_18 hL hG i_a.1 i_es.1⟩)
    (fun t es i_es => ⟨(sE_19 hL hG i_es.1), (st_gen (fun sc e m => by unfold mE at m; split at m <;> first | rfl | cases m) (sE_19 hL hG i_es.1)), sN_19 hL hG i_es.1⟩)
    (fun c j a i_a => ⟨(sE_20 hL hG i_a.1), (st_gen (fun sc e m => by unfold mE at m; split at m <;> first | rfl | cases m) (sE_20 hL hG i_a.1)), sN_no hL hG rfl⟩)
    (fun x y i_x i_y => ⟨(sE_21 hL hG i_x.1 i_y.1), (st_gen (fun sc e m => by unfold mE at m; split at m <;> first | rfl | cases m) (sE_21 hL hG i_x.1 i_y.1)), sN_no hL hG rfl⟩)
    (fun i y i_y => ⟨(sE_22 hL hG i_y.1), (st_gen (fun sc e m => by unfold mE at m; split at m <;> first | rfl | cases m) (sE_22 hL hG i_y.1)), sN_no hL hG rfl⟩)
    (fun i => ⟨(sE_23 hL hG), (st_gen (fun sc e m => by unfold mE at m; split at m <;> first | rfl | cases m) (sE_23 hL hG)), sN_no hL hG rfl⟩)
    (fun x i_x => ⟨(sE_snap hL hG i_x.1), (sT_snap hL hG i_x.2.1), sN_snap hL hG i_x.1⟩)
    (fun x i_x => ⟨(sE_snapF hL hG i_x.2.2), (sT_snapF hL hG i_x.2.1), sN_snapF hL hG i_x.2.2⟩)
    (fun i c => ⟨(sE_isX hL hG), (st_gen (fun sc e m => by unfold mE at m; split at m <;> first | rfl | cases m) (sE_isX hL hG)), sN_imm hL hG (isX_imm) (sE_isX hL hG)⟩)
    ⟨(sEs_24 hL hG), (sAnd_26 hL hG), (sOr_29 hL hG), (sAndT_46 hL hG), (sOrT_49 hL hG), (condW_58 hL hG), (sNs_nil hL hG)⟩
    (fun c cs i_c i_cs => ⟨(sEs_25 hL hG i_c.1 i_cs.1), (match cs, i_cs with | .nil, _ => sAnd_27 hL hG i_c.1 | .cons c2 cs, i_cs => sAnd_28 hL hG i_c.1 i_cs.2.1), (match cs, i_cs with | .nil, _ => sOr_30 hL hG i_c.1 | .cons c2 cs, i_cs => sOr_31 hL hG i_c.1 i_cs.2.2.1), (match cs, i_cs with | .nil, _ => sAndT_47 hL hG i_c.2.1 | .cons c2 cs, i_cs => sAndT_48 hL hG i_c.2.1 i_cs.2.2.2.1), (match cs, i_cs with | .nil, _ => sOrT_50 hL hG i_c.2.1 | .cons c2 cs, i_cs => sOrT_51 hL hG i_c.2.1 i_cs.2.2.2.2.1), (match cs, i_cs with | .nil, _ => condW_59 hL hG i_c.2.1 | .cons c2 cs, i_cs => condW_60 hL hG), (sNs_cons hL hG i_c.2.2 i_cs.2.2.2.2.2.2)⟩)
    (fun es i_es => (sO_32 hL hG i_es.1))
    (fun t it cs el own i_t i_it i_cs i_el => (sO_33 hL hG i_it i_cs.2.2.2.2.2.1 i_el.1))
    (fun a i_a => (sO_34 hL hG i_a.1))
    (fun a i_a => (sO_35 hL hG i_a.1))
    (fun x y i_x i_y => (sO_36 hL hG i_x.1 i_y.1))
    (fun x y i_x i_y => (sO_37 hL hG i_x.1 i_y.1))
    (fun x lo hi i_x i_lo i_hi => (sO_38 hL hG i_x.1 i_lo.1 i_hi.1))
    (fun o i_o => (sO_snap hL hG i_o))
    (fun i => (sIt_39 hL hG))
    (fun a i_a => (sIt_40 hL hG i_a.1))
    (fun a i_a => (sIt_41 hL hG i_a.1))
    (fun a i_a => (sIt_42 hL hG i_a.1))
    (fun a c i_a i_c => (sIt_43 hL hG i_a.1 i_c.1))
    (fun a c i_a i_c => (sIt_44 hL hG i_a.1 i_c.1))
    (fun a i_a => (sIt_45 hL hG i_a.1))
    (fun _ => trivial)
    (fun _ _ => trivial)
    trivial
    (fun _ _ _ _ => trivial) c
theorem allO (c : CO) : SO b L N CL G cm c :=
  CO.rec (motive_1 := fun c => SE b L N CL G cm c ∧ ST b L N CL G cm c ∧ SN b L N CL G cm c) (motive_2 := fun cs => SEs b L N CL G cm cs ∧ SAnd b L N CL G cm cs ∧ SOr b L N CL G cm cs ∧ SAndT b L N CL G cm cs ∧ SOrT b L N CL G cm cs ∧ SCond b L N CL G cm cs ∧ SNs b L N CL G cm cs) (motive_3 := fun o => SO b L N CL G cm o) (motive_4 := fun it => SIt b L N CL G cm it) (motive_5 := fun _ => True) (motive_6 := fun _ => True)
    (fun i => ⟨(sE_0 hL hG), (st_gen (fun sc e m => by unfold mE at m; split at m <;> first | rfl | cases m) (sE_0 hL hG)), sN_no hL hG rfl⟩)
    (fun n => ⟨(sE_1 hL hG), (st_gen (fun sc e m => by unfold mE at m; split at m <;> first | rfl | cases m) (sE_1 hL hG)), sN_imm hL hG (fun h => ⟨rfl, h⟩) (sE_1 hL hG)⟩)
    (fun n => ⟨(sE_2 hL hG), (st_gen (fun sc e m => by unfold mE at m; split at m <;> first | rfl | cases m) (sE_2 hL hG)), sN_imm hL hG (fun h => ⟨rfl, h⟩) (sE_2 hL hG)⟩)
    ⟨(sE_3 hL hG), (st_gen (fun sc e m => by unfold mE at m; split at m <;> first | rfl | cases m) (sE_3 hL hG)), sN_imm hL hG (fun h => ⟨rfl, h⟩) (sE_3 hL hG)⟩
    (fun n => ⟨(sE_4 hL hG), (st_gen (fun sc e m => by unfold mE at m; split at m <;> first | rfl | cases m) (sE_4 hL hG)), sN_imm hL hG (fun h => ⟨rfl, h⟩) (sE_4 hL hG)⟩)
    (fun t => ⟨(sE_5 hL hG), (st_gen (fun sc e m => by unfold mE at m; split at m <;> first | rfl | cases m) (sE_5 hL hG)), sN_no hL hG rfl⟩)
    (fun c => ⟨(sE_6 hL hG), (st_gen (fun sc e m => by unfold mE at m; split at m <;> first | rfl | cases m) (sE_6 hL hG)), sN_no hL hG rfl⟩)
    (fun es i_es => ⟨(sE_7 hL hG i_es.1), (st_gen (fun sc e m => by unfold mE at m; split at m <;> first | rfl | cases m) (sE_7 hL hG i_es.1)), sN_tup hL hG i_es.2.2.2.2.2.2⟩)
    (fun o i_o => ⟨(sE_8 hL hG i_o), (st_gen (fun sc e m => by unfold mE at m; exact mO_plain m) (sE_8 hL hG i_o)), sN_no hL hG rfl⟩)
    (fun op x y i_x i_y => ⟨(sE_9 hL hG i_x.1 i_y.1), (st_gen (fun sc e m => by unfold mE at m; split at m <;> first | rfl | cases m) (sE_9 hL hG i_x.1 i_y.1)), sN_9 hL hG i_x.1 i_y.1⟩)
    (fun x i_x => ⟨(sE_10 hL hG i_x.1), (st_gen (fun sc e m => by unfold mE at m; split at m <;> first | rfl | cases m) (sE_10 hL hG i_x.1)), sN_10 hL hG i_x.1⟩)
    (fun x i_x => ⟨(sE_11 hL hG i_x.1), (sT_52 hL hG i_x.2.1), sN_no hL hG rfl⟩)
    (fun op x y i_x i_y => ⟨(sE_12 hL hG i_x.1 i_y.1), (sT_55 hL hG i_x.1 i_y.1), sN_12 hL hG i_x.1 i_y.1⟩)
    (fun o1 o2 x y z i_x i_y i_z => ⟨(sE_13 hL hG i_x.1 i_y.1 i_z.1), (sT_56 hL hG i_x.1 i_y.1 i_z.1), sN_no hL hG rfl⟩)
    (fun es i_es => ⟨(sE_14 hL hG i_es.2.1), (sT_53 hL hG i_es.2.2.2.1), sN_no hL hG rfl⟩)
    (fun es i_es => ⟨(sE_15 hL hG i_es.2.2.1), (sT_54 hL hG i_es.2.2.2.2.1), sN_no hL hG rfl⟩)
    (fun c x y i_c i_x i_y => ⟨(sE_16 hL hG i_c.2.1 i_x.1 i_y.1), (sT_57 hL hG i_c.2.1 i_x.2.1 i_y.2.1), sN_no hL hG rfl⟩)
    (fun i es i_es => ⟨(sE_17 hL hG i_es.1), (st_gen (fun sc e m => by unfold mE at m; split at m <;> first | rfl | cases m) (sE_17 hL hG i_es.1)), sN_17 hL hG i_es.1⟩)
    (fun i a es i_a i_es => ⟨(sE_18 hL hG i_a.1 i_es.1), (st_gen (fun sc e m => by unfold mE at m; split at m <;> first | rfl | cases m) (sE_18 hL hG i_a.1 i_es.1)), sN_18 hL hG i_a.1 i_es.1⟩)
    (fun t es i_es => ⟨(sE_19 hL hG i_es.1), (st_gen (fun sc e m => by unfold mE at m; split at m <;> first | rfl | cases m) (sE_19 hL hG i_es.1)), sN_19 hL hG i_es.1⟩)
    (fun c j a i_a => ⟨(sE_20 hL hG i_a.1), (st_gen (fun sc e m => by unfold mE at m; split at m <;> first | rfl | cases m) (sE_20 hL hG i_a.1)), sN_no hL hG rfl⟩)
    (fun x y i_x i_y => ⟨(sE_21 hL hG i_x.1 i_y.1), (st_gen (fun sc e m => by unfold mE at m; split at m <;> first | rfl | cases m) (sE_21 hL hG i_x.1 i_y.1)), sN_no hL hG rfl⟩)
    (fun i y i_y => ⟨(sE_22 hL hG i_y.1), (st_gen (fun sc e m => by unfold mE at m; split at m <;> first | rfl | cases m) (sE_22 hL hG i_y.1)), sN_no hL hG rfl⟩)
    (fun i => ⟨(sE_23 hL hG), (st_gen (fun sc e m => by unfold mE at m; split at m <;> first | rfl | cases m) (sE_23 hL hG)), sN_no hL hG rfl⟩)
    (fun x i_x => ⟨(sE_snap hL hG i_x.1), (sT_snap hL hG i_x.2.1), sN_snap hL hG i_x.1⟩)
    (fun x i_x => ⟨(sE_snapF hL hG i_x.2.2), (sT_snapF hL hG i_x.2.1), sN_snapF hL hG i_x.2.2⟩)
    (fun i c => ⟨(sE_isX hL hG), (st_gen (fun sc e m => by unfold mE at m; split at m <;> first | rfl | cases m) (sE_isX hL hG)), sN_imm hL hG (isX_imm) (sE_isX hL hG)⟩)
    ⟨(sEs_24 hL hG), (sAnd_26 hL hG), (sOr_29 hL hG), (sAndT_46 hL hG), (sOrT_49 hL hG), (condW_58 hL hG), (sNs_nil hL hG)⟩
    (fun c cs i_c i_cs => ⟨(sEs_25 hL hG i_c.1 i_cs.1), (match cs, i_cs with | .nil, _ => sAnd_27 hL hG i_c.1 | .cons c2 cs, i_cs => sAnd_28 hL hG i_c.1 i_cs.2.1), (match cs, i_cs with | .nil, _ => sOr_30 hL hG i_c.1 | .cons c2 cs, i_cs => sOr_31 hL hG i_c.1 i_cs.2.2.1), (match cs, i_cs with | .nil, _ => sAndT_47 hL hG i_c.2.1 | .cons c2 cs, i_cs => sAndT_48 hL hG i_c.2.1 i_cs.2.2.2.1), (match cs, i_cs with | .nil, _ => sOrT_50 hL hG i_c.2.1 | .cons c2 cs, i_cs => sOrT_51 hL hG i_c.2.1 i_cs.2.2.2.2.1), (match cs, i_cs with | .nil, _ => condW_59 hL hG i_c.2.1 | .cons c2 cs, i_cs => condW_60 hL hG), (sNs_cons hL hG i_c.2.2 i_cs.2.2.2.2.2.2)⟩)
    (fun es i_es => (sO_32 hL hG i_es.1))
    (fun t it cs el own i_t i_it i_cs i_el => (sO_33 hL hG i_it i_cs.2.2.2.2.2.1 i_el.1))
    (fun a i_a => (sO_34 hL hG i_a.1))
    (fun a i_a => (sO_35 hL hG i_a.1))
    (fun x y i_x i_y => (sO_36 hL hG i_x.1 i_y.1))
    (fun x y i_x i_y => (sO_37 hL hG i_x.1 i_y.1))
    (fun x lo hi i_x i_lo i_hi => (sO_38 hL hG i_x.1 i_lo.1 i_hi.1))
    (fun o i_o => (sO_snap hL hG i_o))
    (fun i => (sIt_39 hL hG))
    (fun a i_a => (sIt_40 hL hG i_a.1))
    (fun a i_a => (sIt_41 hL hG i_a.1))
    (fun a i_a => (sIt_42 hL hG i_a.1))
    (fun a c i_a i_c => (sIt_43 hL hG i_a.1 i_c.1))
    (fun a c i_a i_c => (sIt_44 hL hG i_a.1 i_c.1))
    (fun a i_a => (sIt_45 hL hG i_a.1))
    (fun _ => trivial)
    (fun _ _ => trivial)
    trivial
    (fun _ _ _ _ => trivial) c
theorem allIt (c : CIt) : SIt b L N CL G cm c :=
  CIt.rec (motive_1 := fun c => SE b L N CL G cm c ∧ ST b L N CL G cm c ∧ SN b L N CL G cm c) (motive_2 := fun cs => SEs b L N CL G cm cs ∧ SAnd b L N CL G cm cs ∧ SOr b L N CL G cm cs ∧ SAndT b L N CL G cm cs ∧ SOrT b L N CL G cm cs ∧ SCond b L N CL G cm cs ∧ SNs b L N CL G cm cs) (motive_3 := fun o => SO b L N CL G cm o) (motive_4 := fun it => SIt b L N CL G cm it) (motive_5 := fun _ => True) (motive_6 := fun _ => True)
    (fun i => ⟨(sE_0 hL hG), (st_gen (fun sc e m => by unfold mE at m; split at m <;> first | rfl | cases m) (sE_0 hL hG)), sN_no hL hG rfl⟩)
    (fun n => ⟨(sE_1 hL hG), (st_gen (fun sc e m => by unfold mE at m; split at m <;> first | rfl | cases m) (sE_1 hL hG)), sN_imm hL hG (fun h => ⟨rfl, h⟩) (sE_1 hL hG)⟩)
    (fun n => ⟨(sE_2 hL hG), (st_gen (fun sc e m => by unfold mE at m; split at m <;> first | rfl | cases m) (sE_2 hL hG)), sN_imm hL hG (fun h => ⟨rfl, h⟩) (sE_2 hL hG)⟩)
    ⟨(sE_3 hL hG), (st_gen (fun sc e m => by unfold mE at m; split at m <;> first | rfl | cases m) (sE_3 hL hG)), sN_imm hL hG (fun h => ⟨rfl, h⟩) (sE_3 hL hG)⟩
    (fun n => ⟨(sE_4 hL hG), (st_gen (fun sc e m => by unfold mE at m; split at m <;> first | rfl | cases m) (sE_4 hL hG)), sN_imm hL hG (fun h => ⟨rfl, h⟩) (sE_4 hL hG)⟩)
    (fun t => ⟨(sE_5 hL hG), (st_gen (fun sc e m => by unfold mE at m; split at m <;> first | rfl | cases m) (sE_5 hL hG)), sN_no hL hG rfl⟩)
    (fun c => ⟨(sE_6 hL hG), (st_gen (fun sc e m => by unfold mE at m; split at m <;> first | rfl | cases m) (sE_6 hL hG)), sN_no hL hG rfl⟩)
    (fun es i_es => ⟨(sE_7 hL hG i_es.1), (st_gen (fun sc e m => by unfold mE at m; split at m <;> first | rfl | cases m) (sE_7 hL hG i_es.1)), sN_tup hL hG i_es.2.2.2.2.2.2⟩)
    (fun o i_o => ⟨(sE_8 hL hG i_o), (st_gen (fun sc e m => by unfold mE at m; exact mO_plain m) (sE_8 hL hG i_o)), sN_no hL hG rfl⟩)
    (fun op x y i_x i_y => ⟨(sE_9 hL hG i_x.1 i_y.1), (st_gen (fun sc e m => by unfold mE at m; split at m <;> first | rfl | cases m) (sE_9 hL hG i_x.1 i_y.1)), sN_9 hL hG i_x.1 i_y.1⟩)
    (fun x i_x => ⟨(sE_10 hL hG i_x.1), (st_gen (fun sc e m => by unfold mE at m; split at m <;> first | rfl | cases m) (sE_10 hL hG i_x.1)), sN_10 hL hG i_x.1⟩)
    (fun x i_x => ⟨(sE_11 hL hG i_x.1), (sT_52 hL hG i_x.2.1), sN_no hL hG rfl⟩)
    (fun op x y i_x i_y => ⟨(sE_12 hL hG i_x.1 i_y.1), (sT_55 hL hG i_x.1 i_y.1), sN_12 hL hG i_x.1 i_y.1⟩)
    (fun o1 o2 x y z i_x i_y i_z => ⟨(sE_13 hL hG i_x.1 i_y.1 i_z.1), (sT_56 hL hG i_x.1 i_y.1 i_z.1), sN_no hL hG rfl⟩)
    (fun es i_es => ⟨(sE_14 hL hG i_es.2.1), (sT_53 hL hG i_es.2.2.2.1), sN_no hL hG rfl⟩)
    (fun es i_es => ⟨(sE_15 hL hG i_es.2.2.1), (sT_54 hL hG i_es.2.2.2.2.1), sN_no hL hG rfl⟩)
    (fun c x y i_c i_x i_y => ⟨(sE_16 hL hG i_c.2.1 i_x.1 i_y.1), (sT_57 hL hG i_c.2.1 i_x.2.1 i_y.2.1), sN_no hL hG rfl⟩)
    (fun i es i_es => ⟨(sE_17 hL hG i_es.1), (st_gen (fun sc e m => by unfold mE at m; split at m <;> first | rfl | cases m) (sE_17 hL hG i_es.1)), sN_17 hL hG i_es.1⟩)
    (fun i a es i_a i_es => ⟨(sE_18 hL hG i_a.1 i_es.1), (st_gen (fun sc e m => by unfold mE at m; split at m <;> first | rfl | cases m) (sE_18 hL hG i_a.1 i_es.1)), sN_18 hL hG i_a.1 i_es.1⟩)
    (fun t es i_es => ⟨(sE_19 hL hG i_es.1), (st_gen (fun sc e m => by unfold mE at m; split at m <;> first | rfl | cases m) (sE_19 hL hG i_es.1)), sN_19 hL hG i_es.1⟩)
    (fun c j a i_a => ⟨(sE_20 hL hG i_a.1), (st_gen (fun sc e m => by unfold mE at m; split at m <;> first | rfl | cases m) (sE_20 hL hG i_a.1)), sN_no hL hG rfl⟩)
    (fun x y i_x i_y => ⟨(sE_21 hL hG i_x.1 i_y.1), (st_gen (fun sc e m => by unfold mE at m; split at m <;> first | rfl | cases m) (sE_21 hL hG i_x.1 i_y.1)), sN_no hL hG rfl⟩)
    (fun i y i_y => ⟨(sE_22 hL hG i_y.1), (st_gen (fun sc e m => by unfold mE at m; split at m <;> first | rfl | cases m) (sE_22 hL hG i_y.1)), sN_no hL hG rfl⟩)
    (fun i => ⟨(sE_23 hL hG), (st_gen (fun sc e m => by unfold mE at m; split at m <;> first | rfl | cases m) (sE_23 hL hG)), sN_no hL hG rfl⟩)
    (fun x i_x => ⟨(sE_snap hL hG i_x.1), (sT_snap hL hG i_x.2.1), sN_snap hL hG i_x.1⟩)
    (fun x i_x => ⟨(sE_snapF hL hG i_x.2.2), (sT_snapF hL hG i_x.2.1), sN_snapF hL hG i_x.2.2⟩)
    (fun i c => ⟨(sE_isX hL hG), (st_gen (fun sc e m => by unfold mE at m; split at m <;> first | rfl | cases m) (sE_isX hL hG)), sN_imm hL hG (isX_imm) (sE_isX hL hG)⟩)
    ⟨(sEs_24 hL hG), (sAnd_26 hL hG), (sOr_29 hL hG), (sAndT_46 hL hG), (sOrT_49 hL hG), (condW_58 hL hG), (sNs_nil hL hG)⟩
    (fun c cs i_c i_cs => ⟨(sEs_25 hL hG i_c.1 i_cs.1), (match cs, i_cs with | .nil, _ => sAnd_27 hL hG i_c.1 | .cons c2 cs, i_cs => sAnd_28 hL hG i_c.1 i_cs.2.1), (match cs, i_cs with | .nil, _ => sOr_30 hL hG i_c.1 | .cons c2 cs, i_cs => sOr_31 hL hG i_c.1 i_cs.2.2.1), (match cs, i_cs with | .nil, _ => sAndT_47 hL hG i_c.2.1 | .cons c2 cs, i_cs => sAndT_48 hL hG i_c.2.1 i_cs.2.2.2.1), (match cs, i_cs with | .nil, _ => sOrT_50 hL hG i_c.2.1 | .cons c2 cs, i_cs => sOrT_51 hL hG i_c.2.1 i_cs.2.2.2.2.1), (match cs, i_cs with | .nil, _ => condW_59 hL hG i_c.2.1 | .cons c2 cs, i_cs => condW_60 hL hG), (sNs_cons hL hG i_c.2.2 i_cs.2.2.2.2.2.2)⟩)
    (fun es i_es => (sO_32 hL hG i_es.1))
    (fun t it cs el own i_t i_it i_cs i_el => (sO_33 hL hG i_it i_cs.2.2.2.2.2.1 i_el.1))
    (fun a i_a => (sO_34 hL hG i_a.1))
    (fun a i_a => (sO_35 hL hG i_a.1))
    (fun x y i_x i_y => (sO_36 hL hG i_x.1 i_y.1))
    (fun x y i_x i_y => (sO_37 hL hG i_x.1 i_y.1))
    (fun x lo hi i_x i_lo i_hi => (sO_38 hL hG i_x.1 i_lo.1 i_hi.1))
    (fun o i_o => (sO_snap hL hG i_o))
    (fun i => (sIt_39 hL hG))
    (fun a i_a => (sIt_40 hL hG i_a.1))
    (fun a i_a => (sIt_41 hL hG i_a.1))
    (fun a i_a => (sIt_42 hL hG i_a.1))
    (fun a c i_a i_c => (sIt_43 hL hG i_a.1 i_c.1))
    (fun a c i_a i_c => (sIt_44 hL hG i_a.1 i_c.1))
    (fun a i_a => (sIt_45 hL hG i_a.1))
    (fun _ => trivial)
    (fun _ _ => trivial)
    trivial
    (fun _ _ _ _ => trivial) c
end
end Pu

/-! PI: statements are sound. -/
namespace Pu
open PySem PySem.Spec PyProof.Rows L2 Ni
section
variable {k : Kx} {F F' H H' H0 : Hp} {mu : List Addr} {ex ex' : Option (Addr × Exc)} {ρ : Env} {σ : L2.St} {os : List Addr}
theorem Slots.noX (h : Slots k F H H0 mu ex ρ σ os) : Slots k F H H0 mu ex' (noX ρ) σ os := by
  induction h with
  | nil => exact .nil
  | free _ ih => exact .free ih
  | val h1 _ ih => exact .val h1 ih
  | exc h1 _ ih => exact .free ih
  | own h1 h2 h3 _ ih => exact .own h1 h2 h3 ih
  | obj h1 h2 h3 h4 h5 h6 _ ih => exact .obj h1 h2 h3 h4 h5 h6 ih
theorem Slots.anyX (h : Slots k F H H0 mu ex ρ σ os) (e : ex = none) : Slots k F H H0 mu ex' ρ σ os := by
  induction h with
  | nil => exact .nil
  | free _ ih => exact .free ih
  | val h1 _ ih => exact .val h1 ih
  | exc h1 _ ih => rw [e] at h1; cases h1
  | own h1 h2 h3 _ ih => exact .own h1 h2 h3 ih
  | obj h1 h2 h3 h4 h5 h6 _ ih => exact .obj h1 h2 h3 h4 h5 h6 ih
end
section
variable {X : Cx} {ct : Ct} {F F1 H H1 : Hp} {ρ : Env} {σ : L2.St}
theorem Stt.len0 (S : Stt X ct F ρ σ H) : ρ.length = σ.length := S.len
theorem Stt.noX (S : Stt X ct F ρ σ H) (ex' : Option (Addr × Exc)) : Stt X { ct with ex := ex' } F (noX ρ) σ H := let ⟨os, h, nd, hf⟩ := S.slots; ⟨S.sub, S.gr, S.gua, S.p0, S.p1, S.m0, os, h.noX, nd, hf⟩
theorem Stt.anyX (S : Stt X ct F ρ σ H) (e : ct.ex = none) (ex' : Option (Addr × Exc)) : Stt X { ct with ex := ex' } F ρ σ H := let ⟨os, h, nd, hf⟩ := S.slots; ⟨S.sub, S.gr, S.gua, S.p0, S.p1, S.m0, os, h.anyX e, nd, hf⟩
/-- one's own list is taken out of its slot -/
theorem Stt.takeO (S : Stt X ct F ρ σ H) {i : Nat} {xs : List PV} (e : ρ[i]? = some (some (.own xs))) : ∃ p vs, σ[i]? = some (some (.ref p)) ∧ Stt X ct F (ρ.set i none) σ H ∧ Own X ct F (ρ.set i none) σ H p vs ∧ Reps ⟨X.K, ct.pl⟩ F xs vs := by
  obtain ⟨os, hs, nd, hf⟩ := S.slots
  obtain ⟨v, q1, q2, q3, e1, rfl, h1, h2⟩ := hs.split e
  cases h1 with
  | own a b c h1 =>
    cases h1
    rename_i vs p
    have hz := h2 (F' := F) (H' := H) (o' := none) (v' := some (.ref p)) (q' := []) (fun _ _ z => z) (fun _ _ => rfl) (.free .nil)
    have hsl : σ.set i (some (V.ref p)) = σ := by
      apply List.ext_getElem?
      intro j
      rw [List.getElem?_set]
      by_cases e : i = j
      · subst e
        obtain ⟨l1, l2⟩ := List.getElem?_eq_some_iff.mp e1
        simp [l1, l2]
      · rw [if_neg e]
    rw [hsl] at hz
    rw [List.nodup_append] at nd
    obtain ⟨n1, n2, n3⟩ := nd
    rw [List.nodup_append] at n2
    obtain ⟨m1, m2, m3⟩ := n2
    have np : p ∉ q1 ++ ([] ++ q3) := fun z => by
      rcases List.mem_append.mp z with z | z
      · exact n3 p z p (List.mem_append_left _ (.head _)) rfl
      · exact m3 p (.head _) p (by simpa using z) rfl
    refine ⟨p, vs, e1, ⟨S.sub, S.gr, S.gua, S.p0, S.p1, S.m0, _, hz, ?_, fun a m => hf a ?_⟩, ⟨a, hf p (by simp), c, fun F' os2 h3 => ?_, fun P s e z => ?_⟩, b⟩
    · rw [List.nil_append, List.nodup_append]
      exact ⟨n1, m2, fun a ha b hb => n3 a ha b (List.mem_append_right _ hb)⟩
    · rcases List.mem_append.mp m with m | m
      · exact List.mem_append_left _ m
      · exact List.mem_append_right _ (List.mem_append_right _ (by simpa using m))
    · rw [h3.uniq hz]; exact np
    · exact (S.p1 P s e).1 (z ▸ c)
/-- an instance of one's own is frozen -/
theorem Stt.frzObj (S : Stt X ct F ρ σ H) {i : Nat} {m : Bool} {c : Cl} {fs : List FV} (e : ρ[i]? = some (some (.obj m c fs))) (hm : m = false) : ∃ p F', σ[i]? = some (some (.ref p)) ∧ Stt X ct F' (ρ.set i (some (.val (.obj c (fs.map FV.pv))))) σ H ∧ Same F F' ∧ Rep ⟨X.K, ct.pl⟩ F' (.obj c (fs.map FV.pv)) (.ref p) := by
  classical
  subst hm
  obtain ⟨os, hs, nd, hf⟩ := S.slots
  obtain ⟨v, q1, q2, q3, e1, rfl, h1, h2⟩ := hs.split e
  cases h1 with
  | @obj _ _ _ qs _ _ _ vs p dx a b c1 d w h h1 =>
    cases h1
    rw [List.append_nil] at *
    have hF : ∀ a ∈ p :: qs, F a = none := fun a m => hf a (List.mem_append_right _ (List.mem_append_left _ m))
    let FS : Hp := fun a => if a ∈ p :: qs then H a else F a
    have sm : Same F FS := fun a o e => by
      have n : a ∉ p :: qs := fun m => by rw [hF a m] at e; cases e
      exact (if_neg n).trans e
    have at1 : ∀ a ∈ p :: qs, FS a = H a := fun a m => if_pos m
    have rp : Rep ⟨X.K, ct.pl⟩ FS (.obj c (fs.map FV.pv)) (.ref p) := ⟨p, dx, vs, rfl, (at1 p (.head _)).trans a, ⟨by rw [List.length_map]; exact c1, d⟩, b.reps sm fun q m => at1 q (.tail _ m)⟩
    have hz := h2 (F' := FS) (H' := H) (o' := some (.val (.obj c (fs.map FV.pv)))) (v' := some (.ref p)) (q' := []) sm (fun _ _ => rfl) (.val rp .nil)
    have hsl : σ.set i (some (V.ref p)) = σ := by
      apply List.ext_getElem?
      intro j
      rw [List.getElem?_set]
      by_cases e : i = j
      · subst e
        obtain ⟨l1, l2⟩ := List.getElem?_eq_some_iff.mp e1
        simp [l1, l2]
      · rw [if_neg e]
    rw [hsl] at hz
    rw [List.nodup_append] at nd
    obtain ⟨n1, n2, n3⟩ := nd
    rw [List.nodup_append] at n2
    obtain ⟨m1, m2, m3⟩ := n2
    refine ⟨p, FS, e1, ⟨fun a o e => ?_, ⟨Same.trans' S.gr.s sm, fun a o e => ?_⟩, S.gua, fun P s e => ?_, S.p1, S.m0, _, hz, ?_, fun a m => ?_⟩, sm, rp⟩
    · by_cases m : a ∈ p :: qs
      · exact (if_pos m).symm.trans e
      · exact S.sub a o ((if_neg m).symm.trans e)
    · by_cases m : a ∈ p :: qs
      · exact .inr (.inl (w a m))
      · exact S.gr.n a o ((if_neg m).symm.trans e)
    · obtain ⟨h1, h2, h3⟩ := S.p0 P s e
      refine ⟨?_, h2, h3⟩
      have n : P ∉ p :: qs := fun m => h2 (w P m)
      exact (if_neg n).trans h1
    · rw [List.nil_append, List.nodup_append]
      exact ⟨n1, m2, fun a ha b hb => n3 a ha b (List.mem_append_right _ hb)⟩
    · have n : a ∉ p :: qs := fun y => by
        rcases List.mem_append.mp m with m | m
        · exact n3 a m a (List.mem_append_left _ y) rfl
        · exact m3 a y a (by simpa using m) rfl
      refine (if_neg n).trans (hf a ?_)
      rcases List.mem_append.mp m with m | m
      · exact List.mem_append_left _ m
      · exact List.mem_append_right _ (List.mem_append_right _ (by simpa using m))
/-- a slot is filled with something held by no slot -/
theorem Stt.putS (S : Stt X ct F ρ σ H) {sv : SV} {p : Addr} {qs : List Addr} (h1 : Slot1 ⟨X.K, ct.pl⟩ F H ct.H0 ct.mu ct.ex (some sv) (some (.ref p)) qs) (nd : qs.Nodup) (hf : ∀ a ∈ qs, F a = none) (ho : ∀ F' os, Slots ⟨X.K, ct.pl⟩ F' H ct.H0 ct.mu ct.ex ρ σ os → ∀ a ∈ qs, a ∉ os) (i : Nat) (hi : i < ρ.length) :
    Stt X ct F (ρ.set i (some sv)) (σ.set i (some (.ref p))) H := by
  obtain ⟨os, hs, nd0, hf0⟩ := S.slots
  obtain ⟨o, eo⟩ : ∃ o, ρ[i]? = some o := ⟨_, List.getElem?_eq_getElem hi⟩
  have hno := ho _ _ hs
  obtain ⟨v, q1, q2, q3, e1, rfl, h2, h3⟩ := hs.split eo
  have hz := h3 (F' := F) (H' := H) (fun _ _ z => z) (fun _ _ => rfl) h1
  rw [List.nodup_append] at nd0
  obtain ⟨n1, n2, n3⟩ := nd0
  rw [List.nodup_append] at n2
  obtain ⟨m1, m2, m3⟩ := n2
  refine ⟨S.sub, S.gr, S.gua, S.p0, S.p1, S.m0, _, hz, ?_, fun a m => ?_⟩
  · rw [List.nodup_append]
    refine ⟨n1, ?_, fun a ha b hb => ?_⟩
    · rw [List.nodup_append]
      exact ⟨nd, m2, fun a ha b hb z => hno a ha (z ▸ List.mem_append_right _ (List.mem_append_right _ hb))⟩
    · rcases List.mem_append.mp hb with hb | hb
      · exact fun z => hno b hb (z ▸ List.mem_append_left _ ha)
      · exact n3 a ha b (List.mem_append_right _ hb)
  · rcases List.mem_append.mp m with m | m
    · exact hf0 a (List.mem_append_left _ m)
    · rcases List.mem_append.mp m with m | m
      · exact hf a m
      · exact hf0 a (List.mem_append_right _ (List.mem_append_right _ m))
theorem Stt.putO (S : Stt X ct F ρ σ H) {p : Addr} {xs : List PV} {vs : List V} (o : Own X ct F ρ σ H p vs) (r : Reps ⟨X.K, ct.pl⟩ F xs vs) (i : Nat) (hi : i < ρ.length) : Stt X ct F (ρ.set i (some (.own xs))) (σ.set i (some (.ref p))) H :=
  S.putS (qs := [p]) (.own o.at_ r o.h .nil) (by simp) (fun a m => by simp at m; subst m; exact o.f) (fun F' os h a m => by simp at m; subst m; exact o.os F' os h) i hi
theorem set_self {α : Type} {l : List α} {i : Nat} {v : α} (h : l[i]? = some v) : l.set i v = l := by
  apply List.ext_getElem?
  intro j
  rw [List.getElem?_set]
  by_cases e : i = j
  · subst e
    obtain ⟨l1, l2⟩ := List.getElem?_eq_some_iff.mp h
    simp [l1, l2]
  · rw [if_neg e]
end

theorem Ws.imp {X : Cx} {s : Stmt} {D D' : Ends} {σ : L2.St} {H : Hp} (k : ∀ σ H, D.nx σ H → D'.nx σ H) (k2 : ∀ v H, D.rt v H → D'.rt v H) (k3 : ∀ σ H, D.bk σ H → D'.bk σ H) (k4 : ∀ σ H, D.ct σ H → D'.ct σ H) (h : Ws X s D σ H) : Ws X s D' σ H := fun pins st I => thn (h pins st I) fun _ _ q => SP.imp k k2 k3 k4 q
def lift (fr : Bool) (X : Cx) (ct : Ct) (F : Hp) (D : PEnds) : Ends where
  nx := fun σ' H' => ∃ ρ' F', Stt X ct F' ρ' σ' H' ∧ Same F F' ∧ D.nx ρ'
  rt := fun v H' => ∃ x F' ρ' σ', Stt X ct F' ρ' σ' H' ∧ Rep ⟨X.K, ct.pl⟩ F' x v ∧ (fr = true → NewR ⟨X.K, ct.pl⟩ F' ct.H0 x v) ∧ D.rt x ρ'
  bk := fun σ' H' => ∃ ρ' F', Stt X ct F' ρ' σ' H' ∧ Same F F' ∧ D.bk ρ'
  ct := fun σ' H' => ∃ ρ' F', Stt X ct F' ρ' σ' H' ∧ Same F F' ∧ D.ct ρ'
def Xok (X : Cx) (ct : Ct) (F : Hp) (E : Exc → Env → Prop) : Prop := ∀ e ρ' F' σ' H' d, Stt X ct F' ρ' σ' H' → Same F F' → XData X ct F' H' e d → E e ρ' → XW X (.ref (He.ga X.K e.c.nm)) d σ' H'
theorem Xok.eok {X : Cx} {ct : Ct} {F : Hp} {E : Exc → Env → Prop} (h : Xok X ct F E) (ρ : Env) (σ : L2.St) : Eok X ct F ρ σ (fun e => E e ρ) := fun e d F' H' S s x q => h e ρ F' σ H' d S s x q
theorem Xok.up {X : Cx} {ct : Ct} {F F1 : Hp} {E : Exc → Env → Prop} (h : Xok X ct F E) (s : Same F F1) : Xok X ct F1 E := fun e ρ F' σ H' d S s' x q => h e ρ F' σ H' d S (Same.trans' s s') x q
section
variable (b : B6) (L : Lang) (N : List Str) (CL : List Cl) (G : List GK) (XL : List Cl) (fr : Bool)
def SS (s : CS) : Prop := ∀ {ct : Ct} {cm : Bool} {X : Cx} {all : Bool} {sc : Scope} {st : Stmt}, b6 X = b → Cok X N cm all sc ct.ex → (cm = true → Env1 X) → mS N G CL XL cm all sc s st = true → (fr = true → retsF L s = true) → ∀ {F : Hp} {ρ : Env} {σ : L2.St} {H : Hp} {D : PEnds}, Stt X ct F ρ σ H → Xok X ct F D.ex → denS L s ρ D → Ws X st (lift fr X ct F D) σ H
def SB (cs : CSs) : Prop := ∀ {ct : Ct} {cm : Bool} {X : Cx} {all : Bool} {sc : Scope} {body : List Stmt}, b6 X = b → Cok X N cm all sc ct.ex → (cm = true → Env1 X) → mB N G CL XL cm all sc cs body = true → (fr = true → retsB L cs = true) → ∀ {F : Hp} {ρ : Env} {σ : L2.St} {H : Hp} {D : PEnds}, Stt X ct F ρ σ H → Xok X ct F D.ex → denB L cs ρ D → Wb X body (lift fr X ct F D) σ H
end
theorem Wb.up {fr : Bool} {X : Cx} {ct : Ct} {F F1 : Hp} {D : PEnds} {body : List Stmt} {σ : L2.St} {H : Hp} (s : Same F F1) (h : Wb X body (lift fr X ct F1 D) σ H) : Wb X body (lift fr X ct F D) σ H := by
  refine Wb.imp (D := lift fr X ct F1 D) ?_ ?_ ?_ ?_ h
  · rintro σ' H' ⟨ρ, F', S, s', q⟩
    exact ⟨ρ, F', S, Same.trans' s s', q⟩
  · exact fun _ _ q => q
  · rintro σ' H' ⟨ρ, F', S, s', q⟩
    exact ⟨ρ, F', S, Same.trans' s s', q⟩
  · rintro σ' H' ⟨ρ, F', S, s', q⟩
    exact ⟨ρ, F', S, Same.trans' s s', q⟩
theorem sws_no {e : Expr} {o : Option Expr} {l : Nat} {env : PySem.Env} (h : noComp e = true) : swapsWith e o l env = pure false := by
  cases e <;> first | rfl | cases h
theorem sole_no {t e : Expr} {l : Nat} {env : PySem.Env} (h : noComp e = true) : swapsWithSole [t] e l env = pure false := by
  show swapsWith e (some t) l env = _
  exact sws_no h
theorem stores_no {t e : Expr} {env : PySem.Env} (h : (noTup t || noTup e) = true) (hl : ∀ es p, t ≠ .List es p) : swappedStores [t] e env = pure none := by
  cases t with
  | Tuple es k p => cases e <;> first | rfl | cases h
  | List es p => exact absurd rfl (hl es p)
  | _ => cases e <;> rfl
theorem stores_fold {ts vs : List Expr} {k k2 : Nat} {p p2 : Pos} {env : PySem.Env} (h : vs.all (foldedForSure 8) = true) : swappedStores [.Tuple ts k p] (.Tuple vs k2 p2) env = pure none := by
  unfold swappedStores
  simp only [h, if_true]
  repeat' split
  all_goals rfl
theorem stores_no2 {t e : Expr} {env : PySem.Env} (h : (noTup t || noTup e || fldT e) = true) (hl : ∀ es p, t ≠ .List es p) : swappedStores [t] e env = pure none := by
  by_cases z : (noTup t || noTup e) = true
  · exact stores_no z hl
  · cases t with
    | Tuple ts k p =>
      cases e with
      | Tuple vs k2 p2 => exact stores_fold (show vs.all (foldedForSure 8) = true from h)
      | _ => exact absurd rfl z
    | _ => exact absurd rfl z
theorem sub_plain {o i : Expr} {pos : Pos} {env : PySem.Env} (h : noSlice i = true) (v : Value) : assign (.Subscript o i pos) env v = (do
      let ov ← holding [v] (eval o env)
      let iv ← holding [v, ov] (eval i env)
      standAt pos
      holding [v, ov, iv] (setItem ov iv v)
      release [v, ov, iv] []) := by
  cases i <;> first | rfl | cases h
theorem setP_ok {xs : List PV} {n : Int} {x : PV} {Q : List PV → Prop} (h : setP xs n x Q) : ∃ j : Nat, n = (j : Int) ∧ j < xs.length ∧ Q (put x xs j) := by
  cases n with
  | ofNat k =>
    obtain ⟨l, q⟩ := ifB_f h
    exact ⟨k, rfl, Nat.blt_eq.mp l, q⟩
  | negSucc k => exact h.elim
theorem ws_augW {X : Cx} {i : Nat} {x : Str} {e : Expr} {op : Operator} {pos pos' : Pos} {D : Ends} {σ : L2.St} {H : Hp} (hN : X.N.Nodup) (hi : X.N[i]? = some x) (hx : L2.Loc X.env.scope x) (hf : X.fn x = true ∨ X.env.scope.names.lookup x = some .local)
    (h : ∃ v, σ[i]? = some (some v) ∧ We X e σ H fun y H1 => Wo X (inplaceOp op) v y σ H1 fun z H2 => D.nx (σ.set i (some z)) H2) : Ws X (.AugAssign (.Name x pos') op e pos) D σ H := by
  intro pins s I
  obtain ⟨v, e1, h⟩ := h
  obtain ⟨m, hn, hl⟩ := I.loc
  have vis : Vis X.env.scope x := hx.elim .inl fun k => .inr (.inl k)
  obtain ⟨u, r, l⟩ := hl i x v hi e1 vis
  refine wpAny_AugAssign_Name ?_
  have go : wpAny (model X.prog X.w) X.A (eval e X.env) (fun w s₂ => wpAny (model X.prog X.w) X.A (inplaceOp op u w) (fun r s₃ => wpAny (model X.prog X.w) X.A (storeName X.env x r) (fun _ => SP X pins D .next) X.xe s₃) X.xe s₂) X.xe s := by
    refine thn (h pins s I) fun w s1 ⟨y, H1, I1, r1, q1⟩ => thn (q1 pins s1 u w I1 r r1) fun z s2 ⟨zv, H2, I2, r2, q2⟩ => ?_
    exact store_ok I2 hN hi hx r2 (fun s3 I3 => ⟨_, H2, I3, q2⟩) hf
  rcases l with ⟨hk, hm⟩ | ⟨hk, c, hc, hcell⟩
  · exact wpAny_loadName_local I.ok.kind hk hn hm go
  · rcases hk with hk | hk
    · exact wpAny_loadName_cell I.ok.kind hk hc hcell go
    · have k2 : X.env.scope.names.lookup x = some .free := hk
      rcases hx with k | k <;> (rw [k] at k2; cases k2)
theorem par_stores {env : PySem.Env} {x y : Str} {px py pt pt2 : Pos} {kt k2 : Nat} {u v : Expr} (hx : env.scope.names.lookup x = some .local) (hy : env.scope.names.lookup y = some .local) (hk : env.scope.kind = .function) (ne : x ≠ y) (hl : px.line = py.line) (su : noStar u = true) (sv : noStar v = true)
    (f1 : ([u, v].all (foldedForSure 8)) = false) (f2 : ([u, v].all (constantsAlone 8)) = false) : swappedStores [.Tuple [.Name x px, .Name y py] kt pt] (.Tuple [u, v] k2 pt2) env = pure (some [x, y]) := by
  have hb : env.blockKind = .function := by unfold Env.blockKind; rw [hk]; rfl
  have kx : env.kindOf x = some .local := hx
  have ky : env.kindOf y = some .local := hy
  have ex : ([x, y] : List Str).eraseDups = [x, y] := by
    simp [List.eraseDups_cons, Ne.symm ne]
  have ps : (Expr.Name x px).pos = px := rfl
  unfold swappedStores
  simp only [hb, kx, ky, hl, ps, f1, f2, List.filterMap_cons, List.filterMap_nil, List.length_cons, List.length_nil, List.head?_cons, Option.map_some, Option.getD_some, beq_self_eq_true, Bool.and_true, if_true, ex]
  refine (if_neg (by decide)).trans ((if_neg ?_).trans rfl)
  cases u <;> cases v <;> first | exact Bool.false_ne_true | exact absurd (show false = true from su) Bool.false_ne_true | exact absurd (show false = true from sv) Bool.false_ne_true
theorem thawFs_ok {k : Kx} {Fn F2 H H0 : Hp} (hi : ∀ a o, Fn a = some o → ImmO o → F2 a = some o) (hs : Same Fn H) : ∀ {xs : List PV} {u : Bool} {vs : List V} {fs : List FV}, thawFs u xs = some fs → Reps k Fn xs vs →
    ∃ qs, FVs k F2 H H0 fs vs qs ∧ fs.length = xs.length ∧ (u = true → qs = []) ∧ qs.Nodup ∧ ∀ q ∈ qs, ∃ ws, Fn q = some (.lst ws)
  | [], u, vs, fs, h, r => by
    cases r
    unfold thawFs at h
    cases h
    exact ⟨[], .nil, rfl, fun _ => rfl, .nil, nofun⟩
  | x :: xs, u, vs, fs, h, r => by
    obtain ⟨v, ws, rfl, r1, r2⟩ := r
    by_cases hl : ∃ ys, x = .lst ys
    · obtain ⟨ys, rfl⟩ := hl
      unfold thawFs at h
      cases u with
      | true => cases h
      | false =>
        cases im : immPs ys with
        | false => rw [im] at h; cases h
        | true =>
          rw [im] at h
          cases ht : thawFs true xs with
          | none => rw [ht] at h; cases h
          | some gs =>
            rw [ht] at h
            cases h
            obtain ⟨qs, f1, f2, f3, _, _⟩ := thawFs_ok (H0 := H0) hi hs ht r2
            have f3 := f3 rfl
            subst f3
            unfold Rep at r1
            obtain ⟨q, us, rfl, e, r1⟩ := r1
            exact ⟨[q], .ow (hs _ _ e) (r1.imm hi im) f1, by simp [f2], nofun, by simp, fun q' m => by
              simp at m
              subst m
              exact ⟨us, e⟩⟩
    · have h : (match immP x with
        | true => (match thawFs u xs with
          | some fs => some (FV.fr x :: fs)
          | none => none)
        | false => none) = some fs := by
        rw [← h]
        cases x <;> first | rfl | exact absurd ⟨_, rfl⟩ hl
      cases im : immP x with
      | false => rw [im] at h; cases h
      | true =>
        rw [im] at h
        cases ht : thawFs u xs with
        | none => rw [ht] at h; cases h
        | some gs =>
          rw [ht] at h
          cases h
          obtain ⟨qs, f1, f2, f3, f4, f5⟩ := thawFs_ok (H0 := H0) hi hs ht r2
          exact ⟨qs, .fr (r1.imm hi im) f1, by simp [f2], f3, f4, f5⟩
/-- a new value is taken as one's own -/
theorem Stt.thawT {ct : Ct} {X : Cx} {F F1 H H1 : Hp} {ρ : Env} {σ : L2.St} (S : Stt X ct F ρ σ H) (S1 : Stt X ct F1 ρ σ H1) (f : Fwd ct.pl F H F1 H1) {x : PV} {v : V} (n : NewR ⟨X.K, ct.pl⟩ F1 H x v) {sv : SV} (t : thaw x = some sv) (i : Nat) (hi : i < ρ.length) :
    ∃ F2, Stt X ct F2 (ρ.set i (some sv)) (σ.set i (some v)) H1 ∧ Same F F2 := by
  obtain ⟨Fn, n1, n2, r⟩ := n
  obtain ⟨Fi, hF⟩ := imm_part F1
  have i1 : Same Fi F1 := fun a o e => ((hF a o).mp e).1
  have sm : Same F (unionH Fi F) := unionH_r i1 f.s
  have gr : Grow F H (unionH Fi F) := ⟨sm, fun a o e => by
    rcases unionH_or e with y | y
    · exact f.gr.n a o (i1 a o y)
    · exact .inl y⟩
  have S2 : Stt X ct (unionH Fi F) ρ σ H1 := S.called f.gu gr fun a o e => by
    rcases unionH_or e with y | y
    · exact S1.sub a o (i1 a o y)
    · exact S1.sub a o (f.s a o y)
  have hI : ∀ a o, Fn a = some o → ImmO o → unionH Fi F a = some o := fun a o e z => unionH_l a o ((hF a o).mpr ⟨n1 a o e, z⟩)
  have hS : Same Fn H1 := fun a o e => S1.sub a o (n1 a o e)
  -- a new place that may change
  have nw : ∀ a o, Fn a = some o → ¬ ImmO o → H a = none := fun a o e z => (n2 a o e).resolve_right z
  have f2 : ∀ a o, Fn a = some o → ¬ ImmO o → unionH Fi F a = none := fun a o e z => by
    have e1 := S.fnone (nw a o e z)
    unfold unionH
    cases y : Fi a with
    | none => exact e1
    | some o2 =>
      obtain ⟨y1, y2⟩ := (hF a o2).mp y
      rw [n1 a o e] at y1
      cases y1
      exact absurd y2 z
  have os0 : ∀ a o, Fn a = some o → ¬ ImmO o → ∀ F' os, Slots ⟨X.K, ct.pl⟩ F' H1 ct.H0 ct.mu ct.ex ρ σ os → a ∉ os := fun a o e z F' os h m => by
    obtain ⟨os1, hs1, _⟩ := S.slots
    have hk := hs1.keep (F' := F) (fun _ _ z => z) (f.gu.keepS S hs1)
    rw [h.uniq hk] at m
    obtain ⟨_, o2, e2, _⟩ := hs1.own_at a m
    rw [nw a o e z] at e2
    cases e2
  unfold thaw at t
  split at t
  · rename_i xs
    split at t
    · rename_i im
      cases t
      unfold Rep at r
      obtain ⟨p, vs, rfl, e, rs⟩ := r
      refine ⟨_, S2.putS (qs := [p]) (.own (hS _ _ e) (rs.imm hI im) (S.h0 (nw _ _ e imm_lst)) .nil) (by simp) (fun a m => ?_) (fun F' os h a m => ?_) i hi, sm⟩
      · simp at m; subst m; exact f2 _ _ e imm_lst
      · simp at m; subst m; exact os0 _ _ e imm_lst F' os h
    · cases t
  · rename_i c xs
    split at t
    · rename_i fs ht
      cases t
      unfold Rep at r
      obtain ⟨p, dx, vs, rfl, e, ⟨l, nr⟩, rs⟩ := r
      obtain ⟨qs, g1, g2, g3, g4, g5⟩ := thawFs_ok (H0 := ct.H0) hI hS ht rs
      have ni := ins_nimm (C := He.ga X.K c.nm) (dx := dx) (vs := vs) nr
      have all : ∀ a ∈ p :: qs, ∃ o, Fn a = some o ∧ ¬ ImmO o := fun a m => by
        rcases List.mem_cons.mp m with rfl | m
        · exact ⟨_, e, ni⟩
        · obtain ⟨ws, e2⟩ := g5 a m
          exact ⟨_, e2, imm_lst⟩
      have pq : p ∉ qs := fun m => by
        obtain ⟨ws, e2⟩ := g5 p m
        rw [e] at e2; cases e2
      have sl := Slots.obj (k := ⟨X.K, ct.pl⟩) (ex := ct.ex) (mu := ct.mu) (m := false) (hS _ _ e) g1 (by rw [g2]; exact l) nr (fun a m => by
        obtain ⟨o, e2, z⟩ := all a m
        exact S.h0 (nw a o e2 z)) nofun .nil
      rw [List.append_nil] at sl
      refine ⟨_, S2.putS (qs := p :: qs) sl (List.nodup_cons.mpr ⟨pq, g4⟩) (fun a m => ?_) (fun F' os h a m => ?_) i hi, sm⟩
      · obtain ⟨o, e2, z⟩ := all a m
        exact f2 a o e2 z
      · obtain ⟨o, e2, z⟩ := all a m
        exact os0 a o e2 z F' os h
    · cases t
  · cases t
def oneH (p : Addr) (o : HO) : Hp := fun a => if a = p then some o else none
theorem oneH_at {p : Addr} {o : HO} : oneH p o p = some o := if_pos rfl
theorem oneH_of {p a : Addr} {o u : HO} (h : oneH p o a = some u) : a = p ∧ u = o := by
  unfold oneH at h
  split at h
  · rename_i e
    cases h
    exact ⟨e, rfl⟩
  · cases h
theorem FVs.frozen {k : Kx} {F F' H H0 : Hp} {fs : List FV} {vs : List V} {qs : List Addr} (h : FVs k F H H0 fs vs qs) (s : Same F' H) (r : Reps k F' (fs.map FV.pv) vs) : ∀ q ∈ qs, F' q = H q := by
  induction h with
  | nil => intro q m; cases m
  | fr _ _ ih =>
    obtain ⟨v, ws, e, _, r2⟩ := r
    cases e
    exact ih r2
  | nw _ _ ih =>
    obtain ⟨v, ws, e, _, r2⟩ := r
    cases e
    exact ih r2
  | ow h1 _ _ ih =>
    obtain ⟨v, ws, e, r1, r2⟩ := r
    cases e
    have r1 : Rep k F' (.lst _) _ := r1
    unfold Rep at r1
    obtain ⟨a, us, e3, e4, _⟩ := r1
    cases e3
    intro q m
    cases m with
    | head => rw [e4, s _ _ e4]
    | tail _ m => exact ih r2 q m
/-- fields that can be given away: new, or never changed -/
theorem FVs.newr {k : Kx} {F H H0 FS : Hp} (sF : Same F FS) : ∀ {fs : List FV} {vs : List V} {qs : List Addr}, FVs k F H H0 fs vs qs → freshFVs fs = true → (∀ q ∈ qs, FS q = H q ∧ H0 q = none) → ∃ Fn, Same Fn FS ∧ (∀ a o, Fn a = some o → H0 a = none ∨ ImmO o) ∧ Reps k Fn (fs.map FV.pv) vs := by
  intro fs vs qs h
  induction h with
  | nil => intro _ _; exact ⟨fun _ => none, nofun, nofun, .nil⟩
  | @fr fs vs os x v h1 _ ih =>
    intro hf hq
    obtain ⟨m, hf⟩ := ifT_ok hf
    obtain ⟨Fa, a1, a2, a3⟩ := (newr_imm (H0 := H0) m h1).mono sF
    obtain ⟨Fb, b1, b2, b3⟩ := ih hf hq
    refine ⟨unionH Fa Fb, fun a o e => ?_, fun a o e => ?_, .cons (a3.mono unionH_l) (b3.mono (unionH_r a1 b1))⟩
    · exact (unionH_or e).elim (a1 a o) (b1 a o)
    · exact (unionH_or e).elim (a2 a o) (b2 a o)
  | @nw fs vs os x v h1 _ ih =>
    intro hf hq
    obtain ⟨m, hf⟩ := ifT_ok hf
    obtain ⟨Fa, a1, a2, a3⟩ := h1.mono sF
    obtain ⟨Fb, b1, b2, b3⟩ := ih hf hq
    refine ⟨unionH Fa Fb, fun a o e => ?_, fun a o e => ?_, .cons (a3.mono unionH_l) (b3.mono (unionH_r a1 b1))⟩
    · exact (unionH_or e).elim (a1 a o) (b1 a o)
    · exact (unionH_or e).elim (a2 a o) (b2 a o)
  | @ow fs vs os xs ws q h1 h2 _ ih =>
    intro hf hq
    obtain ⟨m, hf⟩ := ifT_ok hf
    obtain ⟨Fb, b1, b2, b3⟩ := ih hf fun q m => hq q (.tail _ m)
    obtain ⟨Fi, hF⟩ := imm_part F
    obtain ⟨q1, q2⟩ := hq q (.head _)
    have i1 : Same Fi FS := fun a o e => sF a o ((hF a o).mp e).1
    have sq : Same (oneH q (HO.lst ws)) FS := fun a o e => by
      obtain ⟨rfl, rfl⟩ := oneH_of e
      exact q1.trans h1
    have sA : Same (unionH (oneH q (HO.lst ws)) Fi) FS := fun a o e => (unionH_or e).elim (sq a o) (i1 a o)
    have ra : Rep k (unionH (oneH q (HO.lst ws)) Fi) (.lst xs) (.ref q) := ⟨q, ws, rfl, unionH_l q _ oneH_at, (h2.imm (Fi := Fi) (fun a o e i => (hF a o).mpr ⟨e, i⟩) m).mono (unionH_r sq i1)⟩
    refine ⟨unionH (unionH (oneH q (HO.lst ws)) Fi) Fb, fun a o e => ?_, fun a o e => ?_, .cons (ra.mono unionH_l) (b3.mono (unionH_r sA b1))⟩
    · exact (unionH_or e).elim (sA a o) (b1 a o)
    · rcases unionH_or e with y | y
      · rcases unionH_or y with y | y
        · obtain ⟨rfl, _⟩ := oneH_of y
          exact .inl q2
        · exact .inr ((hF a o).mp y).2
      · exact b2 a o y
/-- what is one's own, given away -/
theorem Stt.give {ct : Ct} {X : Cx} {F H : Hp} {ρ : Env} {σ : L2.St} (S : Stt X ct F ρ σ H) {i : Nat} {Q : PV → Prop} (h : retS ρ i Q) : ∃ v x F', σ[i]? = some (some v) ∧ Stt X ct F' (ρ.set i (some (.val x))) σ H ∧ Rep ⟨X.K, ct.pl⟩ F' x v ∧ NewR ⟨X.K, ct.pl⟩ F' ct.H0 x v ∧ Q x := by
  unfold retS at h
  rw [nth_eq] at h
  split at h
  · rename_i xs e
    obtain ⟨im, q⟩ := ifB_f h
    obtain ⟨p, vs, a1, S1, o1, rs⟩ := S.takeO e
    obtain ⟨S2, s2⟩ := S1.frzAt o1
    obtain ⟨Fi, hF⟩ := imm_part F
    have i1 : Same Fi F := fun a o e => ((hF a o).mp e).1
    have fp : Fi p = none := by
      cases z : Fi p with
      | none => rfl
      | some o => have := i1 p o z; rw [o1.f] at this; cases this
    have rp : Rep ⟨X.K, ct.pl⟩ (upd Fi p (.lst vs)) (.lst xs) (.ref p) := ⟨p, vs, rfl, upd_same, (rs.imm (Fi := Fi) (fun a o e i => (hF a o).mpr ⟨e, i⟩) im).mono (same_new fp)⟩
    have sm : Same (upd Fi p (.lst vs)) (upd F p (.lst vs)) := fun a o e => by
      by_cases z : a = p
      · subst z; rw [upd_same] at e ⊢; exact e
      · rw [upd_ne z] at e ⊢; exact i1 a o e
    have S3 := S2.set (x := .lst xs) (v := .ref p) (rp.mono sm) i
    rw [List.set_set, set_self a1] at S3
    refine ⟨.ref p, .lst xs, _, a1, S3, rp.mono sm, ⟨_, sm, fun a o e => ?_, rp⟩, q⟩
    by_cases z : a = p
    · subst z; exact .inl o1.h
    · rw [upd_ne z] at e; exact .inr ((hF a o).mp e).2
  · rename_i m c fs e
    cases m with
    | true => exact h.elim
    | false =>
      obtain ⟨ff, q⟩ := ifB_f (show ifB (freshFVs fs) (Q (.obj c (fs.map FV.pv))) False from h)
      obtain ⟨os, hs, nd, hf⟩ := S.slots
      obtain ⟨v, q1, q2, q3, e1, rfl, h1, h2⟩ := hs.split e
      cases h1 with
      | @obj _ _ _ qs _ _ _ vs p dx a b c1 d w h' h1 =>
        obtain ⟨p', F', a1, S1, s1, r1⟩ := S.frzObj e rfl
        rw [e1] at a1
        cases a1
        unfold Rep at r1
        obtain ⟨p'', dx', vs', er, e2, l2, rs2⟩ := r1
        cases er
        have eh := S1.sub _ _ e2
        rw [a] at eh
        injection eh with eh
        injection eh with _ edx ez
        have ev : vs' = vs := zip_inj (by rw [← rs2.len]; exact l2.1) (by rw [← b.len, ← rs2.len, List.length_map]) ez.symm
        subst ev
        subst edx
        -- the lists
        have hq : ∀ q ∈ qs, F' q = H q ∧ ct.H0 q = none := fun q m => by
          refine ⟨?_, w q (.tail _ m)⟩
          exact FVs.frozen b (S1.sub) rs2 q m
        obtain ⟨Fn, n1, n2, n3⟩ := b.newr s1 ff hq
        have sp : Same (oneH p (HO.ins (He.ga X.K c.nm) dx (c.fs.zip vs'))) F' := fun a o e => by
          obtain ⟨rfl, rfl⟩ := oneH_of e
          exact e2
        refine ⟨.ref p, _, F', e1, S1, ⟨p, dx, vs', rfl, e2, l2, rs2⟩, ⟨unionH (oneH p (HO.ins (He.ga X.K c.nm) dx (c.fs.zip vs'))) Fn, fun a o e => (unionH_or e).elim (sp a o) (n1 a o), fun a o e => ?_, ⟨p, dx, vs', rfl, unionH_l p _ oneH_at, l2, n3.mono (unionH_r sp n1)⟩⟩, q⟩
        rcases unionH_or e with y | y
        · obtain ⟨rfl, _⟩ := oneH_of y
          exact .inl (w _ (.head _))
        · exact n2 a o y
  · exact h.elim
section
variable {b : B6} {L : Lang} {N : List Str} {CL : List Cl} {G : List GK} {XL : List Cl} {fr : Bool} (hL : LOk b L CL) (hG : G = L.G.map (·.1)) (hX : ExOk b XL)
theorem frz_ok {ct : Ct} {X : Cx} {F H : Hp} {ρ : Env} {σ : L2.St} {i : Nat} {Q : Env → Prop} (S : Stt X ct F ρ σ H) (h : frzV ρ i Q) : ∃ ρ' F', Stt X ct F' ρ' σ H ∧ Same F F' ∧ Q ρ' := by
  unfold frzV at h
  rw [nth_eq] at h
  split at h
  · rename_i xs e
    obtain ⟨p, vs, a1, S1, o1, rs⟩ := S.takeO e
    obtain ⟨S2, s2⟩ := S1.frzAt o1
    have S3 := S2.set (x := .lst xs) (v := .ref p) ⟨p, vs, rfl, upd_same, rs.mono s2⟩ i
    rw [List.set_set, set_self a1] at S3
    rw [put_eq] at h
    exact ⟨_, _, S3, s2, h⟩
  · rename_i m c fs e
    obtain ⟨p, F1, a1, S1, s1, r1⟩ := S.frzObj e (by
      cases m
      · rfl
      · exact h.elim)
    have h : Q (put (some (.val (.obj c (fs.map FV.pv)))) ρ i) := by
      cases m
      · exact h
      · exact h.elim
    rw [put_eq] at h
    exact ⟨_, _, S1, s1, h⟩
  · exact h.elim
theorem getO_len {ρ : Env} {i : Nat} {x : SV} (h : ρ[i]? = some (some x)) : i < ρ.length := (List.getElem?_eq_some_iff.mp h).1
include hL hG
theorem ss_asg {t : Tgt} {e : CE} : SS b L N CL G XL fr (.asg t e) := by
  intro ct cm X all sc st hb C V m fre F ρ σ H D S hE h
  unfold mS at m
  split at m
  · simp only [Bool.and_eq_true] at m
    obtain ⟨⟨⟨⟨m1, m2⟩, m3⟩, m4⟩, m5⟩ := m
    rename_i tg v pos
    have nl : ∀ es p, tg ≠ Expr.List es p := fun es p z => by
      subst z
      cases t <;> (unfold mT at m4; split at m4 <;> first | (rename_i z; cases z) | cases m4)
    refine ws_asg (sole_no m2) (stores_no2 m3 nl) (by rw [asg_cons m1]; rfl) (We.up ((allE hL hG e).1 hb C m5 S (hE.eok ρ σ) h) ?_)
    rintro v H1 ⟨x, F1, S1, s1, r1, q1⟩
    refine Wg.imp ?_ (bT t C m4 [] S1 r1 q1)
    rintro σ' H' ⟨rfl, _, ρ', S', q'⟩
    exact ⟨ρ', F1, S', s1.s, q'⟩
  · cases m
theorem ss_own {i : Nat} {o : CO} : SS b L N CL G XL fr (.own i o) := by
  intro ct cm X all sc st hb C V m fre F ρ σ H D S hE h
  unfold mS at m
  split at m
  · simp only [Bool.and_eq_true, decide_eq_true_eq] at m
    obtain ⟨⟨⟨⟨⟨m1, m2⟩, m3⟩, m4⟩, m5⟩, m6⟩ := m
    obtain ⟨l1, l2⟩ := C.loc m2
    refine ws_asg (sole_no m4) (stores_no (by rw [m5]; simp) (fun es p z => by cases z)) rfl (We.up (allO hL hG o hb C m6 S (hE.eok ρ σ) h) ?_)
    rintro v H1 ⟨p, xs, vs, F1, rfl, S1, s1, hp, oo, r1, q1⟩
    refine wg_name (i := i) (by rw [C.n]; exact C.nd) (by rw [C.n]; exact m1) l1 l2 ?_
    obtain ⟨hi, q1⟩ := ifB_f q1
    rw [put_eq] at q1
    exact ⟨_, F1, S1.putO oo r1 i (Nat.blt_eq.mp hi), s1.s, q1⟩
  · cases m
theorem ss_ret {e : CE} : SS b L N CL G XL fr (.ret e) := by
  intro ct cm X all sc st hb C V m fre F ρ σ H D S hE h
  unfold mS at m
  split at m
  · cases fr with
    | false =>
      refine ws_ret (We.up ((allE hL hG e).1 hb C m S (hE.eok ρ σ) h) ?_)
      rintro v H1 ⟨x, F1, S1, s1, r1, q1⟩
      exact ⟨x, F1, ρ, σ, S1, r1, nofun, q1⟩
    | true =>
      refine ws_ret (We.up ((allE hL hG e).2.2 (fre rfl) hb C m S (hE.eok ρ σ) h) ?_)
      rintro v H1 ⟨x, F1, S1, s1, r1, n1, q1⟩
      exact ⟨x, F1, ρ, σ, S1, r1, fun _ => (n1 rfl).back fun a e => S.h0 e, q1⟩
  · cases m
theorem ss_retO {i : Nat} : SS b L N CL G XL fr (.retO i) := by
  intro ct cm X all sc st hb C V m fre F ρ σ H D S hE h
  unfold mS at m
  split at m
  · simp only [Bool.and_eq_true, decide_eq_true_eq] at m
    obtain ⟨⟨m1, m2⟩, m3⟩ := m
    obtain ⟨v, x, F', a1, S1, r1, n1, q⟩ := S.give (show retS ρ i (fun x => D.rt x (put (some (.val x)) ρ i)) from h)
    rw [put_eq] at q
    exact ws_ret (e_var C (by simp [m1, m2, m3]) a1 ⟨x, F', _, σ, S1, r1, fun _ => n1, q⟩)
  · cases m
theorem ss_retI {e : CE} : SS b L N CL G XL fr (.retI e) := by
  intro ct cm X all sc st hb C V m fre F ρ σ H D S hE h
  unfold mS at m
  split at m
  · refine ws_ret (We.up ((allE hL hG e).1 hb C m S (hE.eok ρ σ) h) ?_)
    rintro v H1 ⟨x, F1, S1, s1, r1, q1⟩
    obtain ⟨im, q1⟩ := ifB_f q1
    exact ⟨x, F1, ρ, σ, S1, r1, fun _ => newr_imm im r1, q1⟩
  · cases m
theorem ss_expr {e : CE} : SS b L N CL G XL fr (.expr e) := by
  intro ct cm X all sc st hb C V m fre F ρ σ H D S hE h
  unfold mS at m
  split at m
  · simp only [Bool.and_eq_true] at m
    refine ws_expr (sws_no m.1) (We.up ((allE hL hG e).1 hb C m.2 S (hE.eok ρ σ) h) ?_)
    rintro v H1 ⟨x, F1, S1, s1, r1, q1⟩
    exact ⟨ρ, F1, S1, s1.s, q1⟩
  · cases m
theorem ss_ite {c : CE} {x y : CSs} (ix : SB b L N CL G XL fr x) (iy : SB b L N CL G XL fr y) : SS b L N CL G XL fr (.ite c x y) := by
  intro ct cm X all sc st hb C V m fre F ρ σ H D S hE h
  unfold mS at m
  split at m
  · simp only [Bool.and_eq_true] at m
    refine ws_if (Wt.imp ?_ ((allE hL hG c).2.1 hb C m.1.1 S (hE.eok ρ σ) h))
    rintro k H1 ⟨F1, S1, s1, q1⟩
    exact ifB_mono q1 (fun q => Wb.up s1.s (ix hb C V m.1.2 (fun z => (ifT_ok (fre z)).1) S1 (hE.up s1.s) q)) fun q => Wb.up s1.s (iy hb C V m.2 (fun z => (ifT_ok (fre z)).2) S1 (hE.up s1.s) q)
  · cases m
theorem ss_for {t : Tgt} {it : CIt} {x : CSs} (ix : SB b L N CL G XL fr x) : SS b L N CL G XL fr (.for_ t it x) := by
  intro ct cm X all sc st hb C V m fre F ρ σ H D S hE h
  unfold mS at m
  split at m
  · simp only [Bool.and_eq_true] at m
    obtain ⟨⟨⟨⟨m1, m2⟩, m3⟩, m4⟩, m5⟩ := m
    obtain ⟨wi, hPI, hwi⟩ := allIt hL hG it hb C m4 S (hE.eok ρ σ) h
    have V1 := V m1
    refine ws_of (ps_for V1.pass V1.calm hPI Wg.pg Wb.pss (fun x => set_id m2 x)) ?_
    refine hwi _ fun J H1 F1 xs S1 s1 q1 hw => ?_
    refine for_it hw.w (fun i σ' H' => ∃ F' ρ', Stt X ct F' ρ' σ' H' ∧ Same F1 F' ∧ denFor (fun y ρ K => bindT t y ρ fun ρ => denB L x ρ { D with nx := K, ct := K, bk := D.nx }) (xs.drop i) ρ' D.nx) ⟨F1, ρ, S1, fun _ _ z => z, q1⟩ ?_ ?_ ?_
    · rintro i σ' H' hi ⟨F', ρ', S', s', q'⟩
      exact fun a o e => S'.sub _ _ (s' _ _ e)
    · rintro i v σ' Ha Hb hi ⟨F', ρ', S', s', q'⟩ ⟨y, ey, sab, yx⟩
      obtain ⟨F2, gr2, sub2, ry⟩ := yx F' s' S'.sub
      obtain ⟨S2, e2⟩ := S'.ext sab gr2 sub2
      have ed : xs.drop i = y :: xs.drop (i + 1) := by
        obtain ⟨l1, l2⟩ := List.getElem?_eq_some_iff.mp ey
        rw [List.drop_eq_getElem_cons l1, l2]
      rw [ed] at q'
      refine Wg.imp ?_ (bT t C m3 [] S2 ry q')
      rintro σ2 H2 ⟨rfl, _, ρ2, S3, q3⟩
      refine Wb.imp ?_ ?_ ?_ ?_ (ix (D := { D with nx := fun ρ => denFor (fun y ρ K => bindT t y ρ fun ρ => denB L x ρ { D with nx := K, ct := K, bk := D.nx }) (xs.drop (i + 1)) ρ D.nx, ct := fun ρ => denFor (fun y ρ K => bindT t y ρ fun ρ => denB L x ρ { D with nx := K, ct := K, bk := D.nx }) (xs.drop (i + 1)) ρ D.nx, bk := D.nx }) hb C V m5 fre S3 (hE.up (Same.trans' s1.s (Same.trans' s' e2.s))) q3)
      · rintro σ3 H3 ⟨ρ3, F3, S4, s4, q4⟩
        exact ⟨F3, ρ3, S4, Same.trans' (Same.trans' s' e2.s) s4, q4⟩
      · rintro w H3 ⟨x, F3, a1, a2, a3, a4⟩
        exact ⟨x, F3, a1, a2, a3, a4⟩
      · rintro σ3 H3 ⟨ρ3, F3, S4, s4, q4⟩
        exact ⟨ρ3, F3, S4, Same.trans' s1.s (Same.trans' (Same.trans' s' e2.s) s4), q4⟩
      · rintro σ3 H3 ⟨ρ3, F3, S4, s4, q4⟩
        exact ⟨F3, ρ3, S4, Same.trans' (Same.trans' s' e2.s) s4, q4⟩
    · rintro σ' H' ⟨F', ρ', S', s', q'⟩
      rw [List.drop_length] at q'
      exact ⟨ρ', F', S', Same.trans' s1.s s', q'⟩
  · cases m
theorem ss_while {c : CE} {x : CSs} (ix : SB b L N CL G XL fr x) : SS b L N CL G XL fr (.while_ c x) := by
  intro ct cm X all sc st hb C V m fre F ρ σ H D S hE h
  unfold mS at m
  split at m
  · simp only [Bool.and_eq_true] at m
    obtain ⟨⟨m1, m2⟩, m3⟩ := m
    obtain ⟨W, ⟨m0, w0⟩, hW⟩ := h
    refine ws_while (V m1) (fun n σ' H' => ∃ F' ρ', Stt X ct F' ρ' σ' H' ∧ Same F F' ∧ W n ρ') m0 ⟨F, ρ, S, fun _ _ z => z, w0⟩ ?_
    rintro n σ' H' ⟨F', ρ', S', s', w'⟩
    refine Wt.imp ?_ ((allE hL hG c).2.1 hb C m2 S' ((hE.up s').eok ρ' σ') (hW n ρ' w'))
    rintro k H1 ⟨F1, S1, s1, q1⟩
    refine ifB_mono q1 (fun q => ?_) fun q => ⟨ρ', F1, S1, Same.trans' s' s1.s, q⟩
    refine Wb.imp ?_ ?_ ?_ ?_ (ix (D := { D with nx := fun ρ => ∃ m', m' < n ∧ W m' ρ, ct := fun ρ => ∃ m', m' < n ∧ W m' ρ, bk := D.nx }) hb C V m3 fre S1 (hE.up (Same.trans' s' s1.s)) q)
    · rintro σ3 H3 ⟨ρ3, F3, S4, s4, n2, l, q4⟩
      exact ⟨n2, l, F3, ρ3, S4, Same.trans' (Same.trans' s' s1.s) s4, q4⟩
    · rintro w H3 q
      exact q
    · rintro σ3 H3 ⟨ρ3, F3, S4, s4, q4⟩
      exact ⟨ρ3, F3, S4, Same.trans' (Same.trans' s' s1.s) s4, q4⟩
    · rintro σ3 H3 ⟨ρ3, F3, S4, s4, n2, l, q4⟩
      exact ⟨n2, l, F3, ρ3, S4, Same.trans' (Same.trans' s' s1.s) s4, q4⟩
  · cases m
theorem ss_seto {i : Nat} {k v : CE} : SS b L N CL G XL fr (.seto i k v) := by
  intro ct cm X all sc st hb C V m fre F ρ σ H D S hE h
  unfold mS at m
  split at m
  · simp only [Bool.and_eq_true, decide_eq_true_eq] at m
    obtain ⟨⟨⟨⟨⟨⟨m1, m2⟩, m3⟩, m4⟩, m5⟩, m6⟩, m7⟩ := m
    obtain ⟨xs, e1, q0⟩ := getO_ok h
    refine ws_asg (sole_no m5) (by rfl) rfl (We.up ((allE hL hG v).1 hb C m7 S (hE.eok ρ σ) q0) ?_)
    rintro u H1 ⟨x, F1, S1, s1, r1, q1⟩
    obtain ⟨p, vs, a1, S1', o1, rs1⟩ := S1.takeO e1
    refine wg_sub (sub_plain m4) (e_var C (by simp [m1, m2, m3]) a1 (We.up ((allE hL hG k).1 hb C m6 S1 ((hE.eok ρ σ).up s1) q1) ?_))
    rintro w H2 ⟨y, F2, S2, s2, r2, q2⟩
    obtain ⟨n, rfl, q2'⟩ := asI_ok q2
    cases r2
    obtain ⟨p', vs', a2, S2', o2, rs2⟩ := S2.takeO e1
    rw [a1] at a2
    cases a2
    obtain ⟨j, rfl, hj, q3⟩ := setP_ok q2'
    obtain ⟨S3, o3⟩ := S2'.updAt (ws := vs'.set j u) o2
    refine st_l o2.at_ (j := j) ?_ ?_
    · unfold ixN
      rw [if_pos (by omega), if_pos (by rw [← rs2.len]; omega)]
      rfl
    · have S4 := S3.putO o3 (rs2.set (r1.mono s2.s) j) i (by rw [List.length_set]; exact getO_len e1)
      rw [List.set_set, set_self a1] at S4
      rw [put_eq, put_eq] at q3
      exact ⟨_, F2, S4, (s1.trans s2).s, q3⟩
  · cases m
theorem ss_app {i : Nat} {e : CE} : SS b L N CL G XL fr (.app i e) := by
  intro ct cm X all sc st hb C V m fre F ρ σ H D S hE h
  unfold mS at m
  split at m
  · rename_i x px mm ap y pp sp
    simp only [Bool.and_eq_true, decide_eq_true_eq] at m
    obtain ⟨⟨⟨⟨⟨⟨m1, m2⟩, m3⟩, rfl⟩, m5⟩, m6⟩, m7⟩ := m
    obtain ⟨xs, e1, q0⟩ := getO_ok h
    obtain ⟨p, vs, a1, S1', o1, rs1⟩ := S.takeO e1
    refine ws_expr (by rfl) (we_append (by rfl) ?_ m6 (star_cons m5) rfl (e_var C (by simp [m1, m2, m3]) a1 ⟨p, vs, rfl, o1.at_, We.up ((allE hL hG e).1 hb C m7 S (hE.eok ρ σ) q0) ?_⟩))
    · rw [star_cons m5]; rfl
    rintro u H1 ⟨x, F1, S1, s1, r1, sm, q1⟩
    obtain ⟨p', vs', a2, S2', o2, rs2⟩ := S1.takeO e1
    rw [a1] at a2
    cases a2
    obtain ⟨S3, o3⟩ := S2'.updAt (ws := vs' ++ [u]) o2
    refine ⟨vs', o2.at_, sizeOk' (by have : xs.length + 1 ≤ 100000 := sm; rw [← rs2.len]; omega), ?_⟩
    have S4 := S3.putO o3 (rs2.append (.cons r1 .nil)) i (by rw [List.length_set]; exact getO_len e1)
    rw [List.set_set, set_self a1] at S4
    rw [put_eq] at q1
    exact ⟨_, F1, S4, s1.s, q1⟩
  · cases m
theorem ss_raise (hX : ExOk b XL) {c : Cl} : SS b L N CL G XL fr (.raise_ c) := by
  intro ct cm X all sc st hb C V m fre F ρ σ H D S hE h
  unfold mS at m
  split at m
  · simp only [Bool.and_eq_true, decide_eq_true_eq] at m
    obtain ⟨⟨⟨m1, m2⟩, rfl⟩, m4⟩ := m
    have hX2 : ExOk (b6 X) XL := hb ▸ hX
    obtain ⟨g1, g2, g3⟩ := C.gl m4
    obtain ⟨f1, f2, f3, f4, f5⟩ := hX2 c m2
    exact ws_raiseT (V m1) PySem.F.excBase_ValueError f2 f1 f3 (raises_own f4 f5) g1 g2 (hE ⟨c, []⟩ ρ F σ H none S (fun _ _ z => z) rfl h)
  · cases m
theorem ss_pass : SS b L N CL G XL fr .pass := by
  intro ct cm X all sc st hb C V m fre F ρ σ H D S hE h
  unfold mS at m
  split at m
  · exact ws_pass ⟨ρ, F, S, fun _ _ z => z, h⟩
  · cases m
theorem ss_brk : SS b L N CL G XL fr .brk := by
  intro ct cm X all sc st hb C V m fre F ρ σ H D S hE h
  unfold mS at m
  split at m
  · exact ws_break ⟨ρ, F, S, fun _ _ z => z, h⟩
  · cases m
theorem ss_cont : SS b L N CL G XL fr .cont := by
  intro ct cm X all sc st hb C V m fre F ρ σ H D S hE h
  unfold mS at m
  split at m
  · exact ws_continue ⟨ρ, F, S, fun _ _ z => z, h⟩
  · cases m
theorem ss_doc : SS b L N CL G XL fr .doc := by
  intro ct cm X all sc st hb C V m fre F ρ σ H D S hE h
  unfold mS at m
  split at m
  · exact ws_doc ⟨ρ, F, S, fun _ _ z => z, h⟩
  · cases m
theorem ss_retN : SS b L N CL G XL fr .retN := by
  intro ct cm X all sc st hb C V m fre F ρ σ H D S hE h
  unfold mS at m
  split at m
  · exact ws_retN ⟨.non, F, ρ, σ, S, rfl, fun _ => newr_imm rfl rfl, h⟩
  · cases m
theorem ss_aug {i : Nat} {op : Operator} {e : CE} : SS b L N CL G XL fr (.aug i op e) := by
  intro ct cm X all sc st hb C V m fre F ρ σ H D S hE h
  unfold mS at m
  split at m
  · simp only [Bool.and_eq_true, decide_eq_true_eq] at m
    obtain ⟨⟨⟨⟨rfl, m1⟩, m2⟩, m3⟩, m4⟩ := m
    obtain ⟨l1, l2⟩ := C.loc m2
    obtain ⟨x, e1, q1⟩ := getV_ok h
    obtain ⟨v, e2, r⟩ := S.get e1
    refine ws_augW (by rw [C.n]; exact C.nd) (by rw [C.n]; exact m1) l1 l2 ⟨v, e2, We.up ((allE hL hG e).1 hb C m4 S (hE.eok ρ σ) q1) ?_⟩
    rintro u H1 ⟨y, F1, S1, s1, r1, q2⟩
    refine Wo.imp ?_ (hL.opP (.ipl op) X hb ct F1 ρ σ H1 [x, y] [v, u] _ _ S1 (.cons (r.mono s1.s) (.cons r1 .nil)) q2 ((hE.eok ρ σ).up s1))
    rintro w H2 ⟨z, F2, S2, s2, r2, q3⟩
    rw [put_eq] at q3
    exact ⟨_, F2, S2.set r2 i, (s1.trans s2).s, q3⟩
  · cases m
theorem ss_par {i j : Nat} {x y : CE} : SS b L N CL G XL fr (.par i j x y) := by
  intro ct cm X all sc st hb C V m fre F ρ σ H D S hE h
  unfold mS at m
  split at m
  · simp only [Bool.and_eq_true, decide_eq_true_eq, Bool.not_eq_true'] at m
    obtain ⟨⟨⟨⟨⟨⟨⟨⟨⟨⟨⟨⟨⟨⟨⟨⟨m1, m2⟩, m3⟩, m4⟩, m5⟩, m6⟩, m7⟩, m8⟩, m9⟩, m10⟩, m11⟩, m12⟩, m13⟩, m14⟩, m15⟩, m16⟩, m17⟩ := m
    rename_i nx px ny py kt pt u v k2 pt2 pos
    have hsc := C.sc
    refine ws_of (ps_par (ta := Wa X [u, v]) (C.cm m1) (by rw [C.n]; exact C.nd) (by rw [C.n]; exact m2) (by rw [C.n]; exact m3) m4 (by rw [hsc]; exact m6) (by rw [hsc]; exact m7) Wa.pa ?_ rfl) ?_
    · exact par_stores (by rw [hsc]; exact m6) (by rw [hsc]; exact m7) (by rw [hsc]; exact m15) m5 m8 m11 m12 m13 m14
    · refine wa_cons (star_cons m11) (We.up ((allE hL hG x).1 hb C m16 S (hE.eok ρ σ) h) ?_)
      rintro w H1 ⟨a, F1, S1, s1, r1, q1⟩
      refine wa_cons (star_cons m12) (We.up ((allE hL hG y).1 hb C m17 S1 ((hE.eok ρ σ).up s1) q1) ?_)
      rintro w2 H2 ⟨c, F2, S2, s2, r2, q2⟩
      rw [put_eq, put_eq] at q2
      exact wa_nil ⟨w, w2, rfl, _, F2, (S2.set (r1.mono s2.s) i).set r2 j, (s1.trans s2).s, q2⟩
  · cases m
theorem compC_ok {t it cs el own} {ct : Ct} {cm : Bool} {X : Cx} {all : Bool} {sc scope : Scope} {elt : Expr} {gs : List Comprehension} {pos : Pos} (hb : b6 X = b) (C : Cok X N cm all sc ct.ex) (m : mO N G CL cm sc (.comp t it cs el own) (.ListComp elt gs scope pos) = true) {F : Hp} {ρ : Env} {σ : L2.St} {H : Hp} {Q : List PV → Prop} {E : KE} (S : Stt X ct F ρ σ H) (hE : Eok X ct F ρ σ E) (h : denO L (.comp t it cs el own) ρ Q E) :
    ∃ tg iter ifs own wi, gs = [⟨tg, iter, ifs, 0⟩] ∧ PI X tg iter wi ∧ X.calm = true ∧ BlkOk X.N X.env.scope scope own ∧ noSet iter = true ∧ ∀ Q' : VK, (∀ v H', PostO X ct F H ρ σ Q v H' → Q' v H') → tLc wi (gB X scope tg) (condTT X scope ifs) (eB X scope elt) (own.map (·.2)) σ H Q' := by
  have m9 := m
  unfold mO at m
  split at m
  · rename_i z1 elt2 tg iter ifs a scope2 pos2 heq
    injection heq with z1 z2 z3 z4
    subst z1 z2 z3 z4
    obtain ⟨wi, hPI, rfl, hc, bo, ns, hd⟩ := comp_ok hL hG (allIt hL hG it) (allC hL hG cs).2.2.2.2.2.1 (allE hL hG el).1 hb C m9 S hE h
    exact ⟨tg, iter, ifs, own, wi, rfl, hPI, hc, bo, ns, hd⟩
  · cases m
theorem compO_ok (o : CO) {ct : Ct} {cm : Bool} {X : Cx} {all : Bool} {sc scope : Scope} {elt : Expr} {gs : List Comprehension} {pos : Pos} (hb : b6 X = b) (C : Cok X N cm all sc ct.ex) (m : mO N G CL cm sc o (.ListComp elt gs scope pos) = true) {F : Hp} {ρ : Env} {σ : L2.St} {H : Hp} {Q : List PV → Prop} {E : KE} (S : Stt X ct F ρ σ H) (hE : Eok X ct F ρ σ E) (h : denO L o ρ Q E) (ic : isComp o = true) :
    ∃ tg iter ifs own wi, gs = [⟨tg, iter, ifs, 0⟩] ∧ PI X tg iter wi ∧ X.calm = true ∧ BlkOk X.N X.env.scope scope own ∧ noSet iter = true ∧ ∀ Q' : VK, (∀ v H', PostO X ct F H ρ σ Q v H' → Q' v H') → tLc wi (gB X scope tg) (condTT X scope ifs) (eB X scope elt) (own.map (·.2)) σ H Q' := by
  cases o with
  | comp t it cs el own => exact compC_ok hL hG hb C m S hE h
  | snapO o =>
    cases o with
    | comp t it cs el own =>
      unfold mO at m
      unfold denO at h
      obtain ⟨FS, s1, s2, SS⟩ := S.snap
      obtain ⟨tg, iter, ifs, own, wi, e, hPI, hc, bo, ns, hd⟩ := compC_ok hL hG (ct := ctS ct H FS) hb C m SS (hE.snap S s1 s2) h
      exact ⟨tg, iter, ifs, own, wi, e, hPI, hc, bo, ns, fun Q' k => hd Q' fun v H' q => k v H' (q.unsnap S s1 s2)⟩
    | _ => cases ic
  | _ => cases ic
theorem ss_ownC {i : Nat} {o : CO} : SS b L N CL G XL fr (.ownC i o) := by
  intro ct cm X all sc st hb C V m fre F ρ σ H D S hE h
  unfold mS at m
  split at m
  · simp only [Bool.and_eq_true, decide_eq_true_eq, Bool.not_eq_true'] at m
    obtain ⟨⟨⟨⟨⟨⟨⟨m1, m2⟩, m3⟩, m4⟩, m5⟩, m6⟩, m7⟩, m8⟩ := m
    rename_i x px elt gs scope lp sp
    obtain ⟨tg, iter, ifs, own, wi, rfl, hPI, hc, bo, ns, hd⟩ := compO_ok hL hG o hb C m8 S (hE.eok ρ σ) h m7
    have hsc := C.sc
    refine ws_of (ps_setLc (i := i) (g := gB X _ _) (tt := condTT X _ _) (te := eB X _ _) hc (by rw [C.n]; exact C.nd) (by rw [C.n]; exact m1) (by rw [hsc]; exact m2) (sw_true (by rw [hsc]; exact m4) (by rw [hsc]; exact m2) m5 m6) hPI bo (fun _ _ _ _ _ => gB.pg) (fun _ _ _ _ _ => condPT) (fun _ _ _ _ _ => eB.pe) (fun x => set_id ns x)) ?_
    refine hd _ ?_
    rintro v H1 ⟨p, xs, vs, F1, rfl, S1, s1, hp, oo, r1, q1⟩
    obtain ⟨hi, q1⟩ := ifB_f q1
    rw [put_eq] at q1
    exact ⟨_, F1, S1.putO oo r1 i (Nat.blt_eq.mp hi), s1.s, q1⟩
  · cases m
theorem ss_ownE {i : Nat} {e : CE} : SS b L N CL G XL fr (.ownE i e) := by
  intro ct cm X all sc st hb C V m fre F ρ σ H D S hE h
  unfold mS at m
  unfold denS at h
  obtain ⟨fr1, h⟩ := ifB_f h
  split at m
  · simp only [Bool.and_eq_true, decide_eq_true_eq] at m
    obtain ⟨⟨⟨⟨⟨m1, m2⟩, m3⟩, m4⟩, m5⟩, m6⟩ := m
    obtain ⟨l1, l2⟩ := C.loc m2
    refine ws_asg (sole_no m4) (stores_no (by rw [m5]; simp) (fun es p z => by cases z)) rfl (We.up ((allE hL hG e).2.2 fr1 hb C m6 S (hE.eok ρ σ) h) ?_)
    rintro v H1 ⟨x, F1, S1, s1, r1, n1, q1⟩
    refine wg_name (i := i) (by rw [C.n]; exact C.nd) (by rw [C.n]; exact m1) l1 l2 ?_
    unfold optS at q1
    split at q1
    · rename_i sv ht
      obtain ⟨hi, q1⟩ := ifB_f q1
      rw [put_eq] at q1
      obtain ⟨F2, S2, s2⟩ := S.thawT S1 s1 (n1 rfl) ht i (Nat.blt_eq.mp hi)
      exact ⟨_, F2, S2, s2, q1⟩
    · exact q1.elim
  · cases m
theorem ss_try (hX : ExOk b XL) {x : CSs} {c : Cl} {i : Nat} {y : CSs} (ix : SB b L N CL G XL fr x) (iy : ∀ b L G, LOk b L CL → G = L.G.map (·.1) → ExOk b XL → SB b L N CL G XL fr y) : SS b L N CL G XL fr (.tryX x c i y) := by
  intro ct cm X all sc st hb C V m fre F ρ σ H D S hE h
  unfold mS at m
  split at m
  · rename_i body cx cp n b0 suite hp sp
    simp only [Bool.and_eq_true, decide_eq_true_eq] at m
    obtain ⟨⟨⟨⟨⟨⟨⟨m0, m1⟩, rfl⟩, m3⟩, m4⟩, m5⟩, m6⟩, m7⟩ := m
    have hL2 : LOk (b6 X) L CL := hb ▸ hL
    have V1 := V m0
    have ex0 : ct.ex = none := C.cx m0
    obtain ⟨g1, g2, g3⟩ := C.gl m3
    refine ws_try V1 (by rw [C.n]; exact C.nd) (by rw [C.n]; exact m4) (by show X.env.scope.names.lookup n = _; rw [C.sc]; exact m5) ⟨g1, g2, .inl (hL2.cl c m1)⟩ fun pn xe hq ho => ?_
    have C' : Cok (X.tr pn xe) N cm all sc ct.ex := ⟨C.n, C.nd, C.sc, C.fn, C.cx, fun a e z => (by rw [ex0] at z; cases z), C.cm⟩
    have V' : cm = true → Env1 (X.tr pn xe) := fun _ => ⟨V1.calm, V1.stk, V1.fr, ho⟩
    have S' : Stt (X.tr pn xe) ct F ρ σ H := S.cast rfl
    have hb' : b6 (X.tr pn xe) = b := hb
    refine Wb.imp (D := lift fr (X.tr pn xe) ct F { D with ex := fun e ρ' => ifB (pairIn L.X e.c c) (ifB (subE e.c c) (denB L.hot y (put (some (.exc e)) ρ' i) { nx := fun ρ => D.nx (put none (noX ρ) i), rt := fun x ρ => D.rt x (noX ρ), bk := fun ρ => D.bk (put none (noX ρ) i), ct := fun ρ => D.ct (put none (noX ρ) i), ex := fun _ _ => False }) (D.ex e ρ')) False }) ?_ ?_ ?_ ?_ (ix hb' C' V' m6 (fun z => (ifT_ok (fre z)).1) S' ?_ h)
    · rintro σ' H' ⟨ρ', F', S2, s2, q⟩
      exact ⟨ρ', F', S2.cast rfl, s2, q⟩
    · rintro v H' ⟨x, F', ρ', σ', S2, r2, n2, q⟩
      exact ⟨x, F', ρ', σ', S2.cast rfl, r2, n2, q⟩
    · rintro σ' H' ⟨ρ', F', S2, s2, q⟩
      exact ⟨ρ', F', S2.cast rfl, s2, q⟩
    · rintro σ' H' ⟨ρ', F', S2, s2, q⟩
      exact ⟨ρ', F', S2.cast rfl, s2, q⟩
    · intro e ρ' F' σ' H' d S2 sF xd q
      obtain ⟨pi, q⟩ := ifB_f q
      have S3 : Stt X ct F' ρ' σ' H' := S2.cast rfl
      refine hq _ _ _ _ ⟨subE e.c c, hL2.x _ (pairIn_mem pi), fun z a ha => ?_, fun z => ?_⟩
      · rw [z] at q
        intro oe pn2 hz hf
        have q : denB L.hot y (put (some (.exc e)) ρ' i) _ := q
        rw [put_eq] at q
        have C2 : Cok (X.suite a ((a, oe) :: pn2)) N false all sc (some (a, e)) := ⟨C.n, C.nd, C.sc, C.fn, fun z => (by cases z), fun a' e' z => (by
          cases z
          refine ⟨X, oe, pn2, d, rfl, hz, fun ed => ?_, hf⟩
          unfold XData at xd
          rw [ed] at xd
          exact xd), fun z => (by cases z)⟩
        have S4 : Stt (X.suite a ((a, oe) :: pn2)) { ct with ex := some (a, e) } F' ρ' σ' H' := (S3.anyX ex0 _).cast rfl
        have S5 := S4.put0 (o := some (.exc e)) (v := some (.ref a)) (.exc rfl .nil) i
        refine Wb.imp ?_ ?_ ?_ ?_ (iy (b6 (X.suite a ((a, oe) :: pn2))) L.hot G (hL2.hot _) (by rw [hG]; unfold Lang.hot; simp [Function.comp_def]) (by have h2 : ExOk (b6 X) XL := hb ▸ hX; exact h2) (ct := { ct with ex := some (a, e) }) (cm := false) (X := X.suite a ((a, oe) :: pn2)) rfl C2 (fun z => (by cases z)) m7 (fun z => (ifT_ok (fre z)).2) S5 (by intro _ _ _ _ _ _ _ _ _ z; exact z.elim) q)
        · rintro σ2 H2 ⟨ρ2, F2, S6, s6, q6⟩
          have q6 : D.nx (put none (noX ρ2) i) := q6
          rw [put_eq] at q6
          exact ⟨_, F2, ((S6.noX ct.ex).cast (X' := X) rfl).wipe1 none i, Same.trans' sF s6, q6⟩
        · rintro v H2 ⟨x, F2, ρ2, σ2, S6, r6, n6, q6⟩
          exact ⟨x, F2, _, σ2, (S6.noX ct.ex).cast (X' := X) rfl, r6, n6, q6⟩
        · rintro σ2 H2 ⟨ρ2, F2, S6, s6, q6⟩
          have q6 : D.bk (put none (noX ρ2) i) := q6
          rw [put_eq] at q6
          exact ⟨_, F2, ((S6.noX ct.ex).cast (X' := X) rfl).wipe1 none i, Same.trans' sF s6, q6⟩
        · rintro σ2 H2 ⟨ρ2, F2, S6, s6, q6⟩
          have q6 : D.ct (put none (noX ρ2) i) := q6
          rw [put_eq] at q6
          exact ⟨_, F2, ((S6.noX ct.ex).cast (X' := X) rfl).wipe1 none i, Same.trans' sF s6, q6⟩
      · rw [z] at q
        exact hE e ρ' F' σ' H' d S3 sF xd q
  · cases m
theorem sb_nil : SB b L N CL G XL fr .nil := by
  intro ct cm X all sc body hb C V m fre F ρ σ H D S hE h
  unfold mB at m
  split at m
  · exact wb_nil ⟨ρ, F, S, fun _ _ z => z, h⟩
  · cases m
theorem sb_cons {s : CS} {cs : CSs} (is : (∀ i, s ≠ .frz i) → SS b L N CL G XL fr s) (ic : SB b L N CL G XL fr cs) : SB b L N CL G XL fr (.cons s cs) := by
  intro ct cm X all sc body hb C V m fre F ρ σ H D S hE h
  by_cases hf : ∃ i, s = .frz i
  · obtain ⟨i, rfl⟩ := hf
    unfold mB at m
    obtain ⟨ρ', F', S', s', q⟩ := frz_ok S h
    exact Wb.up s' (ic hb C V m (fun z => (ifT_ok (fre z)).2) S' (hE.up s') q)
  · have ne : ∀ i, s ≠ .frz i := fun i z => hf ⟨i, z⟩
    cases body with
    | nil => cases s <;> first | exact absurd rfl (ne _) | (simp [mB] at m)
    | cons st rest =>
      have m2 : (mS N G CL XL cm all sc s st && mB N G CL XL cm all sc cs rest) = true := by
        cases s <;> first | exact m | exact absurd rfl (ne _)
      simp only [Bool.and_eq_true] at m2
      refine wb_cons (Ws.imp (D := lift fr X ct F { D with nx := fun ρ => denB L cs ρ D }) ?_ (fun _ _ q => q) (fun _ _ q => q) (fun _ _ q => q) (is ne (D := { D with nx := fun ρ => denB L cs ρ D }) hb C V m2.1 (fun z => (ifT_ok (fre z)).1) S hE h))
      rintro σ' H' ⟨ρ', F', S', s', q'⟩
      exact Wb.up s' (ic hb C V m2.2 (fun z => (ifT_ok (fre z)).2) S' (hE.up s') q')
end
end Pu

/-! PJ: blocks as a whole; a def's entry; a def's call. -/
namespace Pu
open PySem PySem.Spec PyProof.Rows L2 Ni
theorem allB {N : List Str} {CL XL : List Cl} {fr : Bool} (c : CSs) : ∀ (b : B6) (L : Lang) (G : List GK), LOk b L CL → G = L.G.map (·.1) → ExOk b XL → SB b L N CL G XL fr c :=
  CSs.rec (motive_1 := fun s => (∀ i, s ≠ .frz i) → ∀ (b : B6) (L : Lang) (G : List GK), LOk b L CL → G = L.G.map (·.1) → ExOk b XL → SS b L N CL G XL fr s) (motive_2 := fun cs => ∀ (b : B6) (L : Lang) (G : List GK), LOk b L CL → G = L.G.map (·.1) → ExOk b XL → SB b L N CL G XL fr cs)
    (fun _ _ _ _ _ _ hL hG hX => ss_asg hL hG)
    (fun _ _ _ _ _ _ hL hG hX => ss_own hL hG)
    (fun i h => absurd rfl (h i))
    (fun _ _ _ _ _ _ _ hL hG hX => ss_seto hL hG)
    (fun _ _ _ _ _ _ hL hG hX => ss_app hL hG)
    (fun _ _ _ _ _ _ _ _ hL hG hX => by intro ct cm X all sc st hb C V m; unfold mS at m; cases m)
    (fun _ _ _ _ _ _ _ _ hL hG hX => by intro ct cm X all sc st hb C V m; unfold mS at m; cases m)
    (fun _ _ _ _ _ _ hL hG hX => ss_ownE hL hG)
    (fun _ _ _ _ _ hL hG hX => ss_retI hL hG)
    (fun _ _ _ _ _ hL hG hX => ss_retO hL hG)
    (fun _ _ _ _ _ _ _ _ hL hG hX => by intro ct cm X all sc st hb C V m; unfold mS at m; split at m <;> cases m)
    (fun _ _ _ _ _ _ hL hG hX => ss_ownC hL hG)
    (fun _ _ _ _ _ _ _ _ hL hG hX => ss_par hL hG)
    (fun _ _ _ _ _ _ _ hL hG hX => ss_aug hL hG)
    (fun _ _ _ _ _ hL hG hX => ss_ret hL hG)
    (fun _ _ _ _ hL hG hX => ss_retN hL hG)
    (fun _ _ _ _ hL hG hX => ss_pass hL hG)
    (fun _ _ _ _ hL hG hX => ss_brk hL hG)
    (fun _ _ _ _ hL hG hX => ss_cont hL hG)
    (fun _ _ _ _ hL hG hX => ss_doc hL hG)
    (fun _ _ _ _ _ hL hG hX => ss_expr hL hG)
    (fun _ _ _ ia ib _ b L G hL hG hX => ss_ite hL hG (ia b L G hL hG hX) (ib b L G hL hG hX))
    (fun _ _ _ ib _ b L G hL hG hX => ss_for hL hG (ib b L G hL hG hX))
    (fun _ _ ib _ b L G hL hG hX => ss_while hL hG (ib b L G hL hG hX))
    (fun _ _ _ _ _ hL hG hX => ss_raise hL hG hX)
    (fun _ _ _ _ _ _ hL hG hX => by intro ct cm X all sc st hb C V m; unfold mS at m; cases m)
    (fun _ _ _ _ ia ib _ b L G hL hG hX => ss_try hL hG hX (ia b L G hL hG hX) ib)
    (fun _ _ _ _ _ _ _ _ hL hG hX => by intro ct cm X all sc st hb C V m; unfold mS at m; cases m)
    (fun _ _ _ hL hG hX => sb_nil hL hG)
    (fun s cs is ic b L G hL hG hX => sb_cons hL hG (fun h => is h b L G hL hG hX) (ic b L G hL hG hX)) c
def PoolAt (pl : Option (Addr × Addr)) (F H : Hp) : Prop := ∀ P s, pl = some (P, s) → F P = none ∧ PoolS H P s
def XDK (k : Kx) (F H : Hp) (e : Exc) (d : Option Addr) : Prop := match e.d with
  | [] => d = none
  | _ :: _ => ∃ a vs, d = some a ∧ H a = some (.xd (e.c.fs.zip vs)) ∧ Reps k F e.d vs
/-- a promise over values, told of a heap -/
def lowSp (K : PySem.W.Frag) (sp : PSpec) : Sp := fun vs H Q E => ∃ pl F xs, Same F H ∧ PoolAt pl F H ∧ Reps ⟨K, pl⟩ F xs vs ∧
  sp.run xs (fun y => ∀ v H' F', Fwd pl F H F' H' → Same F' H' → Rep ⟨K, pl⟩ F' y v → (sp.fresh = true → NewR ⟨K, pl⟩ F' H y v) → Q v H') fun e => ∀ d H' F', Fwd pl F H F' H' → Same F' H' → XDK ⟨K, pl⟩ F' H' e d → E (.ref (He.ga K e.c.nm)) d H'
def startE (n : Nat) (xs : List PV) : Env := xs.map (fun x => some (.val x)) ++ List.replicate (n - xs.length) none
theorem Slots.frees {k : Kx} {F H H0 : Hp} {mu : List Addr} {ex : Option (Addr × Exc)} : ∀ n, Slots k F H H0 mu ex (List.replicate n none) (List.replicate n none) []
  | 0 => .nil
  | n + 1 => by
    rw [List.replicate_succ, List.replicate_succ]
    exact .free (Slots.frees n)
theorem Slots.start {k : Kx} {F H H0 : Hp} {mu : List Addr} {ex : Option (Addr × Exc)} : ∀ {xs : List PV} {vs : List V} {n : Nat}, Reps k F xs vs → Slots k F H H0 mu ex (xs.map (fun x => some (.val x)) ++ List.replicate n none) (vs.map some ++ List.replicate n none) []
  | [], _, n, h => by cases h; exact Slots.frees n
  | x :: xs, _, n, h => by
    obtain ⟨v, ws, rfl, h1, h2⟩ := h
    exact .val h1 (Slots.start h2)
abbrev ct0 (pl : Option (Addr × Addr)) (H F : Hp) : Ct := ⟨pl, [], none, H, F⟩
theorem Stt.start {X : Cx} {pl : Option (Addr × Addr)} {F H : Hp} {N : List Str} {xs : List PV} {vs : List V} (sub : Same F H) (p : PoolAt pl F H) (r : Reps ⟨X.K, pl⟩ F xs vs) : Stt X (ct0 pl H F) F (startE N.length xs) (L2.start N vs) H := by
  refine ⟨sub, .refl, gua_refl fun P s e => (p P s e).2, fun P s e => ⟨(p P s e).1, ?_, (p P s e).2⟩, fun P s e => ⟨?_, nofun, nofun⟩, nofun, [], ?_, .nil, nofun⟩
  · obtain ⟨o, e⟩ := (p P s e).2.at1
    exact fun z => by
      have z : H P = none := z
      rw [z] at e; cases e
  · obtain ⟨o, e⟩ := (p P s e).2.at2
    exact fun z => by
      have z : H s = none := z
      rw [z] at e; cases e
  · unfold startE L2.start
    rw [r.len]
    exact Slots.start r
section
variable {P : Program} {w : World} {K : PySem.W.Frag} {mg : Str → Option Value} {base : Heap}
theorem fn_goP {x qual : Str} {params : Arguments} {body : List Stmt} {scope : Scope} {dvs : List V} {kws : List (Str × V)} {f : Addr} {fd : FuncData} {N ps : List Str} {k : Nat} {sp : Sp}
    (F : FunD K x qual params body scope dvs kws f fd) (S : FnScope N ps scope) (len : ∀ vs H Q E, sp vs H Q E → vs.length = ps.length)
    (hb : ∀ (X : Cx), X.prog = P → X.w = w → X.K = K → X.mg = mg → X.base = base → X.env.scope = scope → X.N = N → (∀ y, X.fn y = true) → Env1 X → Room k X.A → ∀ (vs : List V) (H : Hp) (Q : VK) (E : XK),
      (∀ cls d σ H', E cls d H' → XW X cls d σ H') → sp vs H Q E → Wb X body { nx := fun _ H' => Q .non H', rt := Q } (L2.start N vs) H) :
    FnOk P w K mg base (L2.CX P w) (k + 1) f fd ps sp := by
  refine F.ok S len fun cdv A outer s H vs Q E hr h => ?_
  refine ⟨_, Wb.pss, hb (cxOf (L2.CX P w) P w K mg base N qual scope f cdv A outer s H E) rfl rfl rfl rfl rfl rfl rfl (fun _ => rfl) ⟨rfl, rfl, rfl, passes_of rfl⟩ hr vs H Q E (fun cls d σ H' q => ?_) h⟩
  exact xw_of (takes_of (E := E) rfl rfl rfl rfl) q
/-- a def keeps a promise over values, by its code -/
theorem pfn {x qual : Str} {params : Arguments} {body : List Stmt} {scope : Scope} {dvs : List V} {kws : List (Str × V)} {f : Addr} {fd : FuncData} {N ps : List Str} {k : Nat} {sp : PSpec} {L : Lang} {CL XL : List Cl} {code : CSs}
    (F : FunD K x qual params body scope dvs kws f fd) (S : FnScope N ps scope) (hL : ∀ A, Room k A → LOk ⟨P, w, K, mg, base, A⟩ L CL) (hX : ∀ A, ExOk ⟨P, w, K, mg, base, A⟩ XL)
    (hm : mB N (L.G.map (·.1)) CL XL true true scope code body = true) (hf : sp.fresh = true → retsB L code = true) (hd : ∀ xs Q E, sp.run xs Q E → xs.length = ps.length ∧ denB L code (startE N.length xs) { nx := fun _ => Q .non, rt := fun x _ => Q x, ex := fun e _ => E e }) : FnOk P w K mg base (L2.CX P w) (k + 1) f fd ps (lowSp K sp) := by
  refine fn_goP F S ?_ ?_
  · rintro vs H Q E ⟨pl, F, xs, h1, h2, h3, h4⟩
    rw [← h3.len]
    exact (hd _ _ _ h4).1
  · intro X e1 e2 e3 e4 e5 e6 e7 e8 V1 hr vs H Q E hE h
    subst e1 e2 e3 e4 e5
    obtain ⟨pl, F, xs, h1, h2, h3, h4⟩ := h
    obtain ⟨_, hden⟩ := hd _ _ _ h4
    have St := Stt.start (N := N) h1 h2 h3
    refine Wb.imp (D := lift sp.fresh X (ct0 pl H F) F _) ?_ ?_ ?_ ?_ (allB code (b6 X) L _ (hL X.A hr) rfl (hX X.A) (ct := ct0 pl H F) rfl ⟨e7, S.nd, e6, fun _ => e8, fun _ => rfl, fun _ _ z => (nomatch z), fun _ => V1.calm⟩ (fun _ => V1) hm hf St ?_ hden)
    · rintro σ' H' ⟨ρ', F', S', s', q⟩
      exact q .non H' F' ⟨S'.gr, S'.gua⟩ S'.sub rfl fun _ => newr_imm rfl rfl
    · rintro v H' ⟨y, F', ρ', σ', S', a3, n3, q⟩
      exact q v H' F' ⟨S'.gr, S'.gua⟩ S'.sub a3 n3
    · rintro σ' H' ⟨ρ', F', S', s', q⟩
      exact q.elim
    · rintro σ' H' ⟨ρ', F', S', s', q⟩
      exact q.elim
    · intro e ρ' F' σ' H' d S' _ xd q
      exact hE _ _ _ _ (q d H' F' ⟨S'.gr, S'.gua⟩ S'.sub xd)
end
/-- a def, called -/
theorem cal_fn {b : B6} {k : Nat} {f : Addr} {ps : List Str} {sp : PSpec} (O : OkD b.prog b.w b.K b.mg b.base k f ps [] (lowSp b.K sp)) (hr : Room k b.A) : Cal b (.ref f) sp := by
  intro X hb ct F ρ σ H xs vs Q E S r h hE
  subst hb
  refine wf_ok O hr ⟨ct.pl, F, xs, S.sub, fun P s e => ⟨(S.p0 P s e).1, (S.p0 P s e).2.2⟩, by rw [List.append_nil]; exact r, sp.mono ?_ ?_ h⟩
  · intro y q v H' F' g sub rep n
    exact ⟨y, F', S.called g.gu g.gr sub, g, rep, n, q⟩
  · intro e q d H' F' g sub xd
    exact hE e d F' H' (S.called g.gu g.gr sub) g.s xd q
/-- .. with defaults -/
def PSpec.dflt (sp : PSpec) (ds : List PV) : PSpec where
  fresh := sp.fresh
  run := fun xs Q E => sp.run (xs ++ ds) Q E
  mono := fun h1 h2 h => sp.mono h1 h2 h
theorem cal_fnD {b : B6} {k : Nat} {f : Addr} {ps : List Str} {sp : PSpec} {dvs : List V} {dxs : List PV} (hd : ∀ k F, Reps k F dxs dvs) (O : OkD b.prog b.w b.K b.mg b.base k f ps dvs (lowSp b.K sp)) (hr : Room k b.A) : Cal b (.ref f) (sp.dflt dxs) := by
  intro X hb ct F ρ σ H xs vs Q E S r h hE
  subst hb
  refine wf_ok O hr ⟨ct.pl, F, xs ++ dxs, S.sub, fun P s e => ⟨(S.p0 P s e).1, (S.p0 P s e).2.2⟩, r.append (hd _ _), sp.mono ?_ ?_ h⟩
  · intro y q v H' F' g sub rep n
    exact ⟨y, F', S.called g.gu g.gr sub, g, rep, n, q⟩
  · intro e q d H' F' g sub xd
    exact hE e d F' H' (S.called g.gu g.gr sub) g.s xd q
/-- a promise by cases of the arguments, without errors: p says what may come back -/
def PSpec.fn (p : List PV → (PV → Prop) → Prop) (m : ∀ {xs Q Q'}, (∀ x, Q x → Q' x) → p xs Q → p xs Q') : PSpec where
  run := fun xs Q _ => p xs Q
  mono := fun h1 _ h => m h1 h
end Pu

/-! PK: what the operators do, over values. -/
namespace Rt
open PySem PySem.Spec PyProof.Rows L2 Ni
/-- the size of a fraction -/
def Sz (q : Rat) (k : Nat) : Prop := Bd q.num k ∧ Bd (q.den : Int) k
theorem sz_of {t b : Int} {k : Nat} (h : b ≠ 0) (ht : Bd t k) (hb : Bd b k) : Sz (Rat.divInt t b) k := ⟨ht.of_abs (sz_top h), hb.of_abs (sz_bot h)⟩
theorem Sz.mono {q : Rat} {k m : Nat} (h : Sz q k) (l : k ≤ m) : Sz q m := ⟨h.1.mono l, h.2.mono l⟩
/-- two fractions small enough to be reckoned with -/
def Mz (q r : Rat) : Prop := ∃ k m, Sz q k ∧ Sz r m ∧ k + m ≤ 8990
end Rt
namespace Pu
open PySem PySem.Spec PyProof.Rows L2 Ni Rt
def MulOk (a b : Int) : Prop := ∃ k m, Bd a k ∧ Bd b m ∧ k + m < 999990
def DivOk (b : Int) : Prop := b ≠ 0 ∧ ∃ k, Bd b k ∧ 0 < k ∧ k ≤ 9000
/-- a number's value -/
def numP : PV → Option Rat
  | .int n => some n
  | .rat q => some q
  | _ => none
mutual
def pd : PV → PyData
  | .bl b => .bool b
  | .int n => .int n
  | .str s => .str s
  | .lst xs => .list (pds xs)
  | .tup xs => .tuple (pds xs)
  | _ => .none
def pds : List PV → List PyData
  | [] => []
  | x :: xs => pd x :: pds xs
end
mutual
/-- plain data -/
def datP : Nat → PV → Bool
  | _, .non => true
  | _, .bl _ => true
  | _, .int _ => true
  | _, .str s => PyData.strOk s
  | n + 1, .lst xs => datPs n xs
  | n + 1, .tup xs => datPs n xs
  | _, _ => false
def datPs : Nat → List PV → Bool
  | _, [] => true
  | n, x :: xs => datP n x && datPs n xs
end
def eqP (x y : PV) : Bool := PyData.eqv (pd x) (pd y)
inductive TK where
  | int | bool | str | tuple | list | non | cl (c : Cl)
  deriving DecidableEq
def tkOf : PV → Option TK
  | .non => some .non
  | .bl _ => some .bool
  | .int _ => some .int
  | .str _ => some .str
  | .lst _ => some .list
  | .tup _ => some .tuple
  | .rat _ => some (.cl .ratio)
  | .obj c _ => some (.cl c)
  | _ => none
def tkTy : PV → Option TK
  | .ty .int => some .int
  | .ty .bool => some .bool
  | .ty .str => some .str
  | .ty .tuple => some .tuple
  | .cls c => some (.cl c)
  | _ => none
/-- the signs between numbers of which one at least is a fraction -/
def binR (op : Operator) (q r : Rat) (Q : PV → Prop) : Prop := match op with
  | .Add => Mz q r ∧ Q (.rat (q + r))
  | .Sub => Mz q r ∧ Q (.rat (q - r))
  | .Mult => Mz q r ∧ Q (.rat (q * r))
  | _ => False
def cmpR (op : CmpOp) (q r : Rat) (Q : PV → Prop) : Prop := match op with
  | .Lt => Mz q r ∧ Q (.bl (decide (q < r)))
  | .LtE => Mz q r ∧ Q (.bl (decide (q ≤ r)))
  | .Gt => Mz q r ∧ Q (.bl (decide (r < q)))
  | .GtE => Mz q r ∧ Q (.bl (decide (r ≤ q)))
  | .Eq => Mz q r ∧ Q (.bl (decide (q = r)))
  | .NotEq => Mz q r ∧ Q (.bl (!decide (q = r)))
  | _ => False
def binI (op : Operator) (a b : Int) (Q : PV → Prop) : Prop := match op with
  | .Add => Q (.int (a + b))
  | .Sub => Q (.int (a - b))
  | .Mult => MulOk a b ∧ Q (.int (a * b))
  | .FloorDiv => DivOk b ∧ Q (.int (a.fdiv b))
  | .Mod => 0 < b ∧ Q (.int (a % b))
  | .Pow => (0 ≤ b ∧ b ≤ 1000000 ∧ a.natAbs < 2 ^ 64) ∧ Q (.int (a ^ b.toNat))
  | _ => False
def cmpI (op : CmpOp) (a b : Int) (Q : PV → Prop) : Prop := match op with
  | .Lt => Q (.bl (decide (a < b)))
  | .LtE => Q (.bl (decide (a ≤ b)))
  | .Gt => Q (.bl (decide (b < a)))
  | .GtE => Q (.bl (decide (b ≤ a)))
  | .Eq => Q (.bl (decide (a = b)))
  | .NotEq => Q (.bl (!decide (a = b)))
  | _ => False
def isNonP : PV → Bool
  | .non => true
  | _ => false
def cmpD (op : CmpOp) (x y : PV) (Q : PV → Prop) : Prop := match op with
  | .Eq => (datP 60 x = true ∧ datP 60 y = true) ∧ Q (.bl (eqP x y))
  | .NotEq => (datP 60 x = true ∧ datP 60 y = true) ∧ Q (.bl (!eqP x y))
  | .Is => isNonP y = true ∧ Q (.bl (isNonP x))
  | .IsNot => isNonP y = true ∧ Q (.bl (!isNonP x))
  | _ => False
def tabO (tab : TK → TK → Option Bool) (a b : Option TK) : Option Bool := match a with
  | some a => (match b with
    | some b => tab a b
    | none => none)
  | none => none
def isi3 (o : Option Bool) (Q : PV → Prop) : Prop := match o with
  | some r => Q (.bl r)
  | none => False
variable (tab : TK → TK → Option Bool)
/-- what is no number -/
def nonN (y : PV) : Bool := match tkOf y with
  | some .non => true
  | some .str => true
  | some .list => true
  | some .tuple => true
  | _ => false
def nonNOk : Bool := [TK.non, .str, .list, .tuple].all fun a => decide (tab a .int = some false) && decide (tab a (.cl .ratio) = some false)
def cmpN (op : CmpOp) (y : PV) (Q : PV → Prop) : Prop := match op with
  | .Eq => (nonNOk tab = true ∧ nonN y = true) ∧ Q (.bl false)
  | .NotEq => (nonNOk tab = true ∧ nonN y = true) ∧ Q (.bl true)
  | _ => False
def opB (b : Bi) (xs : List PV) (Q : PV → Prop) : Prop := match b, xs with
  | .len, [.lst xs] => Q (.int xs.length)
  | .len, [.tup xs] => Q (.int xs.length)
  | .abs, [.int n] => Q (.int (if n < 0 then -n else n))
  | .abs, [.rat q] => Sz q 8990 ∧ Q (.rat q.abs)
  | .int, [.int n] => Q (.int n)
  | .int, [.bl c] => Q (.int (if c = true then 1 else 0))
  | .bool, [.bl c] => Q (.bl c)
  | .bool, [.rat q] => Q (.bl (!decide (q = 0)))
  | .str, [.int n] => Bd n 1920 ∧ Q (.str (toString n))
  | .gcd, [.int a, .int b] => Q (.int (Nat.gcd a.natAbs b.natAbs : Nat))
  | .tuple, [.lst xs] => Q (.tup xs)
  | .isi, [x, t] => isi3 (tabO tab (tkOf x) (tkTy t)) Q
  | _, _ => False
def opP (k : OpK) (xs : List PV) (Q : PV → Prop) : Prop := match k, xs with
  | .bin op, [.int a, .int b] => binI op a b Q
  | .bin op, [.rat q, .rat r] => binR op q r Q
  | .bin op, [.rat q, .int n] => binR op q n Q
  | .bin op, [.int n, .rat r] => binR op n r Q
  | .ipl op, [.int a, .int b] => (match op with
    | .Add => Q (.int (a + b))
    | .Sub => Q (.int (a - b))
    | _ => False)
  | .ipl op, [.rat q, .rat r] => (match op with
    | .Add => Mz q r ∧ Q (.rat (q + r))
    | .Mult => Mz q r ∧ Q (.rat (q * r))
    | _ => False)
  | .cmp op, [.int a, .int b] => cmpI op a b Q
  | .cmp op, [.rat q, .rat r] => cmpR op q r Q
  | .cmp op, [.rat q, .int n] => cmpR op q n Q
  | .cmp op, [.int n, .rat r] => cmpR op n r Q
  | .cmp op, [.rat q, y] => cmpN tab op y Q
  | .cmp op, [x, y] => cmpD op x y Q
  | .neg, [.int n] => Q (.int (-n))
  | .neg, [.rat q] => Sz q 8990 ∧ Q (.rat (-q))
  | .bi b, xs => opB tab b xs Q
  | .ix, [.lst xs, .int n] => atP xs n Q
  | .ix, [.tup xs, .int n] => atP xs n Q
  | .fld c j, [.rat q] => (match c, j with
    | .ratio, 0 => Q (.int q.num)
    | .ratio, 1 => Q (.int q.den)
    | _, _ => False)
  | .fld _ _, [.obj _ _] => False
  | _, _ => False
section
variable {Q Q' : PV → Prop} (h1 : ∀ x, Q x → Q' x)
include h1
theorem binI_mono {op : Operator} {a b : Int} (h : binI op a b Q) : binI op a b Q' := by
  cases op <;> first | exact h1 _ h | exact ⟨h.1, h1 _ h.2⟩ | exact h.elim
theorem binR_mono {op : Operator} {a b : Rat} (h : binR op a b Q) : binR op a b Q' := by
  cases op <;> first | exact ⟨h.1, h1 _ h.2⟩ | exact h.elim
theorem cmpI_mono {op : CmpOp} {a b : Int} (h : cmpI op a b Q) : cmpI op a b Q' := by
  cases op <;> first | exact h1 _ h | exact h.elim
theorem cmpR_mono {op : CmpOp} {a b : Rat} (h : cmpR op a b Q) : cmpR op a b Q' := by
  cases op <;> first | exact ⟨h.1, h1 _ h.2⟩ | exact h.elim
theorem cmpD_mono {op : CmpOp} {a b : PV} (h : cmpD op a b Q) : cmpD op a b Q' := by
  cases op <;> first | exact ⟨h.1, h1 _ h.2⟩ | exact h.elim
theorem cmpN_mono {op : CmpOp} {b : PV} (h : cmpN tab op b Q) : cmpN tab op b Q' := by
  cases op <;> first | exact ⟨h.1, h1 _ h.2⟩ | exact h.elim
theorem optP_mono {o : Option PV} (h : optP o Q) : optP o Q' := by
  cases o with
  | none => exact h.elim
  | some x => exact h1 _ h
theorem atP_mono {xs : List PV} {n : Int} (h : atP xs n Q) : atP xs n Q' := by
  cases n with
  | ofNat k => exact optP_mono h1 h
  | negSucc k =>
    obtain ⟨l, q⟩ := ifB_f h
    show ifB _ _ _
    rw [l]
    exact optP_mono h1 q
theorem opB_mono {b : Bi} {xs : List PV} (h : opB tab b xs Q) : opB tab b xs Q' := by
  unfold opB at h ⊢
  split at h
  all_goals first | exact h1 _ h | exact ⟨h.1, h1 _ h.2⟩ | exact h.elim | skip
  rename_i x t
  cases e : tabO tab (tkOf x) (tkTy t) with
  | none => rw [e] at h; exact h.elim
  | some r => rw [e] at h; exact h1 _ h
theorem opP_mono {k : OpK} {xs : List PV} (h : opP tab k xs Q) : opP tab k xs Q' := by
  unfold opP at h ⊢
  split at h
  all_goals first | exact binI_mono h1 h | exact binR_mono h1 h | exact cmpI_mono h1 h | exact cmpR_mono h1 h | exact cmpN_mono tab h1 h | exact opB_mono tab h1 h | exact atP_mono h1 h | exact h1 _ h | exact ⟨h.1, h1 _ h.2⟩ | exact h.elim | skip
  · rename_i op a b
    cases op <;> first | exact h1 _ h | exact h.elim
  · rename_i op a b
    cases op <;> first | exact ⟨h.1, h1 _ h.2⟩ | exact h.elim
  · rename_i op x y n1 n2 n3 n4 n5
    exact cmpD_mono h1 h
  · rename_i c j q
    split at h
    all_goals first | exact h1 _ h | exact h.elim
end
/-- which operators' results are never changed -/
def opFr : OpK → Bool
  | .bin _ => true
  | .ipl _ => true
  | .cmp _ => true
  | .neg => true
  | .bi .tuple => false
  | .bi _ => true
  | _ => false
theorem ifB_and {b : Bool} {A : Prop} (h : ifB b A False) : b = true ∧ A := ifB_f h
section
variable {Q : PV → Prop}
theorem binI_imm {op : Operator} {a b : Int} (h : binI op a b Q) : binI op a b fun x => immP x = true ∧ Q x := by
  cases op <;> first | exact ⟨rfl, h⟩ | exact ⟨h.1, rfl, h.2⟩ | exact h.elim
theorem binR_imm {op : Operator} {a b : Rat} (h : binR op a b Q) : binR op a b fun x => immP x = true ∧ Q x := by
  cases op <;> first | exact ⟨h.1, rfl, h.2⟩ | exact h.elim
theorem cmpI_imm {op : CmpOp} {a b : Int} (h : cmpI op a b Q) : cmpI op a b fun x => immP x = true ∧ Q x := by
  cases op <;> first | exact ⟨rfl, h⟩ | exact h.elim
theorem cmpR_imm {op : CmpOp} {a b : Rat} (h : cmpR op a b Q) : cmpR op a b fun x => immP x = true ∧ Q x := by
  cases op <;> first | exact ⟨h.1, rfl, h.2⟩ | exact h.elim
theorem cmpD_imm {op : CmpOp} {a b : PV} (h : cmpD op a b Q) : cmpD op a b fun x => immP x = true ∧ Q x := by
  cases op <;> first | exact ⟨h.1, rfl, h.2⟩ | exact h.elim
theorem cmpN_imm {op : CmpOp} {b : PV} (h : cmpN tab op b Q) : cmpN tab op b fun x => immP x = true ∧ Q x := by
  cases op <;> first | exact ⟨h.1, rfl, h.2⟩ | exact h.elim
theorem opB_imm {b : Bi} {xs : List PV} (hb : b ≠ .tuple) (h : opB tab b xs Q) : opB tab b xs fun x => immP x = true ∧ Q x := by
  unfold opB at h ⊢
  split at h
  all_goals first | exact absurd rfl hb | exact ⟨rfl, h⟩ | exact ⟨h.1, rfl, h.2⟩ | exact h.elim | skip
  rename_i x t
  cases e : tabO tab (tkOf x) (tkTy t) with
  | none => rw [e] at h; exact h.elim
  | some r => rw [e] at h; exact ⟨rfl, h⟩
theorem opP_imm {k : OpK} {xs : List PV} (hk : opFr k = true) (h : opP tab k xs Q) : opP tab k xs fun x => immP x = true ∧ Q x := by
  unfold opP at h ⊢
  split at h
  all_goals first | exact binI_imm h | exact binR_imm h | exact cmpI_imm h | exact cmpR_imm h | exact cmpN_imm tab h | exact ⟨rfl, h⟩ | exact ⟨h.1, rfl, h.2⟩ | exact h.elim | (cases hk; done) | skip
  · rename_i op a b
    cases op <;> first | exact ⟨rfl, h⟩ | exact h.elim
  · rename_i op a b
    cases op <;> first | exact ⟨h.1, rfl, h.2⟩ | exact h.elim
  · rename_i op x y n1 n2 n3 n4 n5
    exact cmpD_imm h
  · rename_i b xs
    exact opB_imm tab (by intro z; subst z; cases hk) h
end
/-- what is never changed is as good as new -/
theorem OpOk.of {b : B6} {k : OpK} {p : PSpec} (hi : p.fresh = true → ∀ {xs Q E}, p.run xs Q E → p.run xs (fun x => immP x = true ∧ Q x) E) (h : ∀ X, b6 X = b → ∀ ct F ρ σ H xs vs Q E, Stt X ct F ρ σ H → Reps ⟨X.K, ct.pl⟩ F xs vs → p.run xs Q E → Eok X ct F ρ σ E → OpSem X k vs σ H (Post X ct F H ρ σ Q)) : OpOk b k p := by
  intro X hb ct F ρ σ H xs vs Q E S r q hE
  cases hf : p.fresh with
  | false => exact OpSem.imp (fun v H' ⟨x, F', S', s', r', q'⟩ => ⟨x, F', S', s', r', nofun, q'⟩) (h X hb ct F ρ σ H xs vs Q E S r q hE)
  | true => exact OpSem.imp (fun v H' ⟨x, F', S', s', r', im, q'⟩ => ⟨x, F', S', s', r', fun _ => newr_imm im r', q'⟩) (h X hb ct F ρ σ H xs vs _ E S r (hi hf q) hE)
theorem Cal.of {b : B6} {f : Value} {p : PSpec} (hi : p.fresh = true → ∀ {xs Q E}, p.run xs Q E → p.run xs (fun x => immP x = true ∧ Q x) E) (h : ∀ X, b6 X = b → ∀ ct F ρ σ H xs vs Q E, Stt X ct F ρ σ H → Reps ⟨X.K, ct.pl⟩ F xs vs → p.run xs Q E → Eok X ct F ρ σ E → Wf X f vs σ H (Post X ct F H ρ σ Q)) : Cal b f p := by
  intro X hb ct F ρ σ H xs vs Q E S r q hE
  cases hf : p.fresh with
  | false => exact Wf.imp (fun v H' ⟨x, F', S', s', r', q'⟩ => ⟨x, F', S', s', r', nofun, q'⟩) (h X hb ct F ρ σ H xs vs Q E S r q hE)
  | true => exact Wf.imp (fun v H' ⟨x, F', S', s', r', im, q'⟩ => ⟨x, F', S', s', r', fun _ => newr_imm im r', q'⟩) (h X hb ct F ρ σ H xs vs _ E S r (hi hf q) hE)
/-- the operators' promises -/
def opS (k : OpK) : PSpec where
  fresh := opFr k
  run := fun xs Q _ => opP tab k xs Q
  mono := fun h1 _ h => opP_mono tab h1 h
end Pu

/-! PL: the operators on ints and plain data. -/
namespace Pu
open PySem PySem.Spec PyProof.Rows L2 Ni Rt
section
variable {X : Cx} {ct : Ct} {F H H' : Hp} {ρ : Env} {σ : L2.St} {Q : PV → Prop}
theorem Post.val (S : Stt X ct F ρ σ H) (s : Same H H') {x : PV} {v : V} (r : Rep ⟨X.K, ct.pl⟩ F x v) (q : Q x) : Post X ct F H ρ σ Q v H' := ⟨x, F, S.same s, ⟨.refl, S.gself.same s⟩, r, q⟩
theorem Post.at_ (S : Stt X ct F ρ σ H) {x : PV} {v : V} (r : Rep ⟨X.K, ct.pl⟩ F x v) (q : Q x) : Post X ct F H ρ σ Q v H := ⟨x, F, S, .refl S, r, q⟩
theorem Post.rat (S : Stt X ct F ρ σ H) (s : Same H H') {p dx : Addr} {r : Rat} (e : H' p = some (.ins (He.ga X.K "Ratio") dx (ratF r))) (q : Q (.rat r)) : Post X ct F H ρ σ Q (.ref p) H' := by
  cases hf : F p with
  | some o =>
    have e2 := s _ _ (S.sub p o hf)
    rw [e] at e2
    cases e2
    exact Post.val S s (x := .rat r) ⟨p, dx, rfl, hf⟩ q
  | none =>
    obtain ⟨S2, e2⟩ := S.ext (F' := upd F p (.ins (He.ga X.K "Ratio") dx (ratF r))) s ⟨same_new hf, fun a o z => by
      by_cases y : a = p
      · subst y
        rw [upd_same] at z
        cases z
        cases hh : H a with
        | none => exact .inr (.inl rfl)
        | some o2 =>
          have := s _ _ hh
          rw [e] at this
          cases this
          exact .inr (.inr ⟨rfl, .inl ⟨_, _, _, rfl⟩⟩)
      · rw [upd_ne y] at z; exact .inl z⟩ (fun a o z => by
      by_cases y : a = p
      · subst y; rw [upd_same] at z; rw [← z]; exact e
      · rw [upd_ne y] at z; exact s _ _ (S.sub a o z))
    exact ⟨.rat r, _, S2, e2, ⟨p, dx, rfl, upd_same⟩, q⟩
theorem rep_rat {K : Kx} {r : Rat} {v : V} (s : Same F H) (h : Rep K F (.rat r) v) : ∃ a dx, v = .ref a ∧ H a = some (.ins (He.ga K.K "Ratio") dx (ratF r)) := by
  unfold Rep at h
  obtain ⟨a, dx, rfl, e⟩ := h
  exact ⟨a, dx, rfl, s _ _ e⟩
theorem o_binI {op : Operator} {a b : Int} (S : Stt X ct F ρ σ H) (h : binI op a b Q) : Wo X (binaryOp op) (.int a) (.int b) σ H (Post X ct F H ρ σ Q) := by
  cases op with
  | Add => exact wo_add (Post.at_ S (x := .int _) rfl h)
  | Sub => exact wo_sub (Post.at_ S (x := .int _) rfl h)
  | Mult =>
    obtain ⟨⟨k, m, h1, h2, h3⟩, h⟩ := h
    exact wo_mul (bd_mulW h1 h2 h3) (Post.at_ S (x := .int _) rfl h)
  | FloorDiv =>
    obtain ⟨⟨h0, k, h1, h2⟩, h⟩ := h
    exact wo_fdiv h0 h1 h2 (Post.at_ S (x := .int _) rfl h)
  | Mod => exact wo_mod h.1 (Post.at_ S (x := .int _) rfl h.2)
  | Pow => exact wo_pow h.1 (Post.at_ S (x := .int _) rfl h.2)
  | _ => exact h.elim
theorem o_cmpI {op : CmpOp} {a b : Int} (S : Stt X ct F ρ σ H) (h : cmpI op a b Q) : Wo X (compareOp op) (.int a) (.int b) σ H (Post X ct F H ρ σ Q) := by
  cases op with
  | Lt => exact wo_lt (Post.at_ S (x := .bl _) rfl h)
  | LtE => exact wo_le (Post.at_ S (x := .bl _) rfl h)
  | Gt => exact wo_gt (Post.at_ S (x := .bl _) rfl h)
  | GtE => exact wo_ge (Post.at_ S (x := .bl _) rfl h)
  | Eq => exact wo_eqI (Post.at_ S (x := .bl _) rfl h)
  | NotEq => exact wo_neI (Post.at_ S (x := .bl _) rfl h)
  | _ => exact h.elim
mutual
theorem dat_dp {k : Kx} (s : Same F H) : ∀ {n : Nat} {x : PV} {v : V}, datP n x = true → Rep k F x v → Dp k.K H v (pd x)
  | _, .non, _, _, r => by cases r; exact .non
  | _, .bl b, _, _, r => by cases r; exact .bl b
  | _, .int i, _, _, r => by cases r; exact .int i
  | _, .str i, _, _, r => by cases r; exact .str i
  | 0, .lst xs, _, d, r => by simp [datP] at d
  | 0, .tup xs, _, d, r => by simp [datP] at d
  | n + 1, .lst xs, _, d, r => by
    unfold Rep at r
    obtain ⟨a, vs, rfl, e, rs⟩ := r
    unfold datP at d
    exact .lst (.of (s _ _ e)) (dats_dp s d rs)
  | n + 1, .tup xs, _, d, r => by
    unfold Rep at r
    obtain ⟨a, vs, rfl, e, rs⟩ := r
    unfold datP at d
    exact .tup (.of (s _ _ e)) (dats_dp s d rs)
  | n, .ty b, _, d, r => by cases n <;> simp [datP] at d
  | n, .cls b, _, d, r => by cases n <;> simp [datP] at d
  | n, .pool, _, d, r => by cases n <;> simp [datP] at d
  | n, .rat b, _, d, r => by cases n <;> simp [datP] at d
  | n, .obj b c, _, d, r => by cases n <;> simp [datP] at d
theorem dats_dp {k : Kx} (s : Same F H) : ∀ {n : Nat} {xs : List PV} {vs : List V}, datPs n xs = true → Reps k F xs vs → DpAll k.K H vs (pds xs)
  | _, [], _, _, r => by cases r; exact .nil
  | n, x :: xs, _, d, r => by
    obtain ⟨v, ws, rfl, r1, r2⟩ := r
    unfold datPs at d
    obtain ⟨d1, d2⟩ := Bool.and_eq_true_iff.mp d
    exact .cons (dat_dp s d1 r1) (dats_dp s d2 r2)
end
mutual
theorem dat_lay : ∀ {n : Nat} {x : PV}, datP n x = true → (pd x).canLay0 = true ∧ (pd x).depth ≤ n
  | n, .non, _ => by simp [pd, PyData.canLay0, PyData.depth]
  | n, .bl b, _ => by simp [pd, PyData.canLay0, PyData.depth]
  | n, .int b, _ => by simp [pd, PyData.canLay0, PyData.depth]
  | n, .str b, d => by
    have d : PyData.strOk b = true := by cases n <;> exact d
    simp [pd, PyData.canLay0, PyData.depth, d]
  | 0, .lst xs, d => by simp [datP] at d
  | 0, .tup xs, d => by simp [datP] at d
  | n + 1, .lst xs, d => by
    unfold datP at d
    obtain ⟨a, c⟩ := dats_lay d
    simp [pd, PyData.canLay0, PyData.depth, a, c]
  | n + 1, .tup xs, d => by
    unfold datP at d
    obtain ⟨a, c⟩ := dats_lay d
    simp [pd, PyData.canLay0, PyData.depth, a, c]
  | n, .ty b, d => by cases n <;> simp [datP] at d
  | n, .cls b, d => by cases n <;> simp [datP] at d
  | n, .pool, d => by cases n <;> simp [datP] at d
  | n, .rat b, d => by cases n <;> simp [datP] at d
  | n, .obj b c, d => by cases n <;> simp [datP] at d
theorem dats_lay : ∀ {n : Nat} {xs : List PV}, datPs n xs = true → PyData.canLayAll0 (pds xs) = true ∧ PyData.depthAll (pds xs) ≤ n
  | n, [], _ => by simp [pds, PyData.canLayAll0, PyData.depthAll]
  | n, x :: xs, d => by
    unfold datPs at d
    obtain ⟨d1, d2⟩ := Bool.and_eq_true_iff.mp d
    obtain ⟨a1, a2⟩ := dat_lay d1
    obtain ⟨c1, c2⟩ := dats_lay d2
    simp [pds, PyData.canLayAll0, PyData.depthAll, a1, c1]
    omega
end
theorem dat_sh {x : PV} (h : datP 60 x = true) : SeqAt.shaped (pd x) = true := by
  obtain ⟨a, c⟩ := dat_lay h
  unfold SeqAt.shaped
  rw [a, decide_eq_true (by omega : (pd x).depth ≤ 64)]
  rfl
theorem eqP_self {x : PV} (h : datP 60 x = true) : eqP x x = true := SeqAt.eqv_refl _ (dat_lay h).1
theorem o_cmpD {k : Nat} {op : CmpOp} {x y : PV} {v u : V} (hr : Room k X.A) (S : Stt X ct F ρ σ H) (rx : Rep ⟨X.K, ct.pl⟩ F x v) (ry : Rep ⟨X.K, ct.pl⟩ F y u) (h : cmpD op x y Q) : Wo X (compareOp op) v u σ H (Post X ct F H ρ σ Q) := by
  have nn : isNonP y = true → u = .non := fun z => by
    cases y <;> first | exact ry | cases z
  have nx : decide (v = .non) = isNonP x := by
    cases x <;> (unfold Rep at rx; first | (subst rx; rfl) | (obtain ⟨_, _, _, rfl, _⟩ := rx; rfl) | (obtain ⟨_, _, rfl, _⟩ := rx; rfl) | (obtain ⟨_, _, rfl⟩ := rx; rfl) | (obtain ⟨_, _, _, _, rfl⟩ := rx; rfl))
  cases op with
  | Eq => exact wo_eqD hr (dat_dp S.sub h.1.1 rx) (dat_dp S.sub h.1.2 ry) (dat_sh h.1.1) (dat_sh h.1.2) rfl (Post.at_ S (x := .bl _) rfl h.2)
  | NotEq => exact wo_neD hr (dat_dp S.sub h.1.1 rx) (dat_dp S.sub h.1.2 ry) (dat_sh h.1.1) (dat_sh h.1.2) rfl (Post.at_ S (x := .bl _) rfl h.2)
  | Is =>
    rw [nn h.1]
    exact wo_isN (Post.at_ S (x := .bl _) (by rw [nx]; rfl) h.2)
  | IsNot =>
    rw [nn h.1]
    exact wo_notN (Post.at_ S (x := .bl _) (by rw [nx]; rfl) h.2)
  | _ => exact h.elim
end
def tkV (K : PySem.W.Frag) : TK → Value
  | .int => .type "int"
  | .bool => .type "bool"
  | .str => .type "str"
  | .tuple => .type "tuple"
  | .list => .type "list"
  | .non => .type "NoneType"
  | .cl c => .ref (He.ga K c.nm)
/-- what isinstance leans on -/
structure TabOk (K : PySem.W.Frag) (tab : TK → TK → Option Bool) : Prop where
  kit : ∀ a c r, tab a c = some r → PySem.W.kitOne K (tkV K a) (tkV K c) = some r
  ty : ∀ d c r, tab (.cl d) c = some r → tyxB K (He.ga K d.nm) = true ∧ L2.Cls K (He.ga K d.nm)
theorem tk_ty {k : Kx} {F H : Hp} {tab : TK → TK → Option Bool} (hT : TabOk k.K tab) (s : Same F H) {x : PV} {v : V} {a c : TK} {r : Bool} (rx : Rep k F x v) (h : tkOf x = some a) (ht : tab a c = some r) : TyX k.K H v (tkV k.K a) := by
  cases x with
  | non => cases h; cases rx; exact .base .non
  | bl b => cases h; cases rx; exact .base (.bl b)
  | int b => cases h; cases rx; exact .base (.int b)
  | str b => cases h; cases rx; exact .base (.str b)
  | lst xs =>
    cases h
    unfold Rep at rx
    obtain ⟨p, vs, rfl, e, _⟩ := rx
    exact .base (.lst (s _ _ e))
  | tup xs =>
    cases h
    unfold Rep at rx
    obtain ⟨p, vs, rfl, e, _⟩ := rx
    exact .base (.tup (s _ _ e))
  | rat q =>
    cases h
    obtain ⟨p, dx, rfl, e⟩ := rep_rat s rx
    obtain ⟨t1, t2⟩ := hT.ty .ratio c r ht
    exact tyx_of t1 t2 e
  | obj d xs =>
    cases h
    unfold Rep at rx
    obtain ⟨p, dx, vs, rfl, e, _⟩ := rx
    obtain ⟨t1, t2⟩ := hT.ty d c r ht
    exact tyx_of t1 t2 (s _ _ e)
  | _ => cases h
theorem tk_cls {k : Kx} {F : Hp} {x : PV} {v : V} {a : TK} (rx : Rep k F x v) (h : tkTy x = some a) : ClsV v (tkV k.K a) := by
  cases x with
  | ty b =>
    unfold Rep at rx
    obtain ⟨n, e, rfl⟩ := rx
    cases b <;> cases h
    all_goals (cases e; exact .ty _)
  | cls c =>
    cases h
    cases rx
    exact .own _
  | _ => cases h
section
variable {X : Cx} {ct : Ct} {F H H' : Hp} {ρ : Env} {σ : L2.St} {Q : PV → Prop} {tab : TK → TK → Option Bool}
theorem tabO_ok {a c : Option TK} {r : Bool} (h : tabO tab a c = some r) : ∃ x y, a = some x ∧ c = some y ∧ tab x y = some r := by
  unfold tabO at h
  split at h
  · split at h
    · exact ⟨_, _, rfl, rfl, h⟩
    · cases h
  · cases h
theorem o_isi (hT : TabOk X.K tab) (S : Stt X ct F ρ σ H) {x t : PV} {v u : V} (rx : Rep ⟨X.K, ct.pl⟩ F x v) (rt : Rep ⟨X.K, ct.pl⟩ F t u) (h : isi3 (tabO tab (tkOf x) (tkTy t)) Q) : Wcb X (.builtin "isinstance") [v, u] H (Post X ct F H ρ σ Q) := by
  cases e : tabO tab (tkOf x) (tkTy t) with
  | none => rw [e] at h; exact h.elim
  | some r =>
    rw [e] at h
    obtain ⟨a, c, e1, e2, e3⟩ := tabO_ok e
    exact wcb_isi (tk_cls rt e2) (tk_ty hT S.sub rx e1 e3) (hT.kit a c r e3) (Post.at_ S (x := .bl r) rfl h)
theorem o_ix (S : Stt X ct F ρ σ H) {xs : List PV} {n : Int} {v : V} (rx : Rep ⟨X.K, ct.pl⟩ F (.lst xs) v ∨ Rep ⟨X.K, ct.pl⟩ F (.tup xs) v) (h : atP xs n Q) : Ix X v (.int n) H (Post X ct F H ρ σ Q) := by
  obtain ⟨x, e, q⟩ := atP_ok h
  rcases rx with rx | rx
  · unfold Rep at rx
    obtain ⟨p, vs, rfl, ep, rs⟩ := rx
    obtain ⟨w, e2, rw'⟩ := at_rep rs e
    exact ix_lh (S.sub _ _ ep) e2 (Post.at_ S rw' q)
  · unfold Rep at rx
    obtain ⟨p, vs, rfl, ep, rs⟩ := rx
    obtain ⟨w, e2, rw'⟩ := at_rep rs e
    exact ix_th (S.sub _ _ ep) e2 (Post.at_ S rw' q)
theorem wi_ip {op : Operator} {t : TIp} {x y : V} {R : VK} (h : PIp X op t) (q : t x y H R) : Wo X (inplaceOp op) x y σ H R := fun pins s v u I rx ry => h pins s σ H x y v u R I rx ry q
theorem ipl_int {op : Operator} {a b : Int} (S : Stt X ct F ρ σ H) (h : match op with
    | .Add => Q (.int (a + b))
    | .Sub => Q (.int (a - b))
    | _ => False) : Wo X (inplaceOp op) (.int a) (.int b) σ H (Post X ct F H ρ σ Q) := by
  cases op with
  | Add => exact wi_ip ip_add ⟨a, b, rfl, rfl, Post.at_ S (x := .int _) rfl h⟩
  | Sub => exact wi_ip ip_sub ⟨a, b, rfl, rfl, Post.at_ S (x := .int _) rfl h⟩
  | _ => exact h.elim
end
/-- what the callees promise -/
def GOk1 (b : B6) : GK → PSpec → Prop
  | .glo x, p => ∃ f, b.mg x = some (.ref f) ∧ PySem.W.keepIn b.K (.ref f) = true ∧ Cal b (.ref f) p
  | .met c m, p => CalM b c m p
inductive GOk (b : B6) : List (GK × PSpec) → Prop
  | nil : GOk b []
  | cons {k : GK} {p : PSpec} {G : List (GK × PSpec)} : GOk1 b k p → GOk b G → GOk b ((k, p) :: G)
theorem GOk.at_ {b : B6} {G : List (GK × PSpec)} (h : GOk b G) : ∀ {i : Nat} {k : GK} {p : PSpec}, nth G i = some (k, p) → GOk1 b k p := by
  induction h with
  | nil => intro i k p e; cases e
  | cons h1 h2 ih =>
    intro i k p e
    cases i with
    | zero => cases e; exact h1
    | succ i => exact ih e
/-- one class at a time -/
theorem all1 {α : Type} {P : α → Prop} {c : α} (h : P c) : ∀ d ∈ [c], P d := fun d hd => by
  cases hd with
  | head => exact h
  | tail _ z => cases z
theorem allS {α : Type} {P : α → Prop} {c : α} {l : List α} (h : P c) (k : ∀ d ∈ l, P d) : ∀ d ∈ c :: l, P d := fun d hd => by
  cases hd with
  | head => exact h
  | tail _ z => exact k d z
theorem allN {α : Type} {P : α → Prop} : ∀ d ∈ ([] : List α), P d := fun d hd => by cases hd
theorem look_no {l : List Str} {m : Str} {fs : List (Str × V)} (h : (l.contains m) = false) (hf : ∃ n, fs.map (·.1) = l.take n) : fs.lookup m = none := by
  obtain ⟨n, e⟩ := hf
  have nm : m ∉ fs.map (·.1) := fun z => by
    rw [e] at z
    have := List.mem_of_mem_take z
    rw [← List.contains_iff_mem] at this
    rw [h] at this
    cases this
  clear e h
  induction fs with
  | nil => rfl
  | cons p fs ih =>
    rw [List.map_cons, List.mem_cons, not_or] at nm
    unfold List.lookup
    rw [beq_eq_false_iff_ne.mpr nm.1]
    exact ih nm.2
/-- isinstance's answers, written -/
def tabF : List (TK × TK × Bool) → TK → TK → Option Bool
  | [], _, _ => none
  | (a, c, r) :: l, x, y => match decide (a = x) && decide (c = y) with
    | true => some r
    | false => tabF l x y
inductive TabL (K : PySem.W.Frag) : List (TK × TK × Bool) → Prop
  | nil : TabL K []
  | cons {a c : TK} {r : Bool} {l : List (TK × TK × Bool)} : PySem.W.kitOne K (tkV K a) (tkV K c) = some r → (∀ d, a = .cl d → tyxB K (He.ga K d.nm) = true ∧ L2.Cls K (He.ga K d.nm)) → TabL K l → TabL K ((a, c, r) :: l)
theorem TabL.ok {K : PySem.W.Frag} {l : List (TK × TK × Bool)} (h : TabL K l) : TabOk K (tabF l) := by
  induction h with
  | nil => exact ⟨fun _ _ _ h => (by cases h), fun _ _ _ h => (by cases h)⟩
  | @cons a c r l h1 h2 h3 ih =>
    refine ⟨fun x y s h => ?_, fun d y s h => ?_⟩
    · unfold tabF at h
      split at h
      · rename_i e
        simp only [Bool.and_eq_true, decide_eq_true_eq] at e
        obtain ⟨rfl, rfl⟩ := e
        cases h
        exact h1
      · exact ih.kit x y s h
    · unfold tabF at h
      split at h
      · rename_i e
        simp only [Bool.and_eq_true, decide_eq_true_eq] at e
        exact h2 d e.1
      · exact ih.ty d y s h
end Pu

/-! PM: the type of what is no number. -/
namespace Pu
open PySem PySem.Spec PyProof.Rows L2 Ni
theorem typ_at {M : Model} {h : Heap} {y : Addr} {o : Obj} {t : Value} (ho : h.get? y = some o) (hc : o.cls = t) : PySem.W.Looks M h (typeOf (.ref y)) t :=
  (PySem.W.Looks.ld ho).andThen (by rw [hc]; exact .now)
def tyN : PV → String
  | .non => "NoneType"
  | .str _ => "str"
  | .lst _ => "list"
  | _ => "tuple"
theorem typ_non {X : Cx} {ct : Ct} {F H : Hp} {ρ : Env} {σ : L2.St} (S : Stt X ct F ρ σ H) {y : PV} {v : V} (r : Rep ⟨X.K, ct.pl⟩ F y v) (n : nonN y = true) :
    ∀ (pins : List (Addr × Obj)) (s : Shared) (u : Value), Inv X pins σ H s → RelV v u → PySem.W.Looks (model X.prog X.w) s.heap (typeOf u) (.type (tyN y)) := by
  intro pins s u I rv
  cases y with
  | non => cases r; cases (show u = Value.none from rv); exact PySem.W.Looks.of_pure rfl
  | str z => cases r; obtain ⟨t, q⟩ := (show ∃ t, u = Value.str z t from rv); cases q; exact PySem.W.Looks.of_pure rfl
  | lst xs =>
    unfold Rep at r
    obtain ⟨a, vs, rfl, e, _⟩ := r
    cases (show u = Value.ref a from rv)
    obtain ⟨_, _, n, _, h1⟩ := (show ObjOk X.prog X.w H s.heap a (.lst vs) from I.hok a _ (S.sub _ _ e))
    exact typ_at h1 rfl
  | tup xs =>
    unfold Rep at r
    obtain ⟨a, vs, rfl, e, _⟩ := r
    cases (show u = Value.ref a from rv)
    obtain ⟨_, _, _, o, h1, h2, _⟩ := (show ObjOk X.prog X.w H s.heap a (.tup vs) from I.hok a _ (S.sub _ _ e))
    exact typ_at h1 h2
  | _ => cases n
end Pu

/-! PN: a law's body after the pool is made. -/
namespace Pu
open PySem PySem.Spec PyProof.Rows L2 Ni
def F0 : Hp := fun _ => none
theorem Stt.pool {X : Cx} {P s a : Addr} {H : Hp} (h : PoolS H P s) (n : Nat) : Stt X (ct0 (some (P, s)) H F0) F0 (none :: some (.val .pool) :: List.replicate n none) (some (.ref a) :: some (.ref P) :: List.replicate n none) H := by
  refine ⟨nofun, .refl, gua_refl fun P2 s2 e => ?_, ?_, ?_, nofun, [], ?_, .nil, nofun⟩
  · cases e; exact h
  · intro P2 s2 e
    cases e
    obtain ⟨o, e⟩ := h.at1
    exact ⟨rfl, fun z => (by
      have z : H P = none := z
      rw [z] at e; cases e), h⟩
  · intro P2 s2 e
    cases e
    obtain ⟨o, e⟩ := h.at2
    exact ⟨fun z => (by
      have z : H s = none := z
      rw [z] at e; cases e), nofun, nofun⟩
  · exact .free (.val ⟨P, s, rfl, rfl⟩ (Slots.frees n))
theorem law_tail {X : Cx} {N : List Str} {L : Lang} {CL XL : List Cl} {code : CSs} {body : List Stmt} {sc : Scope} {a P s : Addr} {H : Hp} {D : Ends} (n : Nat) (hP : PoolS H P s)
    (e7 : X.N = N) (nd : N.Nodup) (e6 : X.env.scope = sc) (e8 : ∀ y, X.fn y = true) (V1 : Env1 X) (hL : LOk (b6 X) L CL) (hX : ExOk (b6 X) XL) (hm : mB N (L.G.map (·.1)) CL XL true true sc code body = true)
    (hd : denB L code (none :: some (.val .pool) :: List.replicate n none) { nx := fun _ => False, rt := fun v _ => v = .bl true, ex := fun _ _ => False }) (k : ∀ H', D.rt (.bl true) H') :
    Wb X body D (some (.ref a) :: some (.ref P) :: List.replicate n none) H := by
  refine Wb.imp (D := lift false X (ct0 (some (P, s)) H F0) F0 _) ?_ ?_ ?_ ?_ (allB (fr := false) code (b6 X) L _ hL rfl hX (ct := ct0 (some (P, s)) H F0) rfl ⟨e7, nd, e6, fun _ => e8, fun _ => rfl, fun _ _ z => (nomatch z), fun _ => V1.calm⟩ (fun _ => V1) hm (fun z => (by cases z)) (Stt.pool hP n) ?_ hd)
  · rintro σ' H' ⟨ρ', F', S', s', q⟩
    exact q.elim
  · rintro v H' ⟨y, F', ρ', σ', S', a3, _, rfl⟩
    cases a3
    exact k H'
  · rintro σ' H' ⟨ρ', F', S', s', q⟩
    exact q.elim
  · rintro σ' H' ⟨ρ', F', S', s', q⟩
    exact q.elim
  · intro e ρ' F' σ' H' d S' _ xd q
    exact q.elim
end Pu

/-! QL: the laws' own helpers, over values. -/
namespace Qw
open PySem PySem.Spec PyProof.Rows L2 Ni Rt Pu
local macro_rules | `(tactic| exists "wh") => `(tactic| conv => whnf)
/-- a pair of the top and the bottom -/
def pairP (q : Rat) : PV := .tup [.int q.num, .int (q.den : Int)]
def rLow : List PV → (PV → Prop) → Prop
  | [.int t, .int b], Q => (0 < b ∧ Bd b 8999) ∧ Q (pairP (Rat.divInt t b))
  | _, _ => False
def spLow : PSpec := .fn rLow fun {xs Q Q'} h1 h => by
  unfold rLow at h ⊢
  split at h
  · exact ⟨h.1, h1 _ h.2⟩
  · exact h.elim
def k__law_low : CSs := (.cons (.asg (.nm 2) (.bi .abs (.cons (.var 0) .nil))) (.cons (.asg (.nm 3) (.var 1)) (.cons (.while_ (.cmp .Gt (.var 3) (.int 0)) (.cons (.asg (.nm 4) (.bin .Mod (.bi .int (.cons (.var 2) .nil)) (.var 3))) (.cons (.asg (.nm 2) (.var 3)) (.cons (.asg (.nm 3) (.var 4)) .nil)))) (.cons (.ret (.tup (.cons (.bin .FloorDiv (.var 0) (.var 2)) (.cons (.bin .FloorDiv (.var 1) (.var 2)) .nil)))) .nil))))
theorem gcd_step {a b : Int} (h0 : 0 ≤ a) (hb : 0 < b) : Nat.gcd b.toNat (a % b).toNat = Nat.gcd a.toNat b.toNat := by
  have e : (a % b).toNat = a.toNat % b.toNat := by
    rw [Int.toNat_emod h0 (by omega)]
  rw [e, Nat.gcd_comm, ← Nat.gcd_rec, Nat.gcd_comm]
theorem com_bdP {t b : Int} {k : Nat} (h : b ≠ 0) (hb : Bd b k) : Bd (com t b) k := by
  refine hb.of_abs ?_
  have l : Nat.gcd t.natAbs b.natAbs ≤ b.natAbs := Nat.gcd_le_right _ (by omega)
  unfold com
  split <;> omega
theorem ifB_d {c : Prop} [Decidable c] {A B : Prop} (h1 : c → A) (h2 : ¬ c → B) : ifB (decide c) A B := by
  by_cases h : c
  · rw [decide_eq_true h]; exact h1 h
  · rw [decide_eq_false h]; exact h2 h
theorem ifB_nd {c : Prop} [Decidable c] {A B : Prop} (h1 : ¬ c → A) (h2 : c → B) : ifB (!decide c) A B := by
  by_cases h : c
  · rw [decide_eq_true h]; exact h2 h
  · rw [decide_eq_false h]; exact h1 h
theorem ifB_t {b : Bool} {A B : Prop} (h : b = true) (a : A) : ifB b A B := by rw [h]; exact a
theorem ifB_fl {b : Bool} {A B : Prop} (h : b = false) (a : B) : ifB b A B := by rw [h]; exact a
variable {tab : TK → TK → Option Bool}
theorem sem_low {xs : List PV} {Q : PV → Prop} {E : KE} (h0 : spLow.run xs Q E) : xs.length = 2 ∧ denB (Lang.of [] (opS tab)) k__law_low (startE 5 xs) { nx := fun _ => Q .non, rt := fun x _ => Q x, ex := fun e _ => E e } := by
  have h : rLow xs Q := h0
  clear h0
  unfold rLow at h
  split at h
  · rename_i t b
    obtain ⟨⟨b0, bb⟩, q⟩ := h
    refine ⟨rfl, ?_⟩
    have et : (if t < 0 then -t else t) = ((t.natAbs : Nat) : Int) := by
      split <;> omega
    show denB _ (.cons (.while_ _ _) _) [some (.val (.int t)), some (.val (.int b)), some (.val (.int (if t < 0 then -t else t))), some (.val (.int b)), none] _
    rw [et]
    refine ⟨fun m ρ => ∃ (one two : Int) (rest : Option SV), ρ = [some (.val (.int t)), some (.val (.int b)), some (.val (.int one)), some (.val (.int two)), rest] ∧ 0 ≤ one ∧ 0 ≤ two ∧ Nat.gcd one.toNat two.toNat = Nat.gcd t.natAbs b.natAbs ∧ m = two.toNat,
      ⟨b.toNat, _, b, none, rfl, by omega, by omega, by rw [Int.toNat_natCast, show b.toNat = b.natAbs by omega], rfl⟩, ?_⟩
    rintro m ρ ⟨one, two, rest, rfl, h1, h2, hg, rfl⟩
    show ifB (decide (0 < two)) _ _
    refine ifB_d (fun z => ?_) (fun z => ?_)
    · refine ⟨z, ?_⟩
      exists "wh"
      refine ⟨(one % two).toNat, ?_, two, one % two, _, rfl, by omega, Int.emod_nonneg _ (by omega), ?_, rfl⟩
      · have := Int.emod_lt_of_pos one z
        have := Int.emod_nonneg one (show two ≠ 0 by omega)
        omega
      · rw [gcd_step h1 z]
        exact hg
    · have e0 : two = 0 := by omega
      subst e0
      have eo : one = com t b := by
        rw [show Int.toNat 0 = 0 from rfl, Nat.gcd_zero_right] at hg
        unfold com
        rw [if_neg (by omega)]
        omega
      have bc : Bd (com t b) 8999 := com_bdP (by omega) bb
      have nc : com t b ≠ 0 := com_ne (by omega)
      rw [eo]
      refine ⟨⟨nc, _, bc, by decide⟩, ?_⟩
      refine ⟨⟨nc, _, bc, by decide⟩, ?_⟩
      show Q (.tup [.int (t.fdiv (com t b)), .int (b.fdiv (com t b))])
      rw [com_top (by omega), com_bot (by omega)]
      exact q
  · exact h.elim
end Qw

/-! QM: the laws' own helpers, over values: whole numbers, pairs, signs, draws. -/
namespace Qw
open PySem PySem.Spec PyProof.Rows L2 Ni Rt Pu
local macro_rules | `(tactic| exists "wh") => `(tactic| conv => whnf)
def tabB : List (TK × TK × Bool) := [(.int, .int, true), (.int, .bool, false), (.bool, .bool, true), (.int, .cl .ratio, false), (.cl .ratio, .cl .ratio, true), (.cl .ratio, .int, false), (.non, .int, false), (.str, .int, false), (.list, .int, false), (.tuple, .int, false), (.non, .cl .ratio, false), (.str, .cl .ratio, false), (.list, .cl .ratio, false), (.tuple, .cl .ratio, false)]
abbrev tab : TK → TK → Option Bool := tabF tabB
def rRatio : List PV → (PV → Prop) → (Exc → Prop) → Prop
  | [.int t, .int b], Q, E => Bd b 8999 ∧ (b = 0 → E ⟨.zeroBottom, []⟩) ∧ (b ≠ 0 → Q (.rat (Rat.divInt t b)))
  | [.int n], Q, _ => Q (.rat n)
  | _, _, _ => False
def spRatio : PSpec where
  fresh := true
  run := rRatio
  mono := by
    intro xs Q Q' E E' h1 h2 h
    unfold rRatio at h ⊢
    split at h
    · exact ⟨h.1, fun z => h2 _ (h.2.1 z), fun z => h1 _ (h.2.2 z)⟩
    · exact h1 _ h
    · exact h.elim
def rWhole : List PV → (PV → Prop) → Prop
  | [.int _], Q => Q (.bl true)
  | _, _ => False
def spWhole : PSpec := .fn rWhole fun {xs Q Q'} h1 h => by
  unfold rWhole at h ⊢
  split at h
  · exact h1 _ h
  · exact h.elim
def k__law_whole : CSs := (.cons (.ret (.and (.cons (.bi .isi (.cons (.var 0) (.cons (.ty .int) .nil))) (.cons (.inot (.bi .isi (.cons (.var 0) (.cons (.ty .bool) .nil)))) .nil)))) .nil)
theorem sem_whole {xs : List PV} {Q : PV → Prop} {E : KE} (h0 : spWhole.run xs Q E) : xs.length = 1 ∧ denB (Lang.of [] (opS tab)) k__law_whole (startE 1 xs) { nx := fun _ => Q .non, rt := fun x _ => Q x, ex := fun e _ => E e } := by
  have h : rWhole xs Q := h0
  clear h0
  unfold rWhole at h
  split at h
  · refine ⟨rfl, ?_⟩
    exists "wh"
    exact h
  · exact h.elim
def rPair : List PV → (PV → Prop) → Prop
  | [.rat q], Q => Bd (q.den : Int) 8999 ∧ Q (pairP q)
  | _, _ => False
def spPairP : PSpec := .fn rPair fun {xs Q Q'} h1 h => by
  unfold rPair at h ⊢
  split at h
  · exact ⟨h.1, h1 _ h.2⟩
  · exact h.elim
def k__law_pair : CSs := (.cons (.ite (.or (.cons (.inot (.bi .isi (.cons (.var 0) (.cons (.cls .ratio) .nil)))) (.cons (.inot (.call 0 (.cons (.fld .ratio 0 (.var 0)) .nil))) (.cons (.inot (.call 0 (.cons (.fld .ratio 1 (.var 0)) .nil))) .nil)))) (.cons (.ret .non) .nil) .nil) (.cons (.ite (.or (.cons (.cmp .Lt (.fld .ratio 1 (.var 0)) (.int 1)) (.cons (.cmp .NotEq (.call 1 (.cons (.fld .ratio 0 (.var 0)) (.cons (.fld .ratio 1 (.var 0)) .nil))) (.tup (.cons (.fld .ratio 0 (.var 0)) (.cons (.fld .ratio 1 (.var 0)) .nil)))) .nil))) (.cons (.ret .non) .nil) .nil) (.cons (.ret (.tup (.cons (.fld .ratio 0 (.var 0)) (.cons (.fld .ratio 1 (.var 0)) .nil)))) .nil)))
abbrev L__law_pair : Lang := (Lang.of [(.glo "_law_whole", spWhole), (.glo "_law_low", spLow)] (opS tab))
theorem sem_pair {xs : List PV} {Q : PV → Prop} {E : KE} (h0 : spPairP.run xs Q E) : xs.length = 1 ∧ denB L__law_pair k__law_pair (startE 1 xs) { nx := fun _ => Q .non, rt := fun x _ => Q x, ex := fun e _ => E e } := by
  have h : rPair xs Q := h0
  clear h0
  unfold rPair at h
  split at h
  · rename_i q
    obtain ⟨hb, h⟩ := h
    refine ⟨rfl, ?_⟩
    have d0 : (0 : Int) < q.den := by
      have := q.den_pos
      omega
    show ifB (decide ((q.den : Int) < 1)) _ _
    refine ifB_d (fun z => absurd z (by omega)) (fun _ => ?_)
    refine ⟨⟨d0, hb⟩, ?_⟩
    rw [Rat.num_divInt_den]
    refine ⟨⟨rfl, rfl⟩, ?_⟩
    refine ifB_fl ?_ ?_
    · rw [show eqP (pairP q) (.tup [.int q.num, .int (q.den : Int)]) = true from eqP_self (show datP 60 _ = true from rfl)]
      rfl
    · exists "wh"
      exact h
  · exact h.elim
def sixP (t u : Int) : PV := .lst [.bl (decide (t < u)), .bl (decide (t ≤ u)), .bl (decide (u < t)), .bl (decide (u ≤ t)), .bl (decide (t = u)), .bl (!decide (t = u))]
def rSigns : List PV → (PV → Prop) → Prop
  | [.lst ys, .int t, .int u], Q => PV.lst ys = sixP t u ∧ Q (.bl true)
  | _, _ => False
def spSigns : PSpec := .fn rSigns fun {xs Q Q'} h1 h => by
  unfold rSigns at h ⊢
  split at h
  · exact ⟨h.1, h1 _ h.2⟩
  · exact h.elim
def k__law_signs : CSs := (.cons (.for_ (.nm 3) (.seqV 0) (.cons (.ite (.inot (.bi .isi (.cons (.var 3) (.cons (.ty .bool) .nil)))) (.cons (.ret (.bl false)) .nil) .nil) .nil)) (.cons (.ret (.cmp .Eq (.var 0) (.fr (.lst (.cons (.cmp .Lt (.var 1) (.var 2)) (.cons (.cmp .LtE (.var 1) (.var 2)) (.cons (.cmp .Gt (.var 1) (.var 2)) (.cons (.cmp .GtE (.var 1) (.var 2)) (.cons (.cmp .Eq (.var 1) (.var 2)) (.cons (.cmp .NotEq (.var 1) (.var 2)) .nil)))))))))) .nil))
theorem eqP_six (a b c d e f : Bool) : eqP (.lst [.bl a, .bl b, .bl c, .bl d, .bl e, .bl f]) (.lst [.bl a, .bl b, .bl c, .bl d, .bl e, .bl f]) = true := eqP_self (show datP 60 _ = true from rfl)
theorem sem_signs {xs : List PV} {Q : PV → Prop} {E : KE} (h0 : spSigns.run xs Q E) : xs.length = 3 ∧ denB (Lang.of [] (opS tab)) k__law_signs (startE 4 xs) { nx := fun _ => Q .non, rt := fun x _ => Q x, ex := fun e _ => E e } := by
  have h : rSigns xs Q := h0
  clear h0
  unfold rSigns at h
  split at h
  · rename_i ys t u
    obtain ⟨e, h⟩ := h
    cases e
    refine ⟨rfl, ?_⟩
    exists "wh"
    refine ⟨⟨rfl, rfl⟩, ?_⟩
    show Q (.bl (eqP _ _))
    rw [eqP_six]
    exact h
  · exact h.elim
def rDraw : List PV → (PV → Prop) → Prop
  | [.pool, .int m], Q => (0 < m ∧ Bd m 8999) ∧ ∀ d : Int, 0 ≤ d → d < m → Q (.int d)
  | _, _ => False
def spDrawP : PSpec := .fn rDraw fun {xs Q Q'} h1 h => by
  unfold rDraw at h ⊢
  split at h
  · exact ⟨h.1, fun d a b => h1 _ (h.2 d a b)⟩
  · exact h.elim
def numQ : PV → Option Rat
  | .rat q => some q
  | .int n => some n
  | _ => none
def numsQ : List PV → Option (List Rat)
  | [] => some []
  | x :: xs => match numQ x with
    | some q => (match numsQ xs with
      | some qs => some (q :: qs)
      | none => none)
    | none => none
theorem numsQ_ok : ∀ {xs : List PV} {qs : List Rat}, numsQ xs = some qs → xs.length = qs.length ∧ ∀ (i : Nat) (x : PV) (q : Rat), xs[i]? = some x → qs[i]? = some q → numQ x = some q
  | [], _, h => by cases h; exact ⟨rfl, fun i x q h => by simp at h⟩
  | x :: xs, qs, h => by
    unfold numsQ at h
    split at h
    · rename_i q e
      split at h
      · rename_i qs2 e2
        cases h
        obtain ⟨l, g⟩ := numsQ_ok e2
        refine ⟨by simp [l], fun i y r h1 h2 => ?_⟩
        cases i with
        | zero => simp at h1 h2; subst h1 h2; exact e
        | succ i => simp at h1 h2; exact g i y r h1 h2
      · cases h
    · cases h
def rGreat (xs : List PV) (Q : PV → Prop) (E : KE) : Prop := ∃ qs, numsQ xs = some qs ∧ xs.length ≤ 1000 ∧ (∀ q ∈ qs, Sz q 4000) ∧ (qs = [] → E ⟨.badLength, []⟩) ∧ (qs ≠ [] → ∀ r ∈ qs, (∀ q ∈ qs, q ≤ r) → Q (.rat r))
def spGreatP : PSpec where
  run := rGreat
  mono := fun h1 h2 ⟨qs, e, l, s, a, b⟩ => ⟨qs, e, l, s, fun z => h2 _ (a z), fun z r m g => h1 _ (b z r m g)⟩
def rTrue0 : List PV → (PV → Prop) → Prop
  | [], Q => Q (.bl true)
  | _, _ => False
def spTrue0 : PSpec := .fn rTrue0 fun {xs Q Q'} h1 h => by
  unfold rTrue0 at h ⊢
  split at h
  · exact h1 _ h
  · exact h.elim
end Qw

/-! QO: what value proofs lean on: loops, sizes, order of fractions. -/
namespace Qw
open PySem PySem.Spec PyProof.Rows L2 Ni Rt Pu
local macro_rules | `(tactic| exists "wh") => `(tactic| conv => whnf)
theorem denFor_ind {step : PV → Pu.Env → (Pu.Env → Prop) → Prop} {K : Pu.Env → Prop} (I : List PV → Pu.Env → Prop) (h0 : ∀ ρ, I [] ρ → K ρ) (h1 : ∀ x xs ρ (K2 : Pu.Env → Prop), I (x :: xs) ρ → (∀ ρ', I xs ρ' → K2 ρ') → step x ρ K2) : ∀ {xs : List PV} {ρ : Pu.Env}, I xs ρ → denFor step xs ρ K
  | [], ρ, h => h0 ρ h
  | x :: xs, ρ, h => h1 x xs ρ _ h fun _ h' => denFor_ind I h0 h1 h'
theorem denComp_map {step : PV → (Option PV → Prop) → Prop} {K : List PV → Prop} (f : PV → PV) : ∀ {xs acc : List PV}, (∀ x ∈ xs, ∀ K2 : Option PV → Prop, K2 (some (f x)) → step x K2) → K (acc ++ xs.map f) → denComp step xs acc K
  | [], acc, _, h => by rw [List.map_nil, List.append_nil] at h; exact h
  | x :: xs, acc, h1, h => h1 x (.head _) _ (denComp_map f (fun y m => h1 y (.tail _ m)) (by simpa using h))
theorem rangeP_len : ∀ (n : Nat) (lo : Int), (rangeP lo n).length = n
  | 0, _ => rfl
  | n + 1, lo => by
    show (rangeP (lo + 1) n).length + 1 = n + 1
    rw [rangeP_len n]
theorem wide_of {W : Int} (h : W ≤ 10 ^ 40) (h0 : 0 ≤ W) (n : Int) (l : n.natAbs ≤ 100 * W.natAbs + 100) : Bd n 200 := by
  have e : (100 * 10 ^ 40 + 100 : Nat) < 2 ^ 200 := by decide +kernel
  have e2 : (10 ^ 40 : Int) = ((10 ^ 40 : Nat) : Int) := by decide +kernel
  rw [e2] at h
  unfold Bd
  omega
theorem bd_lit {n : Int} {k : Nat} (h : n.natAbs < 8) (l : 3 ≤ k) : Bd n k := Bd.mono (k := 3) h l
theorem mul_small {a b : Int} (h1 : Bd a 200) (h2 : Bd b 200) : MulOk a b := ⟨200, 200, h1, h2, by decide⟩
theorem div_le {a b c d : Int} (hb : 0 < b) (hd : 0 < d) (h : a * d ≤ c * b) : Rat.divInt a b ≤ Rat.divInt c d := by
  have hp : (0 : Rat) < ((b * d : Int) : Rat) := Rat.intCast_lt_intCast.mpr (Int.mul_pos hb hd)
  refine Rat.le_of_mul_le_mul_right (c := ((b * d : Int) : Rat)) ?_ hp
  rw [Rat.intCast_mul]
  have e1 : Rat.divInt a b * ((b : Rat) * (d : Rat)) = ((a * d : Int) : Rat) := by
    rw [← Rat.mul_assoc, div_mul (by omega), Rat.intCast_mul]
  have e2 : Rat.divInt c d * ((b : Rat) * (d : Rat)) = ((c * b : Int) : Rat) := by
    rw [Rat.mul_comm (b : Rat), ← Rat.mul_assoc, div_mul (by omega), Rat.intCast_mul]
  rw [e1, e2]
  exact Rat.intCast_le_intCast.mpr h
theorem le_step {a b c d e f : Int} (hb : 0 < b) (hd : 0 < d) (hf : 0 < f) (h1 : a * d ≤ c * b) (h2 : c * f ≤ e * d) : a * f ≤ e * b := by
  have h3 : a * d * f ≤ c * b * f := Int.mul_le_mul_of_nonneg_right h1 (by omega)
  have h4 : c * f * b ≤ e * d * b := Int.mul_le_mul_of_nonneg_right h2 (by omega)
  have h5 : (a * f) * d ≤ (e * b) * d := by
    rw [show a * f * d = a * d * f by rw [Int.mul_assoc, Int.mul_comm f d, ← Int.mul_assoc], show e * b * d = e * d * b by rw [Int.mul_assoc, Int.mul_comm b d, ← Int.mul_assoc]]
    refine Int.le_trans h3 ?_
    rw [show c * b * f = c * f * b by rw [Int.mul_assoc, Int.mul_comm b f, ← Int.mul_assoc]]
    exact h4
  exact Int.le_of_mul_le_mul_right h5 hd
theorem bd_den {r : Rat} {k : Nat} (h : Sz r 4000) (l : 4000 ≤ k) : Bd (r.den : Int) k := h.2.mono l
theorem div1 (n : Int) : Rat.divInt n 1 = (n : Rat) := (is_div (by decide) (by rw [show ((1 : Int) : Rat) = 1 from rfl, Rat.mul_one])).symm
theorem sz_intP {n : Int} {k : Nat} (h : Bd n k) (l : 3 ≤ k) : Sz (n : Rat) k := by
  rw [← div1 n]
  exact sz_of (by decide) h (bd_lit (by decide) l)
theorem eqP_pair {q r : Rat} (h : q = r) : eqP (pairP q) (pairP r) = true := by
  rw [h]
  exact eqP_self (show datP 60 _ = true from rfl)
theorem eqP_pairI {q : Rat} {W : Int} (h : q = (W : Rat)) : eqP (pairP q) (.tup [.int W, .int 1]) = true := by
  rw [h]
  exact eqP_self (show datP 60 _ = true from rfl)
theorem atP_at {xs : List PV} {d : Int} {x : PV} {Q : PV → Prop} (h0 : 0 ≤ d) (h : nth xs d.toNat = some x) (q : Q x) : atP xs d Q := by
  obtain ⟨j, rfl⟩ := Int.eq_ofNat_of_zero_le h0
  show optP (nth xs j) Q
  rw [Int.toNat_natCast] at h
  rw [h]
  exact q
theorem ite_join {c : Prop} [Decidable c] {L : Lang} {b1 b2 : CSs} {ρ : Pu.Env} {K rt bk ct} {ex : Exc → Pu.Env → Prop} (J : Pu.Env → Prop) (h1 : c → ∀ K, (∀ ρ', J ρ' → K ρ') → denB L b1 ρ ⟨K, rt, bk, ct, ex⟩) (h2 : ¬ c → ∀ K, (∀ ρ', J ρ' → K ρ') → denB L b2 ρ ⟨K, rt, bk, ct, ex⟩) (h : ∀ ρ', J ρ' → K ρ') :
    ifB (decide c) (denB L b1 ρ ⟨K, rt, bk, ct, ex⟩) (denB L b2 ρ ⟨K, rt, bk, ct, ex⟩) := ifB_d (fun z => h1 z K h) (fun z => h2 z K h)
theorem ite_joinN {c : Prop} [Decidable c] {L : Lang} {b1 b2 : CSs} {ρ : Pu.Env} {K rt bk ct} {ex : Exc → Pu.Env → Prop} (J : Pu.Env → Prop) (h1 : ¬ c → ∀ K, (∀ ρ', J ρ' → K ρ') → denB L b1 ρ ⟨K, rt, bk, ct, ex⟩) (h2 : c → ∀ K, (∀ ρ', J ρ' → K ρ') → denB L b2 ρ ⟨K, rt, bk, ct, ex⟩) (h : ∀ ρ', J ρ' → K ρ') :
    ifB (!decide c) (denB L b1 ρ ⟨K, rt, bk, ct, ex⟩) (denB L b2 ρ ⟨K, rt, bk, ct, ex⟩) := ifB_nd (fun z => h1 z K h) (fun z => h2 z K h)
theorem div_lt {a b c d : Int} (hb : 0 < b) (hd : 0 < d) (h : a * d < c * b) : Rat.divInt a b < Rat.divInt c d := by
  have hp : (0 : Rat) ≤ ((b * d : Int) : Rat) := Rat.le_of_lt (Rat.intCast_lt_intCast.mpr (Int.mul_pos hb hd))
  refine Rat.lt_of_mul_lt_mul_right (c := ((b * d : Int) : Rat)) ?_ hp
  rw [Rat.intCast_mul]
  have e1 : Rat.divInt a b * ((b : Rat) * (d : Rat)) = ((a * d : Int) : Rat) := by
    rw [← Rat.mul_assoc, div_mul (by omega), Rat.intCast_mul]
  have e2 : Rat.divInt c d * ((b : Rat) * (d : Rat)) = ((c * b : Int) : Rat) := by
    rw [Rat.mul_comm (b : Rat), ← Rat.mul_assoc, div_mul (by omega), Rat.intCast_mul]
  rw [e1, e2]
  exact Rat.intCast_lt_intCast.mpr h
theorem div_le_iff {a b c d : Int} (hb : 0 < b) (hd : 0 < d) : Rat.divInt a b ≤ Rat.divInt c d ↔ a * d ≤ c * b := by
  refine ⟨fun h => ?_, div_le hb hd⟩
  by_cases z : a * d ≤ c * b
  · exact z
  · exact absurd h (Rat.not_le.mpr (div_lt hd hb (by omega)))
theorem six_of {q r : Rat} {t u : Int} (h1 : q ≤ r ↔ t ≤ u) (h2 : r ≤ q ↔ u ≤ t) : PV.lst [.bl (decide (q < r)), .bl (decide (q ≤ r)), .bl (decide (r < q)), .bl (decide (r ≤ q)), .bl (decide (q = r)), .bl (!decide (q = r))] = sixP t u := by
  have a1 : q < r ↔ t < u := by rw [← Rat.not_le, h2]; omega
  have a2 : r < q ↔ u < t := by rw [← Rat.not_le, h1]; omega
  have a3 : q = r ↔ t = u := ⟨fun e => by
    have := h1.mp (by rw [e]; exact Rat.le_refl)
    have := h2.mp (by rw [e]; exact Rat.le_refl)
    omega, fun e => Rat.le_antisymm (h1.mpr (by omega)) (h2.mpr (by omega))⟩
  unfold sixP
  rw [decide_eq_decide.mpr a1, decide_eq_decide.mpr h1, decide_eq_decide.mpr a2, decide_eq_decide.mpr h2, decide_eq_decide.mpr a3]
theorem fdiv_small {a b : Int} (h : 0 < b) : (a.fdiv b).natAbs ≤ a.natAbs := by
  rw [Int.fdiv_eq_ediv_of_nonneg _ (by omega)]
  exact Int.natAbs_ediv_le_natAbs a b
theorem eqB (b : Bool) : eqP (.bl b) (.bl b) = true := eqP_self (show datP 60 _ = true from rfl)
theorem div_zero {a b : Int} (h : 0 < b) : Rat.divInt a b = 0 ↔ a = 0 := by
  have e : (0 : Rat) = Rat.divInt 0 1 := (div1 0).symm
  have h1 := div_le_iff (a := a) (c := 0) h (show (0 : Int) < 1 by decide)
  have h2 := div_le_iff (c := a) (a := 0) (show (0 : Int) < 1 by decide) h
  rw [← e] at h1 h2
  refine ⟨fun z => ?_, fun z => ?_⟩
  · have := h1.mp (by rw [z]; exact Rat.le_refl)
    have := h2.mp (by rw [z]; exact Rat.le_refl)
    omega
  · exact Rat.le_antisymm (h1.mpr (by omega)) (h2.mpr (by omega))
end Qw

/-! QN: quotients, rests and powers of fractions, over values. -/
namespace Qw
open PySem PySem.Spec PyProof.Rows L2 Ni Rt Pu
local macro_rules | `(tactic| exists "wh") => `(tactic| conv => whnf)
def rAs : List PV → (PV → Prop) → Prop
  | [x], Q => ∃ q, numQ x = some q ∧ Q (.rat q)
  | _, _ => False
def spAs : PSpec := .fn rAs fun {xs Q Q'} h1 h => by
  unfold rAs at h ⊢
  split at h
  · obtain ⟨q, e, h⟩ := h
    exact ⟨q, e, h1 _ h⟩
  · exact h.elim
/-- the greatest integer not above the quotient -/
def quoQ (q r : Rat) : Int := (q.num * (r.den : Int)).fdiv ((q.den : Int) * r.num)
def floorR (q r : Rat) (Q : PV → Prop) (E : KE) : Prop := (Sz q 4000 ∧ Sz r 4000) ∧ (r = 0 → E ⟨.zeroBottom, []⟩) ∧ (r ≠ 0 → Q (.int (quoQ q r)))
theorem floorR_mono {q r : Rat} {Q Q' : PV → Prop} {E E' : KE} (h1 : ∀ x, Q x → Q' x) (h2 : ∀ e, E e → E' e) (h : floorR q r Q E) : floorR q r Q' E' := ⟨h.1, fun z => h2 _ (h.2.1 z), fun z => h1 _ (h.2.2 z)⟩
def modR (q r : Rat) (Q : PV → Prop) (E : KE) : Prop := (Sz q 1000 ∧ Sz r 1000) ∧ (r = 0 → E ⟨.zeroBottom, []⟩) ∧ (r ≠ 0 → Q (.rat (q - r * (quoQ q r : Rat))))
theorem modR_mono {q r : Rat} {Q Q' : PV → Prop} {E E' : KE} (h1 : ∀ x, Q x → Q' x) (h2 : ∀ e, E e → E' e) (h : modR q r Q E) : modR q r Q' E' := ⟨h.1, fun z => h2 _ (h.2.1 z), fun z => h1 _ (h.2.2 z)⟩
def rOpF0 (tab : TK → TK → Option Bool) (k : OpK) (xs : List PV) (Q : PV → Prop) (E : KE) : Prop := match k, xs with
  | .bin .FloorDiv, [.rat q, .rat r] => floorR q r Q E
  | k, xs => opP tab k xs Q
/-- with the quotient of two fractions -/
def opF0 (tab : TK → TK → Option Bool) (k : OpK) : PSpec where
  run := rOpF0 tab k
  mono := by
    intro xs Q Q' E E' h1 h2 h
    unfold rOpF0 at h ⊢
    split at h
    · exact floorR_mono h1 h2 h
    · exact opP_mono tab h1 h
def rOpF (tab : TK → TK → Option Bool) (k : OpK) (xs : List PV) (Q : PV → Prop) (E : KE) : Prop := match k, xs with
  | .bin .FloorDiv, [.rat q, .rat r] => floorR q r Q E
  | .bin .FloorDiv, [.rat q, .int n] => floorR q n Q E
  | .bin .FloorDiv, [.int n, .rat r] => floorR n r Q E
  | k, xs => opP tab k xs Q
/-- with the quotients of fractions -/
def opF (tab : TK → TK → Option Bool) (k : OpK) : PSpec where
  run := rOpF tab k
  mono := by
    intro xs Q Q' E E' h1 h2 h
    unfold rOpF at h ⊢
    split at h
    · exact floorR_mono h1 h2 h
    · exact floorR_mono h1 h2 h
    · exact floorR_mono h1 h2 h
    · exact opP_mono tab h1 h
def rOpM (tab : TK → TK → Option Bool) (k : OpK) (xs : List PV) (Q : PV → Prop) (E : KE) : Prop := match k, xs with
  | .bin .Mod, [.rat q, .rat r] => modR q r Q E
  | .bin .Mod, [.rat q, .int n] => modR q n Q E
  | .bin .Mod, [.int n, .rat r] => modR n r Q E
  | .bin .Pow, [.rat q, .int n] => (Sz q 130 ∧ 0 ≤ n ∧ n ≤ 64) ∧ Q (.rat (q ^ n.toNat))
  | k, xs => rOpF tab k xs Q E
def opM (tab : TK → TK → Option Bool) (k : OpK) : PSpec where
  run := rOpM tab k
  mono := by
    intro xs Q Q' E E' h1 h2 h
    unfold rOpM at h ⊢
    split at h
    · exact modR_mono h1 h2 h
    · exact modR_mono h1 h2 h
    · exact modR_mono h1 h2 h
    · exact ⟨h.1, h1 _ h.2⟩
    · exact (opF tab _).mono h1 h2 h
def rFl : List PV → (PV → Prop) → KE → Prop
  | [.rat q, y], Q, E => ∃ r, numQ y = some r ∧ floorR q r Q E
  | _, _, _ => False
def spFl : PSpec where
  run := rFl
  mono := by
    intro xs Q Q' E E' h1 h2 h
    unfold rFl at h ⊢
    split at h
    · obtain ⟨r, e, h⟩ := h
      exact ⟨r, e, floorR_mono h1 h2 h⟩
    · exact h.elim
def k_Ratio___floordiv__ : CSs := (.cons (.asg (.nm 1) (.call 0 (.cons (.var 1) .nil))) (.cons (.ite (.cmp .Eq (.fld .ratio 0 (.var 1)) (.int 0)) (.cons (.raise_ .zeroBottom) .nil) .nil) (.cons (.ret (.bin .FloorDiv (.bin .Mult (.fld .ratio 0 (.var 0)) (.fld .ratio 1 (.var 1))) (.bin .Mult (.fld .ratio 1 (.var 0)) (.fld .ratio 0 (.var 1))))) .nil)))
theorem sem_fl {xs : List PV} {Q : PV → Prop} {E : KE} (h0 : spFl.run xs Q E) : xs.length = 2 ∧ denB (Lang.of [(.glo "as_ratio", spAs)] (opS tab)) k_Ratio___floordiv__ (startE 2 xs) { nx := fun _ => Q .non, rt := fun x _ => Q x, ex := fun e _ => E e } := by
  have h : rFl xs Q E := h0
  clear h0
  unfold rFl at h
  split at h
  · rename_i q y
    obtain ⟨r, ey, ⟨s1, s2⟩, he, hq⟩ := h
    refine ⟨rfl, ?_⟩
    exists "wh"
    refine ⟨r, ey, ?_⟩
    exists "wh"
    refine ifB_d (fun z => ?_) (fun z => ?_)
    · exists "wh"
      exact he (Rat.num_eq_zero.mp z)
    · exists "wh"
      refine ⟨⟨4000, 4000, s1.1, s2.2, by decide⟩, ?_⟩
      exists "wh"
      refine ⟨⟨4000, 4000, s1.2, s2.1, by decide⟩, ?_⟩
      exists "wh"
      refine ⟨⟨Int.mul_ne_zero (by have := q.den_nz; omega) z, 8000, s1.2.mul s2.1, by decide, by decide⟩, ?_⟩
      exact hq fun e => z (Rat.num_eq_zero.mpr e)
  · exact h.elim
theorem quo_bd {q r : Rat} (s1 : Sz q 1000) (s2 : Sz r 1000) : Bd (quoQ q r) 2000 := (s1.1.mul s2.2).of_abs (Int.natAbs_fdiv_le_natAbs _ _)
theorem sz_q {q : Rat} {n : Int} (s : Sz q 1000) (h : Bd n 2000) : Sz (q * (n : Rat)) 3000 := by
  rw [← q_mul q n, Rat.num_intCast, Rat.den_intCast]
  exact sz_of (by have := q.den_nz; simp; omega) (s.1.mul h) (by
    rw [show (q.den : Int) * ((1 : Nat) : Int) = (q.den : Int) by simp]
    exact s.2.mono (by decide))
def rMd : List PV → (PV → Prop) → KE → Prop
  | [.rat q, .rat r], Q, E => modR q r Q E
  | [.rat q, .int n], Q, E => modR q n Q E
  | _, _, _ => False
def spMd : PSpec where
  run := rMd
  mono := by
    intro xs Q Q' E E' h1 h2 h
    unfold rMd at h ⊢
    split at h
    · exact modR_mono h1 h2 h
    · exact modR_mono h1 h2 h
    · exact h.elim
def k_Ratio___mod__ : CSs := (.cons (.ret (.bin .Sub (.var 0) (.bin .Mult (.var 1) (.bin .FloorDiv (.var 0) (.var 1))))) .nil)
theorem sem_md {xs : List PV} {Q : PV → Prop} {E : KE} (h0 : spMd.run xs Q E) : xs.length = 2 ∧ denB (Lang.of [] (opF tab)) k_Ratio___mod__ (startE 2 xs) { nx := fun _ => Q .non, rt := fun x _ => Q x, ex := fun e _ => E e } := by
  have h : rMd xs Q E := h0
  clear h0
  unfold rMd at h
  split at h
  · rename_i q r
    obtain ⟨⟨s1, s2⟩, he, hq⟩ := h
    refine ⟨rfl, ?_⟩
    have bq := quo_bd s1 s2
    exists "wh"
    refine ⟨⟨s1.mono (by decide), s2.mono (by decide)⟩, he, fun z => ?_⟩
    exists "wh"
    refine ⟨⟨1000, 2000, s2, sz_intP bq (by decide), by decide⟩, ?_⟩
    exists "wh"
    refine ⟨⟨1000, 3000, s1, sz_q s2 bq, by decide⟩, ?_⟩
    exact hq z
  · rename_i q n
    obtain ⟨⟨s1, s2⟩, he, hq⟩ := h
    refine ⟨rfl, ?_⟩
    have bq := quo_bd s1 s2
    have bn : Bd n 1000 := s2.1
    exists "wh"
    refine ⟨⟨s1.mono (by decide), s2.mono (by decide)⟩, he, fun z => ?_⟩
    exists "wh"
    refine ⟨⟨1000, 2000, bn, bq, by decide⟩, ?_⟩
    exists "wh"
    refine ⟨⟨1000, 3000, s1, sz_intP (bn.mul bq) (by decide), by decide⟩, ?_⟩
    have := hq z
    rw [← Rat.intCast_mul] at this
    exact this
  · exact h.elim
def rRfl : List PV → (PV → Prop) → KE → Prop
  | [.rat q, .int n], Q, E => floorR n q Q E
  | _, _, _ => False
def spRfl : PSpec where
  run := rRfl
  mono := by
    intro xs Q Q' E E' h1 h2 h
    unfold rRfl at h ⊢
    split at h
    · exact floorR_mono h1 h2 h
    · exact h.elim
def k_Ratio___rfloordiv__ : CSs := (.cons (.ret (.bin .FloorDiv (.call 0 (.cons (.var 1) .nil)) (.var 0))) .nil)
theorem sem_rfl {xs : List PV} {Q : PV → Prop} {E : KE} (h0 : spRfl.run xs Q E) : xs.length = 2 ∧ denB (Lang.of [(.glo "as_ratio", spAs)] (opF0 tab)) k_Ratio___rfloordiv__ (startE 2 xs) { nx := fun _ => Q .non, rt := fun x _ => Q x, ex := fun e _ => E e } := by
  have h : rRfl xs Q E := h0
  clear h0
  unfold rRfl at h
  split at h
  · rename_i q n
    obtain ⟨s, he, hq⟩ := h
    refine ⟨rfl, ?_⟩
    exists "wh"
    refine ⟨(n : Rat), rfl, ?_⟩
    exists "wh"
    exact ⟨s, he, hq⟩
  · exact h.elim
def rRmd : List PV → (PV → Prop) → KE → Prop
  | [.rat q, .int n], Q, E => modR n q Q E
  | _, _, _ => False
def spRmd : PSpec where
  run := rRmd
  mono := by
    intro xs Q Q' E E' h1 h2 h
    unfold rRmd at h ⊢
    split at h
    · exact modR_mono h1 h2 h
    · exact h.elim
def k_Ratio___rmod__ : CSs := (.cons (.ret (.bin .Sub (.var 1) (.bin .Mult (.var 0) (.bin .FloorDiv (.var 1) (.var 0))))) .nil)
theorem sem_rmd {xs : List PV} {Q : PV → Prop} {E : KE} (h0 : spRmd.run xs Q E) : xs.length = 2 ∧ denB (Lang.of [] (opF tab)) k_Ratio___rmod__ (startE 2 xs) { nx := fun _ => Q .non, rt := fun x _ => Q x, ex := fun e _ => E e } := by
  have h : rRmd xs Q E := h0
  clear h0
  unfold rRmd at h
  split at h
  · rename_i q n
    obtain ⟨⟨s1, s2⟩, he, hq⟩ := h
    refine ⟨rfl, ?_⟩
    have bq := quo_bd s1 s2
    exists "wh"
    refine ⟨⟨s1.mono (by decide), s2.mono (by decide)⟩, he, fun z => ?_⟩
    exists "wh"
    refine ⟨⟨1000, 2000, s2, sz_intP bq (by decide), by decide⟩, ?_⟩
    exists "wh"
    refine ⟨⟨1000, 3000, s1, sz_q s2 bq, by decide⟩, ?_⟩
    exact hq z
  · exact h.elim
/-- the exact quotient -/
def overR (q r : Rat) (Q : PV → Prop) (E : KE) : Prop := (Sz q 4000 ∧ Sz r 4000) ∧ (r = 0 → E ⟨.zeroBottom, []⟩) ∧ (r ≠ 0 → Q (.rat (q / r)))
def rOver : List PV → (PV → Prop) → KE → Prop
  | [.rat q, y], Q, E => ∃ r, numQ y = some r ∧ overR q r Q E
  | _, _, _ => False
def spOver : PSpec where
  run := rOver
  mono := by
    intro xs Q Q' E E' h1 h2 h
    unfold rOver at h ⊢
    split at h
    · obtain ⟨r, e, h⟩ := h
      exact ⟨r, e, h.1, fun z => h2 _ (h.2.1 z), fun z => h1 _ (h.2.2 z)⟩
    · exact h.elim
theorem q_over {q r : Rat} (h : r ≠ 0) : Rat.divInt (q.num * (r.den : Int)) ((q.den : Int) * r.num) = q / r := by
  have hn : (q.den : Int) * r.num ≠ 0 := Int.mul_ne_zero (by have := q.den_nz; omega) fun z => h (Rat.num_eq_zero.mp z)
  refine (is_div hn ?_).symm
  have e1 : q * ((q.den : Int) : Rat) = (q.num : Rat) := by
    have := div_mul (t := q.num) (b := (q.den : Int)) (den_ne q)
    rw [Rat.num_divInt_den] at this
    exact this
  have e2 : r * ((r.den : Int) : Rat) = (r.num : Rat) := by
    have := div_mul (t := r.num) (b := (r.den : Int)) (den_ne r)
    rw [Rat.num_divInt_den] at this
    exact this
  rw [Rat.intCast_mul, Rat.intCast_mul, ← e1, ← e2]
  generalize ((q.den : Int) : Rat) = x
  generalize ((r.den : Int) : Rat) = y
  grind
def k_Ratio_over : CSs := (.cons (.asg (.nm 1) (.call 0 (.cons (.var 1) .nil))) (.cons (.ret (.call 1 (.cons (.bin .Mult (.fld .ratio 0 (.var 0)) (.fld .ratio 1 (.var 1))) (.cons (.bin .Mult (.fld .ratio 1 (.var 0)) (.fld .ratio 0 (.var 1))) .nil)))) .nil))
theorem sem_over {xs : List PV} {Q : PV → Prop} {E : KE} (h0 : spOver.run xs Q E) : xs.length = 2 ∧ denB (Lang.of [(.glo "as_ratio", spAs), (.glo "Ratio", spRatio)] (opS tab)) k_Ratio_over (startE 2 xs) { nx := fun _ => Q .non, rt := fun x _ => Q x, ex := fun e _ => E e } := by
  have h : rOver xs Q E := h0
  clear h0
  unfold rOver at h
  split at h
  · rename_i q y
    obtain ⟨r, ey, ⟨s1, s2⟩, he, hq⟩ := h
    refine ⟨rfl, ?_⟩
    exists "wh"
    refine ⟨r, ey, ?_⟩
    exists "wh"
    refine ⟨⟨4000, 4000, s1.1, s2.2, by decide⟩, ?_⟩
    exists "wh"
    refine ⟨⟨4000, 4000, s1.2, s2.1, by decide⟩, ?_⟩
    exists "wh"
    refine ⟨(s1.2.mul s2.1).mono (by decide), fun z => ?_, fun z => ?_⟩
    · refine he (Rat.num_eq_zero.mp ?_)
      rcases Int.mul_eq_zero.mp z with z | z
      · exact absurd z (by have := q.den_nz; omega)
      · exact z
    · have hr : r ≠ 0 := fun e => z (by rw [e]; simp)
      have := hq hr
      rw [← q_over hr] at this
      exact this
  · exact h.elim
theorem q_pow (q : Rat) : ∀ k : Nat, Rat.divInt (q.num ^ k) ((q.den : Int) ^ k) = q ^ k
  | 0 => by rw [Int.pow_zero, Int.pow_zero, div1, Rat.pow_zero]; rfl
  | k + 1 => by
    have h := q_pow q k
    have n0 : (q.den : Int) ^ k ≠ 0 := Int.pow_ne_zero (den_ne q)
    have e1 := div_mul (t := q.num ^ k) n0
    rw [h] at e1
    have e2 := div_mul (t := q.num) (b := (q.den : Int)) (den_ne q)
    rw [Rat.num_divInt_den] at e2
    refine (is_div (Int.pow_ne_zero (den_ne q)) ?_).symm
    rw [Int.pow_succ, Int.pow_succ, Rat.intCast_mul, Rat.intCast_mul, ← e1, ← e2, Rat.pow_succ]
    grind
def rPow : List PV → (PV → Prop) → Prop
  | [.rat q, .int n], Q => (Sz q 130 ∧ 0 ≤ n ∧ n ≤ 64) ∧ Q (.rat (q ^ n.toNat))
  | _, _ => False
def spPow : PSpec := .fn rPow fun {xs Q Q'} h1 h => by
  unfold rPow at h ⊢
  split at h
  · exact ⟨h.1, h1 _ h.2⟩
  · exact h.elim
theorem bd_one : Bd 1 1 := by unfold Bd; decide
theorem bd_pow {n : Int} {j : Nat} (h : Bd n j) : ∀ k : Nat, Bd (n ^ k) (j * k + 1)
  | 0 => by rw [Int.pow_zero]; exact bd_one.mono (by omega)
  | k + 1 => by
    rw [Int.pow_succ]
    exact ((bd_pow h k).mul h).mono (by rw [Nat.mul_succ]; omega)
def k_Ratio___pow__ : CSs := (.cons (.asg (.tup (.cons (.nm 2) (.cons (.nm 3) .nil))) (.tup (.cons (.int 1) (.cons (.int 1) .nil)))) (.cons (.for_ (.nm 4) (.range (.var 1)) (.cons (.par 2 3 (.bin .Mult (.var 2) (.fld .ratio 0 (.var 0))) (.bin .Mult (.var 3) (.fld .ratio 1 (.var 0)))) .nil)) (.cons (.ret (.call 0 (.cons (.var 2) (.cons (.var 3) .nil)))) .nil)))
theorem sem_pow {xs : List PV} {Q : PV → Prop} {E : KE} (h0 : spPow.run xs Q E) : xs.length = 2 ∧ denB (Lang.of [(.glo "Ratio", spRatio)] (opS tab)) k_Ratio___pow__ (startE 5 xs) { nx := fun _ => Q .non, rt := fun x _ => Q x, ex := fun e _ => E e } := by
  have h : rPow xs Q := h0
  clear h0
  unfold rPow at h
  split at h
  · rename_i q n
    obtain ⟨⟨s, n0, n1⟩, hq⟩ := h
    refine ⟨rfl, ?_⟩
    exists "wh"
    refine ⟨⟨by omega, by omega⟩, ?_⟩
    refine denFor_ind (fun xs ρ => ∃ (k : Nat) (o : Option SV), ρ = [some (.val (.rat q)), some (.val (.int n)), some (.val (.int (q.num ^ k))), some (.val (.int ((q.den : Int) ^ k))), o] ∧ k + xs.length = n.toNat) ?_ ?_ ⟨0, none, (by rw [Int.pow_zero, Int.pow_zero]; rfl), by rw [rangeP_len]; omega⟩
    · rintro ρ ⟨k, o, rfl, hk⟩
      have hk : k = n.toNat := by simpa using hk
      exists "wh"
      have hb : Bd ((q.den : Int) ^ k) 8999 := (bd_pow s.2 k).mono (by omega)
      refine ⟨hb, fun z => absurd z (Int.pow_ne_zero (den_ne q)), fun _ => ?_⟩
      rw [q_pow, hk]
      exact hq
    · rintro x xs ρ K2 ⟨k, o, rfl, hk0⟩ k2
      simp only [List.length_cons] at hk0
      have hk : k < 64 := by omega
      exists "wh"
      refine ⟨⟨_, _, bd_pow s.1 k, s.1, by omega⟩, ?_⟩
      exists "wh"
      refine ⟨⟨_, _, bd_pow s.2 k, s.2, by omega⟩, ?_⟩
      exists "wh"
      refine k2 _ ⟨k + 1, some (.val x), ?_, ?_⟩
      · rw [Int.pow_succ, Int.pow_succ]
        rfl
      · omega
  · exact h.elim
end Qw

/-! Q4M: law k04, what is plain reckoning. -/
namespace Qw
open PySem PySem.Spec PyProof.Rows L2 Ni Rt Pu
theorem fdiv_cross {x y t b : Int} (hy : y ≠ 0) (hb : 0 < b) (e : x * b = t * y) : x.fdiv y = t / b := by
  rw [← Int.fdiv_eq_ediv_of_nonneg t (Int.le_of_lt hb)]
  rcases Int.lt_or_gt_of_ne hy with h | h
  · have h2 : 0 < -y := by omega
    rw [← Int.neg_fdiv_neg x y, ← Int.mul_fdiv_mul_of_pos (-x) (-y) hb, ← Int.mul_fdiv_mul_of_pos t b h2]
    have e1 : b * -x = -y * t := by
      rw [Int.mul_neg, Int.neg_mul, Int.mul_comm b x, e, Int.mul_comm t y]
    have e2 : b * -y = -y * b := Int.mul_comm _ _
    rw [e1, e2]
  · rw [← Int.mul_fdiv_mul_of_pos x y hb, ← Int.mul_fdiv_mul_of_pos t b h]
    have e1 : b * x = y * t := by rw [Int.mul_comm b x, e, Int.mul_comm t y]
    rw [e1, Int.mul_comm b y]
theorem num_mul (q : Rat) : q * ((q.den : Int) : Rat) = (q.num : Rat) := by
  have h : q = Rat.divInt q.num q.den := (Rat.num_divInt_den q).symm
  have d : ((q.den : Int) : Rat) ≠ 0 := by
    intro z
    exact den_ne q (Rat.intCast_inj.mp (by rw [z]; rfl))
  have e := div_mul (t := q.num) (b := (q.den : Int)) (den_ne q)
  rw [← h] at e
  exact e
theorem quo_eq {q r : Rat} {t b : Int} (hr : r ≠ 0) (hb : 0 < b) (e : q * (b : Rat) = r * (t : Rat)) : quoQ q r = t / b := by
  refine fdiv_cross (Int.mul_ne_zero (den_ne q) fun z => hr (Rat.num_eq_zero.mp z)) hb ?_
  refine Rat.intCast_inj.mp ?_
  have h1 := num_mul q
  have h2 := num_mul r
  rw [Rat.intCast_mul, Rat.intCast_mul, Rat.intCast_mul, Rat.intCast_mul, ← h1, ← h2]
  grind
theorem ne_c {n : Int} (h : n ≠ 0) : (n : Rat) ≠ 0 := fun z => h (Rat.intCast_inj.mp (by rw [z]; rfl))
theorem over_eq {q r : Rat} {t b : Int} (hr : r ≠ 0) (hb : b ≠ 0) (e : q * (b : Rat) = r * (t : Rat)) : q / r = Rat.divInt t b := by
  refine is_div hb ?_
  rw [Rat.div_def]
  have : r * r⁻¹ = 1 := Rat.mul_inv_cancel r hr
  grind
theorem rest_eq {q r : Rat} {t b dt db : Int} (k : Int) (hb : 0 < b) (hd : 0 < db) (e : q * (b : Rat) = r * (t : Rat)) (ed : r * (db : Rat) = (dt : Rat)) : q - r * (k : Rat) = Rat.divInt ((t - k * b) * dt) (b * db) := by
  refine is_div (Int.mul_ne_zero (by omega) (by omega)) ?_
  rw [Rat.intCast_mul, Rat.intCast_mul, Rat.intCast_sub, Rat.intCast_mul, ← ed]
  grind
theorem pow_div {q : Rat} {a b : Int} (hb : b ≠ 0) (e : q * (b : Rat) = (a : Rat)) : ∀ k : Nat, q ^ k = Rat.divInt (a ^ k) (b ^ k) := by
  intro k
  refine is_div (Int.pow_ne_zero hb) ?_
  induction k with
  | zero => rw [Rat.pow_zero, Int.pow_zero, Int.pow_zero]; exact Rat.one_mul _
  | succ k ih =>
    rw [Rat.pow_succ, Int.pow_succ, Int.pow_succ, Rat.intCast_mul, Rat.intCast_mul, ← ih, ← e]
    grind
end Qw

/-! Q4S: law k04, its defs' promises. -/
namespace Qw
open PySem PySem.Spec PyProof.Rows L2 Ni Rt Pu
def rFloorL : List PV → (PV → Prop) → Prop
  | [.int t, .rat r, .int top, .int bot, .tup [.int dt, .int db]], Q => (0 < bot ∧ 0 < db ∧ t = top / bot ∧ r = Rat.divInt ((top - t * bot) * dt) (bot * db) ∧ Bd t 1000 ∧ Bd top 1000 ∧ Bd bot 1000 ∧ Bd dt 1000 ∧ Bd db 1000) ∧ Q (.bl true)
  | _, _ => False
def spFloorL : PSpec := .fn rFloorL fun {xs Q Q'} h1 h => by
  unfold rFloorL at h ⊢
  split at h
  · exact ⟨h.1, h1 _ h.2⟩
  · exact h.elim
def zeroOk (x z : PV) (w : Int) : Prop := (∃ q, x = .rat q ∧ Sz q 1000 ∧ (z = .rat 0 ∨ z = .int 0) ∧ (w = 0 ∨ w = 1 ∨ w = 2)) ∨ (∃ n : Int, x = .int n ∧ Bd n 1000 ∧ z = .rat 0 ∧ (w = 0 ∨ w = 1))
def rZero : List PV → (PV → Prop) → Prop
  | [x, z, .int w], Q => zeroOk x z w ∧ Q (.bl true)
  | _, _ => False
def spZero : PSpec := .fn rZero fun {xs Q Q'} h1 h => by
  unfold rZero at h ⊢
  split at h
  · exact ⟨h.1, h1 _ h.2⟩
  · exact h.elim
def rPowers : List PV → (PV → Prop) → Prop
  | [.rat q, .int a, .int b], Q => (0 < b ∧ q * (b : Rat) = (a : Rat) ∧ Bd a 110 ∧ Bd b 110) ∧ Q (.bl true)
  | _, _ => False
def spPowers : PSpec := .fn rPowers fun {xs Q Q'} h1 h => by
  unfold rPowers at h ⊢
  split at h
  · exact ⟨h.1, h1 _ h.2⟩
  · exact h.elim
end Qw

/-! C4: law k04, codes. -/
namespace Qw
open PySem PySem.Spec PyProof.Rows L2 Ni Rt Pu
def k_as_ratio : CSs := (.cons (.ite (.bi .isi (.cons (.var 0) (.cons (.cls .ratio) .nil))) (.cons (.ret (.var 0)) .nil) .nil) (.cons (.ret (.call 0 (.cons (.var 0) .nil))) .nil))
abbrev L_as_ratio : Lang := { G := [(.glo "Ratio", spRatio)], op := opS tab, X := [], I := [] }
-- slots of as_ratio: 0 number
-- slots of Ratio___floordiv__: 0 self, 1 other
-- slots of Ratio___rfloordiv__: 0 self, 1 other
-- slots of Ratio___mod__: 0 self, 1 other
-- slots of Ratio___rmod__: 0 self, 1 other
-- slots of Ratio___pow__: 0 self, 1 other, 2 top, 3 bottom, 4 _
-- slots of Ratio_over: 0 self, 1 number
-- slots of _law_low: 0 _law_top, 1 _law_bottom, 2 _law_one, 3 _law_two, 4 _law_rest
-- slots of _law_whole: 0 _law_thing
-- slots of _law_pair: 0 _law_thing
def k__law_floor : CSs := (.cons (.ite (.or (.cons (.inot (.bi .isi (.cons (.var 0) (.cons (.ty .int) .nil)))) (.cons (.bi .isi (.cons (.var 0) (.cons (.ty .bool) .nil))) .nil))) (.cons (.ret (.bl false)) .nil) .nil) (.cons (.ite (.inot (.cmp2 .LtE .Lt (.bin .Mult (.var 0) (.var 3)) (.var 2) (.bin .Mult (.bin .Add (.var 0) (.int 1)) (.var 3)))) (.cons (.ret (.bl false)) .nil) .nil) (.cons (.asg (.nm 5) (.bin .Mult (.bin .Sub (.var 2) (.bin .Mult (.var 0) (.var 3))) (.ix (.var 4) (.int 0)))) (.cons (.ret (.cmp .Eq (.call 0 (.cons (.var 1) .nil)) (.call 1 (.cons (.var 5) (.cons (.bin .Mult (.var 3) (.ix (.var 4) (.int 1))) .nil))))) .nil))))
abbrev L__law_floor : Lang := { G := [(.glo "_law_pair", spPairP), (.glo "_law_low", spLow)], op := opS tab, X := [], I := [] }
-- slots of _law_floor: 0 _law_told, 1 _law_rest, 2 _law_top, 3 _law_bottom, 4 _law_divisor, 5 _law_left
def k__law_zero : CSs := (.cons (.asg (.nm 3) .non) (.cons (.tryX (.cons (.ite (.cmp .Eq (.var 2) (.int 0)) (.cons (.asg (.nm 3) (.bin .FloorDiv (.var 0) (.var 1))) .nil) .nil) (.cons (.ite (.cmp .Eq (.var 2) (.int 1)) (.cons (.asg (.nm 3) (.bin .Mod (.var 0) (.var 1))) .nil) .nil) (.cons (.ite (.cmp .Eq (.var 2) (.int 2)) (.cons (.asg (.nm 3) (.meth 0 (.var 0) (.cons (.var 1) .nil))) .nil) .nil) .nil))) .zeroBottom 4 (.cons (.ret (.and (.cons (.isX 4 .neverIdle) (.cons (.inot (.isX 4 .badValue)) .nil)))) .nil)) (.cons (.ret (.bl false)) .nil)))
abbrev L__law_zero : Lang := { G := [(.met .ratio "over", spOver)], op := opM tab, X := [(.zeroBottom, .zeroBottom)], I := [(.zeroBottom, .badValue), (.zeroBottom, .neverIdle)] }
-- slots of _law_zero: 0 _law_one, 1 _law_zero_here, 2 _law_way, 3 _law_told, 4 e
def k__law_powers : CSs := (.cons (.asg (.nm 3) (.fr (.lst (.cons (.bin .Pow (.var 0) (.int 0)) (.cons (.bin .Pow (.var 0) (.int 1)) (.cons (.bin .Pow (.var 0) (.int 2)) (.cons (.bin .Pow (.var 0) (.int 3)) (.cons (.bin .Pow (.var 0) (.int 7)) (.cons (.bin .Pow (.var 0) (.int 64)) .nil))))))))) (.cons (.own 4 (.lst (.cons (.tup (.cons (.int 1) (.cons (.int 1) .nil))) .nil))) (.cons (.for_ (.nm 5) (.range (.int 64)) (.cons (.app 4 (.tup (.cons (.bin .Mult (.ix (.ixo 4 (.neg (.int 1))) (.int 0)) (.var 1)) (.cons (.bin .Mult (.ix (.ixo 4 (.neg (.int 1))) (.int 1)) (.var 2)) .nil)))) .nil)) (.cons (.for_ (.nm 5) (.range (.int 6)) (.cons (.asg (.nm 6) (.ix (.fr (.lst (.cons (.int 0) (.cons (.int 1) (.cons (.int 2) (.cons (.int 3) (.cons (.int 7) (.cons (.int 64) .nil)))))))) (.var 5))) (.cons (.ite (.cmp .NotEq (.call 0 (.cons (.ix (.var 3) (.var 5)) .nil)) (.call 1 (.cons (.ix (.ixo 4 (.var 6)) (.int 0)) (.cons (.ix (.ixo 4 (.var 6)) (.int 1)) .nil)))) (.cons (.ret (.bl false)) .nil) .nil) .nil))) (.cons (.ret (.bl true)) .nil)))))
abbrev L__law_powers : Lang := { G := [(.glo "_law_pair", spPairP), (.glo "_law_low", spLow)], op := opM tab, X := [], I := [] }
-- slots of _law_powers: 0 _law_one, 1 _law_top, 2 _law_bottom, 3 _law_told, 4 _law_due, 5 _law_k, 6 _law_at
def k_law : CSs := (.cons (.asg (.nm 2) (.ix (.fr (.lst (.cons (.int 9) (.cons (.int 1000) (.cons (.bin .Pow (.int 10) (.int 30)) .nil))))) (.call 0 (.cons (.var 1) (.cons (.int 3) .nil))))) (.cons (.asg (.nm 3) (.bin .Sub (.call 0 (.cons (.var 1) (.cons (.bin .Add (.bin .Mult (.int 2) (.var 2)) (.int 1)) .nil))) (.var 2))) (.cons (.asg (.nm 4) (.bin .Add (.int 1) (.call 0 (.cons (.var 1) (.cons (.var 2) .nil))))) (.cons (.asg (.nm 5) (.bin .Sub (.call 0 (.cons (.var 1) (.cons (.bin .Add (.bin .Mult (.int 2) (.var 2)) (.int 1)) .nil))) (.var 2))) (.cons (.asg (.nm 6) (.bin .Add (.int 1) (.call 0 (.cons (.var 1) (.cons (.var 2) .nil))))) (.cons (.asg (.nm 7) (.bin .Sub (.call 0 (.cons (.var 1) (.cons (.bin .Add (.bin .Mult (.int 2) (.var 2)) (.int 1)) .nil))) (.var 2))) (.cons (.ite (.cmp .Eq (.call 0 (.cons (.var 1) (.cons (.int 4) .nil))) (.int 3)) (.cons (.asg (.nm 7) (.int 0)) .nil) .nil) (.cons (.asg (.nm 8) (.call 1 (.cons (.var 3) (.cons (.var 4) .nil)))) (.cons (.asg (.nm 9) (.call 1 (.cons (.var 5) (.cons (.var 6) .nil)))) (.cons (.for_ (.nm 10) (.range (.int 3)) (.cons (.ite (.or (.cons (.inot (.call 2 (.cons (.var 8) (.cons (.call 1 (.cons (.int 0) (.cons (.var 6) .nil))) (.cons (.var 10) .nil))))) (.cons (.inot (.call 2 (.cons (.var 9) (.cons (.int 0) (.cons (.var 10) .nil))))) .nil))) (.cons (.ret (.bl false)) .nil) .nil) .nil)) (.cons (.for_ (.nm 10) (.range (.int 2)) (.cons (.ite (.or (.cons (.inot (.call 2 (.cons (.var 7) (.cons (.call 1 (.cons (.int 0) (.cons (.var 6) .nil))) (.cons (.var 10) .nil))))) (.cons (.inot (.call 2 (.cons (.var 3) (.cons (.call 1 (.cons (.int 0) .nil)) (.cons (.var 10) .nil))))) .nil))) (.cons (.ret (.bl false)) .nil) .nil) .nil)) (.cons (.ite (.cmp .NotEq (.var 5) (.int 0)) (.cons (.asg (.nm 11) (.bin .Sub (.int 1) (.bin .Mult (.int 2) (.bi .int (.cons (.cmp .Lt (.var 5) (.int 0)) .nil))))) (.cons (.ite (.inot (.call 3 (.cons (.bin .FloorDiv (.var 8) (.var 9)) (.cons (.bin .Mod (.var 8) (.var 9)) (.cons (.bin .Mult (.bin .Mult (.var 11) (.var 3)) (.var 6)) (.cons (.bin .Mult (.bin .Mult (.var 11) (.var 4)) (.var 5)) (.cons (.tup (.cons (.var 5) (.cons (.var 6) .nil))) .nil))))))) (.cons (.ret (.bl false)) .nil) .nil) (.cons (.ite (.inot (.call 3 (.cons (.bin .FloorDiv (.var 7) (.var 9)) (.cons (.bin .Mod (.var 7) (.var 9)) (.cons (.bin .Mult (.bin .Mult (.var 11) (.var 7)) (.var 6)) (.cons (.bin .Mult (.var 11) (.var 5)) (.cons (.tup (.cons (.var 5) (.cons (.var 6) .nil))) .nil))))))) (.cons (.ret (.bl false)) .nil) .nil) (.cons (.ite (.cmp .NotEq (.call 4 (.cons (.meth 5 (.var 8) (.cons (.var 9) .nil)) .nil)) (.call 6 (.cons (.bin .Mult (.bin .Mult (.var 11) (.var 3)) (.var 6)) (.cons (.bin .Mult (.bin .Mult (.var 11) (.var 4)) (.var 5)) .nil)))) (.cons (.ret (.bl false)) .nil) .nil) .nil)))) .nil) (.cons (.ite (.cmp .NotEq (.var 7) (.int 0)) (.cons (.asg (.nm 11) (.bin .Sub (.int 1) (.bin .Mult (.int 2) (.bi .int (.cons (.cmp .Lt (.var 7) (.int 0)) .nil))))) (.cons (.ite (.inot (.call 3 (.cons (.bin .FloorDiv (.var 8) (.var 7)) (.cons (.bin .Mod (.var 8) (.var 7)) (.cons (.bin .Mult (.var 11) (.var 3)) (.cons (.bin .Mult (.bin .Mult (.var 11) (.var 4)) (.var 7)) (.cons (.tup (.cons (.var 7) (.cons (.int 1) .nil))) .nil))))))) (.cons (.ret (.bl false)) .nil) .nil) (.cons (.ite (.cmp .NotEq (.call 4 (.cons (.meth 5 (.var 8) (.cons (.var 7) .nil)) .nil)) (.call 6 (.cons (.bin .Mult (.var 11) (.var 3)) (.cons (.bin .Mult (.bin .Mult (.var 11) (.var 4)) (.var 7)) .nil)))) (.cons (.ret (.bl false)) .nil) .nil) .nil))) .nil) (.cons (.ite (.inot (.call 7 (.cons (.var 8) (.cons (.var 3) (.cons (.var 4) .nil))))) (.cons (.ret (.bl false)) .nil) .nil) (.cons (.ret (.and (.cons (.cmp .Eq (.call 4 (.cons (.var 8) .nil)) (.call 6 (.cons (.var 3) (.cons (.var 4) .nil)))) (.cons (.cmp .Eq (.call 4 (.cons (.var 9) .nil)) (.call 6 (.cons (.var 5) (.cons (.var 6) .nil)))) .nil)))) .nil)))))))))))))))
abbrev L_law : Lang := { G := [(.glo "_law_draw", spDrawP), (.glo "Ratio", spRatio), (.glo "_law_zero", spZero), (.glo "_law_floor", spFloorL), (.glo "_law_pair", spPairP), (.met .ratio "over", spOver), (.glo "_law_low", spLow), (.glo "_law_powers", spPowers)], op := opM tab, X := [], I := [] }
-- slots of law: 0 _law_script, 1 _law_pool, 2 _law_width, 3 _law_a, 4 _law_b, 5 _law_c, 6 _law_d, 7 _law_n, 8 _law_one, 9 _law_two, 10 _law_way, 11 _law_sign
end Qw

/-! Q4: law k04, over values. -/
namespace Qw
open PySem PySem.Spec PyProof.Rows L2 Ni Rt Pu
local macro_rules | `(tactic| exists "wh") => `(tactic| conv => whnf)
theorem sem_as {xs : List PV} {Q : PV → Prop} {E : KE} (h0 : spAs.run xs Q E) : xs.length = 1 ∧ denB L_as_ratio k_as_ratio (startE 1 xs) { nx := fun _ => Q .non, rt := fun x _ => Q x, ex := fun e _ => E e } := by
  have h : rAs xs Q := h0
  clear h0
  unfold rAs at h
  split at h
  · rename_i x
    obtain ⟨q, e, h⟩ := h
    refine ⟨rfl, ?_⟩
    cases x with
    | rat r =>
      cases e
      exists "wh"
      exact h
    | int n =>
      cases e
      exists "wh"
      exact h
    | _ => cases e
  · exact h.elim
theorem mulk {a b : Int} (h1 : Bd a 3000) (h2 : Bd b 3000) : MulOk a b := ⟨3000, 3000, h1, h2, by decide⟩
theorem sem_floorL {xs : List PV} {Q : PV → Prop} {E : KE} (h0 : spFloorL.run xs Q E) : xs.length = 5 ∧ denB L__law_floor k__law_floor (startE 6 xs) { nx := fun _ => Q .non, rt := fun x _ => Q x, ex := fun e _ => E e } := by
  have h : rFloorL xs Q := h0
  clear h0
  unfold rFloorL at h
  split at h
  · rename_i t r top bot dt db
    obtain ⟨⟨b0, d0, ht, hr, bt, bp, bb, bdt, bdb⟩, q⟩ := h
    refine ⟨rfl, ?_⟩
    have l1 : t * bot ≤ top := by rw [ht]; exact Int.ediv_mul_le _ (by omega)
    have l2 : top < (t + 1) * bot := by rw [ht]; exact Int.lt_ediv_add_one_mul_self _ b0
    have m3 : ∀ {n : Int}, Bd n 1000 → Bd n 3000 := fun h => h.mono (by decide)
    exists "wh"
    refine ⟨mulk (m3 bt) (m3 bb), ?_⟩
    exists "wh"
    rw [decide_eq_true l1]
    exists "wh"
    refine ⟨mulk ((bt.add (bd_lit (n := 1) (k := 1000) (by decide) (by decide))).mono (by decide)) (m3 bb), ?_⟩
    exists "wh"
    rw [decide_eq_true l2]
    exists "wh"
    refine ⟨mulk (m3 bt) (m3 bb), ?_⟩
    exists "wh"
    have bl : Bd (top - t * bot) 2001 := by
      rw [Int.sub_eq_add_neg]
      exact (bp.mono (show 1000 ≤ 2000 by decide)).add ((bt.mul bb).of_abs (by omega))
    refine ⟨mulk (bl.mono (by decide)) (m3 bdt), ?_⟩
    exists "wh"
    subst hr
    refine ⟨(sz_of (Int.mul_ne_zero (by omega) (by omega)) ((bl.mul bdt).mono (show 3001 ≤ 4000 by decide)) ((bb.mul bdb).mono (by decide))).2.mono (by decide), ?_⟩
    exists "wh"
    refine ⟨mulk (m3 bb) (m3 bdb), ?_⟩
    exists "wh"
    refine ⟨⟨Int.mul_pos b0 d0, (bb.mul bdb).mono (by decide)⟩, ?_⟩
    exists "wh"
    refine ⟨⟨rfl, rfl⟩, ?_⟩
    show Q (.bl (eqP (pairP _) (pairP _)))
    rw [eqP_pair rfl]
    exact q
  · exact h.elim
theorem sem_zero {xs : List PV} {Q : PV → Prop} {E : KE} (h0 : spZero.run xs Q E) : xs.length = 3 ∧ denB L__law_zero k__law_zero (startE 5 xs) { nx := fun _ => Q .non, rt := fun x _ => Q x, ex := fun e _ => E e } := by
  have h : rZero xs Q := h0
  clear h0
  unfold rZero at h
  split at h
  · rename_i x z w
    obtain ⟨h, q⟩ := h
    refine ⟨rfl, ?_⟩
    have s0 : Sz 0 1000 := sz_intP (n := 0) (bd_lit (by decide) (by decide)) (by decide)
    have s0' : Sz 0 4000 := s0.mono (by decide)
    rcases h with ⟨p, rfl, sp, rfl | rfl, rfl | rfl | rfl⟩ | ⟨n, rfl, bn, rfl, rfl | rfl⟩
    all_goals exists "wh"
    · refine ⟨⟨sp.mono (by decide), s0'⟩, fun _ => ?_, fun z => absurd rfl z⟩
      exists "wh"
      exact q
    · refine ⟨⟨sp, s0⟩, fun _ => ?_, fun z => absurd rfl z⟩
      exists "wh"
      exact q
    · refine ⟨0, rfl, ⟨sp.mono (by decide), s0'⟩, fun _ => ?_, fun z => absurd rfl z⟩
      exists "wh"
      exact q
    · refine ⟨⟨sp.mono (by decide), s0'⟩, fun _ => ?_, fun z => absurd rfl z⟩
      exists "wh"
      exact q
    · refine ⟨⟨sp, s0⟩, fun _ => ?_, fun z => absurd rfl z⟩
      exists "wh"
      exact q
    · refine ⟨0, rfl, ⟨sp.mono (by decide), s0'⟩, fun _ => ?_, fun z => absurd rfl z⟩
      exists "wh"
      exact q
    · refine ⟨⟨(sz_intP bn (by decide)).mono (by decide), s0'⟩, fun _ => ?_, fun z => absurd rfl z⟩
      exists "wh"
      exact q
    · refine ⟨⟨sz_intP bn (by decide), s0⟩, fun _ => ?_, fun z => absurd rfl z⟩
      exists "wh"
      exact q
  · exact h.elim
def powP (a b : Int) (k : Nat) : PV := .tup [.int (a ^ k), .int (b ^ k)]
theorem nth_map {α β : Type} (f : α → β) : ∀ (l : List α) (i : Nat), nth (l.map f) i = (nth l i).map f
  | [], _ => rfl
  | _ :: _, 0 => rfl
  | _ :: xs, i + 1 => nth_map f xs i
theorem nth_range (n i : Nat) (h : i < n) : nth (List.range n) i = some i := by
  rw [nth_eq, List.getElem?_range h]
theorem nth_pow {a b : Int} {n i : Nat} (h : i < n) : nth ((List.range n).map (powP a b)) i = some (powP a b i) := by
  rw [nth_map, nth_range n i h]
  rfl
theorem atP_last {xs : List PV} {x : PV} {Q : PV → Prop} (q : Q x) : atP (xs ++ [x]) (-1) Q := by
  show ifB (Nat.ble 1 (xs ++ [x]).length) (optP (nth (xs ++ [x]) ((xs ++ [x]).length - 1)) Q) False
  have l : (xs ++ [x]).length = xs.length + 1 := by simp
  rw [l]
  refine ifB_t (Nat.ble_eq_true_of_le (by omega)) ?_
  have e : nth (xs ++ [x]) (xs.length + 1 - 1) = some x := by
    rw [nth_eq]
    simp
  rw [e]
  exact q
theorem sem_powers {xs : List PV} {Q : PV → Prop} {E : KE} (h0 : spPowers.run xs Q E) : xs.length = 3 ∧ denB L__law_powers k__law_powers (startE 7 xs) { nx := fun _ => Q .non, rt := fun x _ => Q x, ex := fun e _ => E e } := by
  have h : rPowers xs Q := h0
  clear h0
  unfold rPowers at h
  split at h
  · rename_i q a b
    obtain ⟨⟨b0, e, ba, bb⟩, hQ⟩ := h
    refine ⟨rfl, ?_⟩
    have eq := is_div (by omega) e
    have sq : Sz q 130 := by rw [eq]; exact (sz_of (by omega) ba bb).mono (by decide)
    have pk : ∀ k : Nat, q ^ k = Rat.divInt (a ^ k) (b ^ k) := pow_div (by omega) e
    have bp : ∀ k : Nat, k ≤ 64 → Bd (a ^ k) 7041 ∧ Bd (b ^ k) 7041 := fun k hk => ⟨(bd_pow ba k).mono (by omega), (bd_pow bb k).mono (by omega)⟩
    exists "wh"
    refine ⟨⟨sq, by decide, by decide⟩, ?_⟩
    exists "wh"
    refine ⟨⟨sq, by decide, by decide⟩, ?_⟩
    exists "wh"
    refine ⟨⟨sq, by decide, by decide⟩, ?_⟩
    exists "wh"
    refine ⟨⟨sq, by decide, by decide⟩, ?_⟩
    exists "wh"
    refine ⟨⟨sq, by decide, by decide⟩, ?_⟩
    exists "wh"
    refine ⟨⟨sq, by decide, by decide⟩, ?_⟩
    exists "wh"
    refine ⟨⟨by decide, by decide⟩, ?_⟩
    refine denFor_ind (fun xs ρ => ∃ (k : Nat) (o : Option SV), ρ = [some (.val (.rat q)), some (.val (.int a)), some (.val (.int b)), some (.val (.lst [.rat (q ^ 0), .rat (q ^ 1), .rat (q ^ 2), .rat (q ^ 3), .rat (q ^ 7), .rat (q ^ 64)])), some (.own ((List.range (k + 1)).map (powP a b))), o, none] ∧ k + xs.length = 64) ?_ ?_ ⟨0, none, (by rw [show (List.range (0 + 1)).map (powP a b) = [.tup [.int 1, .int 1]] by simp [powP, Int.pow_zero]]; rfl), rfl⟩
    · rintro ρ ⟨k, o, rfl, hk⟩
      simp only [List.length_nil, Nat.add_zero] at hk
      subst hk
      exists "wh"
      refine ⟨⟨by decide, by decide⟩, ?_⟩
      have bden : ∀ k : Nat, k ≤ 64 → Bd ((q ^ k).den : Int) 8999 := fun k hk => by
        rw [pk k]
        exact (sz_of (Int.ne_of_gt (Int.pow_pos b0)) (bp k hk).1 (bp k hk).2).2.mono (by decide)
      exists "wh"
      refine ⟨bden 0 (by decide), ?_⟩
      exists "wh"
      refine ⟨⟨Int.pow_pos b0, (bp 0 (by decide)).2.mono (by decide)⟩, ?_⟩
      exists "wh"
      refine ⟨⟨rfl, rfl⟩, ?_⟩
      refine ifB_fl (show (!eqP (pairP (q ^ 0)) (pairP (Rat.divInt (a ^ 0) (b ^ 0)))) = false by rw [eqP_pair (pk 0)]; rfl) ?_
      exists "wh"
      refine ⟨bden 1 (by decide), ?_⟩
      exists "wh"
      refine ⟨⟨Int.pow_pos b0, (bp 1 (by decide)).2.mono (by decide)⟩, ?_⟩
      exists "wh"
      refine ⟨⟨rfl, rfl⟩, ?_⟩
      refine ifB_fl (show (!eqP (pairP (q ^ 1)) (pairP (Rat.divInt (a ^ 1) (b ^ 1)))) = false by rw [eqP_pair (pk 1)]; rfl) ?_
      exists "wh"
      refine ⟨bden 2 (by decide), ?_⟩
      exists "wh"
      refine ⟨⟨Int.pow_pos b0, (bp 2 (by decide)).2.mono (by decide)⟩, ?_⟩
      exists "wh"
      refine ⟨⟨rfl, rfl⟩, ?_⟩
      refine ifB_fl (show (!eqP (pairP (q ^ 2)) (pairP (Rat.divInt (a ^ 2) (b ^ 2)))) = false by rw [eqP_pair (pk 2)]; rfl) ?_
      exists "wh"
      refine ⟨bden 3 (by decide), ?_⟩
      exists "wh"
      refine ⟨⟨Int.pow_pos b0, (bp 3 (by decide)).2.mono (by decide)⟩, ?_⟩
      exists "wh"
      refine ⟨⟨rfl, rfl⟩, ?_⟩
      refine ifB_fl (show (!eqP (pairP (q ^ 3)) (pairP (Rat.divInt (a ^ 3) (b ^ 3)))) = false by rw [eqP_pair (pk 3)]; rfl) ?_
      exists "wh"
      refine ⟨bden 7 (by decide), ?_⟩
      exists "wh"
      refine ⟨⟨Int.pow_pos b0, (bp 7 (by decide)).2.mono (by decide)⟩, ?_⟩
      exists "wh"
      refine ⟨⟨rfl, rfl⟩, ?_⟩
      refine ifB_fl (show (!eqP (pairP (q ^ 7)) (pairP (Rat.divInt (a ^ 7) (b ^ 7)))) = false by rw [eqP_pair (pk 7)]; rfl) ?_
      exists "wh"
      refine ⟨bden 64 (by decide), ?_⟩
      exists "wh"
      refine ⟨⟨Int.pow_pos b0, (bp 64 (by decide)).2.mono (by decide)⟩, ?_⟩
      exists "wh"
      refine ⟨⟨rfl, rfl⟩, ?_⟩
      refine ifB_fl (show (!eqP (pairP (q ^ 64)) (pairP (Rat.divInt (a ^ 64) (b ^ 64)))) = false by rw [eqP_pair (pk 64)]; rfl) ?_
      exists "wh"
      exact hQ
    · rintro x xs ρ K2 ⟨k, o, rfl, hk⟩ k2
      simp only [List.length_cons] at hk
      have hk2 : k < 64 := by omega
      obtain ⟨bp1, bp2⟩ := bp k (by omega)
      have er : (List.range (k + 1)).map (powP a b) = (List.range k).map (powP a b) ++ [powP a b k] := by
        rw [List.range_succ, List.map_append]
        rfl
      rw [er]
      exists "wh"
      refine atP_last ?_
      exists "wh"
      refine ⟨⟨_, _, bp1, ba, by decide⟩, ?_⟩
      exists "wh"
      refine atP_last ?_
      exists "wh"
      refine ⟨⟨_, _, bp2, bb, by decide⟩, ?_⟩
      exists "wh"
      refine ⟨by unfold SmallL; simp; omega, ?_⟩
      exists "wh"
      refine k2 _ ⟨k + 1, some (.val x), ?_, by omega⟩
      rw [← er, List.range_succ (n := k + 1), List.map_append]
      unfold powP
      simp only [List.map_cons, List.map_nil, Int.pow_succ]
      rfl
  · exact h.elim
end Qw

/-! Q4L: law k04, the law over values. -/
namespace Qw
open PySem PySem.Spec PyProof.Rows L2 Ni Rt Pu
local macro_rules | `(tactic| exists "wh") => `(tactic| conv => whnf)
theorem pick30 {d : Int} (h0 : 0 ≤ d) (h1 : d < 3) : ∃ W : Int, nth [PV.int 9, .int 1000, .int (10 ^ Int.toNat 30)] d.toNat = some (.int W) ∧ 9 ≤ W ∧ W ≤ 10 ^ 30 := by
  have h : d = 0 ∨ d = 1 ∨ d = 2 := by omega
  rcases h with rfl | rfl | rfl
  · exact ⟨_, rfl, by decide, by decide⟩
  · exact ⟨_, rfl, by decide, by decide⟩
  · exact ⟨_, rfl, by decide, by decide⟩
theorem wide30 {W n : Int} (h : W ≤ 10 ^ 30) (h0 : 0 ≤ W) (l : n.natAbs ≤ 2 * W.natAbs + 1) : Bd n 110 := by
  unfold Bd
  have e : (2 : Nat) ^ 110 > 2 * 10 ^ 30 + 1 := by decide
  have h2 : W.natAbs ≤ 10 ^ 30 := by omega
  omega
/-- signs -/
theorem sgn_pos {c : Int} (h : c ≠ 0) : 0 < (if c < 0 then -1 else 1) * c := by
  split <;> omega
theorem sgn_ok {c : Int} (h : c ≠ 0) : 0 < (1 - 2 * (if decide (c < 0) = true then (1 : Int) else 0)) * c ∧ (1 - 2 * (if decide (c < 0) = true then (1 : Int) else 0)).natAbs = 1 := by
  by_cases z : c < 0
  · rw [if_pos (by simpa using z)]
    exact ⟨by omega, by decide⟩
  · rw [if_neg (by simpa using z)]
    exact ⟨by omega, by decide⟩
theorem bd_sgn {s : Int} (h : s.natAbs = 1) : Bd s 1 := by unfold Bd; omega
theorem sem_law : denB L_law k_law (none :: some (.val .pool) :: List.replicate 10 none) { nx := fun _ => False, rt := fun v _ => v = .bl true, ex := fun _ _ => False } := by
  exists "wh"
  refine ⟨⟨by decide, by decide, by decide⟩, ?_⟩
  exists "wh"
  refine ⟨⟨by decide, bd_lit (by decide) (by decide)⟩, fun x x0 x1 => ?_⟩
  exists "wh"
  obtain ⟨W, hW, w1, w2⟩ := pick30 x0 x1
  refine atP_at x0 hW ?_
  have bw : ∀ {n : Int}, n.natAbs ≤ 2 * W.natAbs + 1 → Bd n 110 := fun h => wide30 w2 (by omega) h
  have bw2 : ∀ {n : Int}, n.natAbs ≤ 2 * W.natAbs + 1 → Bd n 8999 := fun h => (bw h).mono (by decide)
  clear hW x0 x1 x
  exists "wh"
  refine ⟨mulk (bd_lit (by decide) (by decide)) ((bw (by omega)).mono (by decide)), ?_⟩
  exists "wh"
  refine ⟨⟨by omega, bw2 (by omega)⟩, fun x1 x10 x11 => ?_⟩
  exists "wh"
  refine ⟨⟨by omega, bw2 (by omega)⟩, fun x2 x20 x21 => ?_⟩
  exists "wh"
  refine ⟨mulk (bd_lit (by decide) (by decide)) ((bw (by omega)).mono (by decide)), ?_⟩
  exists "wh"
  refine ⟨⟨by omega, bw2 (by omega)⟩, fun x3 x30 x31 => ?_⟩
  exists "wh"
  refine ⟨⟨by omega, bw2 (by omega)⟩, fun x4 x40 x41 => ?_⟩
  exists "wh"
  refine ⟨mulk (bd_lit (by decide) (by decide)) ((bw (by omega)).mono (by decide)), ?_⟩
  exists "wh"
  refine ⟨⟨by omega, bw2 (by omega)⟩, fun x5 x50 x51 => ?_⟩
  exists "wh"
  refine ⟨⟨by decide, bd_lit (by decide) (by decide)⟩, fun nr nr0 nr1 => ?_⟩
  have bA : Bd (x1 - W) 110 := bw (by omega)
  have bB : Bd (1 + x2) 110 := bw (by omega)
  have bC : Bd (x3 - W) 110 := bw (by omega)
  have bD : Bd (1 + x4) 110 := bw (by omega)
  have bN : Bd (x5 - W) 110 := bw (by omega)
  have pB : 0 < 1 + x2 := by omega
  have pD : 0 < 1 + x4 := by omega
  clear x10 x11 x20 x21 x30 x31 x40 x41 x50 x51 nr0 nr1
  generalize x1 - W = A at bA ⊢
  generalize 1 + x2 = B at bB pB ⊢
  generalize x3 - W = C at bC ⊢
  generalize 1 + x4 = D at bD pD ⊢
  generalize x5 - W = N0 at bN ⊢
  clear bw bw2
  exists "wh"
  refine ite_join (fun ρ => ∃ N : Int, ρ = [none, some (.val .pool), some (.val (.int W)), some (.val (.int A)), some (.val (.int B)), some (.val (.int C)), some (.val (.int D)), some (.val (.int N)), none, none, none, none] ∧ Bd N 110) (fun _ k hk => ?_) (fun _ k hk => ?_) ?_
  · exists "wh"
    exact hk _ ⟨0, rfl, bd_lit (by decide) (by decide)⟩
  · exists "wh"
    exact hk _ ⟨N0, rfl, bN⟩
  clear bN
  rintro ρ ⟨N, rfl, bN⟩
  exists "wh"
  refine ⟨bB.mono (by decide), fun z => absurd z (by omega), fun _ => ?_⟩
  exists "wh"
  refine ⟨bD.mono (by decide), fun z => absurd z (by omega), fun _ => ?_⟩
  have m1 : ∀ {n : Int}, Bd n 110 → Bd n 1000 := fun h => h.mono (by decide)
  have m1' : ∀ {n : Int}, Bd n 300 → Bd n 1000 := fun h => h.mono (by decide)
  have sz1 : Sz (Rat.divInt A B) 1000 := sz_of (by omega) (m1 bA) (m1 bB)
  have sz2 : Sz (Rat.divInt C D) 1000 := sz_of (by omega) (m1 bC) (m1 bD)
  have z0 : Rat.divInt 0 D = 0 := Rat.zero_divInt D
  exists "wh"
  refine ⟨⟨by decide, by decide⟩, ?_⟩
  exists "wh"
  refine ⟨bD.mono (by decide), fun z => absurd z (by omega), fun _ => ?_⟩
  exists "wh"
  refine ⟨.inl ⟨_, rfl, sz1, .inl (by rw [z0]), .inl rfl⟩, ?_⟩
  exists "wh"
  refine ⟨.inl ⟨_, rfl, sz2, .inr rfl, .inl rfl⟩, ?_⟩
  exists "wh"
  refine ⟨bD.mono (by decide), fun z => absurd z (by omega), fun _ => ?_⟩
  exists "wh"
  refine ⟨.inl ⟨_, rfl, sz1, .inl (by rw [z0]), .inr (.inl rfl)⟩, ?_⟩
  exists "wh"
  refine ⟨.inl ⟨_, rfl, sz2, .inr rfl, .inr (.inl rfl)⟩, ?_⟩
  exists "wh"
  refine ⟨bD.mono (by decide), fun z => absurd z (by omega), fun _ => ?_⟩
  exists "wh"
  refine ⟨.inl ⟨_, rfl, sz1, .inl (by rw [z0]), .inr (.inr rfl)⟩, ?_⟩
  exists "wh"
  refine ⟨.inl ⟨_, rfl, sz2, .inr rfl, .inr (.inr rfl)⟩, ?_⟩
  exists "wh"
  refine ⟨⟨by decide, by decide⟩, ?_⟩
  exists "wh"
  refine ⟨bD.mono (by decide), fun z => absurd z (by omega), fun _ => ?_⟩
  exists "wh"
  refine ⟨.inr ⟨N, rfl, m1 bN, by rw [z0], .inl rfl⟩, ?_⟩
  exists "wh"
  refine ⟨.inr ⟨A, rfl, m1 bA, rfl, .inl rfl⟩, ?_⟩
  exists "wh"
  refine ⟨bD.mono (by decide), fun z => absurd z (by omega), fun _ => ?_⟩
  exists "wh"
  refine ⟨.inr ⟨N, rfl, m1 bN, by rw [z0], .inr rfl⟩, ?_⟩
  exists "wh"
  refine ⟨.inr ⟨A, rfl, m1 bA, rfl, .inr rfl⟩, ?_⟩
  exists "wh"
  refine ite_joinN (fun ρ => ∃ o : Option SV, ρ = [none, some (.val .pool), some (.val (.int W)), some (.val (.int A)), some (.val (.int B)), some (.val (.int C)), some (.val (.int D)), some (.val (.int N)), some (.val (.rat (Rat.divInt A B))), some (.val (.rat (Rat.divInt C D))), some (.val (.int 1)), o]) (fun hC k hk => ?_) (fun _ k hk => ?_) ?_
  · have hr : Rat.divInt C D ≠ 0 := fun z => hC ((div_zero pD).mp z)
    have eA : Rat.divInt A B * (B : Rat) = (A : Rat) := div_mul (by omega)
    have eC : Rat.divInt C D * (D : Rat) = (C : Rat) := div_mul (by omega)
    obtain ⟨sp, sn⟩ := sgn_ok hC
    exists "wh"
    refine ⟨⟨2, 2, by unfold Bd; decide, by unfold Bd; split <;> decide, by decide⟩, ?_⟩
    exists "wh"
    generalize 1 - 2 * (if decide (C < 0) = true then (1 : Int) else 0) = s at sp sn ⊢
    have bs := bd_sgn sn
    have bsA : Bd (s * A) 111 := (bs.mul bA).mono (by decide)
    have bsB : Bd (s * B) 111 := (bs.mul bB).mono (by decide)
    have bsN : Bd (s * N) 111 := (bs.mul bN).mono (by decide)
    have bsC : Bd (s * C) 111 := (bs.mul bC).mono (by decide)
    have pb : 0 < s * B * C := by
      rw [Int.mul_comm s B, Int.mul_assoc]
      exact Int.mul_pos pB sp
    have k3 : ∀ {n : Int} {j : Nat}, Bd n j → j ≤ 3000 → Bd n 3000 := fun h l => h.mono l
    have e1 : Rat.divInt A B * ((s * B * C : Int) : Rat) = Rat.divInt C D * ((s * A * D : Int) : Rat) := by
      simp only [Rat.intCast_mul]
      rw [← eA, ← eC]
      grind
    have q1 := quo_eq hr pb e1
    have e2 : ((N : Int) : Rat) * ((s * C : Int) : Rat) = Rat.divInt C D * ((s * N * D : Int) : Rat) := by
      simp only [Rat.intCast_mul]
      rw [← eC]
      grind
    have q2 := quo_eq hr sp e2
    refine ⟨⟨sz1.mono (by decide), sz2.mono (by decide)⟩, fun z => absurd z hr, fun _ => ?_⟩
    exists "wh"
    refine ⟨⟨sz1, sz2⟩, fun z => absurd z hr, fun _ => ?_⟩
    exists "wh"
    refine ⟨mulk (k3 bs (by decide)) (k3 bA (by decide)), ?_⟩
    exists "wh"
    refine ⟨mulk (k3 bsA (by decide)) (k3 bD (by decide)), ?_⟩
    exists "wh"
    refine ⟨mulk (k3 bs (by decide)) (k3 bB (by decide)), ?_⟩
    exists "wh"
    refine ⟨mulk (k3 bsB (by decide)) (k3 bC (by decide)), ?_⟩
    exists "wh"
    have bt : Bd (s * A * D) 300 := (bsA.mul bD).mono (by decide)
    have bb : Bd (s * B * C) 300 := (bsB.mul bC).mono (by decide)
    refine ⟨⟨pb, pD, q1, rest_eq _ pb pD e1 eC, ?_, m1' bt, m1' bb, m1 bC, m1 bD⟩, ?_⟩
    · rw [q1]; exact (bt.of_abs (Int.natAbs_ediv_le_natAbs _ _)).mono (by decide)
    exists "wh"
    refine ⟨⟨(sz_intP (m1 bN) (by decide)).mono (by decide), sz2.mono (by decide)⟩, fun z => absurd z hr, fun _ => ?_⟩
    exists "wh"
    refine ⟨⟨sz_intP (m1 bN) (by decide), sz2⟩, fun z => absurd z hr, fun _ => ?_⟩
    exists "wh"
    refine ⟨mulk (k3 bs (by decide)) (k3 bN (by decide)), ?_⟩
    exists "wh"
    refine ⟨mulk (k3 bsN (by decide)) (k3 bD (by decide)), ?_⟩
    exists "wh"
    refine ⟨mulk (k3 bs (by decide)) (k3 bC (by decide)), ?_⟩
    exists "wh"
    have bt2 : Bd (s * N * D) 300 := (bsN.mul bD).mono (by decide)
    have bb2 : Bd (s * C) 300 := bsC.mono (by decide)
    refine ⟨⟨sp, pD, q2, rest_eq _ sp pD e2 eC, ?_, m1' bt2, m1' bb2, m1 bC, m1 bD⟩, ?_⟩
    · rw [q2]; exact (bt2.of_abs (Int.natAbs_ediv_le_natAbs _ _)).mono (by decide)
    exists "wh"
    refine ⟨_, rfl, ⟨sz1.mono (by decide), sz2.mono (by decide)⟩, fun z => absurd z hr, fun _ => ?_⟩
    exists "wh"
    have ov := over_eq hr (by omega) e1
    refine ⟨by rw [ov]; exact (sz_of (by omega) (m1' bt) (m1' bb)).2.mono (by decide), ?_⟩
    exists "wh"
    refine ⟨mulk (k3 bs (by decide)) (k3 bA (by decide)), ?_⟩
    exists "wh"
    refine ⟨mulk (k3 bsA (by decide)) (k3 bD (by decide)), ?_⟩
    exists "wh"
    refine ⟨mulk (k3 bs (by decide)) (k3 bB (by decide)), ?_⟩
    exists "wh"
    refine ⟨mulk (k3 bsB (by decide)) (k3 bC (by decide)), ?_⟩
    exists "wh"
    refine ⟨⟨pb, bb.mono (by decide)⟩, ?_⟩
    exists "wh"
    refine ⟨⟨rfl, rfl⟩, ?_⟩
    refine ifB_fl (show (!eqP (pairP _) (pairP _)) = false by rw [eqP_pair ov]; rfl) ?_
    exact hk _ ⟨_, rfl⟩
  · exists "wh"
    exact hk _ ⟨none, rfl⟩
  rintro ρ ⟨o, rfl⟩
  exists "wh"
  refine ite_joinN (fun ρ => ∃ o : Option SV, ρ = [none, some (.val .pool), some (.val (.int W)), some (.val (.int A)), some (.val (.int B)), some (.val (.int C)), some (.val (.int D)), some (.val (.int N)), some (.val (.rat (Rat.divInt A B))), some (.val (.rat (Rat.divInt C D))), some (.val (.int 1)), o]) (fun hN k hk => ?_) (fun _ k hk => ?_) ?_
  · have hr : ((N : Int) : Rat) ≠ 0 := ne_c hN
    have eA : Rat.divInt A B * (B : Rat) = (A : Rat) := div_mul (by omega)
    obtain ⟨sp, sn⟩ := sgn_ok hN
    exists "wh"
    refine ⟨⟨2, 2, by unfold Bd; decide, by unfold Bd; split <;> decide, by decide⟩, ?_⟩
    exists "wh"
    generalize 1 - 2 * (if decide (N < 0) = true then (1 : Int) else 0) = s at sp sn ⊢
    have bs := bd_sgn sn
    have bsA : Bd (s * A) 111 := (bs.mul bA).mono (by decide)
    have bsB : Bd (s * B) 111 := (bs.mul bB).mono (by decide)
    have pb : 0 < s * B * N := by
      rw [Int.mul_comm s B, Int.mul_assoc]
      exact Int.mul_pos pB sp
    have k3 : ∀ {n : Int} {j : Nat}, Bd n j → j ≤ 3000 → Bd n 3000 := fun h l => h.mono l
    have e1 : Rat.divInt A B * ((s * B * N : Int) : Rat) = ((N : Int) : Rat) * ((s * A : Int) : Rat) := by
      simp only [Rat.intCast_mul]
      rw [← eA]
      grind
    have q1 := quo_eq hr pb e1
    have szN : Sz ((N : Int) : Rat) 1000 := sz_intP (m1 bN) (by decide)
    refine ⟨⟨sz1.mono (by decide), szN.mono (by decide)⟩, fun z => absurd z hr, fun _ => ?_⟩
    exists "wh"
    refine ⟨⟨sz1, szN⟩, fun z => absurd z hr, fun _ => ?_⟩
    exists "wh"
    refine ⟨mulk (k3 bs (by decide)) (k3 bA (by decide)), ?_⟩
    exists "wh"
    refine ⟨mulk (k3 bs (by decide)) (k3 bB (by decide)), ?_⟩
    exists "wh"
    refine ⟨mulk (k3 bsB (by decide)) (k3 bN (by decide)), ?_⟩
    exists "wh"
    have bt : Bd (s * A) 300 := bsA.mono (by decide)
    have bb : Bd (s * B * N) 300 := (bsB.mul bN).mono (by decide)
    have eN : ((N : Int) : Rat) * ((1 : Int) : Rat) = ((N : Int) : Rat) := Rat.mul_one _
    refine ⟨⟨pb, by decide, q1, rest_eq _ pb (by decide) e1 eN, ?_, m1' bt, m1' bb, m1 bN, bd_lit (by decide) (by decide)⟩, ?_⟩
    · rw [q1]; exact (bt.of_abs (Int.natAbs_ediv_le_natAbs _ _)).mono (by decide)
    exists "wh"
    refine ⟨_, rfl, ⟨sz1.mono (by decide), szN.mono (by decide)⟩, fun z => absurd z hr, fun _ => ?_⟩
    exists "wh"
    have ov := over_eq hr (by omega) e1
    refine ⟨by rw [ov]; exact (sz_of (by omega) (m1' bt) (m1' bb)).2.mono (by decide), ?_⟩
    exists "wh"
    refine ⟨mulk (k3 bs (by decide)) (k3 bA (by decide)), ?_⟩
    exists "wh"
    refine ⟨mulk (k3 bs (by decide)) (k3 bB (by decide)), ?_⟩
    exists "wh"
    refine ⟨mulk (k3 bsB (by decide)) (k3 bN (by decide)), ?_⟩
    exists "wh"
    refine ⟨⟨pb, bb.mono (by decide)⟩, ?_⟩
    exists "wh"
    refine ⟨⟨rfl, rfl⟩, ?_⟩
    refine ifB_fl (show (!eqP (pairP _) (pairP _)) = false by rw [eqP_pair ov]; rfl) ?_
    exact hk _ ⟨_, rfl⟩
  · exists "wh"
    exact hk _ ⟨_, rfl⟩
  rintro ρ ⟨o, rfl⟩
  exists "wh"
  refine ⟨⟨pB, div_mul (by omega), bA, bB⟩, ?_⟩
  exists "wh"
  refine ⟨sz1.2.mono (by decide), ?_⟩
  exists "wh"
  refine ⟨⟨pB, bB.mono (by decide)⟩, ?_⟩
  exists "wh"
  refine ⟨⟨rfl, rfl⟩, ?_⟩
  refine ifB_t (show eqP (pairP _) (pairP _) = true from eqP_pair rfl) ?_
  exists "wh"
  refine ⟨sz2.2.mono (by decide), ?_⟩
  exists "wh"
  refine ⟨⟨pD, bD.mono (by decide)⟩, ?_⟩
  exists "wh"
  refine ⟨⟨rfl, rfl⟩, ?_⟩
  show PV.bl (eqP _ _) = .bl true
  rw [eqP_pair rfl]
end Qw

namespace Pr
open PySem PySem.Spec PyProof.Rows L2 Ni
def top (i : Nat) : Stmt := PySem.Challenge.pw_neveridle_k04_floor_and_rest.main.body.getD i (.Pass ⟨0, 0, 0, 0⟩)
abbrev s_is_number : Stmt := top 8
abbrev N_is_number : List Str := ["thing"]
abbrev p_is_number : List Str := ["thing"]
theorem sc_is_number : FnScope N_is_number p_is_number (defScope s_is_number) := ⟨rfl, rfl, rfl, by decide +kernel, rfl, by decide +kernel, by decide +kernel⟩
abbrev G_is_number : List Str := ["Ratio", "int", "isinstance"]
theorem nm_is_number : Names0 N_is_number G_is_number (defScope s_is_number) := ⟨by decide +kernel, by unfold L2.Loc; decide +kernel, by decide +kernel, by decide +kernel⟩
def d_is_number : He.DefD := ⟨("is_number", none), "is_number", "is_number", defArgs s_is_number, defBody s_is_number, defScope s_is_number, [], []⟩
abbrev s_as_ratio : Stmt := top 9
abbrev N_as_ratio : List Str := ["number"]
abbrev p_as_ratio : List Str := ["number"]
theorem sc_as_ratio : FnScope N_as_ratio p_as_ratio (defScope s_as_ratio) := ⟨rfl, rfl, rfl, by decide +kernel, rfl, by decide +kernel, by decide +kernel⟩
abbrev G_as_ratio : List Str := ["Ratio", "isinstance"]
theorem nm_as_ratio : Names0 N_as_ratio G_as_ratio (defScope s_as_ratio) := ⟨by decide +kernel, by unfold L2.Loc; decide +kernel, by decide +kernel, by decide +kernel⟩
def d_as_ratio : He.DefD := ⟨("as_ratio", none), "as_ratio", "as_ratio", defArgs s_as_ratio, defBody s_as_ratio, defScope s_as_ratio, [], []⟩
abbrev s_Ratio___init__ : Stmt := inClass (top 11) 1
abbrev N_Ratio___init__ : List Str := ["self", "top", "bottom", "common"]
abbrev p_Ratio___init__ : List Str := ["self", "top", "bottom"]
theorem sc_Ratio___init__ : FnScope N_Ratio___init__ p_Ratio___init__ (defScope s_Ratio___init__) := ⟨rfl, rfl, rfl, by decide +kernel, rfl, by decide +kernel, by decide +kernel⟩
abbrev G_Ratio___init__ : List Str := ["ZeroBottom", "gcd"]
theorem nm_Ratio___init__ : Names0 N_Ratio___init__ G_Ratio___init__ (defScope s_Ratio___init__) := ⟨by decide +kernel, by unfold L2.Loc; decide +kernel, by decide +kernel, by decide +kernel⟩
def d_Ratio___init__ : He.DefD := ⟨("Ratio", some "__init__"), "__init__", "Ratio.__init__", defArgs s_Ratio___init__, defBody s_Ratio___init__, defScope s_Ratio___init__, [.int 1], []⟩
abbrev s_Ratio_over : Stmt := inClass (top 11) 3
abbrev N_Ratio_over : List Str := ["self", "number"]
abbrev p_Ratio_over : List Str := ["self", "number"]
theorem sc_Ratio_over : FnScope N_Ratio_over p_Ratio_over (defScope s_Ratio_over) := ⟨rfl, rfl, rfl, by decide +kernel, rfl, by decide +kernel, by decide +kernel⟩
abbrev G_Ratio_over : List Str := ["Ratio", "as_ratio"]
theorem nm_Ratio_over : Names0 N_Ratio_over G_Ratio_over (defScope s_Ratio_over) := ⟨by decide +kernel, by unfold L2.Loc; decide +kernel, by decide +kernel, by decide +kernel⟩
def d_Ratio_over : He.DefD := ⟨("Ratio", some "over"), "over", "Ratio.over", defArgs s_Ratio_over, defBody s_Ratio_over, defScope s_Ratio_over, [], []⟩
abbrev s_Ratio___add__ : Stmt := inClass (top 11) 4
abbrev N_Ratio___add__ : List Str := ["self", "other"]
abbrev p_Ratio___add__ : List Str := ["self", "other"]
theorem sc_Ratio___add__ : FnScope N_Ratio___add__ p_Ratio___add__ (defScope s_Ratio___add__) := ⟨rfl, rfl, rfl, by decide +kernel, rfl, by decide +kernel, by decide +kernel⟩
abbrev G_Ratio___add__ : List Str := ["Ratio", "as_ratio"]
theorem nm_Ratio___add__ : Names0 N_Ratio___add__ G_Ratio___add__ (defScope s_Ratio___add__) := ⟨by decide +kernel, by unfold L2.Loc; decide +kernel, by decide +kernel, by decide +kernel⟩
def d_Ratio___add__ : He.DefD := ⟨("Ratio", some "__add__"), "__add__", "Ratio.__add__", defArgs s_Ratio___add__, defBody s_Ratio___add__, defScope s_Ratio___add__, [], []⟩
abbrev s_Ratio___radd__ : Stmt := inClass (top 11) 5
abbrev N_Ratio___radd__ : List Str := ["self", "other"]
abbrev p_Ratio___radd__ : List Str := ["self", "other"]
theorem sc_Ratio___radd__ : FnScope N_Ratio___radd__ p_Ratio___radd__ (defScope s_Ratio___radd__) := ⟨rfl, rfl, rfl, by decide +kernel, rfl, by decide +kernel, by decide +kernel⟩
abbrev G_Ratio___radd__ : List Str := []
theorem nm_Ratio___radd__ : Names0 N_Ratio___radd__ G_Ratio___radd__ (defScope s_Ratio___radd__) := ⟨by decide +kernel, by unfold L2.Loc; decide +kernel, by decide +kernel, by decide +kernel⟩
def d_Ratio___radd__ : He.DefD := ⟨("Ratio", some "__radd__"), "__radd__", "Ratio.__radd__", defArgs s_Ratio___radd__, defBody s_Ratio___radd__, defScope s_Ratio___radd__, [], []⟩
abbrev s_Ratio___sub__ : Stmt := inClass (top 11) 6
abbrev N_Ratio___sub__ : List Str := ["self", "other"]
abbrev p_Ratio___sub__ : List Str := ["self", "other"]
theorem sc_Ratio___sub__ : FnScope N_Ratio___sub__ p_Ratio___sub__ (defScope s_Ratio___sub__) := ⟨rfl, rfl, rfl, by decide +kernel, rfl, by decide +kernel, by decide +kernel⟩
abbrev G_Ratio___sub__ : List Str := ["Ratio", "as_ratio"]
theorem nm_Ratio___sub__ : Names0 N_Ratio___sub__ G_Ratio___sub__ (defScope s_Ratio___sub__) := ⟨by decide +kernel, by unfold L2.Loc; decide +kernel, by decide +kernel, by decide +kernel⟩
def d_Ratio___sub__ : He.DefD := ⟨("Ratio", some "__sub__"), "__sub__", "Ratio.__sub__", defArgs s_Ratio___sub__, defBody s_Ratio___sub__, defScope s_Ratio___sub__, [], []⟩
abbrev s_Ratio___rsub__ : Stmt := inClass (top 11) 7
abbrev N_Ratio___rsub__ : List Str := ["self", "other"]
abbrev p_Ratio___rsub__ : List Str := ["self", "other"]
theorem sc_Ratio___rsub__ : FnScope N_Ratio___rsub__ p_Ratio___rsub__ (defScope s_Ratio___rsub__) := ⟨rfl, rfl, rfl, by decide +kernel, rfl, by decide +kernel, by decide +kernel⟩
abbrev G_Ratio___rsub__ : List Str := ["as_ratio"]
theorem nm_Ratio___rsub__ : Names0 N_Ratio___rsub__ G_Ratio___rsub__ (defScope s_Ratio___rsub__) := ⟨by decide +kernel, by unfold L2.Loc; decide +kernel, by decide +kernel, by decide +kernel⟩
def d_Ratio___rsub__ : He.DefD := ⟨("Ratio", some "__rsub__"), "__rsub__", "Ratio.__rsub__", defArgs s_Ratio___rsub__, defBody s_Ratio___rsub__, defScope s_Ratio___rsub__, [], []⟩
abbrev s_Ratio___mul__ : Stmt := inClass (top 11) 8
abbrev N_Ratio___mul__ : List Str := ["self", "other"]
abbrev p_Ratio___mul__ : List Str := ["self", "other"]
theorem sc_Ratio___mul__ : FnScope N_Ratio___mul__ p_Ratio___mul__ (defScope s_Ratio___mul__) := ⟨rfl, rfl, rfl, by decide +kernel, rfl, by decide +kernel, by decide +kernel⟩
abbrev G_Ratio___mul__ : List Str := ["NotImplemented", "Ratio", "as_ratio", "is_number"]
theorem nm_Ratio___mul__ : Names0 N_Ratio___mul__ G_Ratio___mul__ (defScope s_Ratio___mul__) := ⟨by decide +kernel, by unfold L2.Loc; decide +kernel, by decide +kernel, by decide +kernel⟩
def d_Ratio___mul__ : He.DefD := ⟨("Ratio", some "__mul__"), "__mul__", "Ratio.__mul__", defArgs s_Ratio___mul__, defBody s_Ratio___mul__, defScope s_Ratio___mul__, [], []⟩
abbrev s_Ratio___rmul__ : Stmt := inClass (top 11) 9
abbrev N_Ratio___rmul__ : List Str := ["self", "other"]
abbrev p_Ratio___rmul__ : List Str := ["self", "other"]
theorem sc_Ratio___rmul__ : FnScope N_Ratio___rmul__ p_Ratio___rmul__ (defScope s_Ratio___rmul__) := ⟨rfl, rfl, rfl, by decide +kernel, rfl, by decide +kernel, by decide +kernel⟩
abbrev G_Ratio___rmul__ : List Str := []
theorem nm_Ratio___rmul__ : Names0 N_Ratio___rmul__ G_Ratio___rmul__ (defScope s_Ratio___rmul__) := ⟨by decide +kernel, by unfold L2.Loc; decide +kernel, by decide +kernel, by decide +kernel⟩
def d_Ratio___rmul__ : He.DefD := ⟨("Ratio", some "__rmul__"), "__rmul__", "Ratio.__rmul__", defArgs s_Ratio___rmul__, defBody s_Ratio___rmul__, defScope s_Ratio___rmul__, [], []⟩
abbrev s_Ratio___floordiv__ : Stmt := inClass (top 11) 10
abbrev N_Ratio___floordiv__ : List Str := ["self", "other"]
abbrev p_Ratio___floordiv__ : List Str := ["self", "other"]
theorem sc_Ratio___floordiv__ : FnScope N_Ratio___floordiv__ p_Ratio___floordiv__ (defScope s_Ratio___floordiv__) := ⟨rfl, rfl, rfl, by decide +kernel, rfl, by decide +kernel, by decide +kernel⟩
abbrev G_Ratio___floordiv__ : List Str := ["ZeroBottom", "as_ratio"]
theorem nm_Ratio___floordiv__ : Names0 N_Ratio___floordiv__ G_Ratio___floordiv__ (defScope s_Ratio___floordiv__) := ⟨by decide +kernel, by unfold L2.Loc; decide +kernel, by decide +kernel, by decide +kernel⟩
def d_Ratio___floordiv__ : He.DefD := ⟨("Ratio", some "__floordiv__"), "__floordiv__", "Ratio.__floordiv__", defArgs s_Ratio___floordiv__, defBody s_Ratio___floordiv__, defScope s_Ratio___floordiv__, [], []⟩
abbrev s_Ratio___rfloordiv__ : Stmt := inClass (top 11) 11
abbrev N_Ratio___rfloordiv__ : List Str := ["self", "other"]
abbrev p_Ratio___rfloordiv__ : List Str := ["self", "other"]
theorem sc_Ratio___rfloordiv__ : FnScope N_Ratio___rfloordiv__ p_Ratio___rfloordiv__ (defScope s_Ratio___rfloordiv__) := ⟨rfl, rfl, rfl, by decide +kernel, rfl, by decide +kernel, by decide +kernel⟩
abbrev G_Ratio___rfloordiv__ : List Str := ["as_ratio"]
theorem nm_Ratio___rfloordiv__ : Names0 N_Ratio___rfloordiv__ G_Ratio___rfloordiv__ (defScope s_Ratio___rfloordiv__) := ⟨by decide +kernel, by unfold L2.Loc; decide +kernel, by decide +kernel, by decide +kernel⟩
def d_Ratio___rfloordiv__ : He.DefD := ⟨("Ratio", some "__rfloordiv__"), "__rfloordiv__", "Ratio.__rfloordiv__", defArgs s_Ratio___rfloordiv__, defBody s_Ratio___rfloordiv__, defScope s_Ratio___rfloordiv__, [], []⟩
abbrev s_Ratio___mod__ : Stmt := inClass (top 11) 12
abbrev N_Ratio___mod__ : List Str := ["self", "other"]
abbrev p_Ratio___mod__ : List Str := ["self", "other"]
theorem sc_Ratio___mod__ : FnScope N_Ratio___mod__ p_Ratio___mod__ (defScope s_Ratio___mod__) := ⟨rfl, rfl, rfl, by decide +kernel, rfl, by decide +kernel, by decide +kernel⟩
abbrev G_Ratio___mod__ : List Str := []
theorem nm_Ratio___mod__ : Names0 N_Ratio___mod__ G_Ratio___mod__ (defScope s_Ratio___mod__) := ⟨by decide +kernel, by unfold L2.Loc; decide +kernel, by decide +kernel, by decide +kernel⟩
def d_Ratio___mod__ : He.DefD := ⟨("Ratio", some "__mod__"), "__mod__", "Ratio.__mod__", defArgs s_Ratio___mod__, defBody s_Ratio___mod__, defScope s_Ratio___mod__, [], []⟩
abbrev s_Ratio___rmod__ : Stmt := inClass (top 11) 13
abbrev N_Ratio___rmod__ : List Str := ["self", "other"]
abbrev p_Ratio___rmod__ : List Str := ["self", "other"]
theorem sc_Ratio___rmod__ : FnScope N_Ratio___rmod__ p_Ratio___rmod__ (defScope s_Ratio___rmod__) := ⟨rfl, rfl, rfl, by decide +kernel, rfl, by decide +kernel, by decide +kernel⟩
abbrev G_Ratio___rmod__ : List Str := []
theorem nm_Ratio___rmod__ : Names0 N_Ratio___rmod__ G_Ratio___rmod__ (defScope s_Ratio___rmod__) := ⟨by decide +kernel, by unfold L2.Loc; decide +kernel, by decide +kernel, by decide +kernel⟩
def d_Ratio___rmod__ : He.DefD := ⟨("Ratio", some "__rmod__"), "__rmod__", "Ratio.__rmod__", defArgs s_Ratio___rmod__, defBody s_Ratio___rmod__, defScope s_Ratio___rmod__, [], []⟩
abbrev s_Ratio___pow__ : Stmt := inClass (top 11) 14
abbrev N_Ratio___pow__ : List Str := ["self", "other", "top", "bottom", "_"]
abbrev p_Ratio___pow__ : List Str := ["self", "other"]
theorem sc_Ratio___pow__ : FnScope N_Ratio___pow__ p_Ratio___pow__ (defScope s_Ratio___pow__) := ⟨rfl, rfl, rfl, by decide +kernel, rfl, by decide +kernel, by decide +kernel⟩
abbrev G_Ratio___pow__ : List Str := ["Ratio", "range"]
theorem nm_Ratio___pow__ : Names0 N_Ratio___pow__ G_Ratio___pow__ (defScope s_Ratio___pow__) := ⟨by decide +kernel, by unfold L2.Loc; decide +kernel, by decide +kernel, by decide +kernel⟩
def d_Ratio___pow__ : He.DefD := ⟨("Ratio", some "__pow__"), "__pow__", "Ratio.__pow__", defArgs s_Ratio___pow__, defBody s_Ratio___pow__, defScope s_Ratio___pow__, [], []⟩
abbrev s_Ratio___neg__ : Stmt := inClass (top 11) 15
abbrev N_Ratio___neg__ : List Str := ["self"]
abbrev p_Ratio___neg__ : List Str := ["self"]
theorem sc_Ratio___neg__ : FnScope N_Ratio___neg__ p_Ratio___neg__ (defScope s_Ratio___neg__) := ⟨rfl, rfl, rfl, by decide +kernel, rfl, by decide +kernel, by decide +kernel⟩
abbrev G_Ratio___neg__ : List Str := ["Ratio"]
theorem nm_Ratio___neg__ : Names0 N_Ratio___neg__ G_Ratio___neg__ (defScope s_Ratio___neg__) := ⟨by decide +kernel, by unfold L2.Loc; decide +kernel, by decide +kernel, by decide +kernel⟩
def d_Ratio___neg__ : He.DefD := ⟨("Ratio", some "__neg__"), "__neg__", "Ratio.__neg__", defArgs s_Ratio___neg__, defBody s_Ratio___neg__, defScope s_Ratio___neg__, [], []⟩
abbrev s_Ratio___abs__ : Stmt := inClass (top 11) 16
abbrev N_Ratio___abs__ : List Str := ["self"]
abbrev p_Ratio___abs__ : List Str := ["self"]
theorem sc_Ratio___abs__ : FnScope N_Ratio___abs__ p_Ratio___abs__ (defScope s_Ratio___abs__) := ⟨rfl, rfl, rfl, by decide +kernel, rfl, by decide +kernel, by decide +kernel⟩
abbrev G_Ratio___abs__ : List Str := ["Ratio", "abs"]
theorem nm_Ratio___abs__ : Names0 N_Ratio___abs__ G_Ratio___abs__ (defScope s_Ratio___abs__) := ⟨by decide +kernel, by unfold L2.Loc; decide +kernel, by decide +kernel, by decide +kernel⟩
def d_Ratio___abs__ : He.DefD := ⟨("Ratio", some "__abs__"), "__abs__", "Ratio.__abs__", defArgs s_Ratio___abs__, defBody s_Ratio___abs__, defScope s_Ratio___abs__, [], []⟩
abbrev s_Ratio___bool__ : Stmt := inClass (top 11) 17
abbrev N_Ratio___bool__ : List Str := ["self"]
abbrev p_Ratio___bool__ : List Str := ["self"]
theorem sc_Ratio___bool__ : FnScope N_Ratio___bool__ p_Ratio___bool__ (defScope s_Ratio___bool__) := ⟨rfl, rfl, rfl, by decide +kernel, rfl, by decide +kernel, by decide +kernel⟩
abbrev G_Ratio___bool__ : List Str := ["bool"]
theorem nm_Ratio___bool__ : Names0 N_Ratio___bool__ G_Ratio___bool__ (defScope s_Ratio___bool__) := ⟨by decide +kernel, by unfold L2.Loc; decide +kernel, by decide +kernel, by decide +kernel⟩
def d_Ratio___bool__ : He.DefD := ⟨("Ratio", some "__bool__"), "__bool__", "Ratio.__bool__", defArgs s_Ratio___bool__, defBody s_Ratio___bool__, defScope s_Ratio___bool__, [], []⟩
abbrev s_Ratio___eq__ : Stmt := inClass (top 11) 18
abbrev N_Ratio___eq__ : List Str := ["self", "other"]
abbrev p_Ratio___eq__ : List Str := ["self", "other"]
theorem sc_Ratio___eq__ : FnScope N_Ratio___eq__ p_Ratio___eq__ (defScope s_Ratio___eq__) := ⟨rfl, rfl, rfl, by decide +kernel, rfl, by decide +kernel, by decide +kernel⟩
abbrev G_Ratio___eq__ : List Str := ["as_ratio", "is_number"]
theorem nm_Ratio___eq__ : Names0 N_Ratio___eq__ G_Ratio___eq__ (defScope s_Ratio___eq__) := ⟨by decide +kernel, by unfold L2.Loc; decide +kernel, by decide +kernel, by decide +kernel⟩
def d_Ratio___eq__ : He.DefD := ⟨("Ratio", some "__eq__"), "__eq__", "Ratio.__eq__", defArgs s_Ratio___eq__, defBody s_Ratio___eq__, defScope s_Ratio___eq__, [], []⟩
abbrev s_Ratio___lt__ : Stmt := inClass (top 11) 19
abbrev N_Ratio___lt__ : List Str := ["self", "other"]
abbrev p_Ratio___lt__ : List Str := ["self", "other"]
theorem sc_Ratio___lt__ : FnScope N_Ratio___lt__ p_Ratio___lt__ (defScope s_Ratio___lt__) := ⟨rfl, rfl, rfl, by decide +kernel, rfl, by decide +kernel, by decide +kernel⟩
abbrev G_Ratio___lt__ : List Str := ["as_ratio"]
theorem nm_Ratio___lt__ : Names0 N_Ratio___lt__ G_Ratio___lt__ (defScope s_Ratio___lt__) := ⟨by decide +kernel, by unfold L2.Loc; decide +kernel, by decide +kernel, by decide +kernel⟩
def d_Ratio___lt__ : He.DefD := ⟨("Ratio", some "__lt__"), "__lt__", "Ratio.__lt__", defArgs s_Ratio___lt__, defBody s_Ratio___lt__, defScope s_Ratio___lt__, [], []⟩
abbrev s_Ratio___le__ : Stmt := inClass (top 11) 20
abbrev N_Ratio___le__ : List Str := ["self", "other"]
abbrev p_Ratio___le__ : List Str := ["self", "other"]
theorem sc_Ratio___le__ : FnScope N_Ratio___le__ p_Ratio___le__ (defScope s_Ratio___le__) := ⟨rfl, rfl, rfl, by decide +kernel, rfl, by decide +kernel, by decide +kernel⟩
abbrev G_Ratio___le__ : List Str := ["as_ratio"]
theorem nm_Ratio___le__ : Names0 N_Ratio___le__ G_Ratio___le__ (defScope s_Ratio___le__) := ⟨by decide +kernel, by unfold L2.Loc; decide +kernel, by decide +kernel, by decide +kernel⟩
def d_Ratio___le__ : He.DefD := ⟨("Ratio", some "__le__"), "__le__", "Ratio.__le__", defArgs s_Ratio___le__, defBody s_Ratio___le__, defScope s_Ratio___le__, [], []⟩
abbrev s_Ratio___gt__ : Stmt := inClass (top 11) 21
abbrev N_Ratio___gt__ : List Str := ["self", "other"]
abbrev p_Ratio___gt__ : List Str := ["self", "other"]
theorem sc_Ratio___gt__ : FnScope N_Ratio___gt__ p_Ratio___gt__ (defScope s_Ratio___gt__) := ⟨rfl, rfl, rfl, by decide +kernel, rfl, by decide +kernel, by decide +kernel⟩
abbrev G_Ratio___gt__ : List Str := ["as_ratio"]
theorem nm_Ratio___gt__ : Names0 N_Ratio___gt__ G_Ratio___gt__ (defScope s_Ratio___gt__) := ⟨by decide +kernel, by unfold L2.Loc; decide +kernel, by decide +kernel, by decide +kernel⟩
def d_Ratio___gt__ : He.DefD := ⟨("Ratio", some "__gt__"), "__gt__", "Ratio.__gt__", defArgs s_Ratio___gt__, defBody s_Ratio___gt__, defScope s_Ratio___gt__, [], []⟩
abbrev s_Ratio___ge__ : Stmt := inClass (top 11) 22
abbrev N_Ratio___ge__ : List Str := ["self", "other"]
abbrev p_Ratio___ge__ : List Str := ["self", "other"]
theorem sc_Ratio___ge__ : FnScope N_Ratio___ge__ p_Ratio___ge__ (defScope s_Ratio___ge__) := ⟨rfl, rfl, rfl, by decide +kernel, rfl, by decide +kernel, by decide +kernel⟩
abbrev G_Ratio___ge__ : List Str := ["as_ratio"]
theorem nm_Ratio___ge__ : Names0 N_Ratio___ge__ G_Ratio___ge__ (defScope s_Ratio___ge__) := ⟨by decide +kernel, by unfold L2.Loc; decide +kernel, by decide +kernel, by decide +kernel⟩
def d_Ratio___ge__ : He.DefD := ⟨("Ratio", some "__ge__"), "__ge__", "Ratio.__ge__", defArgs s_Ratio___ge__, defBody s_Ratio___ge__, defScope s_Ratio___ge__, [], []⟩
abbrev s__law_mixed : Stmt := top 13
abbrev N__law_mixed : List Str := ["_law_cell", "_law_turn", "_law_one", "_law_two"]
abbrev p__law_mixed : List Str := ["_law_cell", "_law_turn"]
theorem sc__law_mixed : FnScope N__law_mixed p__law_mixed (defScope s__law_mixed) := ⟨rfl, rfl, rfl, by decide +kernel, rfl, by decide +kernel, by decide +kernel⟩
abbrev G__law_mixed : List Str := ["int"]
theorem nm__law_mixed : Names0 N__law_mixed G__law_mixed (defScope s__law_mixed) := ⟨by decide +kernel, by unfold L2.Loc; decide +kernel, by decide +kernel, by decide +kernel⟩
def d__law_mixed : He.DefD := ⟨("_law_mixed", none), "_law_mixed", "_law_mixed", defArgs s__law_mixed, defBody s__law_mixed, defScope s__law_mixed, [], []⟩
abbrev s__law_draw : Stmt := top 14
abbrev N__law_draw : List Str := ["_law_pool", "_law_many", "_law_cell", "_law_digit"]
abbrev p__law_draw : List Str := ["_law_pool", "_law_many"]
theorem sc__law_draw : FnScope N__law_draw p__law_draw (defScope s__law_draw) := ⟨rfl, rfl, rfl, by decide +kernel, rfl, by decide +kernel, by decide +kernel⟩
abbrev G__law_draw : List Str := ["_law_mixed", "int", "len"]
theorem nm__law_draw : Names0 N__law_draw G__law_draw (defScope s__law_draw) := ⟨by decide +kernel, by unfold L2.Loc; decide +kernel, by decide +kernel, by decide +kernel⟩
def d__law_draw : He.DefD := ⟨("_law_draw", none), "_law_draw", "_law_draw", defArgs s__law_draw, defBody s__law_draw, defScope s__law_draw, [], []⟩
abbrev s__law_low : Stmt := top 15
abbrev N__law_low : List Str := ["_law_top", "_law_bottom", "_law_one", "_law_two", "_law_rest"]
abbrev p__law_low : List Str := ["_law_top", "_law_bottom"]
theorem sc__law_low : FnScope N__law_low p__law_low (defScope s__law_low) := ⟨rfl, rfl, rfl, by decide +kernel, rfl, by decide +kernel, by decide +kernel⟩
abbrev G__law_low : List Str := ["abs", "int"]
theorem nm__law_low : Names0 N__law_low G__law_low (defScope s__law_low) := ⟨by decide +kernel, by unfold L2.Loc; decide +kernel, by decide +kernel, by decide +kernel⟩
def d__law_low : He.DefD := ⟨("_law_low", none), "_law_low", "_law_low", defArgs s__law_low, defBody s__law_low, defScope s__law_low, [], []⟩
abbrev s__law_whole : Stmt := top 16
abbrev N__law_whole : List Str := ["_law_thing"]
abbrev p__law_whole : List Str := ["_law_thing"]
theorem sc__law_whole : FnScope N__law_whole p__law_whole (defScope s__law_whole) := ⟨rfl, rfl, rfl, by decide +kernel, rfl, by decide +kernel, by decide +kernel⟩
abbrev G__law_whole : List Str := ["bool", "int", "isinstance"]
theorem nm__law_whole : Names0 N__law_whole G__law_whole (defScope s__law_whole) := ⟨by decide +kernel, by unfold L2.Loc; decide +kernel, by decide +kernel, by decide +kernel⟩
def d__law_whole : He.DefD := ⟨("_law_whole", none), "_law_whole", "_law_whole", defArgs s__law_whole, defBody s__law_whole, defScope s__law_whole, [], []⟩
abbrev s__law_pair : Stmt := top 17
abbrev N__law_pair : List Str := ["_law_thing"]
abbrev p__law_pair : List Str := ["_law_thing"]
theorem sc__law_pair : FnScope N__law_pair p__law_pair (defScope s__law_pair) := ⟨rfl, rfl, rfl, by decide +kernel, rfl, by decide +kernel, by decide +kernel⟩
abbrev G__law_pair : List Str := ["Ratio", "_law_low", "_law_whole", "isinstance"]
theorem nm__law_pair : Names0 N__law_pair G__law_pair (defScope s__law_pair) := ⟨by decide +kernel, by unfold L2.Loc; decide +kernel, by decide +kernel, by decide +kernel⟩
def d__law_pair : He.DefD := ⟨("_law_pair", none), "_law_pair", "_law_pair", defArgs s__law_pair, defBody s__law_pair, defScope s__law_pair, [], []⟩
abbrev s__law_floor : Stmt := top 18
abbrev N__law_floor : List Str := ["_law_told", "_law_rest", "_law_top", "_law_bottom", "_law_divisor", "_law_left"]
abbrev p__law_floor : List Str := ["_law_told", "_law_rest", "_law_top", "_law_bottom", "_law_divisor"]
theorem sc__law_floor : FnScope N__law_floor p__law_floor (defScope s__law_floor) := ⟨rfl, rfl, rfl, by decide +kernel, rfl, by decide +kernel, by decide +kernel⟩
abbrev G__law_floor : List Str := ["_law_low", "_law_pair", "bool", "int", "isinstance"]
theorem nm__law_floor : Names0 N__law_floor G__law_floor (defScope s__law_floor) := ⟨by decide +kernel, by unfold L2.Loc; decide +kernel, by decide +kernel, by decide +kernel⟩
def d__law_floor : He.DefD := ⟨("_law_floor", none), "_law_floor", "_law_floor", defArgs s__law_floor, defBody s__law_floor, defScope s__law_floor, [], []⟩
abbrev s__law_zero : Stmt := top 19
abbrev N__law_zero : List Str := ["_law_one", "_law_zero_here", "_law_way", "_law_told", "e"]
abbrev p__law_zero : List Str := ["_law_one", "_law_zero_here", "_law_way"]
theorem sc__law_zero : FnScope N__law_zero p__law_zero (defScope s__law_zero) := ⟨rfl, rfl, rfl, by decide +kernel, rfl, by decide +kernel, by decide +kernel⟩
abbrev G__law_zero : List Str := ["BadValue", "NeverIdleError", "ZeroBottom", "isinstance"]
theorem nm__law_zero : Names0 N__law_zero G__law_zero (defScope s__law_zero) := ⟨by decide +kernel, by unfold L2.Loc; decide +kernel, by decide +kernel, by decide +kernel⟩
def d__law_zero : He.DefD := ⟨("_law_zero", none), "_law_zero", "_law_zero", defArgs s__law_zero, defBody s__law_zero, defScope s__law_zero, [], []⟩
abbrev s__law_powers : Stmt := top 20
abbrev N__law_powers : List Str := ["_law_one", "_law_top", "_law_bottom", "_law_told", "_law_due", "_law_k", "_law_at"]
abbrev p__law_powers : List Str := ["_law_one", "_law_top", "_law_bottom"]
theorem sc__law_powers : FnScope N__law_powers p__law_powers (defScope s__law_powers) := ⟨rfl, rfl, rfl, by decide +kernel, rfl, by decide +kernel, by decide +kernel⟩
abbrev G__law_powers : List Str := ["_law_low", "_law_pair", "range"]
theorem nm__law_powers : Names0 N__law_powers G__law_powers (defScope s__law_powers) := ⟨by decide +kernel, by unfold L2.Loc; decide +kernel, by decide +kernel, by decide +kernel⟩
def d__law_powers : He.DefD := ⟨("_law_powers", none), "_law_powers", "_law_powers", defArgs s__law_powers, defBody s__law_powers, defScope s__law_powers, [], []⟩
abbrev s_law : Stmt := top 21
abbrev N_law : List Str := ["_law_script", "_law_pool", "_law_width", "_law_a", "_law_b", "_law_c", "_law_d", "_law_n", "_law_one", "_law_two", "_law_way", "_law_sign"]
abbrev p_law : List Str := ["_law_script"]
theorem sc_law : FnScope N_law p_law (defScope s_law) := ⟨rfl, rfl, rfl, by decide +kernel, rfl, by decide +kernel, by decide +kernel⟩
abbrev G_law : List Str := ["Ratio", "_law_draw", "_law_floor", "_law_low", "_law_pair", "_law_powers", "_law_zero", "int", "list", "range"]
theorem nm_law : Names0 N_law G_law (defScope s_law) := ⟨by decide +kernel, by unfold L2.Loc; decide +kernel, by decide +kernel, by decide +kernel⟩
def d_law : He.DefD := ⟨("law", none), "law", "law", defArgs s_law, defBody s_law, defScope s_law, [], []⟩
def fn0 : List He.DefD := [d_is_number, d_as_ratio, d_Ratio___init__, d_Ratio_over, d_Ratio___add__, d_Ratio___radd__, d_Ratio___sub__, d_Ratio___rsub__, d_Ratio___mul__, d_Ratio___rmul__, d_Ratio___floordiv__, d_Ratio___rfloordiv__, d_Ratio___mod__, d_Ratio___rmod__, d_Ratio___pow__, d_Ratio___neg__, d_Ratio___abs__, d_Ratio___bool__, d_Ratio___eq__, d_Ratio___lt__, d_Ratio___le__, d_Ratio___gt__, d_Ratio___ge__, d__law_mixed, d__law_draw, d__law_low, d__law_whole, d__law_pair, d__law_floor, d__law_zero]
def fn1 : List He.DefD := [d__law_powers, d_law]
def fn : List He.DefD := fn0 ++ (fn1)
def fa0 : List He.Fa := [.cls "Ratio", .noat "Ratio" "top", .noat "Ratio" "bottom", .mkr "Ratio", .meth "Ratio" "__add__", .meth "Ratio" "__radd__", .meth "Ratio" "__sub__", .meth "Ratio" "__rsub__", .meth "Ratio" "__mul__", .meth "Ratio" "__rmul__", .meth "Ratio" "__neg__", .meth "Ratio" "__abs__", .meth "Ratio" "__eq__", .meth "Ratio" "__lt__", .meth "Ratio" "__gt__", .meth "Ratio" "__le__", .meth "Ratio" "__ge__", .meth "Ratio" "__bool__", .free "len", .free "abs", .free "int", .free "bool", .free "str", .free "isinstance", .free "tuple", .free "range", .free "zip", .free "enumerate", .free "list", .glo "Ratio"]
def fa1 : List He.Fa := [.keep "Ratio", .glo "_law_draw", .keep "_law_draw", .glo "as_ratio", .keep "as_ratio", .glo "ZeroBottom", .exc "ZeroBottom", .meth "Ratio" "__floordiv__", .meth "Ratio" "__rfloordiv__", .meth "Ratio" "__mod__", .meth "Ratio" "__rmod__", .meth "Ratio" "__pow__", .noat "Ratio" "__rpow__", .meth "Ratio" "over", .glo "_law_low", .keep "_law_low", .glo "_law_whole", .keep "_law_whole", .glo "_law_pair", .keep "_law_pair", .glo "_law_floor", .keep "_law_floor", .glo "BadValue", .glo "NeverIdleError", .exm "ZeroBottom" "ZeroBottom" true, .glo "_law_zero", .keep "_law_zero", .glo "_law_powers", .keep "_law_powers", .glo "BadNumber"]
def fa2 : List He.Fa := [.keep "BadNumber", .exc "BadNumber", .keep "BadValue", .exc "BadValue", .keep "NeverIdleError", .exc "NeverIdleError", .keep "ZeroBottom", .glo "_law_mixed", .keep "_law_mixed", .glo "is_number", .keep "is_number", .glo "read_digits", .keep "read_digits", .glo "law"]
def fa : List He.Fa := fa0 ++ (fa1 ++ (fa2))
def ex0 : List (PySem.W.Frag → Bool) := [fun K => decide (PySem.W.kitOne K (.type "int") (.type "int") = some true), fun K => decide (PySem.W.kitOne K (.type "int") (.ref (He.ga K "Ratio")) = some false), fun K => tyxB K (He.ga K "Ratio"), fun K => decide (PySem.W.kitOne K (.ref (He.ga K "Ratio")) (.ref (He.ga K "Ratio")) = some true), fun K => decide (PySem.W.kitOne K (.ref (He.ga K "Ratio")) (.type "int") = some false), fun K => PySem.W.selfFirst K (He.ga K "Ratio"), fun K => decide (PySem.W.subIn K (.type "int") (.ref (He.ga K "Ratio")) = some false), fun K => decide (PySem.W.subIn K (.ref (He.ga K "Ratio")) (.type "int") = some false), fun K => (PySem.W.findIn K (.type "int") "__add__").isSome, fun K => (PySem.W.findIn K (.type "int") "__radd__").isSome, fun K => (PySem.W.findIn K (.type "int") "__sub__").isSome, fun K => (PySem.W.findIn K (.type "int") "__rsub__").isSome, fun K => (PySem.W.findIn K (.type "int") "__mul__").isSome, fun K => (PySem.W.findIn K (.type "int") "__rmul__").isSome, fun K => noiB K (He.ga K "Ratio") "add", fun K => noiB K (He.ga K "Ratio") "mul", fun K => PySem.W.notFirst K (He.ga K "Ratio") (.type "int"), fun K => neB K (He.ga K "Ratio"), fun K => PySem.W.notFirst K (He.ga K "Ratio") (.type "NoneType"), fun K => PySem.W.notFirst K (He.ga K "Ratio") (.type "str"), fun K => PySem.W.notFirst K (He.ga K "Ratio") (.type "list"), fun K => PySem.W.notFirst K (He.ga K "Ratio") (.type "tuple"), fun K => decide (PySem.W.nsIn K mainGlobals "gcd" = some (some (.builtin "math.gcd"))), fun K => decide (PySem.W.kitOne K (.type "int") (.type "bool") = some false), fun K => decide (PySem.W.kitOne K (.type "bool") (.type "bool") = some true), fun K => decide (PySem.W.kitOne K (.type "NoneType") (.type "int") = some false), fun K => decide (PySem.W.kitOne K (.type "str") (.type "int") = some false), fun K => decide (PySem.W.kitOne K (.type "list") (.type "int") = some false), fun K => decide (PySem.W.kitOne K (.type "tuple") (.type "int") = some false), fun K => decide (PySem.W.kitOne K (.type "NoneType") (.ref (He.ga K "Ratio")) = some false)]
def ex1 : List (PySem.W.Frag → Bool) := [fun K => decide (PySem.W.kitOne K (.type "str") (.ref (He.ga K "Ratio")) = some false), fun K => decide (PySem.W.kitOne K (.type "list") (.ref (He.ga K "Ratio")) = some false), fun K => decide (PySem.W.kitOne K (.type "tuple") (.ref (He.ga K "Ratio")) = some false), fun K => (PySem.W.findIn K (.type "int") "__floordiv__").isSome, fun K => (PySem.W.findIn K (.type "int") "__rfloordiv__").isSome, fun K => (PySem.W.findIn K (.type "int") "__mod__").isSome, fun K => (PySem.W.findIn K (.type "int") "__rmod__").isSome, fun K => (PySem.W.findIn K (.type "int") "__pow__").isSome, fun K => (PySem.W.findIn K (.type "int") "__rpow__").isSome, fun K => exccB K (He.ga K "ZeroBottom"), fun K => decide (PySem.W.kitOne K (.ref (He.ga K "ZeroBottom")) (.ref (He.ga K "BadValue")) = some false), fun K => decide (PySem.W.kitOne K (.ref (He.ga K "ZeroBottom")) (.ref (He.ga K "NeverIdleError")) = some true)]
def ex : List (PySem.W.Frag → Bool) := ex0 ++ (ex1)
structure Ctx (K : PySem.W.Frag) (mg : Str → Option Value) : Prop where
  c : Says fa fn ex K
  m : ∀ x v, PySem.W.nsIn K mainGlobals x = some v → mg x = v
section
variable {K : PySem.W.Frag} {mg : Str → Option Value}
theorem f_cls_Ratio (T : Ctx K mg) : Cls K (He.ga K "Ratio") := He.cls_ok (T.c.d.fact 0 rfl)
theorem f_noat_Ratio'top (T : Ctx K mg) : NoAttr K (He.ga K "Ratio") "top" := He.noat_ok (T.c.d.fact 1 rfl)
theorem f_noat_Ratio'bottom (T : Ctx K mg) : NoAttr K (He.ga K "Ratio") "bottom" := He.noat_ok (T.c.d.fact 2 rfl)
theorem f_mkr_Ratio (T : Ctx K mg) : Mk K (He.ga K "Ratio") (He.ma K (He.ga K "Ratio") "__init__") := He.mkr_ok (T.c.d.fact 3 rfl)
theorem f_kit_int'int (T : Ctx K mg) : PySem.W.kitOne K (.type "int") (.type "int") = some true := of_decide_eq_true (T.c.x 0 rfl)
theorem f_kit_int'Ratio (T : Ctx K mg) : PySem.W.kitOne K (.type "int") (.ref (He.ga K "Ratio")) = some false := of_decide_eq_true (T.c.x 1 rfl)
theorem f_tyx_Ratio (T : Ctx K mg) : tyxB K (He.ga K "Ratio") = true := T.c.x 2 rfl
theorem f_kit_Ratio'Ratio (T : Ctx K mg) : PySem.W.kitOne K (.ref (He.ga K "Ratio")) (.ref (He.ga K "Ratio")) = some true := of_decide_eq_true (T.c.x 3 rfl)
theorem f_kit_Ratio'int (T : Ctx K mg) : PySem.W.kitOne K (.ref (He.ga K "Ratio")) (.type "int") = some false := of_decide_eq_true (T.c.x 4 rfl)
theorem f_sf_Ratio (T : Ctx K mg) : PySem.W.selfFirst K (He.ga K "Ratio") = true := T.c.x 5 rfl
theorem f_sub_int'Ratio (T : Ctx K mg) : PySem.W.subIn K (.type "int") (.ref (He.ga K "Ratio")) = some false := of_decide_eq_true (T.c.x 6 rfl)
theorem f_sub_Ratio'int (T : Ctx K mg) : PySem.W.subIn K (.ref (He.ga K "Ratio")) (.type "int") = some false := of_decide_eq_true (T.c.x 7 rfl)
theorem f_sg_Ratio'__add__ (T : Ctx K mg) : Sg K (He.ga K "Ratio") "__add__" (He.ma K (He.ga K "Ratio") "__add__") := ⟨(He.meth_ok (T.c.d.fact 4 rfl)).at_, (He.meth_ok (T.c.d.fact 4 rfl)).fn⟩
theorem f_sg_Ratio'__radd__ (T : Ctx K mg) : Sg K (He.ga K "Ratio") "__radd__" (He.ma K (He.ga K "Ratio") "__radd__") := ⟨(He.meth_ok (T.c.d.fact 5 rfl)).at_, (He.meth_ok (T.c.d.fact 5 rfl)).fn⟩
theorem f_find_int'__add__ (T : Ctx K mg) : ∃ fo, PySem.W.findIn K (.type "int") "__add__" = some fo := Option.isSome_iff_exists.mp (T.c.x 8 rfl)
theorem f_find_int'__radd__ (T : Ctx K mg) : ∃ fo, PySem.W.findIn K (.type "int") "__radd__" = some fo := Option.isSome_iff_exists.mp (T.c.x 9 rfl)
theorem f_sg_Ratio'__sub__ (T : Ctx K mg) : Sg K (He.ga K "Ratio") "__sub__" (He.ma K (He.ga K "Ratio") "__sub__") := ⟨(He.meth_ok (T.c.d.fact 6 rfl)).at_, (He.meth_ok (T.c.d.fact 6 rfl)).fn⟩
theorem f_sg_Ratio'__rsub__ (T : Ctx K mg) : Sg K (He.ga K "Ratio") "__rsub__" (He.ma K (He.ga K "Ratio") "__rsub__") := ⟨(He.meth_ok (T.c.d.fact 7 rfl)).at_, (He.meth_ok (T.c.d.fact 7 rfl)).fn⟩
theorem f_find_int'__sub__ (T : Ctx K mg) : ∃ fo, PySem.W.findIn K (.type "int") "__sub__" = some fo := Option.isSome_iff_exists.mp (T.c.x 10 rfl)
theorem f_find_int'__rsub__ (T : Ctx K mg) : ∃ fo, PySem.W.findIn K (.type "int") "__rsub__" = some fo := Option.isSome_iff_exists.mp (T.c.x 11 rfl)
theorem f_sg_Ratio'__mul__ (T : Ctx K mg) : Sg K (He.ga K "Ratio") "__mul__" (He.ma K (He.ga K "Ratio") "__mul__") := ⟨(He.meth_ok (T.c.d.fact 8 rfl)).at_, (He.meth_ok (T.c.d.fact 8 rfl)).fn⟩
theorem f_sg_Ratio'__rmul__ (T : Ctx K mg) : Sg K (He.ga K "Ratio") "__rmul__" (He.ma K (He.ga K "Ratio") "__rmul__") := ⟨(He.meth_ok (T.c.d.fact 9 rfl)).at_, (He.meth_ok (T.c.d.fact 9 rfl)).fn⟩
theorem f_find_int'__mul__ (T : Ctx K mg) : ∃ fo, PySem.W.findIn K (.type "int") "__mul__" = some fo := Option.isSome_iff_exists.mp (T.c.x 12 rfl)
theorem f_find_int'__rmul__ (T : Ctx K mg) : ∃ fo, PySem.W.findIn K (.type "int") "__rmul__" = some fo := Option.isSome_iff_exists.mp (T.c.x 13 rfl)
theorem f_noi_Ratio'add (T : Ctx K mg) : noiB K (He.ga K "Ratio") "add" = true := T.c.x 14 rfl
theorem f_noi_Ratio'mul (T : Ctx K mg) : noiB K (He.ga K "Ratio") "mul" = true := T.c.x 15 rfl
theorem f_sg_Ratio'__neg__ (T : Ctx K mg) : Sg K (He.ga K "Ratio") "__neg__" (He.ma K (He.ga K "Ratio") "__neg__") := ⟨(He.meth_ok (T.c.d.fact 10 rfl)).at_, (He.meth_ok (T.c.d.fact 10 rfl)).fn⟩
theorem f_sg_Ratio'__abs__ (T : Ctx K mg) : Sg K (He.ga K "Ratio") "__abs__" (He.ma K (He.ga K "Ratio") "__abs__") := ⟨(He.meth_ok (T.c.d.fact 11 rfl)).at_, (He.meth_ok (T.c.d.fact 11 rfl)).fn⟩
theorem f_nf_Ratio'int (T : Ctx K mg) : PySem.W.notFirst K (He.ga K "Ratio") (.type "int") = true := T.c.x 16 rfl
theorem f_neb_Ratio (T : Ctx K mg) : neB K (He.ga K "Ratio") = true := T.c.x 17 rfl
theorem f_sg_Ratio'__eq__ (T : Ctx K mg) : Sg K (He.ga K "Ratio") "__eq__" (He.ma K (He.ga K "Ratio") "__eq__") := ⟨(He.meth_ok (T.c.d.fact 12 rfl)).at_, (He.meth_ok (T.c.d.fact 12 rfl)).fn⟩
theorem f_sg_Ratio'__lt__ (T : Ctx K mg) : Sg K (He.ga K "Ratio") "__lt__" (He.ma K (He.ga K "Ratio") "__lt__") := ⟨(He.meth_ok (T.c.d.fact 13 rfl)).at_, (He.meth_ok (T.c.d.fact 13 rfl)).fn⟩
theorem f_sg_Ratio'__gt__ (T : Ctx K mg) : Sg K (He.ga K "Ratio") "__gt__" (He.ma K (He.ga K "Ratio") "__gt__") := ⟨(He.meth_ok (T.c.d.fact 14 rfl)).at_, (He.meth_ok (T.c.d.fact 14 rfl)).fn⟩
theorem f_sg_Ratio'__le__ (T : Ctx K mg) : Sg K (He.ga K "Ratio") "__le__" (He.ma K (He.ga K "Ratio") "__le__") := ⟨(He.meth_ok (T.c.d.fact 15 rfl)).at_, (He.meth_ok (T.c.d.fact 15 rfl)).fn⟩
theorem f_sg_Ratio'__ge__ (T : Ctx K mg) : Sg K (He.ga K "Ratio") "__ge__" (He.ma K (He.ga K "Ratio") "__ge__") := ⟨(He.meth_ok (T.c.d.fact 16 rfl)).at_, (He.meth_ok (T.c.d.fact 16 rfl)).fn⟩
theorem f_nf_Ratio'NoneType (T : Ctx K mg) : PySem.W.notFirst K (He.ga K "Ratio") (.type "NoneType") = true := T.c.x 18 rfl
theorem f_nf_Ratio'str (T : Ctx K mg) : PySem.W.notFirst K (He.ga K "Ratio") (.type "str") = true := T.c.x 19 rfl
theorem f_nf_Ratio'list (T : Ctx K mg) : PySem.W.notFirst K (He.ga K "Ratio") (.type "list") = true := T.c.x 20 rfl
theorem f_nf_Ratio'tuple (T : Ctx K mg) : PySem.W.notFirst K (He.ga K "Ratio") (.type "tuple") = true := T.c.x 21 rfl
theorem f_sg_Ratio'__bool__ (T : Ctx K mg) : Sg K (He.ga K "Ratio") "__bool__" (He.ma K (He.ga K "Ratio") "__bool__") := ⟨(He.meth_ok (T.c.d.fact 17 rfl)).at_, (He.meth_ok (T.c.d.fact 17 rfl)).fn⟩
theorem f_free_len (T : Ctx K mg) : mg "len" = none := T.m _ _ (He.eqO_ok (T.c.d.fact 18 rfl))
theorem f_free_abs (T : Ctx K mg) : mg "abs" = none := T.m _ _ (He.eqO_ok (T.c.d.fact 19 rfl))
theorem f_free_int (T : Ctx K mg) : mg "int" = none := T.m _ _ (He.eqO_ok (T.c.d.fact 20 rfl))
theorem f_free_bool (T : Ctx K mg) : mg "bool" = none := T.m _ _ (He.eqO_ok (T.c.d.fact 21 rfl))
theorem f_free_str (T : Ctx K mg) : mg "str" = none := T.m _ _ (He.eqO_ok (T.c.d.fact 22 rfl))
theorem f_free_isinstance (T : Ctx K mg) : mg "isinstance" = none := T.m _ _ (He.eqO_ok (T.c.d.fact 23 rfl))
theorem f_free_tuple (T : Ctx K mg) : mg "tuple" = none := T.m _ _ (He.eqO_ok (T.c.d.fact 24 rfl))
theorem f_gcd_x (T : Ctx K mg) : mg "gcd" = some (.builtin "math.gcd") := T.m _ _ (of_decide_eq_true (T.c.x 22 rfl))
theorem f_free_range (T : Ctx K mg) : mg "range" = none := T.m _ _ (He.eqO_ok (T.c.d.fact 25 rfl))
theorem f_free_zip (T : Ctx K mg) : mg "zip" = none := T.m _ _ (He.eqO_ok (T.c.d.fact 26 rfl))
theorem f_free_enumerate (T : Ctx K mg) : mg "enumerate" = none := T.m _ _ (He.eqO_ok (T.c.d.fact 27 rfl))
theorem f_free_list (T : Ctx K mg) : mg "list" = none := T.m _ _ (He.eqO_ok (T.c.d.fact 28 rfl))
theorem f_glo_Ratio (T : Ctx K mg) : mg "Ratio" = some (.ref (He.ga K "Ratio")) := T.m _ _ (He.eqO_ok (T.c.d.fact 29 rfl))
theorem f_keep_Ratio (T : Ctx K mg) : PySem.W.keepIn K (.ref (He.ga K "Ratio")) = true := He.keep_ok (T.c.d.fact 30 rfl)
theorem f_kit_int'bool (T : Ctx K mg) : PySem.W.kitOne K (.type "int") (.type "bool") = some false := of_decide_eq_true (T.c.x 23 rfl)
theorem f_kit_bool'bool (T : Ctx K mg) : PySem.W.kitOne K (.type "bool") (.type "bool") = some true := of_decide_eq_true (T.c.x 24 rfl)
theorem f_kit_NoneType'int (T : Ctx K mg) : PySem.W.kitOne K (.type "NoneType") (.type "int") = some false := of_decide_eq_true (T.c.x 25 rfl)
theorem f_kit_str'int (T : Ctx K mg) : PySem.W.kitOne K (.type "str") (.type "int") = some false := of_decide_eq_true (T.c.x 26 rfl)
theorem f_kit_list'int (T : Ctx K mg) : PySem.W.kitOne K (.type "list") (.type "int") = some false := of_decide_eq_true (T.c.x 27 rfl)
theorem f_kit_tuple'int (T : Ctx K mg) : PySem.W.kitOne K (.type "tuple") (.type "int") = some false := of_decide_eq_true (T.c.x 28 rfl)
theorem f_kit_NoneType'Ratio (T : Ctx K mg) : PySem.W.kitOne K (.type "NoneType") (.ref (He.ga K "Ratio")) = some false := of_decide_eq_true (T.c.x 29 rfl)
theorem f_kit_str'Ratio (T : Ctx K mg) : PySem.W.kitOne K (.type "str") (.ref (He.ga K "Ratio")) = some false := of_decide_eq_true (T.c.x 30 rfl)
theorem f_kit_list'Ratio (T : Ctx K mg) : PySem.W.kitOne K (.type "list") (.ref (He.ga K "Ratio")) = some false := of_decide_eq_true (T.c.x 31 rfl)
theorem f_kit_tuple'Ratio (T : Ctx K mg) : PySem.W.kitOne K (.type "tuple") (.ref (He.ga K "Ratio")) = some false := of_decide_eq_true (T.c.x 32 rfl)
theorem f_glo__law_draw (T : Ctx K mg) : mg "_law_draw" = some (.ref (He.ga K "_law_draw")) := T.m _ _ (He.eqO_ok (T.c.d.fact 31 rfl))
theorem f_keep__law_draw (T : Ctx K mg) : PySem.W.keepIn K (.ref (He.ga K "_law_draw")) = true := He.keep_ok (T.c.d.fact 32 rfl)
theorem f_glo_as_ratio (T : Ctx K mg) : mg "as_ratio" = some (.ref (He.ga K "as_ratio")) := T.m _ _ (He.eqO_ok (T.c.d.fact 33 rfl))
theorem f_keep_as_ratio (T : Ctx K mg) : PySem.W.keepIn K (.ref (He.ga K "as_ratio")) = true := He.keep_ok (T.c.d.fact 34 rfl)
theorem f_glo_ZeroBottom (T : Ctx K mg) : mg "ZeroBottom" = some (.ref (He.ga K "ZeroBottom")) := T.m _ _ (He.eqO_ok (T.c.d.fact 35 rfl))
theorem f_exc_ZeroBottom (T : Ctx K mg) : PySem.W.excIn K (He.ga K "ZeroBottom") He.veBase "ValueError.__new__" = true ∧ PySem.W.keepIn K (.ref (He.ga K "ZeroBottom")) = true ∧ PySem.W.subIn K (.ref (He.ga K "ZeroBottom")) (.type "BaseException") = some true ∧ PySem.W.typeIn K (.ref (He.ga K "ZeroBottom")) = some (.type "type") := He.exc_ok (T.c.d.fact 36 rfl)
theorem f_meth_Ratio'__floordiv__ (T : Ctx K mg) : Meth K (He.ga K "Ratio") "__floordiv__" (He.ma K (He.ga K "Ratio") "__floordiv__") := He.meth_ok (T.c.d.fact 37 rfl)
theorem f_sg_Ratio'__floordiv__ (T : Ctx K mg) : Sg K (He.ga K "Ratio") "__floordiv__" (He.ma K (He.ga K "Ratio") "__floordiv__") := ⟨(He.meth_ok (T.c.d.fact 37 rfl)).at_, (He.meth_ok (T.c.d.fact 37 rfl)).fn⟩
theorem f_meth_Ratio'__rfloordiv__ (T : Ctx K mg) : Meth K (He.ga K "Ratio") "__rfloordiv__" (He.ma K (He.ga K "Ratio") "__rfloordiv__") := He.meth_ok (T.c.d.fact 38 rfl)
theorem f_sg_Ratio'__rfloordiv__ (T : Ctx K mg) : Sg K (He.ga K "Ratio") "__rfloordiv__" (He.ma K (He.ga K "Ratio") "__rfloordiv__") := ⟨(He.meth_ok (T.c.d.fact 38 rfl)).at_, (He.meth_ok (T.c.d.fact 38 rfl)).fn⟩
theorem f_find_int'__floordiv__ (T : Ctx K mg) : ∃ fo, PySem.W.findIn K (.type "int") "__floordiv__" = some fo := Option.isSome_iff_exists.mp (T.c.x 33 rfl)
theorem f_find_int'__rfloordiv__ (T : Ctx K mg) : ∃ fo, PySem.W.findIn K (.type "int") "__rfloordiv__" = some fo := Option.isSome_iff_exists.mp (T.c.x 34 rfl)
theorem f_meth_Ratio'__mod__ (T : Ctx K mg) : Meth K (He.ga K "Ratio") "__mod__" (He.ma K (He.ga K "Ratio") "__mod__") := He.meth_ok (T.c.d.fact 39 rfl)
theorem f_meth_Ratio'__rmod__ (T : Ctx K mg) : Meth K (He.ga K "Ratio") "__rmod__" (He.ma K (He.ga K "Ratio") "__rmod__") := He.meth_ok (T.c.d.fact 40 rfl)
theorem f_meth_Ratio'__pow__ (T : Ctx K mg) : Meth K (He.ga K "Ratio") "__pow__" (He.ma K (He.ga K "Ratio") "__pow__") := He.meth_ok (T.c.d.fact 41 rfl)
theorem f_sg_Ratio'__mod__ (T : Ctx K mg) : Sg K (He.ga K "Ratio") "__mod__" (He.ma K (He.ga K "Ratio") "__mod__") := ⟨(He.meth_ok (T.c.d.fact 39 rfl)).at_, (He.meth_ok (T.c.d.fact 39 rfl)).fn⟩
theorem f_sg_Ratio'__rmod__ (T : Ctx K mg) : Sg K (He.ga K "Ratio") "__rmod__" (He.ma K (He.ga K "Ratio") "__rmod__") := ⟨(He.meth_ok (T.c.d.fact 40 rfl)).at_, (He.meth_ok (T.c.d.fact 40 rfl)).fn⟩
theorem f_find_int'__mod__ (T : Ctx K mg) : ∃ fo, PySem.W.findIn K (.type "int") "__mod__" = some fo := Option.isSome_iff_exists.mp (T.c.x 35 rfl)
theorem f_find_int'__rmod__ (T : Ctx K mg) : ∃ fo, PySem.W.findIn K (.type "int") "__rmod__" = some fo := Option.isSome_iff_exists.mp (T.c.x 36 rfl)
theorem f_sg_Ratio'__pow__ (T : Ctx K mg) : Sg K (He.ga K "Ratio") "__pow__" (He.ma K (He.ga K "Ratio") "__pow__") := ⟨(He.meth_ok (T.c.d.fact 41 rfl)).at_, (He.meth_ok (T.c.d.fact 41 rfl)).fn⟩
theorem f_noat_Ratio'__rpow__ (T : Ctx K mg) : NoAttr K (He.ga K "Ratio") "__rpow__" := He.noat_ok (T.c.d.fact 42 rfl)
theorem f_find_int'__pow__ (T : Ctx K mg) : ∃ fo, PySem.W.findIn K (.type "int") "__pow__" = some fo := Option.isSome_iff_exists.mp (T.c.x 37 rfl)
theorem f_find_int'__rpow__ (T : Ctx K mg) : ∃ fo, PySem.W.findIn K (.type "int") "__rpow__" = some fo := Option.isSome_iff_exists.mp (T.c.x 38 rfl)
theorem f_meth_Ratio'over (T : Ctx K mg) : Meth K (He.ga K "Ratio") "over" (He.ma K (He.ga K "Ratio") "over") := He.meth_ok (T.c.d.fact 43 rfl)
theorem f_glo__law_low (T : Ctx K mg) : mg "_law_low" = some (.ref (He.ga K "_law_low")) := T.m _ _ (He.eqO_ok (T.c.d.fact 44 rfl))
theorem f_keep__law_low (T : Ctx K mg) : PySem.W.keepIn K (.ref (He.ga K "_law_low")) = true := He.keep_ok (T.c.d.fact 45 rfl)
theorem f_glo__law_whole (T : Ctx K mg) : mg "_law_whole" = some (.ref (He.ga K "_law_whole")) := T.m _ _ (He.eqO_ok (T.c.d.fact 46 rfl))
theorem f_keep__law_whole (T : Ctx K mg) : PySem.W.keepIn K (.ref (He.ga K "_law_whole")) = true := He.keep_ok (T.c.d.fact 47 rfl)
theorem f_glo__law_pair (T : Ctx K mg) : mg "_law_pair" = some (.ref (He.ga K "_law_pair")) := T.m _ _ (He.eqO_ok (T.c.d.fact 48 rfl))
theorem f_keep__law_pair (T : Ctx K mg) : PySem.W.keepIn K (.ref (He.ga K "_law_pair")) = true := He.keep_ok (T.c.d.fact 49 rfl)
theorem f_glo__law_floor (T : Ctx K mg) : mg "_law_floor" = some (.ref (He.ga K "_law_floor")) := T.m _ _ (He.eqO_ok (T.c.d.fact 50 rfl))
theorem f_keep__law_floor (T : Ctx K mg) : PySem.W.keepIn K (.ref (He.ga K "_law_floor")) = true := He.keep_ok (T.c.d.fact 51 rfl)
theorem f_glo_BadValue (T : Ctx K mg) : mg "BadValue" = some (.ref (He.ga K "BadValue")) := T.m _ _ (He.eqO_ok (T.c.d.fact 52 rfl))
theorem f_glo_NeverIdleError (T : Ctx K mg) : mg "NeverIdleError" = some (.ref (He.ga K "NeverIdleError")) := T.m _ _ (He.eqO_ok (T.c.d.fact 53 rfl))
theorem f_exm_ZeroBottom'ZeroBottom (T : Ctx K mg) : PySem.W.exmOne K (.ref (He.ga K "ZeroBottom")) (.ref (He.ga K "ZeroBottom")) = some true := He.exm_ok (T.c.d.fact 54 rfl)
theorem f_excc_ZeroBottom (T : Ctx K mg) : exccB K (He.ga K "ZeroBottom") = true := T.c.x 39 rfl
theorem f_kit_ZeroBottom'BadValue (T : Ctx K mg) : PySem.W.kitOne K (.ref (He.ga K "ZeroBottom")) (.ref (He.ga K "BadValue")) = some false := of_decide_eq_true (T.c.x 40 rfl)
theorem f_kit_ZeroBottom'NeverIdleError (T : Ctx K mg) : PySem.W.kitOne K (.ref (He.ga K "ZeroBottom")) (.ref (He.ga K "NeverIdleError")) = some true := of_decide_eq_true (T.c.x 41 rfl)
theorem f_glo__law_zero (T : Ctx K mg) : mg "_law_zero" = some (.ref (He.ga K "_law_zero")) := T.m _ _ (He.eqO_ok (T.c.d.fact 55 rfl))
theorem f_keep__law_zero (T : Ctx K mg) : PySem.W.keepIn K (.ref (He.ga K "_law_zero")) = true := He.keep_ok (T.c.d.fact 56 rfl)
theorem f_glo__law_powers (T : Ctx K mg) : mg "_law_powers" = some (.ref (He.ga K "_law_powers")) := T.m _ _ (He.eqO_ok (T.c.d.fact 57 rfl))
theorem f_keep__law_powers (T : Ctx K mg) : PySem.W.keepIn K (.ref (He.ga K "_law_powers")) = true := He.keep_ok (T.c.d.fact 58 rfl)
theorem f_glo_BadNumber (T : Ctx K mg) : mg "BadNumber" = some (.ref (He.ga K "BadNumber")) := T.m _ _ (He.eqO_ok (T.c.d.fact 59 rfl))
theorem f_keep_BadNumber (T : Ctx K mg) : PySem.W.keepIn K (.ref (He.ga K "BadNumber")) = true := He.keep_ok (T.c.d.fact 60 rfl)
theorem f_exc_BadNumber (T : Ctx K mg) : PySem.W.excIn K (He.ga K "BadNumber") He.veBase "ValueError.__new__" = true ∧ PySem.W.keepIn K (.ref (He.ga K "BadNumber")) = true ∧ PySem.W.subIn K (.ref (He.ga K "BadNumber")) (.type "BaseException") = some true ∧ PySem.W.typeIn K (.ref (He.ga K "BadNumber")) = some (.type "type") := He.exc_ok (T.c.d.fact 61 rfl)
theorem f_keep_BadValue (T : Ctx K mg) : PySem.W.keepIn K (.ref (He.ga K "BadValue")) = true := He.keep_ok (T.c.d.fact 62 rfl)
theorem f_exc_BadValue (T : Ctx K mg) : PySem.W.excIn K (He.ga K "BadValue") He.veBase "ValueError.__new__" = true ∧ PySem.W.keepIn K (.ref (He.ga K "BadValue")) = true ∧ PySem.W.subIn K (.ref (He.ga K "BadValue")) (.type "BaseException") = some true ∧ PySem.W.typeIn K (.ref (He.ga K "BadValue")) = some (.type "type") := He.exc_ok (T.c.d.fact 63 rfl)
theorem f_keep_NeverIdleError (T : Ctx K mg) : PySem.W.keepIn K (.ref (He.ga K "NeverIdleError")) = true := He.keep_ok (T.c.d.fact 64 rfl)
theorem f_exc_NeverIdleError (T : Ctx K mg) : PySem.W.excIn K (He.ga K "NeverIdleError") He.veBase "ValueError.__new__" = true ∧ PySem.W.keepIn K (.ref (He.ga K "NeverIdleError")) = true ∧ PySem.W.subIn K (.ref (He.ga K "NeverIdleError")) (.type "BaseException") = some true ∧ PySem.W.typeIn K (.ref (He.ga K "NeverIdleError")) = some (.type "type") := He.exc_ok (T.c.d.fact 65 rfl)
theorem f_keep_ZeroBottom (T : Ctx K mg) : PySem.W.keepIn K (.ref (He.ga K "ZeroBottom")) = true := He.keep_ok (T.c.d.fact 66 rfl)
theorem f_glo__law_mixed (T : Ctx K mg) : mg "_law_mixed" = some (.ref (He.ga K "_law_mixed")) := T.m _ _ (He.eqO_ok (T.c.d.fact 67 rfl))
theorem f_keep__law_mixed (T : Ctx K mg) : PySem.W.keepIn K (.ref (He.ga K "_law_mixed")) = true := He.keep_ok (T.c.d.fact 68 rfl)
theorem f_glo_is_number (T : Ctx K mg) : mg "is_number" = some (.ref (He.ga K "is_number")) := T.m _ _ (He.eqO_ok (T.c.d.fact 69 rfl))
theorem f_keep_is_number (T : Ctx K mg) : PySem.W.keepIn K (.ref (He.ga K "is_number")) = true := He.keep_ok (T.c.d.fact 70 rfl)
theorem f_glo_read_digits (T : Ctx K mg) : mg "read_digits" = some (.ref (He.ga K "read_digits")) := T.m _ _ (He.eqO_ok (T.c.d.fact 71 rfl))
theorem f_keep_read_digits (T : Ctx K mg) : PySem.W.keepIn K (.ref (He.ga K "read_digits")) = true := He.keep_ok (T.c.d.fact 72 rfl)
theorem f_glo_law (T : Ctx K mg) : mg "law" = some (.ref (He.ga K "law")) := T.m _ _ (He.eqO_ok (T.c.d.fact 73 rfl))
theorem F_is_number (T : Ctx K mg) : ∃ fd, FunD K "is_number" "is_number" (defArgs s_is_number) (defBody s_is_number) (defScope s_is_number) (d_is_number.dvs K) (d_is_number.kws K) (He.fAd K d_is_number.at_) fd := T.c.d.def_ 0 rfl
theorem F_as_ratio (T : Ctx K mg) : ∃ fd, FunD K "as_ratio" "as_ratio" (defArgs s_as_ratio) (defBody s_as_ratio) (defScope s_as_ratio) (d_as_ratio.dvs K) (d_as_ratio.kws K) (He.fAd K d_as_ratio.at_) fd := T.c.d.def_ 1 rfl
theorem F_Ratio___init__ (T : Ctx K mg) : ∃ fd, FunD K "__init__" "Ratio.__init__" (defArgs s_Ratio___init__) (defBody s_Ratio___init__) (defScope s_Ratio___init__) (d_Ratio___init__.dvs K) (d_Ratio___init__.kws K) (He.fAd K d_Ratio___init__.at_) fd := T.c.d.def_ 2 rfl
theorem F_Ratio_over (T : Ctx K mg) : ∃ fd, FunD K "over" "Ratio.over" (defArgs s_Ratio_over) (defBody s_Ratio_over) (defScope s_Ratio_over) (d_Ratio_over.dvs K) (d_Ratio_over.kws K) (He.fAd K d_Ratio_over.at_) fd := T.c.d.def_ 3 rfl
theorem F_Ratio___add__ (T : Ctx K mg) : ∃ fd, FunD K "__add__" "Ratio.__add__" (defArgs s_Ratio___add__) (defBody s_Ratio___add__) (defScope s_Ratio___add__) (d_Ratio___add__.dvs K) (d_Ratio___add__.kws K) (He.fAd K d_Ratio___add__.at_) fd := T.c.d.def_ 4 rfl
theorem F_Ratio___radd__ (T : Ctx K mg) : ∃ fd, FunD K "__radd__" "Ratio.__radd__" (defArgs s_Ratio___radd__) (defBody s_Ratio___radd__) (defScope s_Ratio___radd__) (d_Ratio___radd__.dvs K) (d_Ratio___radd__.kws K) (He.fAd K d_Ratio___radd__.at_) fd := T.c.d.def_ 5 rfl
theorem F_Ratio___sub__ (T : Ctx K mg) : ∃ fd, FunD K "__sub__" "Ratio.__sub__" (defArgs s_Ratio___sub__) (defBody s_Ratio___sub__) (defScope s_Ratio___sub__) (d_Ratio___sub__.dvs K) (d_Ratio___sub__.kws K) (He.fAd K d_Ratio___sub__.at_) fd := T.c.d.def_ 6 rfl
theorem F_Ratio___rsub__ (T : Ctx K mg) : ∃ fd, FunD K "__rsub__" "Ratio.__rsub__" (defArgs s_Ratio___rsub__) (defBody s_Ratio___rsub__) (defScope s_Ratio___rsub__) (d_Ratio___rsub__.dvs K) (d_Ratio___rsub__.kws K) (He.fAd K d_Ratio___rsub__.at_) fd := T.c.d.def_ 7 rfl
theorem F_Ratio___mul__ (T : Ctx K mg) : ∃ fd, FunD K "__mul__" "Ratio.__mul__" (defArgs s_Ratio___mul__) (defBody s_Ratio___mul__) (defScope s_Ratio___mul__) (d_Ratio___mul__.dvs K) (d_Ratio___mul__.kws K) (He.fAd K d_Ratio___mul__.at_) fd := T.c.d.def_ 8 rfl
theorem F_Ratio___rmul__ (T : Ctx K mg) : ∃ fd, FunD K "__rmul__" "Ratio.__rmul__" (defArgs s_Ratio___rmul__) (defBody s_Ratio___rmul__) (defScope s_Ratio___rmul__) (d_Ratio___rmul__.dvs K) (d_Ratio___rmul__.kws K) (He.fAd K d_Ratio___rmul__.at_) fd := T.c.d.def_ 9 rfl
theorem F_Ratio___floordiv__ (T : Ctx K mg) : ∃ fd, FunD K "__floordiv__" "Ratio.__floordiv__" (defArgs s_Ratio___floordiv__) (defBody s_Ratio___floordiv__) (defScope s_Ratio___floordiv__) (d_Ratio___floordiv__.dvs K) (d_Ratio___floordiv__.kws K) (He.fAd K d_Ratio___floordiv__.at_) fd := T.c.d.def_ 10 rfl
theorem F_Ratio___rfloordiv__ (T : Ctx K mg) : ∃ fd, FunD K "__rfloordiv__" "Ratio.__rfloordiv__" (defArgs s_Ratio___rfloordiv__) (defBody s_Ratio___rfloordiv__) (defScope s_Ratio___rfloordiv__) (d_Ratio___rfloordiv__.dvs K) (d_Ratio___rfloordiv__.kws K) (He.fAd K d_Ratio___rfloordiv__.at_) fd := T.c.d.def_ 11 rfl
theorem F_Ratio___mod__ (T : Ctx K mg) : ∃ fd, FunD K "__mod__" "Ratio.__mod__" (defArgs s_Ratio___mod__) (defBody s_Ratio___mod__) (defScope s_Ratio___mod__) (d_Ratio___mod__.dvs K) (d_Ratio___mod__.kws K) (He.fAd K d_Ratio___mod__.at_) fd := T.c.d.def_ 12 rfl
theorem F_Ratio___rmod__ (T : Ctx K mg) : ∃ fd, FunD K "__rmod__" "Ratio.__rmod__" (defArgs s_Ratio___rmod__) (defBody s_Ratio___rmod__) (defScope s_Ratio___rmod__) (d_Ratio___rmod__.dvs K) (d_Ratio___rmod__.kws K) (He.fAd K d_Ratio___rmod__.at_) fd := T.c.d.def_ 13 rfl
theorem F_Ratio___pow__ (T : Ctx K mg) : ∃ fd, FunD K "__pow__" "Ratio.__pow__" (defArgs s_Ratio___pow__) (defBody s_Ratio___pow__) (defScope s_Ratio___pow__) (d_Ratio___pow__.dvs K) (d_Ratio___pow__.kws K) (He.fAd K d_Ratio___pow__.at_) fd := T.c.d.def_ 14 rfl
theorem F_Ratio___neg__ (T : Ctx K mg) : ∃ fd, FunD K "__neg__" "Ratio.__neg__" (defArgs s_Ratio___neg__) (defBody s_Ratio___neg__) (defScope s_Ratio___neg__) (d_Ratio___neg__.dvs K) (d_Ratio___neg__.kws K) (He.fAd K d_Ratio___neg__.at_) fd := T.c.d.def_ 15 rfl
theorem F_Ratio___abs__ (T : Ctx K mg) : ∃ fd, FunD K "__abs__" "Ratio.__abs__" (defArgs s_Ratio___abs__) (defBody s_Ratio___abs__) (defScope s_Ratio___abs__) (d_Ratio___abs__.dvs K) (d_Ratio___abs__.kws K) (He.fAd K d_Ratio___abs__.at_) fd := T.c.d.def_ 16 rfl
theorem F_Ratio___bool__ (T : Ctx K mg) : ∃ fd, FunD K "__bool__" "Ratio.__bool__" (defArgs s_Ratio___bool__) (defBody s_Ratio___bool__) (defScope s_Ratio___bool__) (d_Ratio___bool__.dvs K) (d_Ratio___bool__.kws K) (He.fAd K d_Ratio___bool__.at_) fd := T.c.d.def_ 17 rfl
theorem F_Ratio___eq__ (T : Ctx K mg) : ∃ fd, FunD K "__eq__" "Ratio.__eq__" (defArgs s_Ratio___eq__) (defBody s_Ratio___eq__) (defScope s_Ratio___eq__) (d_Ratio___eq__.dvs K) (d_Ratio___eq__.kws K) (He.fAd K d_Ratio___eq__.at_) fd := T.c.d.def_ 18 rfl
theorem F_Ratio___lt__ (T : Ctx K mg) : ∃ fd, FunD K "__lt__" "Ratio.__lt__" (defArgs s_Ratio___lt__) (defBody s_Ratio___lt__) (defScope s_Ratio___lt__) (d_Ratio___lt__.dvs K) (d_Ratio___lt__.kws K) (He.fAd K d_Ratio___lt__.at_) fd := T.c.d.def_ 19 rfl
theorem F_Ratio___le__ (T : Ctx K mg) : ∃ fd, FunD K "__le__" "Ratio.__le__" (defArgs s_Ratio___le__) (defBody s_Ratio___le__) (defScope s_Ratio___le__) (d_Ratio___le__.dvs K) (d_Ratio___le__.kws K) (He.fAd K d_Ratio___le__.at_) fd := T.c.d.def_ 20 rfl
theorem F_Ratio___gt__ (T : Ctx K mg) : ∃ fd, FunD K "__gt__" "Ratio.__gt__" (defArgs s_Ratio___gt__) (defBody s_Ratio___gt__) (defScope s_Ratio___gt__) (d_Ratio___gt__.dvs K) (d_Ratio___gt__.kws K) (He.fAd K d_Ratio___gt__.at_) fd := T.c.d.def_ 21 rfl
theorem F_Ratio___ge__ (T : Ctx K mg) : ∃ fd, FunD K "__ge__" "Ratio.__ge__" (defArgs s_Ratio___ge__) (defBody s_Ratio___ge__) (defScope s_Ratio___ge__) (d_Ratio___ge__.dvs K) (d_Ratio___ge__.kws K) (He.fAd K d_Ratio___ge__.at_) fd := T.c.d.def_ 22 rfl
theorem F__law_mixed (T : Ctx K mg) : ∃ fd, FunD K "_law_mixed" "_law_mixed" (defArgs s__law_mixed) (defBody s__law_mixed) (defScope s__law_mixed) (d__law_mixed.dvs K) (d__law_mixed.kws K) (He.fAd K d__law_mixed.at_) fd := T.c.d.def_ 23 rfl
theorem F__law_draw (T : Ctx K mg) : ∃ fd, FunD K "_law_draw" "_law_draw" (defArgs s__law_draw) (defBody s__law_draw) (defScope s__law_draw) (d__law_draw.dvs K) (d__law_draw.kws K) (He.fAd K d__law_draw.at_) fd := T.c.d.def_ 24 rfl
theorem F__law_low (T : Ctx K mg) : ∃ fd, FunD K "_law_low" "_law_low" (defArgs s__law_low) (defBody s__law_low) (defScope s__law_low) (d__law_low.dvs K) (d__law_low.kws K) (He.fAd K d__law_low.at_) fd := T.c.d.def_ 25 rfl
theorem F__law_whole (T : Ctx K mg) : ∃ fd, FunD K "_law_whole" "_law_whole" (defArgs s__law_whole) (defBody s__law_whole) (defScope s__law_whole) (d__law_whole.dvs K) (d__law_whole.kws K) (He.fAd K d__law_whole.at_) fd := T.c.d.def_ 26 rfl
theorem F__law_pair (T : Ctx K mg) : ∃ fd, FunD K "_law_pair" "_law_pair" (defArgs s__law_pair) (defBody s__law_pair) (defScope s__law_pair) (d__law_pair.dvs K) (d__law_pair.kws K) (He.fAd K d__law_pair.at_) fd := T.c.d.def_ 27 rfl
theorem F__law_floor (T : Ctx K mg) : ∃ fd, FunD K "_law_floor" "_law_floor" (defArgs s__law_floor) (defBody s__law_floor) (defScope s__law_floor) (d__law_floor.dvs K) (d__law_floor.kws K) (He.fAd K d__law_floor.at_) fd := T.c.d.def_ 28 rfl
theorem F__law_zero (T : Ctx K mg) : ∃ fd, FunD K "_law_zero" "_law_zero" (defArgs s__law_zero) (defBody s__law_zero) (defScope s__law_zero) (d__law_zero.dvs K) (d__law_zero.kws K) (He.fAd K d__law_zero.at_) fd := T.c.d.def_ 29 rfl
theorem F__law_powers (T : Ctx K mg) : ∃ fd, FunD K "_law_powers" "_law_powers" (defArgs s__law_powers) (defBody s__law_powers) (defScope s__law_powers) (d__law_powers.dvs K) (d__law_powers.kws K) (He.fAd K d__law_powers.at_) fd := T.c.d.def_ 30 rfl
theorem F_law (T : Ctx K mg) : ∃ fd, FunD K "law" "law" (defArgs s_law) (defBody s_law) (defScope s_law) (d_law.dvs K) (d_law.kws K) (He.fAd K d_law.at_) fd := T.c.d.def_ 31 rfl
end
def loose : List Str := ["NeverIdleError", "BadNumber", "ZeroBottom", "BadValue", "FIGURES", "is_number", "as_ratio", "read_digits", "Ratio", "_law_mixed", "_law_draw", "_law_low", "_law_whole", "_law_pair", "_law_floor", "_law_zero", "_law_powers"]
abbrev R : PySem.W.OpenRow := PySem.W.OpenLaw.row PySem.Challenge.rw_neveridle_k04_floor_and_rest
def AS : List Addr := [3, 6, 4, 52, 65, 77, 89, 98, 105, 112, 287, 298, 305, 312, 319, 326, 333, 340, 347, 354, 0, 51, 64, 76, 88, 97, 104, 111, 286, 297, 304, 311, 318, 325, 332, 339, 346, 353, 50, 53, 63, 75, 87, 92, 93, 94, 95, 96, 99, 100, 101, 102, 103, 106, 107, 108, 109, 110, 127, 136, 144, 151, 158, 165, 172, 179, 186, 193, 200, 207, 214, 221, 228, 235, 242, 249, 256, 263, 270, 277, 284, 285, 288, 289, 292, 293, 294, 295, 296, 299, 300, 301, 302, 303, 306, 307, 308, 309, 310, 313, 314, 315, 316, 317, 320, 321, 322, 323, 324, 327, 328, 329, 330, 331, 334, 335, 336, 337, 338, 341, 342, 343, 344, 345, 348, 349, 350, 351, 352, 126, 120, 134, 135, 143, 150, 157, 164, 171, 178, 185, 192, 199, 206, 213, 220, 227, 234, 241, 248, 255, 262, 269, 276, 283, 121, 122, 123, 124, 125, 133, 137, 138, 139, 140, 141, 142, 145, 146, 147, 148, 149, 152, 153, 154, 155, 156, 159, 160, 161, 162, 163, 166, 167, 168, 169, 170, 173, 174, 175, 176, 177, 180, 181, 182, 183, 184, 187, 188, 189, 190, 191, 194, 195, 196, 197, 198, 201, 202, 203, 204, 205, 208, 209, 210, 211, 212, 215, 216, 217, 218, 219, 222, 223, 224, 225, 226, 229, 230, 231, 232, 233, 236, 237, 238, 239, 240, 243, 244, 245, 246, 247, 250, 251, 252, 253, 254, 257, 258, 259, 260, 261, 264, 265, 266, 267, 268, 271, 272, 273, 274, 275, 278, 279, 280, 281, 282, 128, 129, 130, 131, 132]
abbrev hk : PySem.W.Hook := hookL AS fa fn ex
def ob (s : PySem.W.SharedT) : He.AlD × Bool := obL AS fa fn ex (HandSHeadRun.getT s)
theorem ob_eq (s : PySem.W.SharedT) : ob s = hk.obs s.abs := obL_eq (HandSHeadRun.getT_eq s)
end Pr
/-! TAC: one step of the walk, by the head of the syntax. -/
section
open PySem PySem.Spec PyProof.Rows L2 Ni
local macro_rules | `(tactic| exists "ni var") => `(tactic| (repeat (first | (with_reducible apply Var.here) | (with_reducible apply Var.next))))
local macro_rules | `(tactic| exists "ni put") => `(tactic| (repeat (first | (with_reducible apply Put.here) | (with_reducible apply Put.next))))
local macro_rules | `(tactic| exists "ni bd") => `(tactic| (repeat (first | assumption | (with_reducible apply Bd.add) | (with_reducible apply Bd.sub) | (with_reducible apply Bd.mul) | (with_reducible apply Bd.neg))))
local macro_rules | `(tactic| exists "ni room") => `(tactic| exact Room.mono (by assumption) (by decide))
local macro_rules | `(tactic| exists "ni gs") => `(tactic| first
  | assumption
  | exact Names1.gs (by assumption)
  | exact NamesB.glb (by assumption))
local macro_rules | `(tactic| exists "ni expr") => `(tactic| first
  | ((with_reducible refine' we_var (by assumption) ?niv ?_); (case niv => exists "ni var"))
  | ((with_reducible refine' we_varB (by assumption) ?niv ?nib ?_); (case niv => exists "ni var"); (case nib => decide +kernel))
  | (with_reducible refine' we_int ?_)
  | (with_reducible refine' we_bl ?_)
  | (with_reducible refine' we_non ?_)
  | (with_reducible refine' we_str ?_)
  | (with_reducible refine' we_bin ?_)
  | (with_reducible refine' we_not ?_)
  | ((with_reducible refine' we_un ?_ ?ni1); rotate_left; (case ni1 => (intro z; cases z)))
  | ((with_reducible refine' we_cmp ?ni1 ?_); (case ni1 => with_unfolding_all rfl))
  | (with_reducible refine' we_and1 ?_)
  | (with_reducible refine' we_or1 ?_)
  | (with_reducible refine' we_and ?_)
  | (with_reducible refine' we_or ?_)
  | (with_reducible refine' we_ite ?_)
  | (with_reducible refine' we_lst ?_)
  | ((with_reducible refine' we_fld ?ni1 ?_); (case ni1 => with_unfolding_all rfl))
  | ((with_reducible refine' wa_cons ?ni1 ?_); (case ni1 => with_unfolding_all rfl))
  | (with_reducible refine' wa_nil ?_))
local macro_rules | `(tactic| exists "ni test") => `(tactic| first
  | ((with_reducible refine' wt_cmp ?ni1 ?_); (case ni1 => with_unfolding_all rfl))
  | (with_reducible refine' wt_not ?_)
  | (with_reducible refine' wt_ww (ww_and1 ?_))
  | (with_reducible refine' wt_ww (ww_or1 ?_))
  | (with_reducible refine' wt_ww (ww_and ?_))
  | (with_reducible refine' wt_ww (ww_or ?_))
  | (with_reducible refine' ww_and1 ?_)
  | (with_reducible refine' ww_or1 ?_)
  | (with_reducible refine' ww_and ?_)
  | (with_reducible refine' ww_or ?_)
  | ((with_reducible refine' wt_val ?ni1 ?_); (case ni1 => with_unfolding_all (intro _; rfl))))
local macro_rules | `(tactic| exists "ni stmt") => `(tactic| first
  | (with_reducible refine' wb_cons ?_)
  | (with_reducible refine' wb_nil ?_)
  | (with_reducible refine' ws_if ?_)
  | (with_reducible refine' ws_ret ?_)
  | (with_reducible refine' ws_retN ?_)
  | (with_reducible refine' ws_pass ?_)
  | (with_reducible refine' ws_continue ?_)
  | (with_reducible refine' ws_break ?_)
  | (with_reducible refine' ws_doc ?_)
  | ((with_reducible refine' ws_expr ?ni1 ?_); (case ni1 => with_unfolding_all rfl))
  | ((with_reducible refine' ws_fld ?ni1 ?_); (case ni1 => with_unfolding_all rfl))
  | ((with_reducible refine' ws_asg ?ni1 ?ni2 ?ni3 ?_); (case ni1 => with_unfolding_all rfl); (case ni2 => with_unfolding_all rfl); (case ni3 => with_unfolding_all rfl))
  | ((with_reducible refine' wg_var (by assumption) ?nip ?_); (case nip => exists "ni put"))
  | ((with_reducible refine' wg_varB (by assumption) ?nip ?nib ?_); (case nip => exists "ni put"); (case nib => decide +kernel)))
local macro_rules | `(tactic| exists "ni val") => `(tactic| first
  | (with_reducible refine' wo_add ?_)
  | (with_reducible refine' wo_sub ?_)
  | (with_reducible refine' wo_mod (by first | assumption | omega | decide) ?_)
  | (with_reducible refine' wo_lt ?_)
  | (with_reducible refine' wo_le ?_)
  | (with_reducible refine' wo_gt ?_)
  | (with_reducible refine' wo_ge ?_)
  | (with_reducible refine' wo_eqI ?_)
  | (with_reducible refine' wo_neI ?_)
  | (with_reducible refine' wo_isN ?_)
  | (with_reducible refine' wo_notN ?_)
  | (with_reducible refine' wu_negI ?_)
  | (with_reducible refine' wcb_gcd ?_)
  | (with_reducible refine' wcb_abs ?_)
  | (with_reducible refine' wcb_intI ?_)
  | ((with_reducible refine' wo_pow ?ni1 ?_); (case ni1 => decide))
  | ((with_reducible refine' wo_mulR ?ni1 ?_); (case ni1 => (constructor <;> omega)))
  | ((with_reducible refine' wo_mulL ?ni1 ?_); (case ni1 => (constructor <;> omega)))
  | ((with_reducible refine' wo_divS ?ni1 ?_); (case ni1 => (constructor <;> omega)))
  | ((with_reducible refine' wo_mul (bd_mulW ?ni1 ?ni2 ?ni3) ?_); (case ni1 => exists "ni bd"); (case ni2 => exists "ni bd"); (case ni3 => first | decide | omega)))
local macro_rules | `(tactic| exists "ni bool") => `(tactic| first
  | (with_reducible refine' ⟨_, rfl, ?_⟩)
  | (with_reducible refine' if_t ?_)
  | (with_reducible refine' if_f ?_)
  | (with_reducible refine' if_nt ?_)
  | (with_reducible refine' if_nf ?_))
local macro_rules | `(tactic| exists "ni heap") => `(tactic| first
  | assumption
  | exact upd_same
  | ((refine' Eq.trans (upd_ne ?ni1) ?ni2); (case ni1 => assumption); (case ni2 => exists "ni heap"))
  | ((refine' at_mono ?ni1 ?ni2); (case ni1 => assumption); (case ni2 => exists "ni heap"))
  | ((refine' at_mono (same_new ?ni1) ?ni2); (case ni1 => assumption); (case ni2 => exists "ni heap")))
local macro_rules | `(tactic| exists "ni seq") => `(tactic| first
  | ((with_reducible refine' we_ix ?ni1 ?_); (case ni1 => (intro _ _; rfl)))
  | ((with_reducible refine' wg_sub ?ni1 ?_); (case ni1 => with_unfolding_all (intro _; rfl)))
  | ((with_reducible refine' ix_lh ?ni1 ?ni2 ?_); (case ni1 => exists "ni heap"); (case ni2 => rfl))
  | ((with_reducible refine' ix_th ?ni1 ?ni2 ?_); (case ni1 => exists "ni heap"); (case ni2 => rfl))
  | ((with_reducible refine' st_l ?ni1 ?ni2 ?_); (case ni1 => exists "ni heap"); (case ni2 => rfl))
  | (with_reducible refine' we_tup ?_)
  | ((with_reducible refine' wcb_lenL (.of ?ni1) ?_); (case ni1 => exists "ni heap"))
  | ((with_reducible refine' And.intro ?ni1 ?_); (case ni1 => exact size_ok (Nat.le_of_ble_eq_true rfl))))
local macro_rules | `(tactic| exists "ni own") => `(tactic| fail)
local macro_rules | `(tactic| exists "ni call") => `(tactic| fail)
local macro_rules | `(tactic| exists "ni") => `(tactic| first
  | exists "ni stmt" | exists "ni expr" | exists "ni val" | exists "ni bool" | exists "ni seq" | exists "ni own" | exists "ni call" | exists "ni test")
local macro_rules | `(tactic| exists "ni go") => `(tactic| repeat (exists "ni"))

open Pr in
local macro_rules | `(tactic| exists "ni call") => `(tactic| first
  | ((with_reducible refine' we_callS (x := "BadNumber") ?ni0 ?ni1 ?ni2 ?ni3 ?ni4 ?ni5 ?_); (case ni0 => exists "ni gs"); (case ni1 => decide +kernel); (case ni2 => exact f_glo_BadNumber (by assumption)); (case ni3 => exact f_keep_BadNumber (by assumption)); (case ni4 => with_unfolding_all rfl); (case ni5 => with_unfolding_all rfl))
  | ((with_reducible refine' we_callS0 (x := "BadNumber") ?ni0 ?ni1 ?ni2 ?ni3 ?_); (case ni0 => exists "ni gs"); (case ni1 => decide +kernel); (case ni2 => exact f_glo_BadNumber (by assumption)); (case ni3 => exact f_keep_BadNumber (by assumption)))
  | ((with_reducible refine' we_gref (x := "BadNumber") ?ni0 ?ni1 ?ni2 ?_); (case ni0 => exists "ni gs"); (case ni1 => decide +kernel); (case ni2 => exact f_glo_BadNumber (by assumption)))
  | ((with_reducible refine' ws_raiseS (x := "BadNumber") ?ni0 ?ni1 ?ni2 ?ni3 ?ni4 ?_); (case ni0 => assumption); (case ni1 => assumption); (case ni2 => decide +kernel); (case ni3 => exact f_glo_BadNumber (by assumption)); (case ni4 => exact f_exc_BadNumber (by assumption)))
  | ((with_reducible refine' we_callS (x := "BadValue") ?ni0 ?ni1 ?ni2 ?ni3 ?ni4 ?ni5 ?_); (case ni0 => exists "ni gs"); (case ni1 => decide +kernel); (case ni2 => exact f_glo_BadValue (by assumption)); (case ni3 => exact f_keep_BadValue (by assumption)); (case ni4 => with_unfolding_all rfl); (case ni5 => with_unfolding_all rfl))
  | ((with_reducible refine' we_callS0 (x := "BadValue") ?ni0 ?ni1 ?ni2 ?ni3 ?_); (case ni0 => exists "ni gs"); (case ni1 => decide +kernel); (case ni2 => exact f_glo_BadValue (by assumption)); (case ni3 => exact f_keep_BadValue (by assumption)))
  | ((with_reducible refine' we_gref (x := "BadValue") ?ni0 ?ni1 ?ni2 ?_); (case ni0 => exists "ni gs"); (case ni1 => decide +kernel); (case ni2 => exact f_glo_BadValue (by assumption)))
  | ((with_reducible refine' ws_raiseS (x := "BadValue") ?ni0 ?ni1 ?ni2 ?ni3 ?ni4 ?_); (case ni0 => assumption); (case ni1 => assumption); (case ni2 => decide +kernel); (case ni3 => exact f_glo_BadValue (by assumption)); (case ni4 => exact f_exc_BadValue (by assumption)))
  | ((with_reducible refine' we_callS (x := "NeverIdleError") ?ni0 ?ni1 ?ni2 ?ni3 ?ni4 ?ni5 ?_); (case ni0 => exists "ni gs"); (case ni1 => decide +kernel); (case ni2 => exact f_glo_NeverIdleError (by assumption)); (case ni3 => exact f_keep_NeverIdleError (by assumption)); (case ni4 => with_unfolding_all rfl); (case ni5 => with_unfolding_all rfl))
  | ((with_reducible refine' we_callS0 (x := "NeverIdleError") ?ni0 ?ni1 ?ni2 ?ni3 ?_); (case ni0 => exists "ni gs"); (case ni1 => decide +kernel); (case ni2 => exact f_glo_NeverIdleError (by assumption)); (case ni3 => exact f_keep_NeverIdleError (by assumption)))
  | ((with_reducible refine' we_gref (x := "NeverIdleError") ?ni0 ?ni1 ?ni2 ?_); (case ni0 => exists "ni gs"); (case ni1 => decide +kernel); (case ni2 => exact f_glo_NeverIdleError (by assumption)))
  | ((with_reducible refine' ws_raiseS (x := "NeverIdleError") ?ni0 ?ni1 ?ni2 ?ni3 ?ni4 ?_); (case ni0 => assumption); (case ni1 => assumption); (case ni2 => decide +kernel); (case ni3 => exact f_glo_NeverIdleError (by assumption)); (case ni4 => exact f_exc_NeverIdleError (by assumption)))
  | ((with_reducible refine' we_callS (x := "Ratio") ?ni0 ?ni1 ?ni2 ?ni3 ?ni4 ?ni5 ?_); (case ni0 => exists "ni gs"); (case ni1 => decide +kernel); (case ni2 => exact f_glo_Ratio (by assumption)); (case ni3 => exact f_keep_Ratio (by assumption)); (case ni4 => with_unfolding_all rfl); (case ni5 => with_unfolding_all rfl))
  | ((with_reducible refine' we_callS0 (x := "Ratio") ?ni0 ?ni1 ?ni2 ?ni3 ?_); (case ni0 => exists "ni gs"); (case ni1 => decide +kernel); (case ni2 => exact f_glo_Ratio (by assumption)); (case ni3 => exact f_keep_Ratio (by assumption)))
  | ((with_reducible refine' we_gref (x := "Ratio") ?ni0 ?ni1 ?ni2 ?_); (case ni0 => exists "ni gs"); (case ni1 => decide +kernel); (case ni2 => exact f_glo_Ratio (by assumption)))
  | ((with_reducible refine' we_callS (x := "ZeroBottom") ?ni0 ?ni1 ?ni2 ?ni3 ?ni4 ?ni5 ?_); (case ni0 => exists "ni gs"); (case ni1 => decide +kernel); (case ni2 => exact f_glo_ZeroBottom (by assumption)); (case ni3 => exact f_keep_ZeroBottom (by assumption)); (case ni4 => with_unfolding_all rfl); (case ni5 => with_unfolding_all rfl))
  | ((with_reducible refine' we_callS0 (x := "ZeroBottom") ?ni0 ?ni1 ?ni2 ?ni3 ?_); (case ni0 => exists "ni gs"); (case ni1 => decide +kernel); (case ni2 => exact f_glo_ZeroBottom (by assumption)); (case ni3 => exact f_keep_ZeroBottom (by assumption)))
  | ((with_reducible refine' we_gref (x := "ZeroBottom") ?ni0 ?ni1 ?ni2 ?_); (case ni0 => exists "ni gs"); (case ni1 => decide +kernel); (case ni2 => exact f_glo_ZeroBottom (by assumption)))
  | ((with_reducible refine' ws_raiseS (x := "ZeroBottom") ?ni0 ?ni1 ?ni2 ?ni3 ?ni4 ?_); (case ni0 => assumption); (case ni1 => assumption); (case ni2 => decide +kernel); (case ni3 => exact f_glo_ZeroBottom (by assumption)); (case ni4 => exact f_exc_ZeroBottom (by assumption)))
  | ((with_reducible refine' we_callS (x := "_law_draw") ?ni0 ?ni1 ?ni2 ?ni3 ?ni4 ?ni5 ?_); (case ni0 => exists "ni gs"); (case ni1 => decide +kernel); (case ni2 => exact f_glo__law_draw (by assumption)); (case ni3 => exact f_keep__law_draw (by assumption)); (case ni4 => with_unfolding_all rfl); (case ni5 => with_unfolding_all rfl))
  | ((with_reducible refine' we_callS0 (x := "_law_draw") ?ni0 ?ni1 ?ni2 ?ni3 ?_); (case ni0 => exists "ni gs"); (case ni1 => decide +kernel); (case ni2 => exact f_glo__law_draw (by assumption)); (case ni3 => exact f_keep__law_draw (by assumption)))
  | ((with_reducible refine' we_callS (x := "_law_floor") ?ni0 ?ni1 ?ni2 ?ni3 ?ni4 ?ni5 ?_); (case ni0 => exists "ni gs"); (case ni1 => decide +kernel); (case ni2 => exact f_glo__law_floor (by assumption)); (case ni3 => exact f_keep__law_floor (by assumption)); (case ni4 => with_unfolding_all rfl); (case ni5 => with_unfolding_all rfl))
  | ((with_reducible refine' we_callS0 (x := "_law_floor") ?ni0 ?ni1 ?ni2 ?ni3 ?_); (case ni0 => exists "ni gs"); (case ni1 => decide +kernel); (case ni2 => exact f_glo__law_floor (by assumption)); (case ni3 => exact f_keep__law_floor (by assumption)))
  | ((with_reducible refine' we_callS (x := "_law_low") ?ni0 ?ni1 ?ni2 ?ni3 ?ni4 ?ni5 ?_); (case ni0 => exists "ni gs"); (case ni1 => decide +kernel); (case ni2 => exact f_glo__law_low (by assumption)); (case ni3 => exact f_keep__law_low (by assumption)); (case ni4 => with_unfolding_all rfl); (case ni5 => with_unfolding_all rfl))
  | ((with_reducible refine' we_callS0 (x := "_law_low") ?ni0 ?ni1 ?ni2 ?ni3 ?_); (case ni0 => exists "ni gs"); (case ni1 => decide +kernel); (case ni2 => exact f_glo__law_low (by assumption)); (case ni3 => exact f_keep__law_low (by assumption)))
  | ((with_reducible refine' we_callS (x := "_law_mixed") ?ni0 ?ni1 ?ni2 ?ni3 ?ni4 ?ni5 ?_); (case ni0 => exists "ni gs"); (case ni1 => decide +kernel); (case ni2 => exact f_glo__law_mixed (by assumption)); (case ni3 => exact f_keep__law_mixed (by assumption)); (case ni4 => with_unfolding_all rfl); (case ni5 => with_unfolding_all rfl))
  | ((with_reducible refine' we_callS0 (x := "_law_mixed") ?ni0 ?ni1 ?ni2 ?ni3 ?_); (case ni0 => exists "ni gs"); (case ni1 => decide +kernel); (case ni2 => exact f_glo__law_mixed (by assumption)); (case ni3 => exact f_keep__law_mixed (by assumption)))
  | ((with_reducible refine' we_callS (x := "_law_pair") ?ni0 ?ni1 ?ni2 ?ni3 ?ni4 ?ni5 ?_); (case ni0 => exists "ni gs"); (case ni1 => decide +kernel); (case ni2 => exact f_glo__law_pair (by assumption)); (case ni3 => exact f_keep__law_pair (by assumption)); (case ni4 => with_unfolding_all rfl); (case ni5 => with_unfolding_all rfl))
  | ((with_reducible refine' we_callS0 (x := "_law_pair") ?ni0 ?ni1 ?ni2 ?ni3 ?_); (case ni0 => exists "ni gs"); (case ni1 => decide +kernel); (case ni2 => exact f_glo__law_pair (by assumption)); (case ni3 => exact f_keep__law_pair (by assumption)))
  | ((with_reducible refine' we_callS (x := "_law_powers") ?ni0 ?ni1 ?ni2 ?ni3 ?ni4 ?ni5 ?_); (case ni0 => exists "ni gs"); (case ni1 => decide +kernel); (case ni2 => exact f_glo__law_powers (by assumption)); (case ni3 => exact f_keep__law_powers (by assumption)); (case ni4 => with_unfolding_all rfl); (case ni5 => with_unfolding_all rfl))
  | ((with_reducible refine' we_callS0 (x := "_law_powers") ?ni0 ?ni1 ?ni2 ?ni3 ?_); (case ni0 => exists "ni gs"); (case ni1 => decide +kernel); (case ni2 => exact f_glo__law_powers (by assumption)); (case ni3 => exact f_keep__law_powers (by assumption)))
  | ((with_reducible refine' we_callS (x := "_law_whole") ?ni0 ?ni1 ?ni2 ?ni3 ?ni4 ?ni5 ?_); (case ni0 => exists "ni gs"); (case ni1 => decide +kernel); (case ni2 => exact f_glo__law_whole (by assumption)); (case ni3 => exact f_keep__law_whole (by assumption)); (case ni4 => with_unfolding_all rfl); (case ni5 => with_unfolding_all rfl))
  | ((with_reducible refine' we_callS0 (x := "_law_whole") ?ni0 ?ni1 ?ni2 ?ni3 ?_); (case ni0 => exists "ni gs"); (case ni1 => decide +kernel); (case ni2 => exact f_glo__law_whole (by assumption)); (case ni3 => exact f_keep__law_whole (by assumption)))
  | ((with_reducible refine' we_callS (x := "_law_zero") ?ni0 ?ni1 ?ni2 ?ni3 ?ni4 ?ni5 ?_); (case ni0 => exists "ni gs"); (case ni1 => decide +kernel); (case ni2 => exact f_glo__law_zero (by assumption)); (case ni3 => exact f_keep__law_zero (by assumption)); (case ni4 => with_unfolding_all rfl); (case ni5 => with_unfolding_all rfl))
  | ((with_reducible refine' we_callS0 (x := "_law_zero") ?ni0 ?ni1 ?ni2 ?ni3 ?_); (case ni0 => exists "ni gs"); (case ni1 => decide +kernel); (case ni2 => exact f_glo__law_zero (by assumption)); (case ni3 => exact f_keep__law_zero (by assumption)))
  | ((with_reducible refine' we_callBS (x := "abs") ?ni0 ?ni1 ?ni2 ?ni3 ?ni4 ?ni5 ?ni6 ?_); (case ni0 => exists "ni gs"); (case ni1 => decide +kernel); (case ni2 => exact f_free_abs (by assumption)); (case ni3 => exact (show bootBuiltins "abs" = some (.builtin "abs") by decide +kernel)); (case ni4 => decide +kernel); (case ni5 => with_unfolding_all rfl); (case ni6 => with_unfolding_all rfl))
  | ((with_reducible refine' we_callS (x := "as_ratio") ?ni0 ?ni1 ?ni2 ?ni3 ?ni4 ?ni5 ?_); (case ni0 => exists "ni gs"); (case ni1 => decide +kernel); (case ni2 => exact f_glo_as_ratio (by assumption)); (case ni3 => exact f_keep_as_ratio (by assumption)); (case ni4 => with_unfolding_all rfl); (case ni5 => with_unfolding_all rfl))
  | ((with_reducible refine' we_callS0 (x := "as_ratio") ?ni0 ?ni1 ?ni2 ?ni3 ?_); (case ni0 => exists "ni gs"); (case ni1 => decide +kernel); (case ni2 => exact f_glo_as_ratio (by assumption)); (case ni3 => exact f_keep_as_ratio (by assumption)))
  | ((with_reducible refine' we_callTS (x := "bool") ?ni0 ?ni1 ?ni2 ?ni3 ?ni4 ?ni5 ?ni6 ?_); (case ni0 => exists "ni gs"); (case ni1 => decide +kernel); (case ni2 => exact f_free_bool (by assumption)); (case ni3 => exact (show bootBuiltins "bool" = some (.type "bool") by decide +kernel)); (case ni4 => decide +kernel); (case ni5 => with_unfolding_all rfl); (case ni6 => with_unfolding_all rfl))
  | ((with_reducible refine' we_gty (x := "bool") ?ni0 ?ni1 ?ni2 ?ni3 ?ni4 ?_); (case ni0 => exists "ni gs"); (case ni1 => decide +kernel); (case ni2 => exact f_free_bool (by assumption)); (case ni3 => exact (show bootBuiltins "bool" = some (.type "bool") by decide +kernel)); (case ni4 => decide +kernel))
  | ((with_reducible refine' we_callGS (x := "gcd") ?ni0 ?ni1 ?ni2 ?ni3 ?ni4 ?_); (case ni0 => exists "ni gs"); (case ni1 => decide +kernel); (case ni2 => exact f_gcd_x (by assumption)); (case ni3 => with_unfolding_all rfl); (case ni4 => with_unfolding_all rfl))
  | ((with_reducible refine' we_callTS (x := "int") ?ni0 ?ni1 ?ni2 ?ni3 ?ni4 ?ni5 ?ni6 ?_); (case ni0 => exists "ni gs"); (case ni1 => decide +kernel); (case ni2 => exact f_free_int (by assumption)); (case ni3 => exact (show bootBuiltins "int" = some (.type "int") by decide +kernel)); (case ni4 => decide +kernel); (case ni5 => with_unfolding_all rfl); (case ni6 => with_unfolding_all rfl))
  | ((with_reducible refine' we_gty (x := "int") ?ni0 ?ni1 ?ni2 ?ni3 ?ni4 ?_); (case ni0 => exists "ni gs"); (case ni1 => decide +kernel); (case ni2 => exact f_free_int (by assumption)); (case ni3 => exact (show bootBuiltins "int" = some (.type "int") by decide +kernel)); (case ni4 => decide +kernel))
  | ((with_reducible refine' we_callS (x := "is_number") ?ni0 ?ni1 ?ni2 ?ni3 ?ni4 ?ni5 ?_); (case ni0 => exists "ni gs"); (case ni1 => decide +kernel); (case ni2 => exact f_glo_is_number (by assumption)); (case ni3 => exact f_keep_is_number (by assumption)); (case ni4 => with_unfolding_all rfl); (case ni5 => with_unfolding_all rfl))
  | ((with_reducible refine' we_callS0 (x := "is_number") ?ni0 ?ni1 ?ni2 ?ni3 ?_); (case ni0 => exists "ni gs"); (case ni1 => decide +kernel); (case ni2 => exact f_glo_is_number (by assumption)); (case ni3 => exact f_keep_is_number (by assumption)))
  | ((with_reducible refine' we_callBS (x := "isinstance") ?ni0 ?ni1 ?ni2 ?ni3 ?ni4 ?ni5 ?ni6 ?_); (case ni0 => exists "ni gs"); (case ni1 => decide +kernel); (case ni2 => exact f_free_isinstance (by assumption)); (case ni3 => exact (show bootBuiltins "isinstance" = some (.builtin "isinstance") by decide +kernel)); (case ni4 => decide +kernel); (case ni5 => with_unfolding_all rfl); (case ni6 => with_unfolding_all rfl))
  | ((with_reducible refine' we_callBS (x := "len") ?ni0 ?ni1 ?ni2 ?ni3 ?ni4 ?ni5 ?ni6 ?_); (case ni0 => exists "ni gs"); (case ni1 => decide +kernel); (case ni2 => exact f_free_len (by assumption)); (case ni3 => exact (show bootBuiltins "len" = some (.builtin "len") by decide +kernel)); (case ni4 => decide +kernel); (case ni5 => with_unfolding_all rfl); (case ni6 => with_unfolding_all rfl))
  | ((with_reducible refine' we_callTS (x := "list") ?ni0 ?ni1 ?ni2 ?ni3 ?ni4 ?ni5 ?ni6 ?_); (case ni0 => exists "ni gs"); (case ni1 => decide +kernel); (case ni2 => exact f_free_list (by assumption)); (case ni3 => exact (show bootBuiltins "list" = some (.type "list") by decide +kernel)); (case ni4 => decide +kernel); (case ni5 => with_unfolding_all rfl); (case ni6 => with_unfolding_all rfl))
  | ((with_reducible refine' we_gty (x := "list") ?ni0 ?ni1 ?ni2 ?ni3 ?ni4 ?_); (case ni0 => exists "ni gs"); (case ni1 => decide +kernel); (case ni2 => exact f_free_list (by assumption)); (case ni3 => exact (show bootBuiltins "list" = some (.type "list") by decide +kernel)); (case ni4 => decide +kernel))
  | ((with_reducible refine' we_callTS (x := "range") ?ni0 ?ni1 ?ni2 ?ni3 ?ni4 ?ni5 ?ni6 ?_); (case ni0 => exists "ni gs"); (case ni1 => decide +kernel); (case ni2 => exact f_free_range (by assumption)); (case ni3 => exact (show bootBuiltins "range" = some (.type "range") by decide +kernel)); (case ni4 => decide +kernel); (case ni5 => with_unfolding_all rfl); (case ni6 => with_unfolding_all rfl))
  | ((with_reducible refine' we_callS (x := "read_digits") ?ni0 ?ni1 ?ni2 ?ni3 ?ni4 ?ni5 ?_); (case ni0 => exists "ni gs"); (case ni1 => decide +kernel); (case ni2 => exact f_glo_read_digits (by assumption)); (case ni3 => exact f_keep_read_digits (by assumption)); (case ni4 => with_unfolding_all rfl); (case ni5 => with_unfolding_all rfl))
  | ((with_reducible refine' we_callS0 (x := "read_digits") ?ni0 ?ni1 ?ni2 ?ni3 ?_); (case ni0 => exists "ni gs"); (case ni1 => decide +kernel); (case ni2 => exact f_glo_read_digits (by assumption)); (case ni3 => exact f_keep_read_digits (by assumption)))
  | ((with_reducible refine' we_callTS (x := "str") ?ni0 ?ni1 ?ni2 ?ni3 ?ni4 ?ni5 ?ni6 ?_); (case ni0 => exists "ni gs"); (case ni1 => decide +kernel); (case ni2 => exact f_free_str (by assumption)); (case ni3 => exact (show bootBuiltins "str" = some (.type "str") by decide +kernel)); (case ni4 => decide +kernel); (case ni5 => with_unfolding_all rfl); (case ni6 => with_unfolding_all rfl))
  | ((with_reducible refine' we_gty (x := "str") ?ni0 ?ni1 ?ni2 ?ni3 ?ni4 ?_); (case ni0 => exists "ni gs"); (case ni1 => decide +kernel); (case ni2 => exact f_free_str (by assumption)); (case ni3 => exact (show bootBuiltins "str" = some (.type "str") by decide +kernel)); (case ni4 => decide +kernel)))

/-! RL0: the class Ratio: fractions in the heap. -/
namespace Rt
open PySem PySem.Spec PyProof.Rows L2 Ni Pr
abbrev aR (K : PySem.W.Frag) : Addr := He.ga K "Ratio"
abbrev aZ (K : PySem.W.Frag) : Addr := He.ga K "ZeroBottom"
theorem tb_ne : ¬ (("top" : Str) = "bottom") := by decide +kernel
theorem bt_ne : ¬ (("bottom" : Str) = "top") := by decide +kernel
/-- the attributes of a fraction -/
def rf (q : Rat) : List (Str × V) := putF "bottom" (.int (q.den : Int)) (putF "top" (.int q.num) [])
theorem rf_eq (q : Rat) : rf q = ([("top", V.int q.num), ("bottom", V.int (q.den : Int))] : List (Str × V)) := by
  show (if ("top" : Str) = "bottom" then [(("top" : Str), V.int (q.den : Int))] else (("top" : Str), V.int q.num) :: putF "bottom" (V.int (q.den : Int)) []) = _
  rw [if_neg tb_ne]
  rfl
theorem rf_top (q : Rat) : (rf q).lookup ("top" : Str) = some (.int q.num) := by
  unfold rf
  rw [lookup_putF, if_neg tb_ne, lookup_putF, if_pos rfl]
theorem rf_bot (q : Rat) : (rf q).lookup ("bottom" : Str) = some (.int (q.den : Int)) := by
  unfold rf
  rw [lookup_putF, if_pos rfl]
theorem rf_no (q : Rat) {m : Str} (h1 : ¬ m = "top") (h2 : ¬ m = "bottom") : (rf q).lookup m = none := by
  unfold rf
  rw [lookup_putF, if_neg h2, lookup_putF, if_neg h1]
  rfl
/-- at a stands the fraction q -/
def IsR (K : PySem.W.Frag) (H : Hp) (a : Addr) (q : Rat) : Prop := ∃ dx, H a = some (.ins (aR K) dx (rf q))
/-- a number: an int, or a fraction -/
def IsQ (K : PySem.W.Frag) (H : Hp) (v : V) (q : Rat) : Prop := (∃ n : Int, v = .int n ∧ q = (n : Rat)) ∨ ∃ a, v = .ref a ∧ IsR K H a q
theorem IsR.mono {K : PySem.W.Frag} {H H' : Hp} {a : Addr} {q : Rat} (s : Same H H') (h : IsR K H a q) : IsR K H' a q := let ⟨dx, e⟩ := h; ⟨dx, s _ _ e⟩
theorem IsQ.mono {K : PySem.W.Frag} {H H' : Hp} {v : V} {q : Rat} (s : Same H H') (h : IsQ K H v q) : IsQ K H' v q := h.elim .inl fun ⟨a, e, r⟩ => .inr ⟨a, e, r.mono s⟩
theorem IsR.inj {K : PySem.W.Frag} {H : Hp} {a : Addr} {q r : Rat} (h : IsR K H a q) (h' : IsR K H a r) : q = r := by
  obtain ⟨dx, e⟩ := h
  obtain ⟨dx', e'⟩ := h'
  rw [e] at e'
  have z := Option.some.inj e'
  injection z with _ _ z3
  have a1 := rf_top q
  have a2 := rf_bot q
  rw [z3, rf_top] at a1
  rw [z3, rf_bot] at a2
  injection a1 with a1
  injection a1 with a1
  injection a2 with a2
  injection a2 with a2
  exact Rat.ext a1.symm (by omega)
theorem com_bd {t b : Int} {k : Nat} (h : b ≠ 0) (hb : Bd b k) : Bd (com t b) k := by
  refine hb.of_abs ?_
  have l : Nat.gcd t.natAbs b.natAbs ≤ b.natAbs := Nat.gcd_le_right _ (by omega)
  unfold com
  split <;> omega
/-! ### promises -/
def spInit (K : PySem.W.Frag) : Sp := fun vs H Q E => ∃ (p dx : Addr) (t b : Int), vs = [.ref p, .int t, .int b] ∧ H p = some (.ins (aR K) dx []) ∧ Bd b 8999 ∧ (b = 0 → E (.ref (aZ K)) none H) ∧
  (b ≠ 0 → Q .non (upd H p (.ins (aR K) dx (rf (Rat.divInt t b)))))
section
variable {P : Program} {w : World} {K : PySem.W.Frag} {mg : Str → Option Value} {base : Heap}
theorem fn_init (T : Ctx K mg) {fd : FuncData} (F : FunD K "__init__" "Ratio.__init__" (defArgs s_Ratio___init__) (defBody s_Ratio___init__) (defScope s_Ratio___init__) (d_Ratio___init__.dvs K) (d_Ratio___init__.kws K) (He.fAd K d_Ratio___init__.at_) fd) :
    FnOk P w K mg base (L2.CX P w) 1 (He.fAd K d_Ratio___init__.at_) fd p_Ratio___init__ (spInit K) := by
  refine fn_go F sc_Ratio___init__ nm_Ratio___init__ ?len ?body
  case len =>
    intro vs H Q E h
    obtain ⟨p, dx, t, b, rfl, _⟩ := h
    rfl
  case body =>
    intro X e1 e2 e3 e4 e5 S V1 hr vs H Q E hE h
    subst e1 e2 e3 e4 e5
    obtain ⟨p, dx, t, b, rfl, hp, hb, h0, h1⟩ := h
    show Wb X _ _ [some (.ref p), some (.int t), some (.int b), none] H
    refine wb_cons ?_
    exists "ni go"
    refine if_d (fun z => ?_) (fun z => ?_)
    · exists "ni go"
      exact hE _ _ _ _ (h0 z)
    · have bc : Bd (com t b) 8999 := com_bd z hb
      have nc : com t b ≠ 0 := com_ne z
      exists "ni go"
      refine if_d (fun z2 => ?_) (fun z2 => ?_)
      all_goals exists "ni go"
      · rw [show -((Nat.gcd t.natAbs b.natAbs : Nat) : Int) = com t b from (if_pos z2).symm]
        refine wo_fdiv nc bc (by decide) ?_
        rw [com_top z]
        exists "ni go"
        refine ⟨p, aR X.K, dx, _, rfl, hp, f_cls_Ratio T, f_noat_Ratio'top T, (by show 0 < 1000; decide), ?_⟩
        exists "ni go"
        refine wo_fdiv nc bc (by decide) ?_
        rw [com_bot z]
        exists "ni go"
        refine ⟨p, aR X.K, dx, _, rfl, upd_same, f_cls_Ratio T, f_noat_Ratio'bottom T, (by show 1 < 1000; decide), ?_⟩
        exists "ni go"
        rw [upd_upd]
        exact h1 z
      · rw [show ((Nat.gcd t.natAbs b.natAbs : Nat) : Int) = com t b from (if_neg z2).symm]
        refine wo_fdiv nc bc (by decide) ?_
        rw [com_top z]
        exists "ni go"
        refine ⟨p, aR X.K, dx, _, rfl, hp, f_cls_Ratio T, f_noat_Ratio'top T, (by show 0 < 1000; decide), ?_⟩
        exists "ni go"
        refine wo_fdiv nc bc (by decide) ?_
        rw [com_bot z]
        exists "ni go"
        refine ⟨p, aR X.K, dx, _, rfl, upd_same, f_cls_Ratio T, f_noat_Ratio'bottom T, (by show 1 < 1000; decide), ?_⟩
        exists "ni go"
        rw [upd_upd]
        exact h1 z
theorem ok_init (T : Ctx K mg) : OkD P w K mg base 1 (He.ma K (aR K) "__init__") p_Ratio___init__ [] (spInit K) := by
  obtain ⟨fd, F⟩ := F_Ratio___init__ T
  obtain ⟨ds, r, hb⟩ := FunD.binds1 (ps := p_Ratio___init__) F 3 1 (by intro z; cases z) rfl fun T kV doc pm an cdv ct us its h1 h2 => match us, its, h1, h2 with | [_, _, _], [_], _, _ => ⟨_, rfl, rfl⟩
  exact ⟨⟨fd, ds, fn_init T F, r, hb⟩, F.kp⟩
theorem ok_init1 (T : Ctx K mg) : OkD P w K mg base 1 (He.ma K (aR K) "__init__") p_Ratio___init__ [.int 1] (spInit K) := by
  obtain ⟨fd, F⟩ := F_Ratio___init__ T
  obtain ⟨ds, r, hb⟩ := FunD.binds1 (ps := p_Ratio___init__) F 2 0 (by intro z; cases z) rfl fun T kV doc pm an cdv ct us its h1 h2 => match us, its, h1, h2 with | [_, _], [_], _, _ => ⟨_, rfl, rfl⟩
  exact ⟨⟨fd, ds, fn_init T F, r, hb⟩, F.kp⟩
theorem ok_initK (T : Ctx K mg) : OkK P w K mg base 1 (He.ma K (aR K) "__init__") p_Ratio___init__ 2 ["bottom"] (fun vs zs => vs ++ zs) (spInit K) := by
  obtain ⟨fd, F⟩ := F_Ratio___init__ T
  obtain ⟨its, hb⟩ := FunD.kbindsD (ps := p_Ratio___init__) F 2 ["bottom"] (fun us ds zs => us ++ zs) (by intro z; cases z) (fun r1 _ r2 => r1.append r2)
    fun T kV doc pm an cdv ct us its ws h1 h2 h3 => match us, its, ws, h1, h2, h3 with | [_, _], [_], [_], _, _, _ => ⟨_, rfl, rfl⟩
  exact ⟨⟨fd, _, fn_init T F, hb⟩, F.kp⟩
end
section
variable {X : Cx} {σ : L2.St} {H : Hp} {Q : VK} {t b n : Int} {a : Addr} {q r : Rat} {v : V}
theorem made_same {p dx C : Addr} {fs : List (Str × V)} (hp : H p = none) (hd : H dx = none) : Same H (upd (upd (upd H dx (.own p)) p (.ins C dx [])) p (.ins C dx fs)) := by
  rw [upd_upd]
  exact same_mut (same_new hd) hp
theorem go_new (T : Ctx X.K X.mg) (hr : Room 2 X.A) (hb : Bd b 8999) (h0 : b ≠ 0) (k : ∀ p H', Same H H' → IsR X.K H' p (Rat.divInt t b) → Q (.ref p) H') : Wf X (.ref (aR X.K)) [.int t, .int b] σ H Q := by
  refine wf_new (f_mkr_Ratio T) (ok_init T) hr fun p dx hp hd ne => ?_
  refine ⟨p, dx, t, b, rfl, upd_same, hb, fun z => absurd z h0, fun _ => ⟨rfl, ?_⟩⟩
  exact k p _ (made_same hp hd) ⟨dx, upd_same⟩
theorem go_new0 (T : Ctx X.K X.mg) (hr : Room 2 X.A) (k : ∀ H', Same H H' → XW X (.ref (aZ X.K)) none σ H') : Wf X (.ref (aR X.K)) [.int t, .int 0] σ H Q := by
  refine wf_new (f_mkr_Ratio T) (ok_init T) hr fun p dx hp hd ne => ?_
  exact ⟨p, dx, t, 0, rfl, upd_same, Nat.two_pow_pos _, fun _ => k _ (same_mut (same_new hd) hp), fun z => absurd rfl z⟩
theorem divInt_one (n : Int) : Rat.divInt n 1 = (n : Rat) := by
  apply Rat.ext
  · rw [Rat.num_divInt]; simp
  · rw [Rat.den_divInt]; simp
theorem go_new1 (T : Ctx X.K X.mg) (hr : Room 2 X.A) (k : ∀ p H', Same H H' → IsR X.K H' p (n : Rat) → Q (.ref p) H') : Wf X (.ref (aR X.K)) [.int n] σ H Q := by
  refine wf_new (f_mkr_Ratio T) (ok_init1 T) hr fun p dx hp hd ne => ?_
  refine ⟨p, dx, n, 1, rfl, upd_same, ?_, fun z => (by cases z), fun _ => ⟨rfl, ?_⟩⟩
  · exact Nat.one_lt_two_pow (by decide)
  · have e := made_same (C := aR X.K) (fs := rf (Rat.divInt n 1)) hp hd
    rw [divInt_one] at e
    have e2 := k p _ e ⟨dx, upd_same⟩
    rw [divInt_one]
    exact e2
theorem fl_top (T : Ctx X.K X.mg) (h : IsR X.K H a q) (k : Q (.int q.num) H) : Fl X (.ref a) "top" H Q := by
  obtain ⟨dx, e⟩ := h
  exact ⟨a, aR X.K, dx, _, _, rfl, e, f_cls_Ratio T, f_noat_Ratio'top T, rf_top q, k⟩
theorem fl_bot (T : Ctx X.K X.mg) (h : IsR X.K H a q) (k : Q (.int (q.den : Int)) H) : Fl X (.ref a) "bottom" H Q := by
  obtain ⟨dx, e⟩ := h
  exact ⟨a, aR X.K, dx, _, _, rfl, e, f_cls_Ratio T, f_noat_Ratio'bottom T, rf_bot q, k⟩
theorem isq_int {K : PySem.W.Frag} {n : Int} : IsQ K H (.int n) (n : Rat) := .inl ⟨n, rfl, rfl⟩
theorem isq_ref {K : PySem.W.Frag} (h : IsR K H a q) : IsQ K H (.ref a) q := .inr ⟨a, rfl, h⟩
/-- isinstance(x, Ratio), isinstance(x, int) of a number -/
theorem isi_int_int (T : Ctx X.K X.mg) (k : Q (.bl true) H) : Wcb X (.builtin "isinstance") [.int n, .ty "int"] H Q := wcb_isi (.ty "int") (.base (.int n)) (f_kit_int'int T) k
theorem isi_int_R (T : Ctx X.K X.mg) (k : Q (.bl false) H) : Wcb X (.builtin "isinstance") [.int n, .ref (aR X.K)] H Q := wcb_isi (.own _) (.base (.int n)) (f_kit_int'Ratio T) k
theorem isi_R_R (T : Ctx X.K X.mg) (h : IsR X.K H a q) (k : Q (.bl true) H) : Wcb X (.builtin "isinstance") [.ref a, .ref (aR X.K)] H Q := by
  obtain ⟨dx, e⟩ := h
  exact wcb_isi (.own _) (tyx_of (f_tyx_Ratio T) (f_cls_Ratio T) e) (f_kit_Ratio'Ratio T) k
theorem isi_R_int (T : Ctx X.K X.mg) (h : IsR X.K H a q) (k : Q (.bl false) H) : Wcb X (.builtin "isinstance") [.ref a, .ty "int"] H Q := by
  obtain ⟨dx, e⟩ := h
  exact wcb_isi (.ty "int") (tyx_of (f_tyx_Ratio T) (f_cls_Ratio T) e) (f_kit_Ratio'int T) k
end
end Rt

/-! TACR: the walk's steps over fractions. -/
section
open PySem PySem.Spec PyProof.Rows L2 Ni Pr Rt
local macro_rules | `(tactic| exists "ni keep") => `(tactic| first
  | assumption
  | (with_reducible exact isq_int)
  | ((with_reducible refine' isq_ref ?ni1); (case ni1 => exists "ni keep"))
  | ((with_reducible refine' IsR.mono ?ni1 ?ni2); (case ni1 => assumption); (case ni2 => exists "ni keep"))
  | ((with_reducible refine' IsQ.mono ?ni1 ?ni2); (case ni1 => assumption); (case ni2 => exists "ni keep")))
local macro_rules | `(tactic| exists "ni own") => `(tactic| first
  | ((with_reducible refine' fl_top ?ni1 ?ni2 ?_); (case ni1 => assumption); (case ni2 => exists "ni keep"))
  | ((with_reducible refine' fl_bot ?ni1 ?ni2 ?_); (case ni1 => assumption); (case ni2 => exists "ni keep"))
  | ((with_reducible refine' isi_int_int ?ni1 ?_); (case ni1 => assumption))
  | ((with_reducible refine' isi_int_R ?ni1 ?_); (case ni1 => assumption))
  | ((with_reducible refine' isi_R_R ?ni1 ?ni2 ?_); (case ni1 => assumption); (case ni2 => exists "ni keep"))
  | ((with_reducible refine' isi_R_int ?ni1 ?ni2 ?_); (case ni1 => assumption); (case ni2 => exists "ni keep"))
  | ((with_reducible refine' go_new1 ?ni1 ?ni2 ?_); (case ni1 => assumption); (case ni2 => exists "ni room"); intro _ _ _ _))

/-! RL1: Ratio: the numbers and the signs. -/
namespace Rt
open PySem PySem.Spec PyProof.Rows L2 Ni Pr
def spOne (K : PySem.W.Frag) : Sp := fun vs H Q _ => ∃ (v : V) (q : Rat), vs = [v] ∧ IsQ K H v q ∧ ∀ p H', Same H H' → IsR K H' p q → Q (.ref p) H'
def spBin (K : PySem.W.Frag) (f : Rat → Rat → Rat) : Sp := fun vs H Q _ => ∃ (a : Addr) (v : V) (q r : Rat), vs = [.ref a, v] ∧ IsR K H a q ∧ IsQ K H v r ∧ Mz q r ∧ ∀ p H', Same H H' → IsR K H' p (f q r) → Q (.ref p) H'
section
variable {P : Program} {w : World} {K : PySem.W.Frag} {mg : Str → Option Value} {base : Heap}
theorem ok_as_ratio (T : Ctx K mg) : OkD P w K mg base 5 (He.ga K "as_ratio") p_as_ratio [] (spOne K) := by
  obtain ⟨fd, F⟩ := F_as_ratio T
  refine ⟨⟨fd, [], fn_go (k := 4) F sc_as_ratio nm_as_ratio ?len ?body, .nil, FunD.bindsN F fun _ _ _ _ _ _ us hl => match us, hl with | [_], _ => rfl⟩, F.kp⟩
  case len =>
    rintro vs H Q E ⟨v, q, rfl, _⟩
    rfl
  case body =>
    intro X e1 e2 e3 e4 e5 S V1 hr vs H Q E hE h
    subst e1 e2 e3 e4 e5
    obtain ⟨v, q, rfl, hq, k⟩ := h
    show Wb X _ _ [some v] H
    refine wb_cons ?_
    rcases hq with ⟨n, rfl, rfl⟩ | ⟨a, rfl, ha⟩
    · exists "ni go"
      exact k _ _ (by assumption) (by assumption)
    · exists "ni go"
      exact k _ _ (Same.refl _) ha
end
section
variable {X : Cx} {σ : L2.St} {H : Hp} {Q : VK} {t b n : Int} {a : Addr} {q r : Rat} {v : V}
theorem go_as_ratio (T : Ctx X.K X.mg) (hr : Room 5 X.A) (hq : IsQ X.K H v q) (k : ∀ p H', Same H H' → IsR X.K H' p q → Q (.ref p) H') : Wf X (.ref (He.ga X.K "as_ratio")) [v] σ H Q :=
  wf_ok (ok_as_ratio T) hr ⟨v, q, rfl, hq, k⟩
end
end Rt

end

/-! TACR2: more of them. -/
section
open PySem PySem.Spec PyProof.Rows L2 Ni Pr Rt
local macro_rules | `(tactic| exists "ni keep") => `(tactic| first
  | assumption
  | (with_reducible exact isq_int)
  | ((with_reducible refine' isq_ref ?ni1); (case ni1 => exists "ni keep"))
  | ((with_reducible refine' IsR.mono ?ni1 ?ni2); (case ni1 => assumption); (case ni2 => exists "ni keep"))
  | ((with_reducible refine' IsQ.mono ?ni1 ?ni2); (case ni1 => assumption); (case ni2 => exists "ni keep")))
local macro_rules | `(tactic| exists "ni own") => `(tactic| first
  | ((with_reducible refine' fl_top ?ni1 ?ni2 ?_); (case ni1 => assumption); (case ni2 => exists "ni keep"))
  | ((with_reducible refine' fl_bot ?ni1 ?ni2 ?_); (case ni1 => assumption); (case ni2 => exists "ni keep"))
  | ((with_reducible refine' isi_int_int ?ni1 ?_); (case ni1 => assumption))
  | ((with_reducible refine' isi_int_R ?ni1 ?_); (case ni1 => assumption))
  | ((with_reducible refine' isi_R_R ?ni1 ?ni2 ?_); (case ni1 => assumption); (case ni2 => exists "ni keep"))
  | ((with_reducible refine' isi_R_int ?ni1 ?ni2 ?_); (case ni1 => assumption); (case ni2 => exists "ni keep"))
  | ((with_reducible refine' go_as_ratio ?ni1 ?ni2 ?ni3 ?_); (case ni1 => assumption); (case ni2 => exists "ni room"); (case ni3 => exists "ni keep"); intro _ _ _ _)
  | ((with_reducible refine' go_new1 ?ni1 ?ni2 ?_); (case ni1 => assumption); (case ni2 => exists "ni room"); intro _ _ _ _))
local macro_rules | `(tactic| exists "ni same") => `(tactic| first
  | assumption
  | exact Same.refl _
  | ((refine' Same.trans ?ni1 ?ni2); (case ni2 => assumption); (case ni1 => exists "ni same")))

/-! RL2: the signs of Ratio. -/
namespace Rt
open PySem PySem.Spec PyProof.Rows L2 Ni Pr
section
variable {P : Program} {w : World} {K : PySem.W.Frag} {mg : Str → Option Value} {base : Heap}
theorem ok_add (T : Ctx K mg) : OkD P w K mg base 10 (He.ma K (aR K) "__add__") p_Ratio___add__ [] (spBin K (· + ·)) := by
  obtain ⟨fd, F⟩ := F_Ratio___add__ T
  refine ⟨⟨fd, [], fn_go (k := 9) F sc_Ratio___add__ nm_Ratio___add__ ?len ?body, .nil, FunD.bindsN F fun _ _ _ _ _ _ us hl => match us, hl with | [_, _], _ => rfl⟩, F.kp⟩
  case len =>
    rintro vs H Q E ⟨a, v, q, r, rfl, _⟩
    rfl
  case body =>
    intro X e1 e2 e3 e4 e5 S V1 hr vs H Q E hE h
    subst e1 e2 e3 e4 e5
    obtain ⟨a, v, q, r, rfl, ha, hv, ⟨k, m, ⟨k1, k2⟩, ⟨m1, m2⟩, hkm⟩, fin⟩ := h
    show Wb X _ _ [some (.ref a), some v] H
    refine wb_cons ?_
    exists "ni go"
    refine go_new T (Room.mono hr (by decide)) ((k2.mul m2).mono (by omega)) (den_mul_ne q r) fun p H' s hp => ?_
    rw [q_add] at hp
    exact fin p H' (by exists "ni same") hp
end
end Rt

/-! RL3: signs between fractions and numbers. -/
namespace Rt
open PySem PySem.Spec PyProof.Rows L2 Ni Pr
def spRev (K : PySem.W.Frag) (f : Rat → Rat → Rat) : Sp := fun vs H Q _ => ∃ (a : Addr) (v : V) (q r : Rat), vs = [.ref a, v] ∧ IsR K H a q ∧ IsQ K H v r ∧ Mz q r ∧ ∀ p H', Same H H' → IsR K H' p (f r q) → Q (.ref p) H'
theorem Mz.symm {q r : Rat} (h : Mz q r) : Mz r q := let ⟨k, m, a, b, l⟩ := h; ⟨m, k, b, a, by omega⟩
theorem type_int : ∀ u {n : Int}, RelV (.int n) u → typeOf u = pure (.type "int") := by
  rintro u n ⟨t, rfl⟩
  rfl
section
variable {X : Cx} {σ : L2.St} {H : Hp} {Q : VK} {op : Operator} {a f f2 : Addr} {v : V} {q r : Rat} {fn : Rat → Rat → Rat} {k : Nat} {ps : List Str} {n : Int} {idl : String}
theorem o_bin (T : Ctx X.K X.mg) (O : OkD X.prog X.w X.K X.mg X.base k f ps [] (spBin X.K fn)) (g : Sg X.K (aR X.K) (PySem.dunder op.info.2) f) (g2 : Sg X.K (aR X.K) (dunderR op.info.2) f2)
    (h1 : ∃ fo, PySem.W.findIn X.K (.type "int") (PySem.dunder op.info.2) = some fo) (h2 : ∃ fo, PySem.W.findIn X.K (.type "int") (dunderR op.info.2) = some fo) (hr : Room k X.A) (ha : IsR X.K H a q) (hv : IsQ X.K H v r) (mz : Mz q r)
    (kk : ∀ p H', Same H H' → IsR X.K H' p (fn q r) → Q (.ref p) H') : Wo X (binaryOp op) (.ref a) v σ H Q := by
  have run := wf_ok (σ := σ) (Q := Q) (vs := [.ref a, v]) O hr ⟨a, v, q, r, rfl, ha, hv, mz, kk⟩
  obtain ⟨dx, e⟩ := ha
  obtain ⟨fo, h1⟩ := h1
  obtain ⟨ro, h2⟩ := h2
  rcases hv with ⟨n, rfl, rfl⟩ | ⟨b, rfl, dy, e2⟩
  · exact wo_left (T := "int") e (fun u => type_int u) (f_sf_Ratio T) g g2.hs (.inr ⟨_, rfl⟩) h1 h2 (f_sub_int'Ratio T) run
  · exact wo_two e e2 (f_sf_Ratio T) g run
theorem i_bin (T : Ctx X.K X.mg) (O : OkD X.prog X.w X.K X.mg X.base k f ps [] (spBin X.K fn)) (g : Sg X.K (aR X.K) (PySem.dunder op.info.2) f) (g2 : Sg X.K (aR X.K) (dunderR op.info.2) f2)
    (hT : fillsNumberSlot (.type "int") op.info.2 = pure true) (hn : noiB X.K (aR X.K) op.info.2 = true) (ho : typeLookup (.type "object") (dunderI op.info.2) = pure none)
    (h2 : ∃ fo, PySem.W.findIn X.K (.type "int") (dunderR op.info.2) = some fo) (hr : Room k X.A) (ha : IsR X.K H a q) (hv : IsQ X.K H v r) (mz : Mz q r)
    (kk : ∀ p H', Same H H' → IsR X.K H' p (fn q r) → Q (.ref p) H') : Wo X (inplaceOp op) (.ref a) v σ H Q := by
  have run := wf_ok (σ := σ) (Q := Q) (vs := [.ref a, v]) O hr ⟨a, v, q, r, rfl, ha, hv, mz, kk⟩
  obtain ⟨dx, e⟩ := ha
  obtain ⟨ro, h2⟩ := h2
  rcases hv with ⟨n, rfl, rfl⟩ | ⟨b, rfl, dy, e2⟩
  · exact wi_int e (f_sf_Ratio T) g hn ho g2.hs (.inr ⟨_, rfl⟩) hT h2 (f_sub_int'Ratio T) run
  · exact wi_two e e2 (f_sf_Ratio T) g hn ho run
theorem o_rev (T : Ctx X.K X.mg) (O : OkD X.prog X.w X.K X.mg X.base k f2 ps [] (spRev X.K fn)) (g : Sg X.K (aR X.K) (PySem.dunder op.info.2) f) (g2 : Sg X.K (aR X.K) (dunderR op.info.2) f2)
    (hT : fillsNumberSlot (.type "int") op.info.2 = pure true) (hl : Slot "int" (PySem.dunder op.info.2) idl) (up : GivesUp idl) (hr : Room k X.A) (ha : IsR X.K H a q) (mz : Mz q n)
    (kk : ∀ p H', Same H H' → IsR X.K H' p (fn n q) → Q (.ref p) H') : Wo X (binaryOp op) (.int n) (.ref a) σ H Q := by
  have run := wf_ok (σ := σ) (Q := Q) (vs := [.ref a, .int n]) O hr ⟨a, .int n, q, n, rfl, ha, .inl ⟨n, rfl, rfl⟩, mz, kk⟩
  obtain ⟨dx, e⟩ := ha
  exact wo_right e (f_sf_Ratio T) g g2 hT (f_sub_Ratio'int T) hl up run
end
end Rt

/-! RL4: the defs of the signs. -/
namespace Rt
open PySem PySem.Spec PyProof.Rows L2 Ni Pr
def spUn (K : PySem.W.Frag) (f : Rat → Rat) : Sp := fun vs H Q _ => ∃ (a : Addr) (q : Rat), vs = [.ref a] ∧ IsR K H a q ∧ Sz q 8990 ∧ ∀ p H', Same H H' → IsR K H' p (f q) → Q (.ref p) H'
def spNum (K : PySem.W.Frag) : Sp := fun vs H Q _ => ∃ (v : V) (r : Rat), vs = [v] ∧ IsQ K H v r ∧ Q (.bl true) H
section
variable {P : Program} {w : World} {K : PySem.W.Frag} {mg : Str → Option Value} {base : Heap}
theorem ok_is_number (T : Ctx K mg) : OkD P w K mg base 1 (He.ga K "is_number") p_is_number [] (spNum K) := by
  obtain ⟨fd, F⟩ := F_is_number T
  refine ⟨⟨fd, [], fn_go (k := 0) F sc_is_number nm_is_number ?len ?body, .nil, FunD.bindsN F fun _ _ _ _ _ _ us hl => match us, hl with | [_], _ => rfl⟩, F.kp⟩
  case len =>
    rintro vs H Q E ⟨v, r, rfl, _⟩
    rfl
  case body =>
    intro X e1 e2 e3 e4 e5 S V1 hr vs H Q E hE h
    subst e1 e2 e3 e4 e5
    obtain ⟨v, r, rfl, hv, fin⟩ := h
    show Wb X _ _ [some v] H
    refine wb_cons ?_
    rcases hv with ⟨n, rfl, rfl⟩ | ⟨a, rfl, ha⟩
    · exists "ni go"
      exact fin
    · exists "ni go"
      exact fin
end
section
variable {X : Cx} {σ : L2.St} {H : Hp} {Q : VK} {v : V} {r : Rat}
theorem go_is_number (T : Ctx X.K X.mg) (hr : Room 1 X.A) (hv : IsQ X.K H v r) (k : Q (.bl true) H) : Wf X (.ref (He.ga X.K "is_number")) [v] σ H Q := wf_ok (ok_is_number T) hr ⟨v, r, rfl, hv, k⟩
end
section
variable {P : Program} {w : World} {K : PySem.W.Frag} {mg : Str → Option Value} {base : Heap}
theorem ok_sub (T : Ctx K mg) : OkD P w K mg base 10 (He.ma K (aR K) "__sub__") p_Ratio___sub__ [] (spBin K (· - ·)) := by
  obtain ⟨fd, F⟩ := F_Ratio___sub__ T
  refine ⟨⟨fd, [], fn_go (k := 9) F sc_Ratio___sub__ nm_Ratio___sub__ ?len ?body, .nil, FunD.bindsN F fun _ _ _ _ _ _ us hl => match us, hl with | [_, _], _ => rfl⟩, F.kp⟩
  case len =>
    rintro vs H Q E ⟨a, v, q, r, rfl, _⟩
    rfl
  case body =>
    intro X e1 e2 e3 e4 e5 S V1 hr vs H Q E hE h
    subst e1 e2 e3 e4 e5
    obtain ⟨a, v, q, r, rfl, ha, hv, ⟨k, m, ⟨k1, k2⟩, ⟨m1, m2⟩, hkm⟩, fin⟩ := h
    show Wb X _ _ [some (.ref a), some v] H
    refine wb_cons ?_
    exists "ni go"
    refine go_new T (Room.mono hr (by decide)) ((k2.mul m2).mono (by omega)) (den_mul_ne q r) fun p H' s hp => ?_
    rw [q_sub] at hp
    exact fin p H' (by exists "ni same") hp
theorem ok_mul (T : Ctx K mg) : OkD P w K mg base 10 (He.ma K (aR K) "__mul__") p_Ratio___mul__ [] (spBin K (· * ·)) := by
  obtain ⟨fd, F⟩ := F_Ratio___mul__ T
  refine ⟨⟨fd, [], fn_go (k := 9) F sc_Ratio___mul__ nm_Ratio___mul__ ?len ?body, .nil, FunD.bindsN F fun _ _ _ _ _ _ us hl => match us, hl with | [_, _], _ => rfl⟩, F.kp⟩
  case len =>
    rintro vs H Q E ⟨a, v, q, r, rfl, _⟩
    rfl
  case body =>
    intro X e1 e2 e3 e4 e5 S V1 hr vs H Q E hE h
    subst e1 e2 e3 e4 e5
    obtain ⟨a, v, q, r, rfl, ha, hv, ⟨k, m, ⟨k1, k2⟩, ⟨m1, m2⟩, hkm⟩, fin⟩ := h
    show Wb X _ _ [some (.ref a), some v] H
    refine wb_cons ?_
    exists "ni go"
    refine go_is_number T (Room.mono hr (by decide)) hv ?_
    exists "ni go"
    refine go_new T (Room.mono hr (by decide)) ((k2.mul m2).mono (by omega)) (den_mul_ne q r) fun p H' s hp => ?_
    rw [q_mul] at hp
    exact fin p H' (by exists "ni same") hp
theorem ok_neg (T : Ctx K mg) : OkD P w K mg base 10 (He.ma K (aR K) "__neg__") p_Ratio___neg__ [] (spUn K (fun q => -q)) := by
  obtain ⟨fd, F⟩ := F_Ratio___neg__ T
  refine ⟨⟨fd, [], fn_go (k := 9) F sc_Ratio___neg__ nm_Ratio___neg__ ?len ?body, .nil, FunD.bindsN F fun _ _ _ _ _ _ us hl => match us, hl with | [_], _ => rfl⟩, F.kp⟩
  case len =>
    rintro vs H Q E ⟨a, q, rfl, _⟩
    rfl
  case body =>
    intro X e1 e2 e3 e4 e5 S V1 hr vs H Q E hE h
    subst e1 e2 e3 e4 e5
    obtain ⟨a, q, rfl, ha, ⟨s1, s2⟩, fin⟩ := h
    show Wb X _ _ [some (.ref a)] H
    refine wb_cons ?_
    exists "ni go"
    refine go_new T (Room.mono hr (by decide)) (s2.mono (by decide)) (den_ne q) fun p H' s hp => ?_
    rw [q_neg] at hp
    exact fin p H' (by exists "ni same") hp
theorem ok_abs (T : Ctx K mg) : OkD P w K mg base 10 (He.ma K (aR K) "__abs__") p_Ratio___abs__ [] (spUn K Rat.abs) := by
  obtain ⟨fd, F⟩ := F_Ratio___abs__ T
  refine ⟨⟨fd, [], fn_go (k := 9) F sc_Ratio___abs__ nm_Ratio___abs__ ?len ?body, .nil, FunD.bindsN F fun _ _ _ _ _ _ us hl => match us, hl with | [_], _ => rfl⟩, F.kp⟩
  case len =>
    rintro vs H Q E ⟨a, q, rfl, _⟩
    rfl
  case body =>
    intro X e1 e2 e3 e4 e5 S V1 hr vs H Q E hE h
    subst e1 e2 e3 e4 e5
    obtain ⟨a, q, rfl, ha, ⟨s1, s2⟩, fin⟩ := h
    show Wb X _ _ [some (.ref a)] H
    refine wb_cons ?_
    exists "ni go"
    refine go_new T (Room.mono hr (by decide)) (s2.mono (by decide)) (den_ne q) fun p H' s hp => ?_
    rw [q_abs] at hp
    exact fin p H' (by exists "ni same") hp
end
end Rt

/-! RL5: the signs as they are written, the reflected ones. -/
namespace Rt
open PySem PySem.Spec PyProof.Rows L2 Ni Pr
section
variable {X : Cx} {σ : L2.St} {H : Hp} {Q : VK} {a : Addr} {v : V} {q r : Rat} {n : Int}
theorem o_add (T : Ctx X.K X.mg) (hr : Room 10 X.A) (ha : IsR X.K H a q) (hv : IsQ X.K H v r) (mz : Mz q r) (kk : ∀ p H', Same H H' → IsR X.K H' p (q + r) → Q (.ref p) H') : Wo X (binaryOp .Add) (.ref a) v σ H Q :=
  o_bin T (ok_add T) (Sg.of_eq d_add (f_sg_Ratio'__add__ T)) (Sg.of_eq r_add (f_sg_Ratio'__radd__ T)) (find_eq d_add (f_find_int'__add__ T)) (find_eq r_add (f_find_int'__radd__ T)) hr ha hv mz kk
theorem o_sub (T : Ctx X.K X.mg) (hr : Room 10 X.A) (ha : IsR X.K H a q) (hv : IsQ X.K H v r) (mz : Mz q r) (kk : ∀ p H', Same H H' → IsR X.K H' p (q - r) → Q (.ref p) H') : Wo X (binaryOp .Sub) (.ref a) v σ H Q :=
  o_bin T (ok_sub T) (Sg.of_eq d_sub (f_sg_Ratio'__sub__ T)) (Sg.of_eq r_sub (f_sg_Ratio'__rsub__ T)) (find_eq d_sub (f_find_int'__sub__ T)) (find_eq r_sub (f_find_int'__rsub__ T)) hr ha hv mz kk
theorem o_mul (T : Ctx X.K X.mg) (hr : Room 10 X.A) (ha : IsR X.K H a q) (hv : IsQ X.K H v r) (mz : Mz q r) (kk : ∀ p H', Same H H' → IsR X.K H' p (q * r) → Q (.ref p) H') : Wo X (binaryOp .Mult) (.ref a) v σ H Q :=
  o_bin T (ok_mul T) (Sg.of_eq d_mul (f_sg_Ratio'__mul__ T)) (Sg.of_eq r_mul (f_sg_Ratio'__rmul__ T)) (find_eq d_mul (f_find_int'__mul__ T)) (find_eq r_mul (f_find_int'__rmul__ T)) hr ha hv mz kk
theorem i_add (T : Ctx X.K X.mg) (hr : Room 10 X.A) (ha : IsR X.K H a q) (hv : IsQ X.K H v r) (mz : Mz q r) (kk : ∀ p H', Same H H' → IsR X.K H' p (q + r) → Q (.ref p) H') : Wo X (inplaceOp .Add) (.ref a) v σ H Q :=
  i_bin T (ok_add T) (Sg.of_eq d_add (f_sg_Ratio'__add__ T)) (Sg.of_eq r_add (f_sg_Ratio'__radd__ T)) F.fills_int_add (f_noi_Ratio'add T) no_iadd (find_eq r_add (f_find_int'__radd__ T)) hr ha hv mz kk
theorem i_mul (T : Ctx X.K X.mg) (hr : Room 10 X.A) (ha : IsR X.K H a q) (hv : IsQ X.K H v r) (mz : Mz q r) (kk : ∀ p H', Same H H' → IsR X.K H' p (q * r) → Q (.ref p) H') : Wo X (inplaceOp .Mult) (.ref a) v σ H Q :=
  i_bin T (ok_mul T) (Sg.of_eq d_mul (f_sg_Ratio'__mul__ T)) (Sg.of_eq r_mul (f_sg_Ratio'__rmul__ T)) F.fills_int_mul (f_noi_Ratio'mul T) no_imul (find_eq r_mul (f_find_int'__rmul__ T)) hr ha hv mz kk
theorem o_neg (T : Ctx X.K X.mg) (hr : Room 10 X.A) (ha : IsR X.K H a q) (s : Sz q 8990) (kk : ∀ p H', Same H H' → IsR X.K H' p (-q) → Q (.ref p) H') : Wu X (unaryOp .USub) (.ref a) σ H Q := by
  have run := wf_ok (σ := σ) (Q := Q) (vs := [.ref a]) (ok_neg T) hr ⟨a, q, rfl, ha, s, kk⟩
  obtain ⟨dx, e⟩ := ha
  exact wu_neg e (f_sg_Ratio'__neg__ T) run
theorem o_abs (T : Ctx X.K X.mg) (hr : Room 11 X.A) (ha : IsR X.K H a q) (s : Sz q 8990) (kk : ∀ p H', Same H H' → IsR X.K H' p q.abs → Q (.ref p) H') : Wcb X (.builtin "abs") [.ref a] H Q := by
  have run := fun σ' => wfA_ok (σ := σ') (Q := Q) (vs := [.ref a]) (A := X.A.in1) (ok_abs T) hr.in1 rfl ⟨a, q, rfl, ha, s, kk⟩
  obtain ⟨dx, e⟩ := ha
  exact wcb_absO e (f_sg_Ratio'__abs__ T) run
end
section
open PySem PySem.Spec PyProof.Rows L2 Ni Pr Rt
local macro_rules | `(tactic| exists "ni own") => `(tactic| first
  | ((with_reducible refine' o_add ?ni1 ?ni2 ?ni3 ?ni4 ?ni5 ?_); (case ni1 => assumption); (case ni2 => exists "ni room"); (case ni3 => exists "ni keep"); (case ni4 => exists "ni keep"); (case ni5 => assumption))
  | ((with_reducible refine' o_sub ?ni1 ?ni2 ?ni3 ?ni4 ?ni5 ?_); (case ni1 => assumption); (case ni2 => exists "ni room"); (case ni3 => exists "ni keep"); (case ni4 => exists "ni keep"); (case ni5 => assumption))
  | ((with_reducible refine' o_mul ?ni1 ?ni2 ?ni3 ?ni4 ?ni5 ?_); (case ni1 => assumption); (case ni2 => exists "ni room"); (case ni3 => exists "ni keep"); (case ni4 => exists "ni keep"); (case ni5 => assumption))
  | ((with_reducible refine' go_as_ratio ?ni1 ?ni2 ?ni3 ?_); (case ni1 => assumption); (case ni2 => exists "ni room"); (case ni3 => exists "ni keep"); intro _ _ _ _))
section
variable {P : Program} {w : World} {K : PySem.W.Frag} {mg : Str → Option Value} {base : Heap}
theorem ok_radd (T : Ctx K mg) : OkD P w K mg base 15 (He.ma K (aR K) "__radd__") p_Ratio___radd__ [] (spRev K (· + ·)) := by
  obtain ⟨fd, F⟩ := F_Ratio___radd__ T
  refine ⟨⟨fd, [], fn_go (k := 14) F sc_Ratio___radd__ nm_Ratio___radd__ ?len ?body, .nil, FunD.bindsN F fun _ _ _ _ _ _ us hl => match us, hl with | [_, _], _ => rfl⟩, F.kp⟩
  case len =>
    rintro vs H Q E ⟨a, v, q, r, rfl, _⟩
    rfl
  case body =>
    intro X e1 e2 e3 e4 e5 S V1 hr vs H Q E hE h
    subst e1 e2 e3 e4 e5
    obtain ⟨a, v, q, r, rfl, ha, hv, mz, fin⟩ := h
    have mz2 := mz.symm
    show Wb X _ _ [some (.ref a), some v] H
    refine wb_cons ?_
    exists "ni go"
    intro p H1 s1 i1
    rw [Rat.add_comm] at i1
    exact fin p H1 s1 i1
theorem ok_rsub (T : Ctx K mg) : OkD P w K mg base 15 (He.ma K (aR K) "__rsub__") p_Ratio___rsub__ [] (spRev K (· - ·)) := by
  obtain ⟨fd, F⟩ := F_Ratio___rsub__ T
  refine ⟨⟨fd, [], fn_go (k := 14) F sc_Ratio___rsub__ nm_Ratio___rsub__ ?len ?body, .nil, FunD.bindsN F fun _ _ _ _ _ _ us hl => match us, hl with | [_, _], _ => rfl⟩, F.kp⟩
  case len =>
    rintro vs H Q E ⟨a, v, q, r, rfl, _⟩
    rfl
  case body =>
    intro X e1 e2 e3 e4 e5 S V1 hr vs H Q E hE h
    subst e1 e2 e3 e4 e5
    obtain ⟨a, v, q, r, rfl, ha, hv, mz, fin⟩ := h
    have mz2 := mz.symm
    show Wb X _ _ [some (.ref a), some v] H
    refine wb_cons ?_
    exists "ni go"
    intro p H1 s1 i1
    exact fin p H1 (by exists "ni same") i1
theorem ok_rmul (T : Ctx K mg) : OkD P w K mg base 15 (He.ma K (aR K) "__rmul__") p_Ratio___rmul__ [] (spRev K (· * ·)) := by
  obtain ⟨fd, F⟩ := F_Ratio___rmul__ T
  refine ⟨⟨fd, [], fn_go (k := 14) F sc_Ratio___rmul__ nm_Ratio___rmul__ ?len ?body, .nil, FunD.bindsN F fun _ _ _ _ _ _ us hl => match us, hl with | [_, _], _ => rfl⟩, F.kp⟩
  case len =>
    rintro vs H Q E ⟨a, v, q, r, rfl, _⟩
    rfl
  case body =>
    intro X e1 e2 e3 e4 e5 S V1 hr vs H Q E hE h
    subst e1 e2 e3 e4 e5
    obtain ⟨a, v, q, r, rfl, ha, hv, mz, fin⟩ := h
    have mz2 := mz.symm
    show Wb X _ _ [some (.ref a), some v] H
    refine wb_cons ?_
    exists "ni go"
    intro p H1 s1 i1
    rw [Rat.mul_comm] at i1
    exact fin p H1 s1 i1
end
end
section
variable {X : Cx} {σ : L2.St} {H : Hp} {Q : VK} {a : Addr} {v : V} {q r : Rat} {n : Int}
theorem l_add (T : Ctx X.K X.mg) (hr : Room 15 X.A) (ha : IsR X.K H a q) (mz : Mz q n) (kk : ∀ p H', Same H H' → IsR X.K H' p ((n : Rat) + q) → Q (.ref p) H') : Wo X (binaryOp .Add) (.int n) (.ref a) σ H Q :=
  o_rev T (ok_radd T) (Sg.of_eq d_add (f_sg_Ratio'__add__ T)) (Sg.of_eq r_add (f_sg_Ratio'__radd__ T)) F.fills_int_add F.slot_int_add up_add hr ha mz kk
theorem l_sub (T : Ctx X.K X.mg) (hr : Room 15 X.A) (ha : IsR X.K H a q) (mz : Mz q n) (kk : ∀ p H', Same H H' → IsR X.K H' p ((n : Rat) - q) → Q (.ref p) H') : Wo X (binaryOp .Sub) (.int n) (.ref a) σ H Q :=
  o_rev T (ok_rsub T) (Sg.of_eq d_sub (f_sg_Ratio'__sub__ T)) (Sg.of_eq r_sub (f_sg_Ratio'__rsub__ T)) F.fills_int_sub F.slot_int_sub up_sub hr ha mz kk
theorem l_mul (T : Ctx X.K X.mg) (hr : Room 15 X.A) (ha : IsR X.K H a q) (mz : Mz q n) (kk : ∀ p H', Same H H' → IsR X.K H' p ((n : Rat) * q) → Q (.ref p) H') : Wo X (binaryOp .Mult) (.int n) (.ref a) σ H Q :=
  o_rev T (ok_rmul T) (Sg.of_eq d_mul (f_sg_Ratio'__mul__ T)) (Sg.of_eq r_mul (f_sg_Ratio'__rmul__ T)) F.fills_int_mul F.slot_int_mul up_mul hr ha mz kk
end
end Rt

/-! RL6: comparisons. -/
namespace Rt
open PySem PySem.Spec PyProof.Rows L2 Ni Pr
def spCmp (K : PySem.W.Frag) (f : Rat → Rat → Bool) : Sp := fun vs H Q _ => ∃ (a : Addr) (v : V) (q r : Rat), vs = [.ref a, v] ∧ IsR K H a q ∧ IsQ K H v r ∧ Mz q r ∧ ∀ H', Same H H' → Q (.bl (f q r)) H'
theorem d_lt {q r : Rat} : decide (q.num * (r.den : Int) < r.num * (q.den : Int)) = decide (q < r) := decide_eq_decide.mpr (Rat.lt_iff q r).symm
theorem d_gt {q r : Rat} : decide (r.num * (q.den : Int) < q.num * (r.den : Int)) = decide (r < q) := decide_eq_decide.mpr (Rat.lt_iff r q).symm
theorem d_le {q r : Rat} : decide (q.num * (r.den : Int) ≤ r.num * (q.den : Int)) = decide (q ≤ r) := decide_eq_decide.mpr (Rat.le_iff q r).symm
theorem d_ge {q r : Rat} : decide (r.num * (q.den : Int) ≤ q.num * (r.den : Int)) = decide (r ≤ q) := decide_eq_decide.mpr (Rat.le_iff r q).symm
theorem q_ext {q r : Rat} (h1 : q.num = r.num) (h2 : (q.den : Int) = (r.den : Int)) : q = r := Rat.ext h1 (by omega)
section
variable {P : Program} {w : World} {K : PySem.W.Frag} {mg : Str → Option Value} {base : Heap}
theorem ok_lt (T : Ctx K mg) : OkD P w K mg base 10 (He.ma K (aR K) "__lt__") p_Ratio___lt__ [] (spCmp K (fun q r => decide (q < r))) := by
  obtain ⟨fd, F⟩ := F_Ratio___lt__ T
  refine ⟨⟨fd, [], fn_go (k := 9) F sc_Ratio___lt__ nm_Ratio___lt__ ?len ?body, .nil, FunD.bindsN F fun _ _ _ _ _ _ us hl => match us, hl with | [_, _], _ => rfl⟩, F.kp⟩
  case len =>
    rintro vs H Q E ⟨a, v, q, r, rfl, _⟩
    rfl
  case body =>
    intro X e1 e2 e3 e4 e5 S V1 hr vs H Q E hE h
    subst e1 e2 e3 e4 e5
    obtain ⟨a, v, q, r, rfl, ha, hv, ⟨k, m, ⟨k1, k2⟩, ⟨m1, m2⟩, hkm⟩, fin⟩ := h
    show Wb X _ _ [some (.ref a), some v] H
    refine wb_cons ?_
    exists "ni go"
    rw [d_lt]
    exact fin _ (by exists "ni same")
theorem ok_le (T : Ctx K mg) : OkD P w K mg base 10 (He.ma K (aR K) "__le__") p_Ratio___le__ [] (spCmp K (fun q r => decide (q ≤ r))) := by
  obtain ⟨fd, F⟩ := F_Ratio___le__ T
  refine ⟨⟨fd, [], fn_go (k := 9) F sc_Ratio___le__ nm_Ratio___le__ ?len ?body, .nil, FunD.bindsN F fun _ _ _ _ _ _ us hl => match us, hl with | [_, _], _ => rfl⟩, F.kp⟩
  case len =>
    rintro vs H Q E ⟨a, v, q, r, rfl, _⟩
    rfl
  case body =>
    intro X e1 e2 e3 e4 e5 S V1 hr vs H Q E hE h
    subst e1 e2 e3 e4 e5
    obtain ⟨a, v, q, r, rfl, ha, hv, ⟨k, m, ⟨k1, k2⟩, ⟨m1, m2⟩, hkm⟩, fin⟩ := h
    show Wb X _ _ [some (.ref a), some v] H
    refine wb_cons ?_
    exists "ni go"
    rw [d_le]
    exact fin _ (by exists "ni same")
theorem ok_gt (T : Ctx K mg) : OkD P w K mg base 10 (He.ma K (aR K) "__gt__") p_Ratio___gt__ [] (spCmp K (fun q r => decide (r < q))) := by
  obtain ⟨fd, F⟩ := F_Ratio___gt__ T
  refine ⟨⟨fd, [], fn_go (k := 9) F sc_Ratio___gt__ nm_Ratio___gt__ ?len ?body, .nil, FunD.bindsN F fun _ _ _ _ _ _ us hl => match us, hl with | [_, _], _ => rfl⟩, F.kp⟩
  case len =>
    rintro vs H Q E ⟨a, v, q, r, rfl, _⟩
    rfl
  case body =>
    intro X e1 e2 e3 e4 e5 S V1 hr vs H Q E hE h
    subst e1 e2 e3 e4 e5
    obtain ⟨a, v, q, r, rfl, ha, hv, ⟨k, m, ⟨k1, k2⟩, ⟨m1, m2⟩, hkm⟩, fin⟩ := h
    show Wb X _ _ [some (.ref a), some v] H
    refine wb_cons ?_
    exists "ni go"
    rw [d_gt]
    exact fin _ (by exists "ni same")
theorem ok_ge (T : Ctx K mg) : OkD P w K mg base 10 (He.ma K (aR K) "__ge__") p_Ratio___ge__ [] (spCmp K (fun q r => decide (r ≤ q))) := by
  obtain ⟨fd, F⟩ := F_Ratio___ge__ T
  refine ⟨⟨fd, [], fn_go (k := 9) F sc_Ratio___ge__ nm_Ratio___ge__ ?len ?body, .nil, FunD.bindsN F fun _ _ _ _ _ _ us hl => match us, hl with | [_, _], _ => rfl⟩, F.kp⟩
  case len =>
    rintro vs H Q E ⟨a, v, q, r, rfl, _⟩
    rfl
  case body =>
    intro X e1 e2 e3 e4 e5 S V1 hr vs H Q E hE h
    subst e1 e2 e3 e4 e5
    obtain ⟨a, v, q, r, rfl, ha, hv, ⟨k, m, ⟨k1, k2⟩, ⟨m1, m2⟩, hkm⟩, fin⟩ := h
    show Wb X _ _ [some (.ref a), some v] H
    refine wb_cons ?_
    exists "ni go"
    rw [d_ge]
    exact fin _ (by exists "ni same")
theorem ok_eq (T : Ctx K mg) : OkD P w K mg base 10 (He.ma K (aR K) "__eq__") p_Ratio___eq__ [] (spCmp K (fun q r => decide (q = r))) := by
  obtain ⟨fd, F⟩ := F_Ratio___eq__ T
  refine ⟨⟨fd, [], fn_go (k := 9) F sc_Ratio___eq__ nm_Ratio___eq__ ?len ?body, .nil, FunD.bindsN F fun _ _ _ _ _ _ us hl => match us, hl with | [_, _], _ => rfl⟩, F.kp⟩
  case len =>
    rintro vs H Q E ⟨a, v, q, r, rfl, _⟩
    rfl
  case body =>
    intro X e1 e2 e3 e4 e5 S V1 hr vs H Q E hE h
    subst e1 e2 e3 e4 e5
    obtain ⟨a, v, q, r, rfl, ha, hv, ⟨k, m, ⟨k1, k2⟩, ⟨m1, m2⟩, hkm⟩, fin⟩ := h
    show Wb X _ _ [some (.ref a), some v] H
    refine wb_cons ?_
    exists "ni go"
    refine go_is_number T (Room.mono hr (by decide)) hv ?_
    exists "ni go"
    refine if_d (fun z1 => ?_) (fun z1 => ?_)
    · exists "ni go"
      have e : decide ((q.den : Int) = (r.den : Int)) = decide (q = r) := decide_eq_decide.mpr ⟨fun z2 => q_ext z1 z2, fun z2 => by rw [z2]⟩
      rw [e]
      exact fin _ (by exists "ni same")
    · have e : decide (q = r) = false := decide_eq_false fun z2 => z1 (by rw [z2])
      dsimp only at fin
      rw [e] at fin
      exact fin _ (by exists "ni same")
end
section
variable {X : Cx} {σ : L2.St} {H : Hp} {Q : VK} {cop : CmpOp} {a f : Addr} {v : V} {q r : Rat} {p : Rat → Rat → Bool} {k : Nat} {ps : List Str} {n : Int} {idl : String}
theorem nf_self {K : PySem.W.Frag} {C : Addr} : PySem.W.notFirst K C (.ref C) = true := by simp [PySem.W.notFirst]
theorem c_cmp (T : Ctx X.K X.mg) (O : OkD X.prog X.w X.K X.mg X.base k f ps [] (spCmp X.K p)) (g : Sg X.K (aR X.K) (cmpInfo cop).2.1 f) (hr : Room k X.A) (ha : IsR X.K H a q) (hv : IsQ X.K H v r) (mz : Mz q r) (kk : ∀ H', Same H H' → Q (.bl (p q r)) H') :
    Wo X (richCompare cop) (.ref a) v σ H Q := by
  have run := wf_ok (σ := σ) (Q := Q) (vs := [.ref a, v]) O hr ⟨a, v, q, r, rfl, ha, hv, mz, kk⟩
  obtain ⟨dx, e⟩ := ha
  rcases hv with ⟨n, rfl, rfl⟩ | ⟨b, rfl, dy, e2⟩
  · exact wo_cmp hr e (fun pins s u I r => PySem.W.Looks.of_pure (type_int u r)) (f_nf_Ratio'int T) g run
  · refine wo_cmp hr e (tb := .ref (aR X.K)) (fun pins s u I r => ?_) nf_self g run
    cases r
    obtain ⟨od, J⟩ := inst_at I e2
    exact J.type
theorem c_cmpR (T : Ctx X.K X.mg) (O : OkD X.prog X.w X.K X.mg X.base k f ps [] (spCmp X.K p)) (g : Sg X.K (aR X.K) (cmpInfo cop).2.2 f) (hl : Slot "int" (cmpInfo cop).2.1 idl) (up : GivesUp idl) (hr : Room k X.A) (ha : IsR X.K H a q) (mz : Mz q n)
    (kk : ∀ H', Same H H' → Q (.bl (p q n)) H') : Wo X (richCompare cop) (.int n) (.ref a) σ H Q := by
  have run := wf_ok (σ := σ) (Q := Q) (vs := [.ref a, .int n]) O hr ⟨a, .int n, q, n, rfl, ha, .inl ⟨n, rfl, rfl⟩, mz, kk⟩
  obtain ⟨dx, e⟩ := ha
  exact wo_cmpR hr e g (f_sub_Ratio'int T) hl up run
theorem c_ne (T : Ctx X.K X.mg) (hr : Room 11 X.A) (ha : IsR X.K H a q) (hv : IsQ X.K H v r) (mz : Mz q r) (kk : ∀ H', Same H H' → Q (.bl (!decide (q = r))) H') : Wo X (compareOp .NotEq) (.ref a) v σ H Q := by
  have run := wfA_ok (σ := σ) (A := X.A.in1) (Q := fun v H' => ∃ c, v = .bl c ∧ Q (.bl (!c)) H') (vs := [.ref a, v]) (ok_eq T) hr.in1 rfl ⟨a, v, q, r, rfl, ha, hv, mz, fun H' s => ⟨_, rfl, kk H' s⟩⟩
  obtain ⟨dx, e⟩ := ha
  rcases hv with ⟨n, rfl, rfl⟩ | ⟨b, rfl, dy, e2⟩
  · exact wo_neL hr e (fun pins s u I r => PySem.W.Looks.of_pure (type_int u r)) (f_nf_Ratio'int T) (f_neb_Ratio T) (f_sg_Ratio'__eq__ T) run
  · refine wo_neL hr e (tb := .ref (aR X.K)) (fun pins s u I r => ?_) nf_self (f_neb_Ratio T) (f_sg_Ratio'__eq__ T) run
    cases r
    obtain ⟨od, J⟩ := inst_at I e2
    exact J.type
theorem c_neR (T : Ctx X.K X.mg) (hr : Room 11 X.A) (ha : IsR X.K H a q) (mz : Mz q n) (kk : ∀ H', Same H H' → Q (.bl (!decide (q = n))) H') : Wo X (compareOp .NotEq) (.int n) (.ref a) σ H Q := by
  have run := wfA_ok (σ := σ) (A := X.A.in1) (Q := fun v H' => ∃ c, v = .bl c ∧ Q (.bl (!c)) H') (vs := [.ref a, .int n]) (ok_eq T) hr.in1 rfl ⟨a, .int n, q, n, rfl, ha, .inl ⟨n, rfl, rfl⟩, mz, fun H' s => ⟨_, rfl, kk H' s⟩⟩
  obtain ⟨dx, e⟩ := ha
  exact wo_neR hr e (f_neb_Ratio T) (f_sg_Ratio'__eq__ T) (f_sub_Ratio'int T) run
theorem c_lt (T : Ctx X.K X.mg) (hr : Room 10 X.A) (ha : IsR X.K H a q) (hv : IsQ X.K H v r) (mz : Mz q r) (kk : ∀ H', Same H H' → Q (.bl (decide (q < r))) H') : Wo X (compareOp .Lt) (.ref a) v σ H Q :=
  c_cmp (cop := .Lt) T (ok_lt T) (Sg.of_eq (by decide +kernel) (f_sg_Ratio'__lt__ T)) hr ha hv mz kk
theorem c_ltR (T : Ctx X.K X.mg) (hr : Room 10 X.A) (ha : IsR X.K H a q) (mz : Mz q n) (kk : ∀ H', Same H H' → Q (.bl (decide ((n : Rat) < q))) H') : Wo X (compareOp .Lt) (.int n) (.ref a) σ H Q :=
  c_cmpR (cop := .Lt) T (ok_gt T) (Sg.of_eq (by decide +kernel) (f_sg_Ratio'__gt__ T)) F.slot_int_lt up_lt hr ha mz kk
theorem c_le (T : Ctx X.K X.mg) (hr : Room 10 X.A) (ha : IsR X.K H a q) (hv : IsQ X.K H v r) (mz : Mz q r) (kk : ∀ H', Same H H' → Q (.bl (decide (q ≤ r))) H') : Wo X (compareOp .LtE) (.ref a) v σ H Q :=
  c_cmp (cop := .LtE) T (ok_le T) (Sg.of_eq (by decide +kernel) (f_sg_Ratio'__le__ T)) hr ha hv mz kk
theorem c_leR (T : Ctx X.K X.mg) (hr : Room 10 X.A) (ha : IsR X.K H a q) (mz : Mz q n) (kk : ∀ H', Same H H' → Q (.bl (decide ((n : Rat) ≤ q))) H') : Wo X (compareOp .LtE) (.int n) (.ref a) σ H Q :=
  c_cmpR (cop := .LtE) T (ok_ge T) (Sg.of_eq (by decide +kernel) (f_sg_Ratio'__ge__ T)) F.slot_int_le up_le hr ha mz kk
theorem c_gt (T : Ctx X.K X.mg) (hr : Room 10 X.A) (ha : IsR X.K H a q) (hv : IsQ X.K H v r) (mz : Mz q r) (kk : ∀ H', Same H H' → Q (.bl (decide (r < q))) H') : Wo X (compareOp .Gt) (.ref a) v σ H Q :=
  c_cmp (cop := .Gt) T (ok_gt T) (Sg.of_eq (by decide +kernel) (f_sg_Ratio'__gt__ T)) hr ha hv mz kk
theorem c_gtR (T : Ctx X.K X.mg) (hr : Room 10 X.A) (ha : IsR X.K H a q) (mz : Mz q n) (kk : ∀ H', Same H H' → Q (.bl (decide (q < n))) H') : Wo X (compareOp .Gt) (.int n) (.ref a) σ H Q :=
  c_cmpR (cop := .Gt) T (ok_lt T) (Sg.of_eq (by decide +kernel) (f_sg_Ratio'__lt__ T)) F.slot_int_gt up_gt hr ha mz kk
theorem c_ge (T : Ctx X.K X.mg) (hr : Room 10 X.A) (ha : IsR X.K H a q) (hv : IsQ X.K H v r) (mz : Mz q r) (kk : ∀ H', Same H H' → Q (.bl (decide (r ≤ q))) H') : Wo X (compareOp .GtE) (.ref a) v σ H Q :=
  c_cmp (cop := .GtE) T (ok_ge T) (Sg.of_eq (by decide +kernel) (f_sg_Ratio'__ge__ T)) hr ha hv mz kk
theorem c_geR (T : Ctx X.K X.mg) (hr : Room 10 X.A) (ha : IsR X.K H a q) (mz : Mz q n) (kk : ∀ H', Same H H' → Q (.bl (decide (q ≤ n))) H') : Wo X (compareOp .GtE) (.int n) (.ref a) σ H Q :=
  c_cmpR (cop := .GtE) T (ok_le T) (Sg.of_eq (by decide +kernel) (f_sg_Ratio'__le__ T)) F.slot_int_ge up_ge hr ha mz kk
theorem c_eq (T : Ctx X.K X.mg) (hr : Room 10 X.A) (ha : IsR X.K H a q) (hv : IsQ X.K H v r) (mz : Mz q r) (kk : ∀ H', Same H H' → Q (.bl (decide (q = r))) H') : Wo X (compareOp .Eq) (.ref a) v σ H Q :=
  c_cmp (cop := .Eq) T (ok_eq T) (Sg.of_eq (by decide +kernel) (f_sg_Ratio'__eq__ T)) hr ha hv mz kk
theorem c_eqR (T : Ctx X.K X.mg) (hr : Room 10 X.A) (ha : IsR X.K H a q) (mz : Mz q n) (kk : ∀ H', Same H H' → Q (.bl (decide (q = n))) H') : Wo X (compareOp .Eq) (.int n) (.ref a) σ H Q :=
  c_cmpR (cop := .Eq) T (ok_eq T) (Sg.of_eq (by decide +kernel) (f_sg_Ratio'__eq__ T)) F.slot_int_eq up_eq hr ha mz kk
end
end Rt

/-! RL7: bool, == with what is no number, greatest. -/
section
open PySem PySem.Spec PyProof.Rows L2 Ni Pr Rt
local macro_rules | `(tactic| exists "ni own") => `(tactic| first
  | ((with_reducible refine' fl_top ?ni1 ?ni2 ?_); (case ni1 => assumption); (case ni2 => exists "ni keep"))
  | ((with_reducible refine' fl_bot ?ni1 ?ni2 ?_); (case ni1 => assumption); (case ni2 => exists "ni keep"))
  | (with_reducible refine' wcb_boolB ?_)
  | ((with_reducible refine' go_as_ratio ?ni1 ?ni2 ?ni3 ?_); (case ni1 => assumption); (case ni2 => exists "ni room"); (case ni3 => exists "ni keep"); intro _ _ _ _))
namespace Rt
def spBool (K : PySem.W.Frag) : Sp := fun vs H Q _ => ∃ (a : Addr) (q : Rat), vs = [.ref a] ∧ IsR K H a q ∧ Q (.bl (!decide (q = 0))) H
/-- no number -/
def NonN (K : PySem.W.Frag) (H : Hp) (v : V) : Prop := ∃ t, TyX K H v t ∧ PySem.W.kitOne K t (.type "int") = some false ∧ PySem.W.kitOne K t (.ref (aR K)) = some false
def spNone (K : PySem.W.Frag) : Sp := fun vs H Q _ => ∃ v : V, vs = [v] ∧ NonN K H v ∧ Q (.bl false) H
def spEqN (K : PySem.W.Frag) : Sp := fun vs H Q _ => ∃ (a : Addr) (v : V), vs = [.ref a, v] ∧ NonN K H v ∧ Q (.bl false) H
section
variable {P : Program} {w : World} {K : PySem.W.Frag} {mg : Str → Option Value} {base : Heap}
theorem ok_bool (T : Ctx K mg) : OkD P w K mg base 2 (He.ma K (aR K) "__bool__") p_Ratio___bool__ [] (spBool K) := by
  obtain ⟨fd, F⟩ := F_Ratio___bool__ T
  refine ⟨⟨fd, [], fn_go (k := 1) F sc_Ratio___bool__ nm_Ratio___bool__ ?len ?body, .nil, FunD.bindsN F fun _ _ _ _ _ _ us hl => match us, hl with | [_], _ => rfl⟩, F.kp⟩
  case len =>
    rintro vs H Q E ⟨a, q, rfl, _⟩
    rfl
  case body =>
    intro X e1 e2 e3 e4 e5 S V1 hr vs H Q E hE h
    subst e1 e2 e3 e4 e5
    obtain ⟨a, q, rfl, ha, k⟩ := h
    show Wb X _ _ [some (.ref a)] H
    refine wb_cons ?_
    exists "ni go"
    rw [show decide (q.num = 0) = decide (q = 0) from decide_eq_decide.mpr Rat.num_eq_zero]
    exact k
theorem ok_is_none (T : Ctx K mg) : OkD P w K mg base 1 (He.ga K "is_number") p_is_number [] (spNone K) := by
  obtain ⟨fd, F⟩ := F_is_number T
  refine ⟨⟨fd, [], fn_go (k := 0) F sc_is_number nm_is_number ?len ?body, .nil, FunD.bindsN F fun _ _ _ _ _ _ us hl => match us, hl with | [_], _ => rfl⟩, F.kp⟩
  case len =>
    rintro vs H Q E ⟨v, rfl, _⟩
    rfl
  case body =>
    intro X e1 e2 e3 e4 e5 S V1 hr vs H Q E hE h
    subst e1 e2 e3 e4 e5
    obtain ⟨v, rfl, ⟨t, ty, k1, k2⟩, fin⟩ := h
    show Wb X _ _ [some v] H
    refine wb_cons ?_
    exists "ni go"
    refine wcb_isi (.ty "int") ty k1 ?_
    exists "ni go"
    refine wcb_isi (.own _) ty k2 ?_
    exact fin
end
section
variable {X : Cx} {σ : L2.St} {H : Hp} {Q : VK} {v : V}
theorem go_is_none (T : Ctx X.K X.mg) (hr : Room 1 X.A) (hv : NonN X.K H v) (k : Q (.bl false) H) : Wf X (.ref (He.ga X.K "is_number")) [v] σ H Q := wf_ok (ok_is_none T) hr ⟨v, rfl, hv, k⟩
end
section
variable {P : Program} {w : World} {K : PySem.W.Frag} {mg : Str → Option Value} {base : Heap}
theorem ok_eqN (T : Ctx K mg) : OkD P w K mg base 10 (He.ma K (aR K) "__eq__") p_Ratio___eq__ [] (spEqN K) := by
  obtain ⟨fd, F⟩ := F_Ratio___eq__ T
  refine ⟨⟨fd, [], fn_go (k := 9) F sc_Ratio___eq__ nm_Ratio___eq__ ?len ?body, .nil, FunD.bindsN F fun _ _ _ _ _ _ us hl => match us, hl with | [_, _], _ => rfl⟩, F.kp⟩
  case len =>
    rintro vs H Q E ⟨a, v, rfl, _⟩
    rfl
  case body =>
    intro X e1 e2 e3 e4 e5 S V1 hr vs H Q E hE h
    subst e1 e2 e3 e4 e5
    obtain ⟨a, v, rfl, nn, fin⟩ := h
    show Wb X _ _ [some (.ref a), some v] H
    refine wb_cons ?_
    exists "ni go"
    refine go_is_none T (Room.mono hr (by decide)) nn ?_
    exists "ni go"
    exact fin
end
end Rt

end

end

/-! LH: the law's own helpers: the draws from the script. -/
namespace Lh
open PySem PySem.Spec PyProof.Rows L2 Ni Pr
/-- the pool at P: the script's copy, a place, a rest, a turn -/
def PoolS (H : Hp) (P s : Addr) : Prop := ∃ (ns : List Int) (i c t : Int), H P = some (.lst [.ref s, .int i, .int c, .int t]) ∧ H s = some (.lst (ns.map V.int)) ∧ s ≠ P ∧ 0 ≤ i ∧ 0 ≤ c
def Pool (H : Hp) (P : Addr) : Prop := ∃ s : Addr, PoolS H P s
/-- all but the pool stands -/
def Mild (P : Addr) (H H' : Hp) : Prop := ∀ b o, H b = some o → b ≠ P → H' b = some o
theorem mild_upd (P : Addr) (H : Hp) (o : HO) : Mild P H (upd H P o) := fun b u e n => by rw [upd_ne n]; exact e
theorem Mild.trans {P : Addr} {H H1 H2 : Hp} (a : Mild P H H1) (b : Mild P H1 H2) : Mild P H H2 := fun c o e n => b c o (a c o e n) n
theorem Mild.refl (P : Addr) (H : Hp) : Mild P H H := fun _ _ e _ => e
theorem at_ints {ns : List Int} {i : Int} (h0 : 0 ≤ i) (h1 : i < (ns.length : Int)) : ∃ n : Int, atI (ns.map V.int) i = some (.int n) := by
  obtain ⟨j, rfl⟩ := Int.eq_ofNat_of_zero_le h0
  have hj : j < ns.length := by omega
  exact ⟨ns[j], atI_nat (by rw [List.getElem?_map, List.getElem?_eq_getElem hj]; rfl)⟩
def spMixed : Sp := fun vs H Q _ => ∃ c t : Int, vs = [.int c, .int t] ∧ ∀ d : Int, Q (.int d) H
def spDraw : Sp := fun vs H Q _ => ∃ (P s : Addr) (m : Int), vs = [.ref P, .int m] ∧ PoolS H P s ∧ 0 < m ∧ Bd m 8999 ∧ ∀ (d : Int) H', 0 ≤ d → d < m → PoolS H' P s → Mild P H H' → Q (.int d) H'
section
variable {P : Program} {w : World} {K : PySem.W.Frag} {mg : Str → Option Value} {base : Heap}
theorem ok_mixed (T : Ctx K mg) : OkD P w K mg base 1 (He.ga K "_law_mixed") p__law_mixed [] spMixed := by
  obtain ⟨fd, F⟩ := F__law_mixed T
  refine ⟨⟨fd, [], fn_go (k := 0) F sc__law_mixed nm__law_mixed ?len ?body, .nil, FunD.bindsN F fun _ _ _ _ _ _ us hl => match us, hl with | [_, _], _ => rfl⟩, F.kp⟩
  case len =>
    rintro vs H Q E ⟨c, t, rfl, _⟩
    rfl
  case body =>
    intro X e1 e2 e3 e4 e5 S V1 hr vs H Q E hE h
    subst e1 e2 e3 e4 e5
    obtain ⟨c, t, rfl, k⟩ := h
    show Wb X _ _ [some (.int c), some (.int t), none, none] H
    refine wb_cons ?_
    exists "ni go"
    exact k _
end
section
variable {X : Cx} {σ : L2.St} {H : Hp} {Q : VK}
theorem go_mixed (T : Ctx X.K X.mg) (hr : Room 1 X.A) {c t : Int} (k : ∀ d : Int, Q (.int d) H) : Wf X (.ref (He.ga X.K "_law_mixed")) [.int c, .int t] σ H Q := wf_ok (ok_mixed T) hr ⟨c, t, rfl, k⟩
end
end Lh

section
open PySem PySem.Spec PyProof.Rows L2 Ni Pr Lh
local macro_rules | `(tactic| exists "ni own") => `(tactic| first
  | ((with_reducible refine' go_mixed ?ni1 ?ni2 ?_); (case ni1 => assumption); (case ni2 => exists "ni room"); intro _))
namespace Lh
section
variable {P : Program} {w : World} {K : PySem.W.Frag} {mg : Str → Option Value} {base : Heap}
theorem ok_draw (T : Ctx K mg) : OkD P w K mg base 5 (He.ga K "_law_draw") p__law_draw [] spDraw := by
  obtain ⟨fd, F⟩ := F__law_draw T
  refine ⟨⟨fd, [], fn_go (k := 4) F sc__law_draw nm__law_draw ?len ?body, .nil, FunD.bindsN F fun _ _ _ _ _ _ us hl => match us, hl with | [_, _], _ => rfl⟩, F.kp⟩
  case len =>
    rintro vs H Q E ⟨P, s, m, rfl, _⟩
    rfl
  case body =>
    intro X e1 e2 e3 e4 e5 S V1 hr vs H Q E hE h
    subst e1 e2 e3 e4 e5
    obtain ⟨P, s, m, rfl, ⟨ns, i, c, t, hP, hs, ne, i0, c0⟩, m0, mb, k⟩ := h
    show Wb X _ _ [some (.ref P), some (.int m), none, none] H
    refine wb_cons ?_
    exists "ni go"
    have k' : ∀ (d i c t : Int) (o : List V), 0 ≤ d → d < m → o = [.ref s, .int i, .int c, .int t] → 0 ≤ i → 0 ≤ c → ∀ H', Mild P H H' → H' P = some (.lst o) → Q (.int d) H' := by
      intro d i c t o h1 h2 e h3 h4 H' h5 h6
      subst e
      exact k d H' h1 h2 ⟨ns, i, c, t, h6, h5 s _ hs ne, ne, h3, h4⟩ h5
    have fin : ∀ (x i' c' t' : Int) (o : List V) (u : HO), o = [.ref s, .int i', .int c', .int t'] → 0 ≤ i' → 0 ≤ c' → Q (.int (x % m)) (upd H P (.lst o)) := by
      intro x i' c' t' o u e h3 h4
      exact k' _ i' c' t' o (Int.emod_nonneg _ (by omega)) (Int.emod_lt_of_pos _ m0) e h3 h4 _ (mild_upd P H _) upd_same
    refine if_d (fun z => ?_) (fun z => ?_)
    · exists "ni go"
      refine if_d (fun z2 => ?_) (fun z2 => ?_)
      · exists "ni go"
        obtain ⟨x, hx⟩ := at_ints i0 (show i < (ns.length : Int) by simpa using z2)
        refine ix_lh (by exists "ni heap") hx ?_
        exists "ni go"
        refine if_d (fun z3 => ?_) (fun z3 => ?_)
        · exists "ni go"
          rw [upd_upd]
          exact fin _ (i + 1) c (t + 1) _ (.lst []) rfl (by omega) c0
        · have x0 : 0 < x := by
            have e : (10 : Int) ^ Int.toNat 18 = 1000000000000000000 := by decide
            omega
          exists "ni go"
          refine if_d (fun z4 => ?_) (fun z4 => absurd x0 z4)
          exists "ni go"
          refine wo_div m0 mb (by decide) ?_
          exists "ni go"
          simp only [upd_upd]
          exact fin x (i + 1) (x / m) (t + 1) _ (.lst []) rfl (by omega) (Int.ediv_nonneg (by omega) (by omega))
      · exists "ni go"
        refine if_d (fun z4 => absurd z4 (by omega)) (fun z4 => ?_)
        exists "ni go"
        intro p hp
        refine wo_eq_nil hr (.of (by exists "ni heap")) upd_same ?_
        exists "ni go"
        refine if_d (fun z5 => ?_) (fun z5 => ?_)
        · exists "ni go"
          refine k' (1 % m) i c (t + 1) _ (Int.emod_nonneg _ (by omega)) (Int.emod_lt_of_pos _ m0) rfl i0 c0 _ ?_ (by exists "ni heap")
          intro b o e n
          exact at_mono (same_new (by assumption)) (by rw [upd_ne n]; exact e)
        · exists "ni go"
          have l0 : 0 < ((ns.map V.int).length : Int) := by
            rw [List.length_map]
            have : ns.length ≠ 0 := fun e => z5 (List.eq_nil_of_length_eq_zero e)
            omega
          refine wo_mod l0 ?_
          obtain ⟨x, hx⟩ := at_ints (ns := ns) (i := (t + 1) % ((ns.map V.int).length : Int)) (Int.emod_nonneg _ (by omega)) (by have := Int.emod_lt_of_pos (t + 1) l0; rw [List.length_map] at *; omega)
          refine ix_lh (by exists "ni heap") hx ?_
          exists "ni go"
          refine k' _ i c (t + 1) _ (Int.emod_nonneg _ (by omega)) (Int.emod_lt_of_pos _ m0) rfl i0 c0 _ ?_ (by exists "ni heap")
          intro b o e n
          exact at_mono (same_new (by assumption)) (by rw [upd_ne n]; exact e)
    · exists "ni go"
      refine if_d (fun z4 => ?_) (fun z4 => absurd (show 0 < c by omega) z4)
      exists "ni go"
      refine wo_div m0 mb (by decide) ?_
      exists "ni go"
      simp only [upd_upd]
      exact fin c i (c / m) (t + 1) _ (.lst []) rfl i0 (Int.ediv_nonneg c0 (by omega))
end
end Lh

namespace Lh
open PySem PySem.Spec PyProof.Rows L2 Ni Pr
section
variable {X : Cx} {σ : L2.St} {H : Hp} {Q : VK}
theorem go_draw (T : Ctx X.K X.mg) (hr : Room 5 X.A) {P : Addr} {m : Int} (hP : Pool H P) (m0 : 0 < m) (mb : Bd m 8999) (k : ∀ (d : Int) H', 0 ≤ d → d < m → Pool H' P → Mild P H H' → Q (.int d) H') :
    Wf X (.ref (He.ga X.K "_law_draw")) [.ref P, .int m] σ H Q := by
  obtain ⟨s, hs⟩ := hP
  exact wf_ok (ok_draw T) hr ⟨P, s, m, rfl, hs, m0, mb, fun d H' h1 h2 h3 h4 => k d H' h1 h2 ⟨s, h3⟩ h4⟩
theorem go_drawS (T : Ctx X.K X.mg) (hr : Room 5 X.A) {P s : Addr} {m : Int} (hP : PoolS H P s) (m0 : 0 < m) (mb : Bd m 8999) (k : ∀ (d : Int) H', 0 ≤ d → d < m → PoolS H' P s → Mild P H H' → Q (.int d) H') :
    Wf X (.ref (He.ga X.K "_law_draw")) [.ref P, .int m] σ H Q := wf_ok (ok_draw T) hr ⟨P, s, m, rfl, hP, m0, mb, k⟩
end
end Lh

end

/-! RP: the operators over fractions, values. -/
namespace Rt
open PySem PySem.Spec PyProof.Rows L2 Ni Pr Pu
section
variable {X : Cx} {ct : Ct} {F H H' : Hp} {ρ : Pu.Env} {σ : L2.St} {Q : PV → Prop}
theorem p_isR {r : Rat} {v : V} (S : Stt X ct F ρ σ H) (h : Rep ⟨X.K, ct.pl⟩ F (.rat r) v) : ∃ a, v = .ref a ∧ IsR X.K H a r := by
  obtain ⟨a, dx, rfl, e⟩ := rep_rat S.sub h
  exact ⟨a, rfl, dx, by rw [e, rf_eq]; rfl⟩
theorem p_post {r : Rat} (S : Stt X ct F ρ σ H) (q : Q (.rat r)) : ∀ p H', Same H H' → IsR X.K H' p r → Post X ct F H ρ σ Q (.ref p) H' := by
  rintro p H' s ⟨dx, e⟩
  rw [rf_eq] at e
  exact Post.rat S s e q
theorem p_postB {b : Bool} (S : Stt X ct F ρ σ H) (q : Q (.bl b)) : ∀ H', Same H H' → Post X ct F H ρ σ Q (.bl b) H' := fun H' s => Post.val S s (x := .bl b) rfl q
theorem Mz.symm' {q r : Rat} (h : Mz q r) : Mz r q := let ⟨k, m, a, b, l⟩ := h; ⟨m, k, b, a, by omega⟩
theorem p_binR (T : Ctx X.K X.mg) (hr : Room 15 X.A) {op : Operator} {q r : Rat} {a : Addr} {v : V} (S : Stt X ct F ρ σ H) (ha : IsR X.K H a q) (hv : IsQ X.K H v r) (h : binR op q r Q) : Wo X (binaryOp op) (.ref a) v σ H (Post X ct F H ρ σ Q) := by
  have hr1 : Room 10 X.A := Room.mono hr (by decide)
  cases op with
  | Add => exact o_add T hr1 ha hv h.1 (p_post S h.2)
  | Sub => exact o_sub T hr1 ha hv h.1 (p_post S h.2)
  | Mult => exact o_mul T hr1 ha hv h.1 (p_post S h.2)
  | _ => exact h.elim
theorem p_binL (T : Ctx X.K X.mg) (hr : Room 15 X.A) {op : Operator} {n : Int} {r : Rat} {a : Addr} (S : Stt X ct F ρ σ H) (ha : IsR X.K H a r) (h : binR op n r Q) : Wo X (binaryOp op) (.int n) (.ref a) σ H (Post X ct F H ρ σ Q) := by
  cases op with
  | Add => exact l_add T hr ha h.1.symm' (p_post S h.2)
  | Sub => exact l_sub T hr ha h.1.symm' (p_post S h.2)
  | Mult => exact l_mul T hr ha h.1.symm' (p_post S h.2)
  | _ => exact h.elim
theorem p_cmpR (T : Ctx X.K X.mg) (hr : Room 15 X.A) {op : CmpOp} {q r : Rat} {a : Addr} {v : V} (S : Stt X ct F ρ σ H) (ha : IsR X.K H a q) (hv : IsQ X.K H v r) (h : cmpR op q r Q) : Wo X (compareOp op) (.ref a) v σ H (Post X ct F H ρ σ Q) := by
  have hr1 : Room 10 X.A := Room.mono hr (by decide)
  cases op with
  | Lt => exact c_lt T hr1 ha hv h.1 (p_postB S h.2)
  | LtE => exact c_le T hr1 ha hv h.1 (p_postB S h.2)
  | Gt => exact c_gt T hr1 ha hv h.1 (p_postB S h.2)
  | GtE => exact c_ge T hr1 ha hv h.1 (p_postB S h.2)
  | Eq => exact c_eq T hr1 ha hv h.1 (p_postB S h.2)
  | NotEq => exact c_ne T (Room.mono hr (by decide)) ha hv h.1 (p_postB S h.2)
  | _ => exact h.elim
theorem nonN_of {tab : TK → TK → Option Bool} (hT : TabOk X.K tab) (S : Stt X ct F ρ σ H) {y : PV} {v : V} (r : Rep ⟨X.K, ct.pl⟩ F y v) (h1 : nonNOk tab = true) (h2 : nonN y = true) : NonN X.K H v := by
  unfold nonNOk at h1
  simp only [List.all_cons, List.all_nil, Bool.and_true, Bool.and_eq_true, decide_eq_true_eq] at h1
  obtain ⟨⟨a1, a2⟩, ⟨b1, b2⟩, ⟨c1, c2⟩, d1, d2⟩ := h1
  cases y with
  | non => exact ⟨_, tk_ty hT S.sub r rfl a1, hT.kit _ _ _ a1, hT.kit _ _ _ a2⟩
  | str z => exact ⟨_, tk_ty hT S.sub r rfl b1, hT.kit _ _ _ b1, hT.kit _ _ _ b2⟩
  | lst z => exact ⟨_, tk_ty hT S.sub r rfl c1, hT.kit _ _ _ c1, hT.kit _ _ _ c2⟩
  | tup z => exact ⟨_, tk_ty hT S.sub r rfl d1, hT.kit _ _ _ d1, hT.kit _ _ _ d2⟩
  | _ => cases h2
theorem nf_non {K : PySem.W.Frag} {mg : Str → Option Value} (T : Pr.Ctx K mg) {y : PV} (h : nonN y = true) : PySem.W.notFirst K (aR K) (.type (tyN y)) = true := by
  cases y with
  | non => exact f_nf_Ratio'NoneType T
  | str z => exact f_nf_Ratio'str T
  | lst z => exact f_nf_Ratio'list T
  | tup z => exact f_nf_Ratio'tuple T
  | _ => cases h
theorem p_bool {q : Rat} {a : Addr} {Q : VK} (T : Ctx X.K X.mg) (hr : Room 4 X.A) (ha : IsR X.K H a q) (h : Q (.bl (!decide (q = 0))) H) : Wcb X (.type "bool") [.ref a] H Q := by
  have h2 := ha
  obtain ⟨dx, e⟩ := ha
  exact wcb_boolO e (f_sg_Ratio'__bool__ T) fun σ' => wfA_ok (σ := σ') (A := X.A.in1.in1) (Q := fun v H' => ∃ b, v = .bl b ∧ Q (.bl b) H') (vs := [.ref a]) (ok_bool T) hr.in1.in1 rfl ⟨a, q, rfl, h2, ⟨_, rfl, h⟩⟩
theorem p_cmpN {tab : TK → TK → Option Bool} (T : Ctx X.K X.mg) (hr : Room 15 X.A) (hT : TabOk X.K tab) {op : CmpOp} {q : Rat} {a : Addr} {y : PV} {v : V} (S : Stt X ct F ρ σ H) (ha : IsR X.K H a q) (ry : Rep ⟨X.K, ct.pl⟩ F y v) (h : cmpN tab op y Q) : Wo X (compareOp op) (.ref a) v σ H (Post X ct F H ρ σ Q) := by
  have hr1 : Room 10 X.A := Room.mono hr (by decide)
  cases op with
  | Eq =>
    have nn := nonN_of hT S ry h.1.1 h.1.2
    have run := wf_ok (σ := σ) (Q := Post X ct F H ρ σ Q) (vs := [.ref a, v]) (ok_eqN T) hr1 ⟨a, v, rfl, nn, Post.at_ S (x := .bl false) rfl h.2⟩
    obtain ⟨dx, e⟩ := ha
    exact wo_cmp hr1 e (typ_non S ry h.1.2) (nf_non T h.1.2) (Sg.of_eq (by decide +kernel) (f_sg_Ratio'__eq__ T)) run
  | NotEq =>
    have nn := nonN_of hT S ry h.1.1 h.1.2
    have run := wfA_ok (σ := σ) (A := X.A.in1) (Q := fun v H' => ∃ c, v = .bl c ∧ Post X ct F H ρ σ Q (.bl (!c)) H') (vs := [.ref a, v]) (ok_eqN T) (Room.mono hr (show 11 ≤ 15 by decide)).in1 rfl ⟨a, v, rfl, nn, ⟨_, rfl, Post.at_ S (x := .bl true) rfl h.2⟩⟩
    obtain ⟨dx, e⟩ := ha
    exact wo_neL (Room.mono hr (show 11 ≤ 15 by decide)) e (typ_non S ry h.1.2) (nf_non T h.1.2) (f_neb_Ratio T) (f_sg_Ratio'__eq__ T) run
  | _ => exact h.elim
theorem p_cmpL (T : Ctx X.K X.mg) (hr : Room 15 X.A) {op : CmpOp} {n : Int} {r : Rat} {a : Addr} (S : Stt X ct F ρ σ H) (ha : IsR X.K H a r) (h : cmpR op n r Q) : Wo X (compareOp op) (.int n) (.ref a) σ H (Post X ct F H ρ σ Q) := by
  have hr1 : Room 10 X.A := Room.mono hr (by decide)
  have sy : ∀ {P : Bool → Prop}, P (decide ((n : Rat) = r)) → P (decide (r = (n : Rat))) := fun {P} z => by
    rw [show decide (r = (n : Rat)) = decide ((n : Rat) = r) from decide_eq_decide.mpr ⟨Eq.symm, Eq.symm⟩]
    exact z
  cases op with
  | Lt => exact c_ltR T hr1 ha h.1.symm' (p_postB S h.2)
  | LtE => exact c_leR T hr1 ha h.1.symm' (p_postB S h.2)
  | Gt => exact c_gtR T hr1 ha h.1.symm' (p_postB S h.2)
  | GtE => exact c_geR T hr1 ha h.1.symm' (p_postB S h.2)
  | Eq => exact c_eqR T hr1 ha h.1.symm' (p_postB S (sy (P := fun b => Q (.bl b)) h.2))
  | NotEq => exact c_neR T (Room.mono hr (by decide)) ha h.1.symm' (p_postB S (sy (P := fun b => Q (.bl (!b))) h.2))
  | _ => exact h.elim
theorem p_iplR (T : Ctx X.K X.mg) (hr : Room 15 X.A) {op : Operator} {q r : Rat} {a : Addr} {v : V} (S : Stt X ct F ρ σ H) (ha : IsR X.K H a q) (hv : IsQ X.K H v r) (h : match op with
    | .Add => Mz q r ∧ Q (.rat (q + r))
    | .Mult => Mz q r ∧ Q (.rat (q * r))
    | _ => False) : Wo X (inplaceOp op) (.ref a) v σ H (Post X ct F H ρ σ Q) := by
  have hr1 : Room 10 X.A := Room.mono hr (by decide)
  cases op with
  | Add => exact i_add T hr1 ha hv h.1 (p_post S h.2)
  | Mult => exact i_mul T hr1 ha hv h.1 (p_post S h.2)
  | _ => exact h.elim
end
section
variable {P : Program} {w : World} {K : PySem.W.Frag} {mg : Str → Option Value} {base : Heap} {tab : TK → TK → Option Bool}
theorem op_ok (T : Ctx K mg) {A : Around} (hr : Room 15 A) (hT : TabOk K tab) : ∀ k, OpOk ⟨P, w, K, mg, base, A⟩ k (opS tab k) := by
  intro k
  refine OpOk.of (fun hf {xs Q E} q => opP_imm tab hf q) ?_
  intro X hb ct F ρ σ H xs vs Q E S rs h0 hE
  have hK : X.K = K := congrArg B6.K hb
  have hA : X.A = A := congrArg B6.A hb
  have hmg : X.mg = mg := congrArg B6.mg hb
  have T : Ctx X.K X.mg := by rw [hK, hmg]; exact T
  have hr : Room 15 X.A := by rw [hA]; exact hr
  have hT : TabOk X.K tab := by rw [hK]; exact hT
  have h : opP tab k xs Q := h0
  clear h0
  unfold opP at h
  split at h
  · obtain ⟨v, u, rfl, r1, r2⟩ := rs.two
    cases r1; cases r2
    exact o_binI S h
  · obtain ⟨v, u, rfl, r1, r2⟩ := rs.two
    obtain ⟨a, rfl, ha⟩ := p_isR S r1
    obtain ⟨c, rfl, hc⟩ := p_isR S r2
    exact p_binR T hr S ha (.inr ⟨c, rfl, hc⟩) h
  · obtain ⟨v, u, rfl, r1, r2⟩ := rs.two
    obtain ⟨a, rfl, ha⟩ := p_isR S r1
    cases r2
    exact p_binR T hr S ha (.inl ⟨_, rfl, rfl⟩) h
  · obtain ⟨v, u, rfl, r1, r2⟩ := rs.two
    obtain ⟨a, rfl, ha⟩ := p_isR S r2
    cases r1
    exact p_binL T hr S ha h
  · obtain ⟨v, u, rfl, r1, r2⟩ := rs.two
    cases r1; cases r2
    exact ipl_int S h
  · obtain ⟨v, u, rfl, r1, r2⟩ := rs.two
    obtain ⟨a, rfl, ha⟩ := p_isR S r1
    obtain ⟨c, rfl, hc⟩ := p_isR S r2
    exact p_iplR T hr S ha (.inr ⟨c, rfl, hc⟩) h
  · obtain ⟨v, u, rfl, r1, r2⟩ := rs.two
    cases r1; cases r2
    exact o_cmpI S h
  · obtain ⟨v, u, rfl, r1, r2⟩ := rs.two
    obtain ⟨a, rfl, ha⟩ := p_isR S r1
    obtain ⟨c, rfl, hc⟩ := p_isR S r2
    exact p_cmpR T hr S ha (.inr ⟨c, rfl, hc⟩) h
  · obtain ⟨v, u, rfl, r1, r2⟩ := rs.two
    obtain ⟨a, rfl, ha⟩ := p_isR S r1
    cases r2
    exact p_cmpR T hr S ha (.inl ⟨_, rfl, rfl⟩) h
  · obtain ⟨v, u, rfl, r1, r2⟩ := rs.two
    obtain ⟨a, rfl, ha⟩ := p_isR S r2
    cases r1
    exact p_cmpL T hr S ha h
  · obtain ⟨v, u, rfl, r1, r2⟩ := rs.two
    obtain ⟨a, rfl, ha⟩ := p_isR S r1
    exact p_cmpN T hr hT S ha r2 h
  · obtain ⟨v, u, rfl, r1, r2⟩ := rs.two
    exact o_cmpD hr S r1 r2 h
  · obtain ⟨v, rfl, r1⟩ := rs.one
    cases r1
    exact wu_negI (Post.at_ S (x := .int _) rfl h)
  · obtain ⟨v, rfl, r1⟩ := rs.one
    obtain ⟨a, rfl, ha⟩ := p_isR S r1
    exact o_neg T (Room.mono hr (by decide)) ha h.1 (p_post S h.2)
  · rename_i b xs
    unfold opB at h
    split at h
    · obtain ⟨v, rfl, r1⟩ := rs.one
      unfold Rep at r1
      obtain ⟨p, ws, rfl, e, r⟩ := r1
      exact wcb_lenL (.of (S.sub _ _ e)) (by rw [← r.len]; exact Post.at_ S (x := .int _) rfl h)
    · obtain ⟨v, rfl, r1⟩ := rs.one
      unfold Rep at r1
      obtain ⟨p, ws, rfl, e, r⟩ := r1
      exact wcb_lenT (.of (S.sub _ _ e)) (by rw [← r.len]; exact Post.at_ S (x := .int _) rfl h)
    · obtain ⟨v, rfl, r1⟩ := rs.one
      cases r1
      exact wcb_abs (Post.at_ S (x := .int _) rfl h)
    · obtain ⟨v, rfl, r1⟩ := rs.one
      obtain ⟨a, rfl, ha⟩ := p_isR S r1
      exact o_abs T (Room.mono hr (by decide)) ha h.1 (p_post S h.2)
    · obtain ⟨v, rfl, r1⟩ := rs.one
      cases r1
      exact wcb_intI (Post.at_ S (x := .int _) rfl h)
    · obtain ⟨v, rfl, r1⟩ := rs.one
      cases r1
      exact ⟨_, call_int1, .inr ⟨_, rfl, Post.at_ S (x := .int _) rfl h⟩⟩
    · obtain ⟨v, rfl, r1⟩ := rs.one
      cases r1
      exact wcb_boolB (Post.at_ S (x := .bl _) rfl h)
    · obtain ⟨v, rfl, r1⟩ := rs.one
      obtain ⟨a, rfl, ha⟩ := p_isR S r1
      exact p_bool T (Room.mono hr (by decide)) ha (Post.at_ S (x := .bl _) rfl h)
    · obtain ⟨v, rfl, r1⟩ := rs.one
      cases r1
      exact wcb_str h.1 (by decide) (Post.at_ S (x := .str _) rfl h.2)
    · obtain ⟨v, u, rfl, r1, r2⟩ := rs.two
      cases r1; cases r2
      exact wcb_gcd (Post.at_ S (x := .int _) rfl h)
    · obtain ⟨v, rfl, r1⟩ := rs.one
      unfold Rep at r1
      obtain ⟨p, ws, rfl, e, r⟩ := r1
      refine ⟨_, call_tuple_of, p, ws, rfl, .inl ⟨.of (S.sub _ _ e), fun l hl => ?_⟩⟩
      obtain ⟨S2, s2⟩ := S.newE (o := .tup ws) hl
      exact ⟨.tup _, _, S2, s2, ⟨l, ws, rfl, upd_same, r.mono s2.s⟩, h⟩
    · obtain ⟨v, u, rfl, r1, r2⟩ := rs.two
      exact o_isi hT S r1 r2 h
    · exact h.elim
  · obtain ⟨v, u, rfl, r1, r2⟩ := rs.two
    cases r2
    exact o_ix S (.inl r1) h
  · obtain ⟨v, u, rfl, r1, r2⟩ := rs.two
    cases r2
    exact o_ix S (.inr r1) h
  · rename_i c j q
    obtain ⟨v, rfl, r1⟩ := rs.one
    obtain ⟨a, rfl, ha⟩ := p_isR S r1
    split at h
    · exact fl_top T ha (Post.at_ S (x := .int _) rfl h)
    · exact fl_bot T ha (Post.at_ S (x := .int _) rfl h)
    · exact h.elim
  · exact h.elim
  · exact h.elim
end
end Rt

/-! RQ: what a body may lean on. -/
namespace Rt
open PySem PySem.Spec PyProof.Rows L2 Ni Pr Pu Qw
section
variable {P : Program} {w : World} {K : PySem.W.Frag} {mg : Str → Option Value} {base : Heap}
theorem tkc {c : Cl} {K : PySem.W.Frag} (h1 : tyxB K (He.ga K c.nm) = true) (h2 : L2.Cls K (He.ga K c.nm)) : ∀ d, TK.cl c = .cl d → tyxB K (He.ga K d.nm) = true ∧ L2.Cls K (He.ga K d.nm) := fun d e => by
  cases e
  exact ⟨h1, h2⟩
theorem lokX (T : Ctx K mg) {A : Around} {L : Lang} (hop : ∀ k, OpOk ⟨P, w, K, mg, base, A⟩ k (L.op k)) (hG : GOk ⟨P, w, K, mg, base, A⟩ L.G) {CL : List Cl} (hC : ∀ c ∈ CL, mg c.nm = some (.ref (He.ga K c.nm)))
    (hx : ∀ q ∈ L.X, PySem.W.exmOne K (.ref (He.ga K q.1.nm)) (.ref (He.ga K q.2.nm)) = some (subE q.1 q.2)) (hi : ∀ q ∈ L.I, exccB K (He.ga K q.1.nm) = true ∧ PySem.W.kitOne K (.ref (He.ga K q.1.nm)) (.ref (He.ga K q.2.nm)) = some (subE q.1 q.2)) : LOk ⟨P, w, K, mg, base, A⟩ L CL :=
  ⟨fun i x p h => hG.at_ h, fun i c m p h => hG.at_ h, hop, hC, fun t ht => by
    cases t <;> first | exact absurd rfl ht | exact f_free_len T | exact f_free_abs T | exact f_free_int T | exact f_free_bool T | exact f_free_str T | exact f_free_isinstance T | exact f_free_tuple T,
    f_gcd_x T, hx, hi, f_free_range T, f_free_zip T, f_free_enumerate T, f_free_list T⟩
theorem lok (T : Ctx K mg) {A : Around} (hr : Room 15 A) {tab : TK → TK → Option Bool} (hT : TabOk K tab) {G : List (GK × PSpec)} (hG : GOk ⟨P, w, K, mg, base, A⟩ G) {CL : List Cl} (hC : ∀ c ∈ CL, mg c.nm = some (.ref (He.ga K c.nm))) : LOk ⟨P, w, K, mg, base, A⟩ (Lang.of G (opS tab)) CL :=
  lokX T (L := Lang.of G (opS tab)) (op_ok T hr hT) hG hC nofun nofun
theorem rRatio_imm {xs : List PV} {Q : PV → Prop} {E : KE} (h : rRatio xs Q E) : rRatio xs (fun x => immP x = true ∧ Q x) E := by
  unfold rRatio at h ⊢
  split at h
  · exact ⟨h.1, h.2.1, fun z => ⟨rfl, h.2.2 z⟩⟩
  · exact ⟨rfl, h⟩
  · exact h.elim
theorem cal_ratio (T : Ctx K mg) {A : Around} (hr : Room 15 A) : GOk1 ⟨P, w, K, mg, base, A⟩ (.glo "Ratio") spRatio := by
  refine ⟨_, f_glo_Ratio T, f_keep_Ratio T, Cal.of (fun _ {xs Q E} q => rRatio_imm q) ?_⟩
  intro X hb ct F ρ σ H xs vs Q E S rs h0 hE
  have hK : X.K = K := congrArg B6.K hb
  have hA : X.A = A := congrArg B6.A hb
  have hmg : X.mg = mg := congrArg B6.mg hb
  have T : Ctx X.K X.mg := by rw [hK, hmg]; exact T
  have hr : Room 2 X.A := by rw [hA]; exact Room.mono hr (by decide)
  have h : rRatio xs Q E := h0
  clear h0
  show Wf X (.ref (He.ga K "Ratio")) _ _ _ _
  rw [← hK]
  unfold rRatio at h
  split at h
  · rename_i t b
    obtain ⟨v, u, rfl, r1, r2⟩ := rs.two
    cases r1; cases r2
    by_cases hz : b = 0
    · subst hz
      exact go_new0 T hr fun H' s => hE ⟨.zeroBottom, []⟩ none F H' (S.same s) (fun _ _ z => z) rfl (h.2.1 rfl)
    · exact go_new T hr h.1 hz (p_post S (h.2.2 hz))
  · obtain ⟨v, rfl, r1⟩ := rs.one
    cases r1
    exact go_new1 T hr (p_post S h)
  · exact h.elim
end
end Rt

/-! RS0: the table of kinds; the draw; the way in. -/
namespace Rt
open PySem PySem.Spec PyProof.Rows L2 Ni Pr Pu Qw
section
variable {P : Program} {w : World} {K : PySem.W.Frag} {mg : Str → Option Value} {base : Heap}
theorem tkn {a : TK} {K : PySem.W.Frag} (h : ∀ d, a ≠ .cl d) : ∀ d, a = .cl d → tyxB K (He.ga K d.nm) = true ∧ L2.Cls K (He.ga K d.nm) := fun d e => absurd e (h d)
theorem tab_ok (T : Ctx K mg) : TabOk K tab := TabL.ok
  (.cons (f_kit_int'int T) (tkn (fun _ h => nomatch h)) (.cons (f_kit_int'bool T) (tkn (fun _ h => nomatch h)) (.cons (f_kit_bool'bool T) (tkn (fun _ h => nomatch h)) (.cons (f_kit_int'Ratio T) (tkn (fun _ h => nomatch h)) (.cons (f_kit_Ratio'Ratio T) (tkc (f_tyx_Ratio T) (f_cls_Ratio T)) (.cons (f_kit_Ratio'int T) (tkc (f_tyx_Ratio T) (f_cls_Ratio T)) (.cons (f_kit_NoneType'int T) (tkn (fun _ h => nomatch h)) (.cons (f_kit_str'int T) (tkn (fun _ h => nomatch h)) (.cons (f_kit_list'int T) (tkn (fun _ h => nomatch h)) (.cons (f_kit_tuple'int T) (tkn (fun _ h => nomatch h)) (.cons (f_kit_NoneType'Ratio T) (tkn (fun _ h => nomatch h)) (.cons (f_kit_str'Ratio T) (tkn (fun _ h => nomatch h)) (.cons (f_kit_list'Ratio T) (tkn (fun _ h => nomatch h)) (.cons (f_kit_tuple'Ratio T) (tkn (fun _ h => nomatch h)) .nil))))))))))))))
theorem cal_draw (T : Ctx K mg) {A : Around} (hr : Room 15 A) : GOk1 ⟨P, w, K, mg, base, A⟩ (.glo "_law_draw") spDrawP := by
  refine ⟨_, f_glo__law_draw T, f_keep__law_draw T, Cal.of nofun ?_⟩
  intro X hb ct F ρ σ H xs vs Q E S rs h0 hE
  have hK : X.K = K := congrArg B6.K hb
  have hA : X.A = A := congrArg B6.A hb
  have hmg : X.mg = mg := congrArg B6.mg hb
  have T : Ctx X.K X.mg := by rw [hK, hmg]; exact T
  have hr : Room 5 X.A := by rw [hA]; exact Room.mono hr (by decide)
  have h : rDraw xs Q := h0
  clear h0
  show Wf X (.ref (He.ga K "_law_draw")) _ _ _ _
  rw [← hK]
  unfold rDraw at h
  split at h
  · rename_i m
    obtain ⟨v, u, rfl, r1, r2⟩ := rs.two
    cases r2
    obtain ⟨P0, s, ep, rfl⟩ := r1
    have ep : ct.pl = some (P0, s) := ep
    obtain ⟨f0, n0, hp⟩ := S.p0 P0 s ep
    refine Lh.go_drawS T hr hp h.1.1 h.1.2 fun d H' h1 h2 hp2 hm => ?_
    have g : Gua ct.pl [] H H' := ⟨fun a o e n => hm a o e fun z => n (.inl ⟨s, by rw [ep, z]⟩), fun P2 s2 e2 => by
      rw [ep] at e2
      cases e2
      exact hp2, nofun⟩
    have sub : Same F H' := fun a o e => hm a o (S.sub a o e) fun z => by
      subst z
      rw [f0] at e
      cases e
    exact ⟨.int d, F, S.called g .refl sub, ⟨.refl, g⟩, rfl, h.2 d h1 h2⟩
  · exact h.elim
end
end Rt

namespace Rt
open PySem PySem.Spec PyProof.Rows L2 Ni Pr Pu Qw
section
variable {P : Program} {w : World} {K : PySem.W.Frag} {mg : Str → Option Value} {base : Heap}
abbrev M_as_ratio : List Str := ["number"]
theorem scm_as_ratio : FnScope M_as_ratio p_as_ratio (defScope s_as_ratio) := ⟨rfl, rfl, rfl, by decide +kernel, rfl, by decide +kernel, by decide +kernel⟩
theorem lo_as_ratio (T : Ctx K mg) {A : Around} (hr : Room 15 A) : LOk ⟨P, w, K, mg, base, A⟩ L_as_ratio [.ratio] := lokX T (op_ok T (Room.mono hr (by decide)) (tab_ok T)) (.cons (cal_ratio T (Room.mono hr (by decide))) .nil) (allS (f_glo_Ratio T) allN) allN allN
theorem okp_as_ratio (T : Ctx K mg) : OkD P w K mg base 16 (He.ga K "as_ratio") p_as_ratio [] (lowSp K spAs) := by
  obtain ⟨fd, F⟩ := F_as_ratio T
  exact ⟨⟨fd, [], pfn (N := M_as_ratio) (k := 15) (L := L_as_ratio) (CL := [.ratio]) (XL := []) (code := k_as_ratio) F scm_as_ratio (fun A hr => lo_as_ratio T hr) (fun A => allN) (by kernel_rfl) (by first | exact nofun | exact fun _ => by kernel_rfl) (fun xs Q E h => sem_as h), .nil, FunD.bindsN F fun _ _ _ _ _ _ us hl => match us, hl with | [_], _ => rfl⟩, F.kp⟩
theorem g_as_ratio (T : Ctx K mg) {A : Around} (hr : Room 16 A) : GOk1 ⟨P, w, K, mg, base, A⟩ (.glo "as_ratio") spAs := ⟨_, f_glo_as_ratio T, f_keep_as_ratio T, cal_fn (okp_as_ratio T) hr⟩
abbrev L_Ratio___floordiv__ : Lang := { G := [(.glo "as_ratio", spAs)], op := opS tab, X := [], I := [] }
abbrev M_Ratio___floordiv__ : List Str := ["self", "other"]
theorem scm_Ratio___floordiv__ : FnScope M_Ratio___floordiv__ p_Ratio___floordiv__ (defScope s_Ratio___floordiv__) := ⟨rfl, rfl, rfl, by decide +kernel, rfl, by decide +kernel, by decide +kernel⟩
theorem lo_Ratio___floordiv__ (T : Ctx K mg) {A : Around} (hr : Room 16 A) : LOk ⟨P, w, K, mg, base, A⟩ L_Ratio___floordiv__ [] := lokX T (op_ok T (Room.mono hr (by decide)) (tab_ok T)) (.cons (g_as_ratio T (Room.mono hr (by decide))) .nil) allN allN allN
theorem okp_Ratio___floordiv__ (T : Ctx K mg) : OkD P w K mg base 17 (He.ma K (He.ga K "Ratio") "__floordiv__") p_Ratio___floordiv__ [] (lowSp K spFl) := by
  obtain ⟨fd, F⟩ := F_Ratio___floordiv__ T
  exact ⟨⟨fd, [], pfn (N := M_Ratio___floordiv__) (k := 16) (L := L_Ratio___floordiv__) (CL := []) (XL := [.zeroBottom]) (code := k_Ratio___floordiv__) F scm_Ratio___floordiv__ (fun A hr => lo_Ratio___floordiv__ T hr) (fun A => (allS ⟨f_glo_ZeroBottom T, f_exc_ZeroBottom T⟩ allN)) (by kernel_rfl) (by first | exact nofun | exact fun _ => by kernel_rfl) (fun xs Q E h => sem_fl h), .nil, FunD.bindsN F fun _ _ _ _ _ _ us hl => match us, hl with | [_, _], _ => rfl⟩, F.kp⟩
theorem g_Ratio___floordiv__ (T : Ctx K mg) {A : Around} (hr : Room 17 A) : GOk1 ⟨P, w, K, mg, base, A⟩ (.met .ratio "__floordiv__") spFl := ⟨_, f_cls_Ratio T, f_meth_Ratio'__floordiv__ T, fun fs h => look_no (by decide +kernel) h, cal_fn (okp_Ratio___floordiv__ T) hr⟩
end
end Rt
/-! RT0: quotients of fractions as operators. -/
namespace Rt
open PySem PySem.Spec PyProof.Rows L2 Ni Pr Pu Qw
section
variable {X : Cx} {ct : Ct} {F H H' : Hp} {ρ : Pu.Env} {σ : L2.St} {Q : VK} {op : Operator} {f f2 : Addr} {q r : Rat} {v u : V} {n : Int}
theorem go_two (T : Ctx X.K X.mg) (S : Stt X ct F ρ σ H) (r1 : Rep ⟨X.K, ct.pl⟩ F (.rat q) v) (r2 : Rep ⟨X.K, ct.pl⟩ F (.rat r) u) (g : Sg X.K (aR X.K) (PySem.dunder op.info.2) f) (run : Wf X (.ref f) [v, u] σ H Q) : Wo X (binaryOp op) v u σ H Q := by
  obtain ⟨a, dx, rfl, e⟩ := rep_rat S.sub r1
  obtain ⟨b, dy, rfl, e2⟩ := rep_rat S.sub r2
  exact wo_two e e2 (f_sf_Ratio T) g run
theorem go_left (T : Ctx X.K X.mg) (S : Stt X ct F ρ σ H) (r1 : Rep ⟨X.K, ct.pl⟩ F (.rat q) v) (g : Sg X.K (aR X.K) (PySem.dunder op.info.2) f) {rc : Option Value} (hr : PySem.W.findIn X.K (.ref (aR X.K)) (dunderR op.info.2) = some rc) (hp : rc = none ∨ ∃ g : Addr, rc = some (.ref g))
    (h1 : ∃ fo, PySem.W.findIn X.K (.type "int") (PySem.dunder op.info.2) = some fo) (h2 : ∃ fo, PySem.W.findIn X.K (.type "int") (dunderR op.info.2) = some fo) (run : Wf X (.ref f) [v, .int n] σ H Q) : Wo X (binaryOp op) v (.int n) σ H Q := by
  obtain ⟨a, dx, rfl, e⟩ := rep_rat S.sub r1
  obtain ⟨fo, h1⟩ := h1
  obtain ⟨ro, h2⟩ := h2
  exact wo_left (T := "int") e (fun u => type_int u) (f_sf_Ratio T) g hr hp h1 h2 (f_sub_int'Ratio T) run
theorem go_right {idl : String} (T : Ctx X.K X.mg) (S : Stt X ct F ρ σ H) (r1 : Rep ⟨X.K, ct.pl⟩ F (.rat q) v) (g : Sg X.K (aR X.K) (PySem.dunder op.info.2) f) (g2 : Sg X.K (aR X.K) (dunderR op.info.2) f2)
    (hT : fillsNumberSlot (.type "int") op.info.2 = pure true) (hl : Slot "int" (PySem.dunder op.info.2) idl) (up : GivesUp idl) (run : Wf X (.ref f2) [v, .int n] σ H Q) : Wo X (binaryOp op) (.int n) v σ H Q := by
  obtain ⟨a, dx, rfl, e⟩ := rep_rat S.sub r1
  exact wo_right e (f_sf_Ratio T) g g2 hT (f_sub_Ratio'int T) hl up run
end
section
variable {P : Program} {w : World} {K : PySem.W.Frag} {mg : Str → Option Value} {base : Heap}
theorem op_okG (T : Ctx K mg) {A : Around} (hr : Room 17 A) : ∀ k, OpOk ⟨P, w, K, mg, base, A⟩ k (opF0 tab k) := by
  intro k X hb ct F1 ρ σ H xs vs Q E S rs h0 hE
  cases hb
  have T' : Ctx X.K X.mg := T
  have h : rOpF0 tab k xs Q E := h0
  clear h0
  have c1 := cal_fn (b := b6 X) (okp_Ratio___floordiv__ T) (Room.mono hr (by decide))
  unfold rOpF0 at h
  split at h
  · obtain ⟨v, u, rfl, r1, r2⟩ := rs.two
    exact go_two T' S r1 r2 (Sg.of_eq d_floordiv (f_sg_Ratio'__floordiv__ T')) (c1 X rfl ct F1 ρ σ H _ _ Q E S rs ⟨_, rfl, h⟩ hE)
  · exact OpSem.imp (fun v H' ⟨x, F', S', s', r', _, q'⟩ => ⟨x, F', S', s', r', nofun, q'⟩) (op_ok T (Room.mono hr (by decide)) (tab_ok T) _ X rfl ct F1 ρ σ H xs vs Q E S rs h hE)
end
end Rt

namespace Rt
open PySem PySem.Spec PyProof.Rows L2 Ni Pr Pu Qw
section
variable {P : Program} {w : World} {K : PySem.W.Frag} {mg : Str → Option Value} {base : Heap}
abbrev L_Ratio___rfloordiv__ : Lang := { G := [(.glo "as_ratio", spAs)], op := opF0 tab, X := [], I := [] }
abbrev M_Ratio___rfloordiv__ : List Str := ["self", "other"]
theorem scm_Ratio___rfloordiv__ : FnScope M_Ratio___rfloordiv__ p_Ratio___rfloordiv__ (defScope s_Ratio___rfloordiv__) := ⟨rfl, rfl, rfl, by decide +kernel, rfl, by decide +kernel, by decide +kernel⟩
theorem lo_Ratio___rfloordiv__ (T : Ctx K mg) {A : Around} (hr : Room 17 A) : LOk ⟨P, w, K, mg, base, A⟩ L_Ratio___rfloordiv__ [] := lokX T (op_okG T (Room.mono hr (by decide))) (.cons (g_as_ratio T (Room.mono hr (by decide))) .nil) allN allN allN
theorem okp_Ratio___rfloordiv__ (T : Ctx K mg) : OkD P w K mg base 18 (He.ma K (He.ga K "Ratio") "__rfloordiv__") p_Ratio___rfloordiv__ [] (lowSp K spRfl) := by
  obtain ⟨fd, F⟩ := F_Ratio___rfloordiv__ T
  exact ⟨⟨fd, [], pfn (N := M_Ratio___rfloordiv__) (k := 17) (L := L_Ratio___rfloordiv__) (CL := []) (XL := []) (code := k_Ratio___rfloordiv__) F scm_Ratio___rfloordiv__ (fun A hr => lo_Ratio___rfloordiv__ T hr) (fun A => allN) (by kernel_rfl) (by first | exact nofun | exact fun _ => by kernel_rfl) (fun xs Q E h => sem_rfl h), .nil, FunD.bindsN F fun _ _ _ _ _ _ us hl => match us, hl with | [_, _], _ => rfl⟩, F.kp⟩
theorem g_Ratio___rfloordiv__ (T : Ctx K mg) {A : Around} (hr : Room 18 A) : GOk1 ⟨P, w, K, mg, base, A⟩ (.met .ratio "__rfloordiv__") spRfl := ⟨_, f_cls_Ratio T, f_meth_Ratio'__rfloordiv__ T, fun fs h => look_no (by decide +kernel) h, cal_fn (okp_Ratio___rfloordiv__ T) hr⟩
end
end Rt
/-! RT1: quotients of fractions as operators. -/
namespace Rt
open PySem PySem.Spec PyProof.Rows L2 Ni Pr Pu Qw
section
variable {P : Program} {w : World} {K : PySem.W.Frag} {mg : Str → Option Value} {base : Heap}
theorem op_okF (T : Ctx K mg) {A : Around} (hr : Room 20 A) : ∀ k, OpOk ⟨P, w, K, mg, base, A⟩ k (opF tab k) := by
  intro k X hb ct F1 ρ σ H xs vs Q E S rs h0 hE
  cases hb
  have T' : Ctx X.K X.mg := T
  have h : rOpF tab k xs Q E := h0
  clear h0
  have c1 := cal_fn (b := b6 X) (okp_Ratio___floordiv__ T) (Room.mono hr (by decide))
  have c2 := cal_fn (b := b6 X) (okp_Ratio___rfloordiv__ T) (Room.mono hr (by decide))
  unfold rOpF at h
  split at h
  · obtain ⟨v, u, rfl, r1, r2⟩ := rs.two
    exact go_two T' S r1 r2 (Sg.of_eq d_floordiv (f_sg_Ratio'__floordiv__ T')) (c1 X rfl ct F1 ρ σ H _ _ Q E S rs ⟨_, rfl, h⟩ hE)
  · obtain ⟨v, u, rfl, r1, r2⟩ := rs.two
    cases r2
    exact go_left T' S r1 (Sg.of_eq d_floordiv (f_sg_Ratio'__floordiv__ T')) (Sg.of_eq r_floordiv (f_sg_Ratio'__rfloordiv__ T')).hs (.inr ⟨_, rfl⟩) (find_eq d_floordiv (f_find_int'__floordiv__ T')) (find_eq r_floordiv (f_find_int'__rfloordiv__ T')) (c1 X rfl ct F1 ρ σ H _ _ Q E S rs ⟨_, rfl, h⟩ hE)
  · obtain ⟨v, u, rfl, r1, r2⟩ := rs.two
    cases r1
    exact go_right T' S r2 (Sg.of_eq d_floordiv (f_sg_Ratio'__floordiv__ T')) (Sg.of_eq r_floordiv (f_sg_Ratio'__rfloordiv__ T')) F.fills_int_floordiv F.slot_int_floordiv up_floordiv (c2 X rfl ct F1 ρ σ H _ _ Q E S (.cons r2 (.cons (show Rep ⟨X.K, ct.pl⟩ F1 (.int _) (.int _) from rfl) .nil)) h hE)
  · exact OpSem.imp (fun v H' ⟨x, F', S', s', r', _, q'⟩ => ⟨x, F', S', s', r', nofun, q'⟩) (op_ok T (Room.mono hr (by decide)) (tab_ok T) _ X rfl ct F1 ρ σ H xs vs Q E S rs h hE)
end
end Rt

namespace Rt
open PySem PySem.Spec PyProof.Rows L2 Ni Pr Pu Qw
section
variable {P : Program} {w : World} {K : PySem.W.Frag} {mg : Str → Option Value} {base : Heap}
abbrev L_Ratio___mod__ : Lang := { G := [], op := opF tab, X := [], I := [] }
abbrev M_Ratio___mod__ : List Str := ["self", "other"]
theorem scm_Ratio___mod__ : FnScope M_Ratio___mod__ p_Ratio___mod__ (defScope s_Ratio___mod__) := ⟨rfl, rfl, rfl, by decide +kernel, rfl, by decide +kernel, by decide +kernel⟩
theorem lo_Ratio___mod__ (T : Ctx K mg) {A : Around} (hr : Room 20 A) : LOk ⟨P, w, K, mg, base, A⟩ L_Ratio___mod__ [] := lokX T (op_okF T (Room.mono hr (by decide))) .nil allN allN allN
theorem okp_Ratio___mod__ (T : Ctx K mg) : OkD P w K mg base 21 (He.ma K (He.ga K "Ratio") "__mod__") p_Ratio___mod__ [] (lowSp K spMd) := by
  obtain ⟨fd, F⟩ := F_Ratio___mod__ T
  exact ⟨⟨fd, [], pfn (N := M_Ratio___mod__) (k := 20) (L := L_Ratio___mod__) (CL := []) (XL := []) (code := k_Ratio___mod__) F scm_Ratio___mod__ (fun A hr => lo_Ratio___mod__ T hr) (fun A => allN) (by kernel_rfl) (by first | exact nofun | exact fun _ => by kernel_rfl) (fun xs Q E h => sem_md h), .nil, FunD.bindsN F fun _ _ _ _ _ _ us hl => match us, hl with | [_, _], _ => rfl⟩, F.kp⟩
theorem g_Ratio___mod__ (T : Ctx K mg) {A : Around} (hr : Room 21 A) : GOk1 ⟨P, w, K, mg, base, A⟩ (.met .ratio "__mod__") spMd := ⟨_, f_cls_Ratio T, f_meth_Ratio'__mod__ T, fun fs h => look_no (by decide +kernel) h, cal_fn (okp_Ratio___mod__ T) hr⟩
abbrev L_Ratio___rmod__ : Lang := { G := [], op := opF tab, X := [], I := [] }
abbrev M_Ratio___rmod__ : List Str := ["self", "other"]
theorem scm_Ratio___rmod__ : FnScope M_Ratio___rmod__ p_Ratio___rmod__ (defScope s_Ratio___rmod__) := ⟨rfl, rfl, rfl, by decide +kernel, rfl, by decide +kernel, by decide +kernel⟩
theorem lo_Ratio___rmod__ (T : Ctx K mg) {A : Around} (hr : Room 20 A) : LOk ⟨P, w, K, mg, base, A⟩ L_Ratio___rmod__ [] := lokX T (op_okF T (Room.mono hr (by decide))) .nil allN allN allN
theorem okp_Ratio___rmod__ (T : Ctx K mg) : OkD P w K mg base 21 (He.ma K (He.ga K "Ratio") "__rmod__") p_Ratio___rmod__ [] (lowSp K spRmd) := by
  obtain ⟨fd, F⟩ := F_Ratio___rmod__ T
  exact ⟨⟨fd, [], pfn (N := M_Ratio___rmod__) (k := 20) (L := L_Ratio___rmod__) (CL := []) (XL := []) (code := k_Ratio___rmod__) F scm_Ratio___rmod__ (fun A hr => lo_Ratio___rmod__ T hr) (fun A => allN) (by kernel_rfl) (by first | exact nofun | exact fun _ => by kernel_rfl) (fun xs Q E h => sem_rmd h), .nil, FunD.bindsN F fun _ _ _ _ _ _ us hl => match us, hl with | [_, _], _ => rfl⟩, F.kp⟩
theorem g_Ratio___rmod__ (T : Ctx K mg) {A : Around} (hr : Room 21 A) : GOk1 ⟨P, w, K, mg, base, A⟩ (.met .ratio "__rmod__") spRmd := ⟨_, f_cls_Ratio T, f_meth_Ratio'__rmod__ T, fun fs h => look_no (by decide +kernel) h, cal_fn (okp_Ratio___rmod__ T) hr⟩
abbrev L_Ratio___pow__ : Lang := { G := [(.glo "Ratio", spRatio)], op := opS tab, X := [], I := [] }
abbrev M_Ratio___pow__ : List Str := ["self", "other", "top", "bottom", "_"]
theorem scm_Ratio___pow__ : FnScope M_Ratio___pow__ p_Ratio___pow__ (defScope s_Ratio___pow__) := ⟨rfl, rfl, rfl, by decide +kernel, rfl, by decide +kernel, by decide +kernel⟩
theorem lo_Ratio___pow__ (T : Ctx K mg) {A : Around} (hr : Room 15 A) : LOk ⟨P, w, K, mg, base, A⟩ L_Ratio___pow__ [] := lokX T (op_ok T (Room.mono hr (by decide)) (tab_ok T)) (.cons (cal_ratio T (Room.mono hr (by decide))) .nil) allN allN allN
theorem okp_Ratio___pow__ (T : Ctx K mg) : OkD P w K mg base 16 (He.ma K (He.ga K "Ratio") "__pow__") p_Ratio___pow__ [] (lowSp K spPow) := by
  obtain ⟨fd, F⟩ := F_Ratio___pow__ T
  exact ⟨⟨fd, [], pfn (N := M_Ratio___pow__) (k := 15) (L := L_Ratio___pow__) (CL := []) (XL := []) (code := k_Ratio___pow__) F scm_Ratio___pow__ (fun A hr => lo_Ratio___pow__ T hr) (fun A => allN) (by kernel_rfl) (by first | exact nofun | exact fun _ => by kernel_rfl) (fun xs Q E h => sem_pow h), .nil, FunD.bindsN F fun _ _ _ _ _ _ us hl => match us, hl with | [_, _], _ => rfl⟩, F.kp⟩
theorem g_Ratio___pow__ (T : Ctx K mg) {A : Around} (hr : Room 16 A) : GOk1 ⟨P, w, K, mg, base, A⟩ (.met .ratio "__pow__") spPow := ⟨_, f_cls_Ratio T, f_meth_Ratio'__pow__ T, fun fs h => look_no (by decide +kernel) h, cal_fn (okp_Ratio___pow__ T) hr⟩
end
end Rt
/-! RT2: rests and powers of fractions as operators. -/
namespace Rt
open PySem PySem.Spec PyProof.Rows L2 Ni Pr Pu Qw
section
variable {P : Program} {w : World} {K : PySem.W.Frag} {mg : Str → Option Value} {base : Heap}
theorem noat_eq {K : PySem.W.Frag} {C : Addr} {a b : Str} (e : a = b) (h : NoAttr K C b) : PySem.W.findIn K (.ref C) a = some none := by rw [e]; exact h
theorem op_okM (T : Ctx K mg) {A : Around} (hr : Room 25 A) : ∀ k, OpOk ⟨P, w, K, mg, base, A⟩ k (opM tab k) := by
  intro k X hb ct F1 ρ σ H xs vs Q E S rs h0 hE
  cases hb
  have T' : Ctx X.K X.mg := T
  have h : rOpM tab k xs Q E := h0
  clear h0
  have c1 := cal_fn (b := b6 X) (okp_Ratio___mod__ T) (Room.mono hr (by decide))
  have c2 := cal_fn (b := b6 X) (okp_Ratio___rmod__ T) (Room.mono hr (by decide))
  have c3 := cal_fn (b := b6 X) (okp_Ratio___pow__ T) (Room.mono hr (by decide))
  unfold rOpM at h
  split at h
  · obtain ⟨v, u, rfl, r1, r2⟩ := rs.two
    exact go_two T' S r1 r2 (Sg.of_eq d_mod (f_sg_Ratio'__mod__ T')) (c1 X rfl ct F1 ρ σ H _ _ Q E S rs h hE)
  · obtain ⟨v, u, rfl, r1, r2⟩ := rs.two
    cases r2
    exact go_left T' S r1 (Sg.of_eq d_mod (f_sg_Ratio'__mod__ T')) (Sg.of_eq r_mod (f_sg_Ratio'__rmod__ T')).hs (.inr ⟨_, rfl⟩) (find_eq d_mod (f_find_int'__mod__ T')) (find_eq r_mod (f_find_int'__rmod__ T')) (c1 X rfl ct F1 ρ σ H _ _ Q E S rs h hE)
  · obtain ⟨v, u, rfl, r1, r2⟩ := rs.two
    cases r1
    exact go_right T' S r2 (Sg.of_eq d_mod (f_sg_Ratio'__mod__ T')) (Sg.of_eq r_mod (f_sg_Ratio'__rmod__ T')) F.fills_int_mod F.slot_int_mod up_mod (c2 X rfl ct F1 ρ σ H _ _ Q E S (.cons r2 (.cons (show Rep ⟨X.K, ct.pl⟩ F1 (.int _) (.int _) from rfl) .nil)) h hE)
  · obtain ⟨v, u, rfl, r1, r2⟩ := rs.two
    cases r2
    exact go_left T' S r1 (Sg.of_eq d_pow (f_sg_Ratio'__pow__ T')) (noat_eq r_pow (f_noat_Ratio'__rpow__ T')) (.inl rfl) (find_eq d_pow (f_find_int'__pow__ T')) (find_eq r_pow (f_find_int'__rpow__ T')) (c3 X rfl ct F1 ρ σ H _ _ Q E S rs h hE)
  · exact op_okF T (Room.mono hr (by decide)) _ X rfl ct F1 ρ σ H xs vs Q E S rs h hE
end
end Rt

namespace Rt
open PySem PySem.Spec PyProof.Rows L2 Ni Pr Pu Qw
section
variable {P : Program} {w : World} {K : PySem.W.Frag} {mg : Str → Option Value} {base : Heap}
abbrev L_Ratio_over : Lang := { G := [(.glo "as_ratio", spAs), (.glo "Ratio", spRatio)], op := opS tab, X := [], I := [] }
abbrev M_Ratio_over : List Str := ["self", "number"]
theorem scm_Ratio_over : FnScope M_Ratio_over p_Ratio_over (defScope s_Ratio_over) := ⟨rfl, rfl, rfl, by decide +kernel, rfl, by decide +kernel, by decide +kernel⟩
theorem lo_Ratio_over (T : Ctx K mg) {A : Around} (hr : Room 16 A) : LOk ⟨P, w, K, mg, base, A⟩ L_Ratio_over [] := lokX T (op_ok T (Room.mono hr (by decide)) (tab_ok T)) (.cons (g_as_ratio T (Room.mono hr (by decide))) (.cons (cal_ratio T (Room.mono hr (by decide))) .nil)) allN allN allN
theorem okp_Ratio_over (T : Ctx K mg) : OkD P w K mg base 17 (He.ma K (He.ga K "Ratio") "over") p_Ratio_over [] (lowSp K spOver) := by
  obtain ⟨fd, F⟩ := F_Ratio_over T
  exact ⟨⟨fd, [], pfn (N := M_Ratio_over) (k := 16) (L := L_Ratio_over) (CL := []) (XL := []) (code := k_Ratio_over) F scm_Ratio_over (fun A hr => lo_Ratio_over T hr) (fun A => allN) (by kernel_rfl) (by first | exact nofun | exact fun _ => by kernel_rfl) (fun xs Q E h => sem_over h), .nil, FunD.bindsN F fun _ _ _ _ _ _ us hl => match us, hl with | [_, _], _ => rfl⟩, F.kp⟩
theorem g_Ratio_over (T : Ctx K mg) {A : Around} (hr : Room 17 A) : GOk1 ⟨P, w, K, mg, base, A⟩ (.met .ratio "over") spOver := ⟨_, f_cls_Ratio T, f_meth_Ratio'over T, fun fs h => look_no (by decide +kernel) h, cal_fn (okp_Ratio_over T) hr⟩
abbrev L__law_low : Lang := { G := [], op := opS tab, X := [], I := [] }
abbrev M__law_low : List Str := ["_law_top", "_law_bottom", "_law_one", "_law_two", "_law_rest"]
theorem scm__law_low : FnScope M__law_low p__law_low (defScope s__law_low) := ⟨rfl, rfl, rfl, by decide +kernel, rfl, by decide +kernel, by decide +kernel⟩
theorem lo__law_low (T : Ctx K mg) {A : Around} (hr : Room 15 A) : LOk ⟨P, w, K, mg, base, A⟩ L__law_low [] := lokX T (op_ok T (Room.mono hr (by decide)) (tab_ok T)) .nil allN allN allN
theorem okp__law_low (T : Ctx K mg) : OkD P w K mg base 16 (He.ga K "_law_low") p__law_low [] (lowSp K spLow) := by
  obtain ⟨fd, F⟩ := F__law_low T
  exact ⟨⟨fd, [], pfn (N := M__law_low) (k := 15) (L := L__law_low) (CL := []) (XL := []) (code := k__law_low) F scm__law_low (fun A hr => lo__law_low T hr) (fun A => allN) (by kernel_rfl) (by first | exact nofun | exact fun _ => by kernel_rfl) (fun xs Q E h => sem_low h), .nil, FunD.bindsN F fun _ _ _ _ _ _ us hl => match us, hl with | [_, _], _ => rfl⟩, F.kp⟩
theorem g__law_low (T : Ctx K mg) {A : Around} (hr : Room 16 A) : GOk1 ⟨P, w, K, mg, base, A⟩ (.glo "_law_low") spLow := ⟨_, f_glo__law_low T, f_keep__law_low T, cal_fn (okp__law_low T) hr⟩
abbrev L__law_whole : Lang := { G := [], op := opS tab, X := [], I := [] }
abbrev M__law_whole : List Str := ["_law_thing"]
theorem scm__law_whole : FnScope M__law_whole p__law_whole (defScope s__law_whole) := ⟨rfl, rfl, rfl, by decide +kernel, rfl, by decide +kernel, by decide +kernel⟩
theorem lo__law_whole (T : Ctx K mg) {A : Around} (hr : Room 15 A) : LOk ⟨P, w, K, mg, base, A⟩ L__law_whole [] := lokX T (op_ok T (Room.mono hr (by decide)) (tab_ok T)) .nil allN allN allN
theorem okp__law_whole (T : Ctx K mg) : OkD P w K mg base 16 (He.ga K "_law_whole") p__law_whole [] (lowSp K spWhole) := by
  obtain ⟨fd, F⟩ := F__law_whole T
  exact ⟨⟨fd, [], pfn (N := M__law_whole) (k := 15) (L := L__law_whole) (CL := []) (XL := []) (code := k__law_whole) F scm__law_whole (fun A hr => lo__law_whole T hr) (fun A => allN) (by kernel_rfl) (by first | exact nofun | exact fun _ => by kernel_rfl) (fun xs Q E h => sem_whole h), .nil, FunD.bindsN F fun _ _ _ _ _ _ us hl => match us, hl with | [_], _ => rfl⟩, F.kp⟩
theorem g__law_whole (T : Ctx K mg) {A : Around} (hr : Room 16 A) : GOk1 ⟨P, w, K, mg, base, A⟩ (.glo "_law_whole") spWhole := ⟨_, f_glo__law_whole T, f_keep__law_whole T, cal_fn (okp__law_whole T) hr⟩
abbrev L__law_pair : Lang := { G := [(.glo "_law_whole", spWhole), (.glo "_law_low", spLow)], op := opS tab, X := [], I := [] }
abbrev M__law_pair : List Str := ["_law_thing"]
theorem scm__law_pair : FnScope M__law_pair p__law_pair (defScope s__law_pair) := ⟨rfl, rfl, rfl, by decide +kernel, rfl, by decide +kernel, by decide +kernel⟩
theorem lo__law_pair (T : Ctx K mg) {A : Around} (hr : Room 16 A) : LOk ⟨P, w, K, mg, base, A⟩ L__law_pair [.ratio] := lokX T (op_ok T (Room.mono hr (by decide)) (tab_ok T)) (.cons (g__law_whole T (Room.mono hr (by decide))) (.cons (g__law_low T (Room.mono hr (by decide))) .nil)) (allS (f_glo_Ratio T) allN) allN allN
theorem okp__law_pair (T : Ctx K mg) : OkD P w K mg base 17 (He.ga K "_law_pair") p__law_pair [] (lowSp K spPairP) := by
  obtain ⟨fd, F⟩ := F__law_pair T
  exact ⟨⟨fd, [], pfn (N := M__law_pair) (k := 16) (L := L__law_pair) (CL := [.ratio]) (XL := []) (code := k__law_pair) F scm__law_pair (fun A hr => lo__law_pair T hr) (fun A => allN) (by kernel_rfl) (by first | exact nofun | exact fun _ => by kernel_rfl) (fun xs Q E h => sem_pair h), .nil, FunD.bindsN F fun _ _ _ _ _ _ us hl => match us, hl with | [_], _ => rfl⟩, F.kp⟩
theorem g__law_pair (T : Ctx K mg) {A : Around} (hr : Room 17 A) : GOk1 ⟨P, w, K, mg, base, A⟩ (.glo "_law_pair") spPairP := ⟨_, f_glo__law_pair T, f_keep__law_pair T, cal_fn (okp__law_pair T) hr⟩
abbrev M__law_floor : List Str := ["_law_told", "_law_rest", "_law_top", "_law_bottom", "_law_divisor", "_law_left"]
theorem scm__law_floor : FnScope M__law_floor p__law_floor (defScope s__law_floor) := ⟨rfl, rfl, rfl, by decide +kernel, rfl, by decide +kernel, by decide +kernel⟩
theorem lo__law_floor (T : Ctx K mg) {A : Around} (hr : Room 17 A) : LOk ⟨P, w, K, mg, base, A⟩ L__law_floor [] := lokX T (op_ok T (Room.mono hr (by decide)) (tab_ok T)) (.cons (g__law_pair T (Room.mono hr (by decide))) (.cons (g__law_low T (Room.mono hr (by decide))) .nil)) allN allN allN
theorem okp__law_floor (T : Ctx K mg) : OkD P w K mg base 18 (He.ga K "_law_floor") p__law_floor [] (lowSp K spFloorL) := by
  obtain ⟨fd, F⟩ := F__law_floor T
  exact ⟨⟨fd, [], pfn (N := M__law_floor) (k := 17) (L := L__law_floor) (CL := []) (XL := []) (code := k__law_floor) F scm__law_floor (fun A hr => lo__law_floor T hr) (fun A => allN) (by kernel_rfl) (by first | exact nofun | exact fun _ => by kernel_rfl) (fun xs Q E h => sem_floorL h), .nil, FunD.bindsN F fun _ _ _ _ _ _ us hl => match us, hl with | [_, _, _, _, _], _ => rfl⟩, F.kp⟩
theorem g__law_floor (T : Ctx K mg) {A : Around} (hr : Room 18 A) : GOk1 ⟨P, w, K, mg, base, A⟩ (.glo "_law_floor") spFloorL := ⟨_, f_glo__law_floor T, f_keep__law_floor T, cal_fn (okp__law_floor T) hr⟩
abbrev M__law_zero : List Str := ["_law_one", "_law_zero_here", "_law_way", "_law_told", "e"]
theorem scm__law_zero : FnScope M__law_zero p__law_zero (defScope s__law_zero) := ⟨rfl, rfl, rfl, by decide +kernel, rfl, by decide +kernel, by decide +kernel⟩
theorem lo__law_zero (T : Ctx K mg) {A : Around} (hr : Room 25 A) : LOk ⟨P, w, K, mg, base, A⟩ L__law_zero [.zeroBottom, .badValue, .neverIdle] := lokX T (op_okM T (Room.mono hr (by decide))) (.cons (g_Ratio_over T (Room.mono hr (by decide))) .nil) (allS (f_glo_ZeroBottom T) (allS (f_glo_BadValue T) (allS (f_glo_NeverIdleError T) allN))) (allS (f_exm_ZeroBottom'ZeroBottom T) allN) (allS ⟨f_excc_ZeroBottom T, f_kit_ZeroBottom'BadValue T⟩ (allS ⟨f_excc_ZeroBottom T, f_kit_ZeroBottom'NeverIdleError T⟩ allN))
theorem okp__law_zero (T : Ctx K mg) : OkD P w K mg base 26 (He.ga K "_law_zero") p__law_zero [] (lowSp K spZero) := by
  obtain ⟨fd, F⟩ := F__law_zero T
  exact ⟨⟨fd, [], pfn (N := M__law_zero) (k := 25) (L := L__law_zero) (CL := [.zeroBottom, .badValue, .neverIdle]) (XL := []) (code := k__law_zero) F scm__law_zero (fun A hr => lo__law_zero T hr) (fun A => allN) (by kernel_rfl) (by first | exact nofun | exact fun _ => by kernel_rfl) (fun xs Q E h => sem_zero h), .nil, FunD.bindsN F fun _ _ _ _ _ _ us hl => match us, hl with | [_, _, _], _ => rfl⟩, F.kp⟩
theorem g__law_zero (T : Ctx K mg) {A : Around} (hr : Room 26 A) : GOk1 ⟨P, w, K, mg, base, A⟩ (.glo "_law_zero") spZero := ⟨_, f_glo__law_zero T, f_keep__law_zero T, cal_fn (okp__law_zero T) hr⟩
abbrev M__law_powers : List Str := ["_law_one", "_law_top", "_law_bottom", "_law_told", "_law_due", "_law_k", "_law_at"]
theorem scm__law_powers : FnScope M__law_powers p__law_powers (defScope s__law_powers) := ⟨rfl, rfl, rfl, by decide +kernel, rfl, by decide +kernel, by decide +kernel⟩
theorem lo__law_powers (T : Ctx K mg) {A : Around} (hr : Room 25 A) : LOk ⟨P, w, K, mg, base, A⟩ L__law_powers [] := lokX T (op_okM T (Room.mono hr (by decide))) (.cons (g__law_pair T (Room.mono hr (by decide))) (.cons (g__law_low T (Room.mono hr (by decide))) .nil)) allN allN allN
theorem okp__law_powers (T : Ctx K mg) : OkD P w K mg base 26 (He.ga K "_law_powers") p__law_powers [] (lowSp K spPowers) := by
  obtain ⟨fd, F⟩ := F__law_powers T
  exact ⟨⟨fd, [], pfn (N := M__law_powers) (k := 25) (L := L__law_powers) (CL := []) (XL := []) (code := k__law_powers) F scm__law_powers (fun A hr => lo__law_powers T hr) (fun A => allN) (by kernel_rfl) (by first | exact nofun | exact fun _ => by kernel_rfl) (fun xs Q E h => sem_powers h), .nil, FunD.bindsN F fun _ _ _ _ _ _ us hl => match us, hl with | [_, _, _], _ => rfl⟩, F.kp⟩
theorem g__law_powers (T : Ctx K mg) {A : Around} (hr : Room 26 A) : GOk1 ⟨P, w, K, mg, base, A⟩ (.glo "_law_powers") spPowers := ⟨_, f_glo__law_powers T, f_keep__law_powers T, cal_fn (okp__law_powers T) hr⟩
abbrev M_law : List Str := ["_law_script", "_law_pool", "_law_width", "_law_a", "_law_b", "_law_c", "_law_d", "_law_n", "_law_one", "_law_two", "_law_way", "_law_sign"]
theorem scm_law : FnScope M_law p_law (defScope s_law) := ⟨rfl, rfl, rfl, by decide +kernel, rfl, by decide +kernel, by decide +kernel⟩
theorem lo_law (T : Ctx K mg) {A : Around} (hr : Room 26 A) : LOk ⟨P, w, K, mg, base, A⟩ L_law [] := lokX T (op_okM T (Room.mono hr (by decide))) (.cons (cal_draw T (Room.mono hr (by decide))) (.cons (cal_ratio T (Room.mono hr (by decide))) (.cons (g__law_zero T (Room.mono hr (by decide))) (.cons (g__law_floor T (Room.mono hr (by decide))) (.cons (g__law_pair T (Room.mono hr (by decide))) (.cons (g_Ratio_over T (Room.mono hr (by decide))) (.cons (g__law_low T (Room.mono hr (by decide))) (.cons (g__law_powers T (Room.mono hr (by decide))) .nil)))))))) allN allN allN
end
end Rt
namespace Lh
open PySem PySem.Spec PyProof.Rows L2 Ni Pr Rt Pu Qw
def spLaw (K : PySem.W.Frag) : Sp := fun vs H Q _ => ∃ (a : Addr) (ns : List Int), vs = [.ref a] ∧ SqL K H a (ns.map V.int) ∧ ∀ H', Q (.bl true) H'
section
variable {P : Program} {w : World} {K : PySem.W.Frag} {mg : Str → Option Value} {base : Heap}
theorem fn_law (T : Pr.Ctx K mg) {fd : FuncData} {f : Addr} (F : FunD K "law" "law" (defArgs s_law) (defBody s_law) (defScope s_law) (d_law.dvs K) (d_law.kws K) f fd) : FnOk P w K mg base (L2.CX P w) 40 f fd p_law (spLaw K) := by
  refine fn_goS (k := 39) F sc_law nm_law ?len ?body
  case len =>
    rintro vs H Q E ⟨a, ns, rfl, _⟩
    rfl
  case body =>
    intro X e1 e2 e3 e4 e5 e6 S V1 hr vs H Q E hE h
    subst e1 e2 e3 e4 e5
    obtain ⟨a, ns, rfl, hS, k⟩ := h
    show Wb X _ _ [some (.ref a), none, none, none, none, none, none, none, none, none, none, none] H
    refine wb_cons ?_
    exists "ni go"
    refine wcb_listL hS fun l hl => ?_
    exists "ni go"
    intro p hp
    have lp : l ≠ p := ne_of_none upd_same hp
    refine' wg_var S ?nip ?_
    case nip => exists "ni put"
    have hP : Pu.PoolS (upd (upd H l (HO.lst (List.map V.int ns))) p (HO.lst [V.ref l, V.int 0, V.int 0, V.int 0])) p l := ⟨ns, 0, 0, 0, upd_same, by rw [upd_ne lp]; exact upd_same, lp, by decide, by decide⟩
    exact law_tail (L := L_law) (CL := []) (XL := []) (code := k_law) (N := M_law) (sc := defScope s_law) 10 hP S.eq scm_law.nd e6 S.fn V1 (lo_law T (Room.mono hr (by decide))) (allN) (by kernel_rfl) sem_law k
end
end Lh

end

namespace Pr
open PySem PySem.Spec PyProof.Rows L2 Ni
noncomputable abbrev whole (w : World) := HandSHeadRun.wholeF (fun p => HandSHeadRun.stepQ (HandSHeadRun.denQ HandSHeadRun.tabQ) p w) HandSHeadRun.fenceQ 20000 R.prog
set_option maxHeartbeats 0 in
theorem runL (w : World) : (whole w).map (fun x => HandSHeadRun.looksF R.prog x.1.heap x.2.abs) = some true := by
  kernel_rfl
set_option maxHeartbeats 0 in
theorem runS (w : World) : (whole w).map (fun x => HandSHeadRun.seenQ (PySem.W.view R.prog [0, 21]) loose (PySem.importedModules R.prog.main.body) (fun s => PySem.W.xlAt (PySem.W.view R.prog [0, 21]) [] s && PySem.W.recOk R.toRowW.records s) x.2.abs) = some (PySem.W.openGood (PySem.W.view R.prog [0, 21]) loose) := by
  kernel_rfl
set_option maxHeartbeats 0 in
theorem runO (w : World) : (whole w).map (fun x => ob x.2) = some (hk.val w) := by
  kernel_rfl
theorem run (w : World) : HandSHeadRun.RunEqI R (PySem.W.view R.prog [0, 21]) hk ob 20000 loose w := map3 (runL w) (runS w) (runO w)
end Pr

namespace Pr
open PySem PySem.Spec PyProof.Rows L2 Ni
theorem facts {w : World} {mg : Str → Option Value} {fa : Addr} {h : Heap} (Y : hk.says w h) (G : h.Ns mainGlobals mg) (hmg : mg ("law" : Str) = some (.ref fa)) :
    ∃ (K : PySem.W.Frag) (fd : FuncData) (sp : Sp), K.In h ∧ (∀ (s : Shared) (u : Value), BindsTo s fd ⟨[u], []⟩ [("_law_script", u)]) ∧
      (∀ (H : Hp) (a : Addr) (ns : List Int), ns.length ≤ 63 → Only H → SqL K H a (ns.map V.int) → sp [.ref a] H (fun v _ => v = .bl true) fun _ _ _ => False) ∧
      ∀ base : Heap, K.In base → base.Ns mainGlobals mg → FnOk (PySem.Challenge.rw_neveridle_k04_floor_and_rest).prog w K mg base (L2.CX (PySem.Challenge.rw_neveridle_k04_floor_and_rest).prog w) 40 fa fd ["_law_script"] sp := by
  obtain ⟨K, KX, c⟩ := Y
  have T : Ctx K mg := ⟨c, fun x v e => by
    cases v with
    | none => exact PySem.W.mg_none_of KX G e
    | some v => exact PySem.W.mg_of KX G e⟩
  obtain ⟨fd, F⟩ := F_law T
  have e := hmg.symm.trans (f_glo_law T)
  cases e
  have b := FunD.bindsA (ps := ["_law_script"]) F fun _ _ _ _ _ _ us hl => match us, hl with | [_], _ => rfl
  exact ⟨K, fd, Lh.spLaw K, KX, fun s v => b s [v] rfl, fun H a ns hl ho hS => ⟨a, ns, rfl, hS, fun _ => rfl⟩, fun base _ _ => Lh.fn_law T F⟩
end Pr

open PySem PySem.W PySem.Calls PyProof.Rows
theorem PySem.Challenge.cw_neveridle_k04_floor_and_rest_holds : PySem.Challenge.rw_neveridle_k04_floor_and_rest.Holds := by
  w_on; o_law
  refine HandSHeadRun.head_imp (r := OpenLaw.row PySem.Challenge.rw_neveridle_k04_floor_and_rest) (q := view (OpenLaw.row PySem.Challenge.rw_neveridle_k04_floor_and_rest).prog [0, 21]) (H := Pr.hk) (ob := Pr.ob) (M := 20000) (loose := Pr.loose) (d := HandSHeadRun.topDef (OpenLaw.row PySem.Challenge.rw_neveridle_k04_floor_and_rest).prog 21) (kwd := []) Pr.ob_eq
    Pr.run (by kernel_rfl) (by kernel_rfl) (by kernel_rfl) (by rfl) (by first | assumption | decide +kernel) (by decide +kernel) ⟨rfl, rfl, rfl, rfl, rfl, by decide +kernel⟩ ?hw ?hc
  case hw => w_witness2
  case hc =>
    refine Ni.walk_w (l := PySem.Challenge.rw_neveridle_k04_floor_and_rest) (n := 63) (k := 40) (x := "_law_script") (CX := fun w => L2.CX (PySem.Challenge.rw_neveridle_k04_floor_and_rest).prog w) rfl (by decide) (by kernel_rfl) ⟨rfl, by decide, by decide⟩ ?F (fun w H s e s' z => by
      obtain ⟨_, _, _, _, _, _, _, _, _, _, _, _, z⟩ := z
      exact z)
    intro w mg fa h Y G hmg0
    have hmg : mg ("law" : PySem.Str) = some (.ref fa) := by
      have e : (HandSHeadRun.topDef (OpenLaw.row PySem.Challenge.rw_neveridle_k04_floor_and_rest).prog 21).name = ("law" : PySem.Str) := by kernel_rfl
      rw [← e]
      exact hmg0
    exact Pr.facts Y G hmg
