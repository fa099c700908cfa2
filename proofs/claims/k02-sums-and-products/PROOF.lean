import PyProof.Rows.All
import Wide.All
import OpenK.AllK
import Wide.FinOn
import HandS.Base
import HandS.Call
import HandS.List
import HandS.Exc
import HandS.ExcOwn
import HandS.CallSlots
import HandS.Defaults
import HandS.MakeKw
import HandS.OwnEq
import HandS.IsInst
import HandS.Words
import HandS.HeadHook2
import HandS.ExcIs
import HandS.Wide
import HandS.Gcd
import HandS.HeadEnd
import PyProof.FactsAll.int_1
import PyProof.FactsAll.int_2
import PyProof.FactsAll.int_3
import PyProof.FactsAll.int_5
import HandS.Head3
import PySem.Challenge.RW_neveridle_k02_sums_and_products
set_option Elab.async false
set_option linter.all false
set_option maxRecDepth 100000
set_option maxHeartbeats 4000000
/-! WL: one weakest precondition for each kind of syntax, so that a body is walked in one pass. -/
namespace Ni
open PySem PySem.Spec PyProof.Rows L2

/-! ### the wishes -/
def XW (X : Cx) : WX := fun cls d σ H => ∀ u s', XE X (fun c' d' σ' H' => c' = cls ∧ d' = d ∧ σ' = σ ∧ H' = H) u s' → X.xe u s'
theorem xw_takes (X : Cx) : Takes X (XW X) := by
  intro u s' x
  obtain ⟨a, B, sI, pins, σ, H, cls, d, h1, h2, h3, h4, h5, h6, h7, h8, w⟩ := x
  exact w u s' ⟨a, B, sI, pins, σ, H, cls, d, h1, h2, h3, h4, h5, h6, h7, h8, rfl, rfl, rfl, rfl⟩
theorem xw_of {X : Cx} {W : WX} (tk : Takes X W) {cls : Value} {d : Option Addr} {σ : L2.St} {H : Hp} (h : W cls d σ H) : XW X cls d σ H := by
  intro u s' x
  refine tk u s' ?_
  obtain ⟨a, B, sI, pins, σ', H', cls', d', h1, h2, h3, h4, h5, h6, h7, h8, e1, e2, e3, e4⟩ := x
  subst e1 e2 e3 e4
  exact ⟨a, B, sI, pins, _, _, _, _, h1, h2, h3, h4, h5, h6, h7, h8, h⟩
abbrev xk (X : Cx) (σ : L2.St) : XK := fun cls d H => XW X cls d σ H

/-! ### the weakest preconditions -/
def We (X : Cx) (e : Expr) : TE := fun σ H Q => ∀ pins s, Inv X pins σ H s → wpAny (model X.prog X.w) X.A (eval e X.env) (EP X pins σ Q) X.xe s
def Wt (X : Cx) (e : Expr) : TT := fun σ H Q => ∀ pins s, Inv X pins σ H s → wpAny (model X.prog X.w) X.A (isTrue e X.env (eval e X.env)) (TP X pins σ Q) X.xe s
def Ww (X : Cx) (e : Expr) : TT := fun σ H Q => ∀ whole pins s, Inv X pins σ H s → wpAny (model X.prog X.w) X.A (isTrue e X.env whole) (TP X pins σ Q) X.xe s
def Wa (X : Cx) (es : List Expr) : TA := fun σ H Q => ∀ pos pins s, Inv X pins σ H s → wpAny (model X.prog X.w) X.A (spliced (backTo pos (starEach es X.env))) (AP X pins σ Q) X.xe s
def Wk (X : Cx) (ks : List Keyword) : TA := fun σ H Q => ∀ pos pins s, Inv X pins σ H s → wpAny (model X.prog X.w) X.A (evalAll ((backToKw pos (keywordEach ks X.env)).map (·.2))) (AP X pins σ Q) X.xe s
def Ws (X : Cx) (st : Stmt) : TS := fun D σ H => ∀ pins s, Inv X pins σ H s → wpAny (model X.prog X.w) X.A (exec st X.env) (SP X pins D) X.xe s
def Wb (X : Cx) (b : List Stmt) : TS := fun D σ H => ∀ pins s, Inv X pins σ H s → wpAny (model X.prog X.w) X.A (execs b X.env) (SP X pins D) X.xe s
def Wg (X : Cx) (tg : Expr) : TG := fun v σ H Q => ∀ pins s u, Inv X pins σ H s → RelV v u → wpAny (model X.prog X.w) X.A (assign tg X.env u) (fun _ s' => ∃ σ' H', Inv X pins σ' H' s' ∧ Q σ' H') X.xe s
def Wgs (X : Cx) (ts : List Expr) : TGs := fun vs σ H Q => ∀ pins s us, Inv X pins σ H s → Vals vs us →
    wpAny (model X.prog X.w) X.A (assignInOrder ((assignEach ts X.env).map (·.2)) us) (fun _ s' => ∃ σ' H', Inv X pins σ' H' s' ∧ Q σ' H') X.xe s
def Wo (X : Cx) (f : Value → Value → Sem Value) (x y : V) (σ : L2.St) (H : Hp) (Q : VK) : Prop := ∀ pins s v u, Inv X pins σ H s → RelV x v → RelV y u → wpAny (model X.prog X.w) X.A (f v u) (EP X pins σ Q) X.xe s
def Wu (X : Cx) (f : Value → Sem Value) (x : V) (σ : L2.St) (H : Hp) (Q : VK) : Prop := ∀ pins s v, Inv X pins σ H s → RelV x v → wpAny (model X.prog X.w) X.A (f v) (EP X pins σ Q) X.xe s
def Wf (X : Cx) (f : Value) (vs : List V) (σ : L2.St) (H : Hp) (Q : VK) : Prop := ∀ pins s us, Inv X pins σ H s → Vals vs us → wpAny (model X.prog X.w) X.A (call f us) (EP X pins σ Q) X.xe s
def Wset (X : Cx) (o i v : V) (σ : L2.St) (H : Hp) (Q : Hp → Prop) : Prop := ∀ pins s ov iv u, Inv X pins σ H s → RelV o ov → RelV i iv → RelV v u → wpAny (model X.prog X.w) X.A (setItem ov iv u) (fun _ s' => ∃ H', Inv X pins σ H' s' ∧ Q H') X.xe s

section
variable {X : Cx}
theorem We.pe {e : Expr} : PE X e (We X e) := ⟨fun pins s σ H Q I h => h pins s I⟩
theorem Wt.pt {e : Expr} : PT X e (Wt X e) := ⟨fun pins s σ H Q I h => h pins s I⟩
theorem Ww.pw {e : Expr} : PW X e (Ww X e) := ⟨fun wh pins s σ H Q I h => h wh pins s I⟩
theorem Wa.pa {es : List Expr} : PA X es (Wa X es) := ⟨fun pos pins s σ H Q I h => h pos pins s I⟩
theorem Wk.pk {es : List Keyword} : PK X es (Wk X es) := ⟨fun pos pins s σ H Q I h => h pos pins s I⟩
theorem Ws.ps {st : Stmt} : PS X st (Ws X st) := ⟨fun pins s σ H Q I h => h pins s I⟩
theorem Wb.pss {b : List Stmt} : PSs X b (Wb X b) := ⟨fun pins s σ H Q I h => h pins s I⟩
theorem Wg.pg {tg : Expr} : PG X tg (Wg X tg) := ⟨fun pins s σ H v u Q I r h => h pins s u I r⟩
theorem Wgs.pgs {tg : List Expr} : PGs X tg (Wgs X tg) := ⟨fun pins s σ H v u Q I r h => h pins s u I r⟩

variable {σ : L2.St} {H : Hp} {Q : VK} {e a b c o : Expr} {es : List Expr} {pos pos' : Pos}
theorem we_of {t : TE} (h : PE X e t) (q : t σ H Q) : We X e σ H Q := fun pins s I => h.run pins s σ H Q I q
theorem wt_of {t : TT} {Q : Bool → Hp → Prop} (h : PT X e t) (q : t σ H Q) : Wt X e σ H Q := fun pins s I => h.run pins s σ H Q I q
theorem ww_of {t : TT} {Q : Bool → Hp → Prop} (h : PW X e t) (q : t σ H Q) : Ww X e σ H Q := fun wh pins s I => h.run wh pins s σ H Q I q
theorem wa_of {t : TA} {Q : List V → Hp → Prop} (h : PA X es t) (q : t σ H Q) : Wa X es σ H Q := fun pos pins s I => h.run pos pins s σ H Q I q
theorem ws_of {st : Stmt} {t : TS} {D : Ends} (h : PS X st t) (q : t D σ H) : Ws X st D σ H := fun pins s I => h.run pins s σ H D I q
theorem wb_of {st : List Stmt} {t : TS} {D : Ends} (h : PSs X st t) (q : t D σ H) : Wb X st D σ H := fun pins s I => h.run pins s σ H D I q
theorem wg_of {t : TG} {v : V} {Q : L2.St → Hp → Prop} (h : PG X e t) (q : t v σ H Q) : Wg X e v σ H Q := fun pins s u I r => h.run pins s σ H v u Q I r q
theorem wo_of {f : Value → Value → Sem Value} {r : R2} {x y : V} (h : OpR X f r) (q : r x y H Q) : Wo X f x y σ H Q := fun pins s v u I rx ry => h pins s σ H x y v u Q I rx ry q
theorem wu_of {f : Value → Sem Value} {r : V → Hp → VK → Prop} {x : V} (h : UnR X f r) (q : r x H Q) : Wu X f x σ H Q := fun pins s v I rx => h pins s σ H x v Q I rx q
theorem wf_of {f : Value} {r : List V → Hp → VK → Prop} {vs : List V} (h : CallR X f r) (q : r vs H Q) : Wf X f vs σ H Q := fun pins s us I r' => h pins s σ H vs us Q I r' q
theorem wset_of {t : TSet} {x i v : V} {Q : Hp → Prop} (h : PSet X t) (q : t x i v H Q) : Wset X x i v σ H Q := fun pins s ov iv u I r1 r2 r3 => h pins s σ H x i v ov iv u Q I r1 r2 r3 q
theorem EP.imp {pins : List (Addr × Obj)} {Q' : VK} {u : Value} {s : Shared} (k : ∀ v H', Q v H' → Q' v H') (h : EP X pins σ Q u s) : EP X pins σ Q' u s :=
  let ⟨v, H', I, r, q⟩ := h
  ⟨v, H', I, r, k v H' q⟩
theorem We.imp {Q' : VK} (k : ∀ v H', Q v H' → Q' v H') (h : We X e σ H Q) : We X e σ H Q' := fun pins s I => thn (h pins s I) fun _ _ q => EP.imp k q
theorem Wo.imp {f : Value → Value → Sem Value} {x y : V} {Q' : VK} (k : ∀ v H', Q v H' → Q' v H') (h : Wo X f x y σ H Q) : Wo X f x y σ H Q' := fun pins s v u I rx ry => thn (h pins s v u I rx ry) fun _ _ q => EP.imp k q
theorem Wf.imp {f : Value} {vs : List V} {Q' : VK} (k : ∀ v H', Q v H' → Q' v H') (h : Wf X f vs σ H Q) : Wf X f vs σ H Q' := fun pins s us I r => thn (h pins s us I r) fun _ _ q => EP.imp k q

/-! ### expressions -/
theorem we_name {i : Nat} {x : Str} {v : V} (hN : X.N[i]? = some x) (hv : Vis X.env.scope x) (hd : (x == ("__debug__" : Str)) = false) (hcd : (x == ("__classdict__" : Str)) = false)
    (e : σ[i]? = some (some v)) (q : Q v H) : We X (.Name x pos) σ H Q := we_of (pe_var hN hv hd hcd) ⟨v, e, q⟩
theorem we_int {i : Int} {j : Nat} (q : Q (.int i) H) : We X (.Constant (.int i) j pos) σ H Q := we_of pe_int q
theorem we_bl {b : Bool} {j : Nat} (q : Q (.bl b) H) : We X (.Constant (.bool b) j pos) σ H Q := we_of pe_bl q
theorem we_non {j : Nat} (q : Q .non H) : We X (.Constant .none j pos) σ H Q := we_of pe_non q
theorem we_str {x : Str} {j : Nat} (q : Q (.str x) H) : We X (.Constant (.str x) j pos) σ H Q := we_of pe_str q
theorem we_bin {op : Operator} (h : We X a σ H fun x H1 => We X b σ H1 fun y H2 => Wo X (binaryOp op) x y σ H2 Q) : We X (.BinOp a op b pos) σ H Q := fun pins s I =>
  wpAny_BinOp (bin We.pe We.pe I h fun v u s2 x y H2 I2 rx ry q => q pins s2 v u I2 rx ry)
theorem we_un {op : UnaryOp} (h : We X a σ H fun x H1 => Wu X (unaryOp op) x σ H1 Q) (hn : op ≠ .Not) : We X (.UnaryOp op a pos) σ H Q := fun pins s I => by
  cases op <;> first | exact absurd rfl hn | skip
  all_goals exact wpAny_UnaryOp (thn (h pins s I) fun v s1 ⟨x, H1, I1, r1, q1⟩ => q1 pins s1 v I1 r1)
theorem we_not (h : We X a σ H fun x H1 => ∃ k, x = .bl k ∧ Q (.bl (!k)) H1) : We X (.UnaryOp .Not a pos) σ H Q := we_of (pe_not We.pe) h
theorem we_ite {c : Expr} (h : Wt X c σ H fun k H1 => if k = true then We X a σ H1 Q else We X b σ H1 Q) : We X (.IfExp c a b pos) σ H Q := we_of (pe_ifExp Wt.pt We.pe We.pe) h
theorem we_cmp {op : CmpOp} (hm : behindInMarks op b = false) (h : We X a σ H fun x H1 => We X b σ H1 fun y H2 => Wo X (compareOp op) x y σ H2 Q) : We X (.Compare a [op] [b] pos) σ H Q :=
  we_of (pe_cmp (op := op) (t := fun σ H Q => We X a σ H fun x H1 => We X b σ H1 fun y H2 => Wo X (compareOp op) x y σ H2 Q)
    ⟨fun pins s σ H Q I h => bin We.pe We.pe I h fun v u s2 x y H2 I2 rx ry q => q pins s2 v u I2 rx ry⟩ hm) h
theorem we_and1 (h : We X a σ H Q) : We X (.BoolOp .And [a] pos) σ H Q := we_of (pe_one We.pe) h
theorem we_or1 (h : We X a σ H Q) : We X (.BoolOp .Or [a] pos) σ H Q := we_of (pe_one We.pe) h
theorem we_and (h : We X a σ H fun x H1 => ∃ k, x = .bl k ∧ if k = true then We X (.BoolOp .And (b :: es) pos) σ H1 Q else Q (.bl false) H1) : We X (.BoolOp .And (a :: b :: es) pos) σ H Q := we_of (pe_and We.pe We.pe) h
theorem we_or (h : We X a σ H fun x H1 => ∃ k, x = .bl k ∧ if k = true then Q (.bl true) H1 else We X (.BoolOp .Or (b :: es) pos) σ H1 Q) : We X (.BoolOp .Or (a :: b :: es) pos) σ H Q := we_of (pe_or We.pe We.pe) h
theorem we_lst (h : Wa X es σ H fun vs H1 => vs.length ≤ sizeLine ∧ ∀ p, H1 p = none → Q (.ref p) (upd H1 p (.lst vs))) : We X (.List es pos) σ H Q := we_of (pe_lst Wa.pa) h

/-! ### arguments -/
theorem wa_nil {Q : List V → Hp → Prop} (q : Q [] H) : Wa X [] σ H Q := wa_of pa_nil q

/-! ### tests -/
variable {P : Bool → Hp → Prop}
theorem wt_cmp {op : CmpOp} (hm : behindInMarks op b = false) (h : We X a σ H fun x H1 => We X b σ H1 fun y H2 => Wo X (compareOp op) x y σ H2 fun z H3 => ∃ k, z = .bl k ∧ P k H3) : Wt X (.Compare a [op] [b] pos) σ H P :=
  wt_of (pt_cmp (op := op) (t := fun σ H Q => We X a σ H fun x H1 => We X b σ H1 fun y H2 => Wo X (compareOp op) x y σ H2 Q)
    ⟨fun pins s σ H Q I h => bin We.pe We.pe I h fun v u s2 x y H2 I2 rx ry q => q pins s2 v u I2 rx ry⟩ hm) h
theorem wt_not (h : Wt X a σ H fun k H1 => P (!k) H1) : Wt X (.UnaryOp .Not a pos) σ H P := wt_of (pt_not Wt.pt) h
theorem wt_ww (h : Ww X e σ H P) : Wt X e σ H P := fun pins s I => h _ pins s I
theorem ww_and1 (h : Wt X a σ H P) : Ww X (.BoolOp .And [a] pos) σ H P := ww_of (pw_and1 Wt.pt) h
theorem ww_or1 (h : Wt X a σ H P) : Ww X (.BoolOp .Or [a] pos) σ H P := ww_of (pw_or1 Wt.pt) h
theorem ww_and (h : Wt X a σ H fun k H1 => if k = true then Ww X (.BoolOp .And (b :: es) pos) σ H1 P else P false H1) : Ww X (.BoolOp .And (a :: b :: es) pos) σ H P := ww_of (pw_and Wt.pt Ww.pw) h
theorem ww_or (h : Wt X a σ H fun k H1 => if k = true then P true H1 else Ww X (.BoolOp .Or (b :: es) pos) σ H1 P) : Ww X (.BoolOp .Or (a :: b :: es) pos) σ H P := ww_of (pw_or Wt.pt Ww.pw) h
theorem wt_val (he : ∀ whole, isTrue e X.env whole = (do let v ← whole; standAt e.pos; holding [v] (truthy v))) (h : We X e σ H fun x H1 => ∃ k, x = .bl k ∧ P k H1) : Wt X e σ H P := wt_of (pt_val We.pe he) h

/-! ### statements -/
variable {D : Ends} {st : Stmt} {sts sts' : List Stmt}
theorem wb_nil (q : D.nx σ H) : Wb X [] D σ H := wb_of pss_nil q
theorem wb_cons (h : Ws X st { D with nx := Wb X sts D } σ H) : Wb X (st :: sts) D σ H := wb_of (pss_cons Ws.ps Wb.pss) h
theorem ws_expr (hs : swapsWith e none pos.line X.env = pure false) (h : We X e σ H fun _ H1 => D.nx σ H1) : Ws X (.Expr e pos) D σ H := ws_of (ps_expr We.pe hs) h
theorem ws_ret (h : We X e σ H D.rt) : Ws X (.Return (some e) pos) D σ H := ws_of (ps_ret We.pe) h
theorem ws_retN (q : D.rt .non H) : Ws X (.Return none pos) D σ H := ws_of ps_retN q
theorem ws_pass (q : D.nx σ H) : Ws X (.Pass pos) D σ H := ws_of ps_pass q
theorem ws_break (q : D.bk σ H) : Ws X (.Break pos) D σ H := ws_of ps_break q
theorem ws_continue (q : D.ct σ H) : Ws X (.Continue pos) D σ H := ws_of ps_continue q
theorem ws_doc {x : Str} {j : Nat} (q : D.nx σ H) : Ws X (.Expr (.Constant (.str x) j pos) pos') D σ H := ws_of ps_doc q
theorem ws_if (h : Wt X c σ H fun k H1 => if k = true then Wb X sts D σ H1 else Wb X sts' D σ H1) : Ws X (.If c sts sts' pos) D σ H := ws_of (ps_if Wt.pt Wb.pss Wb.pss) h
theorem ws_set {i : Nat} {x : Str} (hN : X.N.Nodup) (hi : X.N[i]? = some x) (hx : Loc X.env.scope x) (hs : swapsWith e (some (.Name x pos')) pos.line X.env = pure false) (hf : X.fn x = true ∨ X.env.scope.names.lookup x = some .local)
    (h : We X e σ H fun v H1 => D.nx (σ.set i (some v)) H1) : Ws X (.Assign [.Name x pos'] e pos) D σ H := ws_of (ps_set hN hi hx We.pe hs hf) h
theorem ws_asg {tg : Expr} (hs : swapsWithSole [tg] e pos.line X.env = pure false) (hw : swappedStores [tg] e X.env = pure none) (h1 : (assignEach [tg] X.env).map (·.2) = [assign tg X.env])
    (h : We X e σ H fun v H1 => Wg X tg v σ H1 D.nx) : Ws X (.Assign [tg] e pos) D σ H := ws_of (ps_asg We.pe Wg.pg hs hw h1) h
theorem ws_raise {t : L2.St → Hp → XK → Prop} (hc : X.calm = true) (he : PMk X e t) (q : t σ H (xk X σ)) : Ws X (.Raise (some e) none pos) D σ H := ws_of (ps_raise hc (xw_takes X) he) q
theorem wg_name {i : Nat} {x : Str} {v : V} {Q : L2.St → Hp → Prop} (hN : X.N.Nodup) (hi : X.N[i]? = some x) (hx : Loc X.env.scope x) (hf : X.fn x = true ∨ X.env.scope.names.lookup x = some .local) (q : Q (σ.set i (some v)) H) : Wg X (.Name x pos) v σ H Q :=
  wg_of (pg_name hN hi hx hf) q
end
end Ni

/-! WM: calls, attributes, items, loops, try. -/
namespace Ni
open PySem PySem.Spec PyProof.Rows L2

section
variable {X : Cx} {σ : L2.St} {H : Hp} {Q : VK} {e a b c o : Expr} {es : List Expr} {kws : List Keyword} {p pos pos' apos : Pos} {x m : Str} {D : Ends}

theorem wa_cons {QA : List V → Hp → Prop} (hs : starEach (e :: es) X.env = (false, eval e X.env) :: starEach es X.env) (h : We X e σ H fun v H1 => Wa X es σ H1 fun vs H2 => QA (v :: vs) H2) : Wa X (e :: es) σ H QA := by
  refine wa_of (pa_cons We.pe Wa.pa hs) ?_
  exact h

/-! ### what a call of a value does -/
theorem wf_fn {k : Nat} {f : Addr} {fd : FuncData} {ps : List Str} {sp : Sp} {vs dvs : List V} {ds : List Value} (F : FnOk X.prog X.w X.K X.mg X.base (L2.CX X.prog X.w) k f fd ps sp) (hr : Room k X.A) (hb : Binds X.K fd ps ds) (hd : Vals dvs ds)
    (h : sp (vs ++ dvs) H Q (xk X σ)) : Wf X (.ref f) vs σ H Q := by
  intro pins s us I r
  exact run_fnSD (E := fun σ => xk X σ) F hr hb hd (passAt (xw_takes X) σ) I r h

theorem wf_make {k : Nat} {f C : Addr} {fd : FuncData} {ps : List Str} {sp : Sp} {vs dvs : List V} {ds : List Value} (M : Mk X.K C f) (F : FnOk X.prog X.w X.K X.mg X.base (L2.CX X.prog X.w) k f fd ps sp) (hr : Room (k + 1) X.A)
    (hb : Binds X.K fd ps ds) (hd : Vals dvs ds)
    (h : ∀ x dx, H x = none → H dx = none → dx ≠ x → sp (.ref x :: (vs ++ dvs)) (upd (upd H dx (.own x)) x (.ins C dx [])) (fun v H2 => v = .non ∧ Q (.ref x) H2) (xk X σ)) : Wf X (.ref C) vs σ H Q := by
  intro pins s us I r
  let n := s.heap.objs.size
  have f1 : H (n + 1) = none := I.hok.fresh (Nat.le_succ _)
  have f0 : H n = none := I.hok.fresh (Nat.le_refl _)
  have hq := h (n + 1) n f1 f0 (Nat.ne_of_lt (Nat.lt_succ_self _))
  have J := Inv.made (C := C) I
  have rr : Vals (V.ref (n + 1) :: (vs ++ dvs)) (Value.ref (n + 1) :: (us ++ ds)) := .cons rfl (r.append hd)
  have ll : (Value.ref (n + 1) :: us ++ ds).length = ps.length := (rr.length.symm.trans (F.len _ _ _ _ hq))
  have bd := hb _ (Value.ref (n + 1) :: us) J.kIn ll
  have run := F.run _ X.stack _ _ ⟨Value.ref (n + 1) :: us, []⟩ (Value.ref (n + 1) :: (us ++ ds)) _ _ (xk X σ) (hr.make C us []) (J.env0.make C us []) bd rr hq
  refine wpAny_call (make_map (f := f) I.kIn M.makes M.init (beq_iff_eq.mp M.fn) (codeAny_mono run fun r s' z => ?_))
  match r, z with
  | .error e, z => exact passAt (xw_takes X) σ pins _ _ e s' J z
  | .ok (.ret u), z =>
    obtain ⟨v, H', I3, rv, ev, q3⟩ := J.after z
    cases ev
    exact ⟨rv, V.ref (n + 1), H', I3, rfl, q3⟩
  | .ok .next, z => exact z.elim
  | .ok .brk, z => exact z.elim
  | .ok .cont, z => exact z.elim

/-! ### calls by a global name -/
theorem we_call {f : Addr} (hg : Gl X x) (hm : X.mg x = some (.ref f)) (hk : PySem.W.keepIn X.K (.ref f) = true) (hdb : (x == ("__debug__" : Str)) = false)
    (he : starEach (e :: es) X.env = (false, eval e X.env) :: starEach es X.env) (hpl : (backTo pos (starEach es X.env)).any (·.1) = false)
    (h : Wa X (e :: es) σ H fun vs H1 => Wf X (.ref f) vs σ H1 Q) : We X (.Call (.Name x p) (e :: es) [] pos) σ H Q := by
  intro pins s I
  refine wpAny_Call_Name_kw (ld_glob I hg hm ?_ hdb)
  refine PySem.W.callWith_K (h₀ := X.base) I.ok.mod.kin hk (thn (h pos pins s I) ?_) he hpl
  rintro us s1 ⟨vs, H1, I1, r, q⟩
  exact ⟨I1.kIn, q pins s1 us I1 r⟩
theorem we_call0 {f : Addr} (hg : Gl X x) (hm : X.mg x = some (.ref f)) (hk : PySem.W.keepIn X.K (.ref f) = true) (hdb : (x == ("__debug__" : Str)) = false)
    (h : Wf X (.ref f) [] σ H Q) : We X (.Call (.Name x p) [] [] pos) σ H Q := by
  intro pins s I
  refine wpAny_Call_Name_kw (ld_glob I hg hm ?_ hdb)
  exact PySem.W.callWith_K0 I.kIn hk (h pins s [] I .nil)
/-- a built-in function, type by its name -/
def Wcb (X : Cx) (f : Value) : List V → Hp → VK → Prop := fun vs H Q => ∃ r, CallR X f r ∧ r vs H Q
theorem Wcb.ok (X : Cx) (f : Value) : CallR X f (Wcb X f) := by
  intro pins s σ H vs us Q I r h
  obtain ⟨t, ht, q⟩ := h
  exact ht pins s σ H vs us Q I r q
theorem we_callB {id : String} (hg : Gl X x) (hm : X.mg x = none) (hv : bootBuiltins x = some (.builtin id)) (hn : x ≠ "__name__") (hdb : (x == ("__debug__" : Str)) = false)
    (he : starEach (e :: es) X.env = (false, eval e X.env) :: starEach es X.env) (hpl : (backTo pos (starEach es X.env)).any (·.1) = false)
    (h : Wa X (e :: es) σ H fun vs H1 => Wcb X (.builtin id) vs H1 Q) : We X (.Call (.Name x p) (e :: es) [] pos) σ H Q :=
  we_of (pe_callB (Wcb.ok X _) hg hm hv Wa.pa hn hdb he hpl) h
theorem we_callTy {T : String} (hg : Gl X x) (hm : X.mg x = none) (hv : bootBuiltins x = some (.type T)) (hn : x ≠ "__name__") (hdb : (x == ("__debug__" : Str)) = false)
    (he : starEach (e :: es) X.env = (false, eval e X.env) :: starEach es X.env) (hpl : (backTo pos (starEach es X.env)).any (·.1) = false)
    (h : Wa X (e :: es) σ H fun vs H1 => Wcb X (.type T) vs H1 Q) : We X (.Call (.Name x p) (e :: es) [] pos) σ H Q :=
  we_of (pe_callTy (Wcb.ok X _) hg hm hv Wa.pa hn hdb he hpl) h

/-! ### attributes -/
def Fl (X : Cx) (x : V) (f : Str) (H : Hp) (Q : VK) : Prop := ∃ a C dx fs v, x = .ref a ∧ H a = some (.ins C dx fs) ∧ Cls X.K C ∧ NoAttr X.K C f ∧ fs.lookup f = some v ∧ Q v H
theorem we_fld {f : Str} (hb : attributeBase e f X.env (eval e X.env) = eval e X.env) (h : We X e σ H fun x H1 => Fl X x f H1 Q) : We X (.Attribute e f pos) σ H Q := we_of (pe_fld We.pe hb) h
def Sf (X : Cx) (x : V) (f : Str) (y : V) (H : Hp) (Q : Hp → Prop) : Prop := ∃ a C dx fs, x = .ref a ∧ H a = some (.ins C dx fs) ∧ Cls X.K C ∧ NoAttr X.K C f ∧ fs.length < 1000 ∧ Q (upd H a (.ins C dx (putF f y fs)))
theorem ws_fld {f : Str} (hs : swapsWith e (some (.Attribute o f pos')) pos.line X.env = pure false) (h : We X e σ H fun y H1 => We X o σ H1 fun x H2 => Sf X x f y H2 fun H3 => D.nx σ H3) : Ws X (.Assign [.Attribute o f pos'] e pos) D σ H :=
  ws_of (ps_fld We.pe We.pe hs) h

/-! ### slots by names -/
inductive Var : List Str → L2.St → Str → V → Prop
  | here {x : Str} {N : List Str} {v : V} {σ : L2.St} : Var (x :: N) (some v :: σ) x v
  | next {x y : Str} {N : List Str} {u : Option V} {σ : L2.St} {v : V} : Var N σ x v → Var (y :: N) (u :: σ) x v
inductive Put : List Str → L2.St → Str → V → L2.St → Prop
  | here {x : Str} {N : List Str} {u : Option V} {v : V} {σ : L2.St} : Put (x :: N) (u :: σ) x v (some v :: σ)
  | next {x y : Str} {N : List Str} {u : Option V} {σ σ' : L2.St} {v : V} : Put N σ x v σ' → Put (y :: N) (u :: σ) x v (u :: σ')
theorem Var.at {N : List Str} {x : Str} {v : V} (h : Var N σ x v) : ∃ i : Nat, N[i]? = some x ∧ σ[i]? = some (some v) := by
  induction h with
  | here => exact ⟨0, rfl, rfl⟩
  | next _ ih =>
    obtain ⟨i, h1, h2⟩ := ih
    exact ⟨i + 1, by simpa using h1, by simpa using h2⟩
theorem Put.at {N : List Str} {x : Str} {v : V} {σ' : L2.St} (h : Put N σ x v σ') : ∃ i : Nat, N[i]? = some x ∧ σ' = σ.set i (some v) := by
  induction h with
  | here => exact ⟨0, rfl, rfl⟩
  | next _ ih =>
    obtain ⟨i, h1, h2⟩ := ih
    exact ⟨i + 1, by simpa using h1, by rw [h2]; rfl⟩
/-- the def's names: what its scope says of them -/
structure Names1 (X : Cx) (N G : List Str) : Prop where
  eq : X.N = N
  nd : N.Nodup
  vis : ∀ x ∈ N, Loc X.env.scope x
  dbg : ∀ x ∈ N, (x == ("__debug__" : Str)) = false ∧ (x == ("__classdict__" : Str)) = false
  fn : ∀ x, X.fn x = true
  glb : ∀ x ∈ G, Gl X x ∧ (x == ("__debug__" : Str)) = false
theorem we_var {N G : List Str} {v : V} (S : Names1 X N G) (h : Var N σ x v) (q : Q v H) : We X (.Name x pos) σ H Q := by
  obtain ⟨i, h1, h2⟩ := h.at
  have hm : x ∈ N := List.mem_of_getElem? h1
  exact we_name (by rw [S.eq]; exact h1) ((S.vis x hm).elim .inl fun q => .inr (.inl q)) (S.dbg x hm).1 (S.dbg x hm).2 h2 q
theorem wg_var {N G : List Str} {v : V} {σ' : L2.St} {QG : L2.St → Hp → Prop} (S : Names1 X N G) (h : Put N σ x v σ') (q : QG σ' H) : Wg X (.Name x pos) v σ H QG := by
  obtain ⟨i, h1, h2⟩ := h.at
  have hm : x ∈ N := List.mem_of_getElem? h1
  rw [h2] at q
  exact wg_name (by rw [S.eq]; exact S.nd) (by rw [S.eq]; exact h1) (S.vis x hm) (.inl (S.fn x)) q
end
end Ni

/-! WN: a def entered, loops, try, raise. -/
namespace Ni
open PySem PySem.Spec PyProof.Rows L2

/-- what a body's context says besides its names -/
structure Env1 (X : Cx) : Prop where
  calm : X.calm = true
  stk : X.stack = X.env :: X.outer
  fr : X.env.frame = some X.env.locals
  pass : PassesOwn (model X.prog X.w) X.A X.env X.xe
/-- what the scope says of the def's names -/
structure Names0 (N G : List Str) (sc : Scope) : Prop where
  nd : N.Nodup
  vis : ∀ x ∈ N, Loc sc x
  dbg : ∀ x ∈ N, (x == ("__debug__" : Str)) = false ∧ (x == ("__classdict__" : Str)) = false
  glb : ∀ x ∈ G, sc.names.lookup x = some .globalImplicit ∧ (x == ("__debug__" : Str)) = false
section
variable {P : Program} {w : World} {K : PySem.W.Frag} {mg : Str → Option Value} {base : Heap}
theorem fn_go {x qual : Str} {params : Arguments} {body : List Stmt} {scope : Scope} {dvs : List V} {kws : List (Str × V)} {f : Addr} {fd : FuncData} {N G ps : List Str} {k : Nat} {sp : Sp}
    (F : FunD K x qual params body scope dvs kws f fd) (S : FnScope N ps scope) (T : Names0 N G scope) (len : ∀ vs H Q E, sp vs H Q E → vs.length = ps.length)
    (hb : ∀ (X : Cx), X.prog = P → X.w = w → X.K = K → X.mg = mg → X.base = base → Names1 X N G → Env1 X → Room k X.A → ∀ (vs : List V) (H : Hp) (Q : VK) (E : XK),
      (∀ cls d σ H', E cls d H' → XW X cls d σ H') → sp vs H Q E → Wb X body { nx := fun _ H' => Q .non H', rt := Q } (start N vs) H) :
    FnOk P w K mg base (L2.CX P w) (k + 1) f fd ps sp := by
  refine F.ok S len fun cdv A outer s H vs Q E hr h => ?_
  refine ⟨_, Wb.pss, hb (cxOf (L2.CX P w) P w K mg base N qual scope f cdv A outer s H E) rfl rfl rfl rfl rfl ⟨rfl, T.nd, T.vis, T.dbg, fun _ => rfl, T.glb⟩ ⟨rfl, rfl, rfl, passes_of rfl⟩ hr vs H Q E (fun cls d σ H' q => ?_) h⟩
  exact xw_of (takes_of (E := E) rfl rfl rfl rfl) q
end

section
variable {X : Cx} {σ : L2.St} {H : Hp} {Q : VK} {D : Ends} {tg iter c a e : Expr} {body sts sts' : List Stmt} {pos pos' p : Pos}
/-! ### loops -/
theorem ws_forL (V1 : Env1 X) (hs : ∀ x, foldedSetIterable iter X.env x = pure x)
    (h : We X iter σ H fun x H1 => ∃ (l : Addr) (xs : List V) (Pv : Nat → L2.St → Hp → Prop), x = .ref l ∧ SqL X.K H1 l xs ∧ Pv 0 σ H1 ∧ (∀ i σ' H', i ≤ xs.length → Pv i σ' H' → SqL X.K H' l xs) ∧
      (∀ i y σ' H', xs[i]? = some y → Pv i σ' H' → Wg X tg y σ' H' fun σ2 H2 => Wb X body { D with nx := Pv (i + 1), ct := Pv (i + 1), bk := D.nx } σ2 H2) ∧ (∀ σ' H', Pv xs.length σ' H' → D.nx σ' H')) :
    Ws X (.For tg iter body [] pos) D σ H := by
  refine ws_of (ps_for V1.pass V1.calm (pi_list We.pe) Wg.pg Wb.pss hs) (We.imp ?_ h)
  rintro x H1 ⟨l, xs, Pv, e, h1, h2, h3, h4, h5⟩
  exact ⟨l, e, ⟨xs, h1⟩, for_list Pv h2 h3 h4 h5⟩
theorem ws_forT (V1 : Env1 X) (hs : ∀ x, foldedSetIterable iter X.env x = pure x)
    (h : We X iter σ H fun x H1 => ∃ (l : Addr) (xs : List V) (Pv : Nat → L2.St → Hp → Prop), x = .ref l ∧ SqT X.K H1 l xs ∧ Pv 0 σ H1 ∧ (∀ i σ' H', i ≤ xs.length → Pv i σ' H' → SqT X.K H' l xs) ∧
      (∀ i y σ' H', xs[i]? = some y → Pv i σ' H' → Wg X tg y σ' H' fun σ2 H2 => Wb X body { D with nx := Pv (i + 1), ct := Pv (i + 1), bk := D.nx } σ2 H2) ∧ (∀ σ' H', Pv xs.length σ' H' → D.nx σ' H')) :
    Ws X (.For tg iter body [] pos) D σ H := by
  refine ws_of (ps_for V1.pass V1.calm (pi_tup We.pe) Wg.pg Wb.pss hs) (We.imp ?_ h)
  rintro x H1 ⟨l, xs, Pv, e, h1, h2, h3, h4, h5⟩
  exact ⟨l, e, ⟨xs, h1⟩, for_tup Pv h2 h3 h4 h5⟩
theorem Wa.imp {es : List Expr} {Q Q' : List V → Hp → Prop} (k : ∀ v H', Q v H' → Q' v H') (h : Wa X es σ H Q) : Wa X es σ H Q' := fun pos pins s I => thn (h pos pins s I) fun _ _ ⟨vs, H', J, r, q⟩ => ⟨vs, H', J, r, k vs H' q⟩
theorem Wt.imp {Q Q' : Bool → Hp → Prop} (k : ∀ v H', Q v H' → Q' v H') (h : Wt X e σ H Q) : Wt X e σ H Q' := fun pins s I => thn (h pins s I) fun _ _ ⟨H', J, q⟩ => ⟨H', J, k _ H' q⟩
theorem ws_forR1 (V1 : Env1 X) (hg : Gl X "range") (hm : X.mg "range" = none) (hs : starEach [a] X.env = [(false, eval a X.env)]) (hf : ∀ x, foldedSetIterable (.Call (.Name "range" p) [a] [] pos') X.env x = pure x)
    (h : Wa X [a] σ H fun vs H1 => ∃ (j : Int) (Pv : Nat → L2.St → Hp → Prop), vs = [.int j] ∧ -(2 ^ 62) ≤ j ∧ j < 2 ^ 62 ∧ Pv 0 σ H1 ∧
      (∀ i σ' H', i < j.toNat → Pv i σ' H' → Wg X tg (.int (0 + i)) σ' H' fun σ2 H2 => Wb X body { D with nx := Pv (i + 1), ct := Pv (i + 1), bk := D.nx } σ2 H2) ∧ (∀ σ' H', Pv j.toNat σ' H' → D.nx σ' H')) :
    Ws X (.For tg (.Call (.Name "range" p) [a] [] pos') body [] pos) D σ H := by
  refine ws_of (ps_for V1.pass V1.calm (pi_range1 hg hm Wa.pa hs) Wg.pg Wb.pss hf) (Wa.imp ?_ h)
  rintro x H1 ⟨j, Pv, e, l1, l2, h2, h4, h5⟩
  exact ⟨j, e, l1, l2, for_range Pv h2 h4 h5⟩
theorem ws_while (V1 : Env1 X) (W : Nat → L2.St → Hp → Prop) (m0 : Nat) (h0 : W m0 σ H)
    (h : ∀ m σ' H', W m σ' H' → Wt X c σ' H' fun k H1 => if k = true then Wb X body { D with nx := fun σ2 H2 => ∃ m', m' < m ∧ W m' σ2 H2, ct := fun σ2 H2 => ∃ m', m' < m ∧ W m' σ2 H2, bk := D.nx } σ' H1 else D.nx σ' H1) :
    Ws X (.While c body [] pos) D σ H := by
  refine ws_of (ps_while V1.pass Wt.pt Wb.pss) ⟨W, ⟨m0, h0⟩, fun m σ' H' hw => Wt.imp ?_ (h m σ' H' hw)⟩
  intro k H1 q
  cases k with
  | true => exact ⟨_, fun _ _ z => z, q⟩
  | false => exact q
/-! ### raise, try -/
theorem ws_raiseT {x m : Str} {j : Nat} {p2 p3 : Pos} {C : Addr} {bmB : List Value} {B newId initId : String} (V1 : Env1 X) (F : ExcBaseFacts B newId initId bmB) (q : PySem.W.excIn X.K C bmB newId = true) (gC : X.mg x = some (.ref C))
    (kC : PySem.W.keepIn X.K (.ref C) = true) (r : Raises X (.ref C)) (hg : Gl X x) (hdb : (x == ("__debug__" : Str)) = false) (h : XW X (.ref C) none σ H) :
    Ws X (.Raise (some (.Call (.Name x p) [.Constant (.str m) j p2] [] p3)) none pos) D σ H := ws_raise V1.calm (pmk_own F q gC kC r hg hdb) h
/-- what the suite of `except x as n` does -/
def tSuite (X : Cx) (suite : List Stmt) : Addr → Value → Option Addr → TS := fun a cls d D σ H => ∀ oe pn, Zc cls d oe → (∃ vs, oe.data = .fields vs) → Wb (X.suite a ((a, oe) :: pn)) suite D σ H
theorem ws_try {x n : Str} {i : Nat} {cv : Value} {b0 : Stmt} {np : Pos} {body suite : List Stmt} (V1 : Env1 X) (hN : X.N.Nodup) (hi : X.N[i]? = some n) (hln : X.env.kindOf n = some .local) (hc : Names X x cv)
    (h : ∀ pn xe, (∀ cls d σ' H', wAs X.K cv i (tSuite X (b0 :: suite)) (XW X) D cls d σ' H' → XW (X.tr pn xe) cls d σ' H') → PassesOwn (model X.prog X.w) X.A X.env xe → Wb (X.tr pn xe) body D σ H) :
    Ws X (.Try body [.ExceptHandler (some (.Name x np)) (some n) (b0 :: suite) pos'] [] [] pos) D σ H := by
  refine ws_of (ps_try_as V1.stk V1.fr hN hi hln hc (xw_takes X) (tb := fun W D σ H => ∀ pn xe, Takes (X.tr pn xe) W → PassesOwn (model X.prog X.w) X.A X.env xe → Wb (X.tr pn xe) body D σ H) (ts := tSuite X (b0 :: suite))
    (fun W pn xe tk ho => ⟨fun pins s σ H D I h => h pn xe tk ho pins s I⟩) (fun a oe cls d pn hz hf => ⟨fun pins s σ H D I h => h oe pn hz hf pins s I⟩)) ?_
  intro pn xe tk ho
  exact h pn xe (fun cls d σ' H' q => xw_of tk q) ho
end
end Ni
namespace Ni
open PySem PySem.Spec PyProof.Rows L2
section
variable {P : Program} {w : World} {K : PySem.W.Frag} {mg : Str → Option Value} {base : Heap}
/-- fn_go, the scope told too -/
theorem fn_goS {x qual : Str} {params : Arguments} {body : List Stmt} {scope : Scope} {dvs : List V} {kws : List (Str × V)} {f : Addr} {fd : FuncData} {N G ps : List Str} {k : Nat} {sp : Sp}
    (F : FunD K x qual params body scope dvs kws f fd) (S : FnScope N ps scope) (T : Names0 N G scope) (len : ∀ vs H Q E, sp vs H Q E → vs.length = ps.length)
    (hb : ∀ (X : Cx), X.prog = P → X.w = w → X.K = K → X.mg = mg → X.base = base → X.env.scope = scope → Names1 X N G → Env1 X → Room k X.A → ∀ (vs : List V) (H : Hp) (Q : VK) (E : XK),
      (∀ cls d σ H', E cls d H' → XW X cls d σ H') → sp vs H Q E → Wb X body { nx := fun _ H' => Q .non H', rt := Q } (start N vs) H) :
    FnOk P w K mg base (L2.CX P w) (k + 1) f fd ps sp := by
  refine F.ok S len fun cdv A outer s H vs Q E hr h => ?_
  refine ⟨_, Wb.pss, hb (cxOf (L2.CX P w) P w K mg base N qual scope f cdv A outer s H E) rfl rfl rfl rfl rfl rfl ⟨rfl, T.nd, T.vis, T.dbg, fun _ => rfl, T.glb⟩ ⟨rfl, rfl, rfl, passes_of rfl⟩ hr vs H Q E (fun cls d σ H' q => ?_) h⟩
  exact xw_of (takes_of (E := E) rfl rfl rfl rfl) q
end
section
variable {X : Cx} {σ : L2.St} {H : Hp} {D : Ends} {N G : List Str}
theorem Names1.tr (S : Names1 X N G) (pn : List (Addr × Obj)) (xe : Value → Shared → Prop) : Names1 (X.tr pn xe) N G := ⟨S.eq, S.nd, S.vis, S.dbg, S.fn, S.glb⟩
theorem Names1.suite (S : Names1 X N G) (a : Addr) (pn : List (Addr × Obj)) : Names1 (X.suite a pn) N G := ⟨S.eq, S.nd, S.vis, S.dbg, S.fn, S.glb⟩
theorem ws_tryS {x n : Str} {i : Nat} {C : Addr} {b0 : Stmt} {np pos pos' : Pos} {body suite : List Stmt} (V1 : Env1 X) (S : Names1 X N G) (hi : N[i]? = some n) (hln : X.env.scope.names.lookup n = some .local) (hx : x ∈ G) (hm : X.mg x = some (.ref C))
    (h : ∀ pn xe, Names1 (X.tr pn xe) N G → PassesOwn (model X.prog X.w) X.A X.env xe →
      (∀ cls d σ' H', wAs X.K (.ref C) i (tSuite X (b0 :: suite)) (XW X) D cls d σ' H' → XW (X.tr pn xe) cls d σ' H') → Wb (X.tr pn xe) body D σ H) :
    Ws X (.Try body [.ExceptHandler (some (.Name x np)) (some n) (b0 :: suite) pos'] [] [] pos) D σ H :=
  ws_try V1 (by rw [S.eq]; exact S.nd) (by rw [S.eq]; exact hi) hln ⟨(S.glb x hx).1, (S.glb x hx).2, .inl hm⟩ fun pn xe hq ho => h pn xe (S.tr pn xe) ho fun cls d σ' H' z => hq cls d σ' H' z
end
end Ni

/-! WO: the signs of own classes. -/
namespace Ni
open PySem PySem.Spec PyProof.Rows L2
theorem rel_told {v : V} {u : Value} (r : RelV v u) : u ≠ .notImplemented := by
  intro z
  subst z
  cases v <;> first | (obtain ⟨t, e⟩ := r; cases e) | cases r
section
variable {X : Cx} {σ : L2.St} {H : Hp} {Q : VK} {op : Operator} {cop : CmpOp} {C f a b dx dy : Addr} {fs gs : List (Str × V)}
theorem told_of {pins : List (Addr × Obj)} {u : Value} {s : Shared} (h : EP X pins σ Q u s) : PySem.W.CmpBack (EP X pins σ Q) u s := by
  obtain ⟨v, H', I, r, q⟩ := id h
  have ne := rel_told r
  cases u <;> first | exact absurd rfl ne | exact h
/-- the class's own method of a sign -/
structure Sg (K : PySem.W.Frag) (C : Addr) (m : Str) (f : Addr) : Prop where
  hs : PySem.W.findIn K (.ref C) m = some (some (.ref f))
  hf : PySem.W.isFn K (.ref f) = true
theorem inst_at {pins : List (Addr × Obj)} {s : Shared} (I : Inv X pins σ H s) (ha : H a = some (.ins C dx fs)) : ∃ od, PySem.W.InstAt s.heap a (PySem.W.instObj C dx) C (some od) := by
  obtain ⟨mA, J, _⟩ := ins_get I.hok ha
  obtain ⟨od, J, _⟩ := J.look
  exact ⟨od, J⟩
theorem wo_two (ha : H a = some (.ins C dx fs)) (hb : H b = some (.ins C dy gs)) (hc : PySem.W.selfFirst X.K C = true) (g : Sg X.K C (PySem.dunder op.info.2) f) (h : Wf X (.ref f) [.ref a, .ref b] σ H Q) : Wo X (binaryOp op) (.ref a) (.ref b) σ H Q := by
  intro pins s v u I rx ry
  cases rx
  cases ry
  obtain ⟨od, J⟩ := inst_at I ha
  obtain ⟨od', J'⟩ := inst_at I hb
  obtain ⟨m, hF⟩ := I.fr
  refine PySem.W.binop_K hF I.ok.mod.kin J J'.type hc g.hs g.hf ?_
  exact thn (h pins s [.ref a, .ref b] I (.cons rfl (.cons rfl .nil))) fun _ _ q => told_of q
/-- an instance, and a value of a built-in type T -/
theorem wo_left {T : String} {y : V} {fo ro rc : Option Value} (ha : H a = some (.ins C dx fs)) (hT : ∀ u, RelV y u → typeOf u = pure (.type T)) (hc : PySem.W.selfFirst X.K C = true) (g : Sg X.K C (PySem.dunder op.info.2) f)
    (hr : PySem.W.findIn X.K (.ref C) (dunderR op.info.2) = some rc) (hp : rc = none ∨ ∃ g : Addr, rc = some (.ref g))
    (h1 : PySem.W.findIn X.K (.type T) (PySem.dunder op.info.2) = some fo) (h2 : PySem.W.findIn X.K (.type T) (dunderR op.info.2) = some ro) (hsub : PySem.W.subIn X.K (.type T) (.ref C) = some false)
    (h : Wf X (.ref f) [.ref a, y] σ H Q) : Wo X (binaryOp op) (.ref a) y σ H Q := by
  intro pins s v u I rx ry
  cases rx
  obtain ⟨od, J⟩ := inst_at I ha
  obtain ⟨m, hF⟩ := I.fr
  refine PySem.W.ksp_binT hF I.ok.mod.kin J (hT u ry) hc g.hs g.hf hr hp h1 h2 hsub ?_
  exact thn (h pins s [.ref a, u] I (.cons rfl (.cons ry .nil))) fun _ _ q => told_of q
theorem wu_neg (ha : H a = some (.ins C dx fs)) (g : Sg X.K C "__neg__" f) (h : Wf X (.ref f) [.ref a] σ H Q) : Wu X (unaryOp .USub) (.ref a) σ H Q := by
  intro pins s v I rx
  cases rx
  obtain ⟨od, J⟩ := inst_at I ha
  obtain ⟨m, hF⟩ := I.fr
  refine PySem.W.ksp_neg hF I.ok.mod.kin J g.hs g.hf ?_
  exact h pins s [.ref a] I (.cons rfl .nil)
/-- a comparison, an instance on the left -/
theorem wo_cmp {k : Nat} {tb : Value} {y : V} (hr : Room k X.A) (ha : H a = some (.ins C dx fs)) (hT : ∀ (pins : List (Addr × Obj)) (s : Shared) (u : Value), Inv X pins σ H s → RelV y u → PySem.W.Looks (model X.prog X.w) s.heap (typeOf u) tb)
    (hn : PySem.W.notFirst X.K C tb = true) (g : Sg X.K C (cmpInfo cop).2.1 f) (h : Wf X (.ref f) [.ref a, y] σ H Q) : Wo X (richCompare cop) (.ref a) y σ H Q := by
  intro pins s v u I rx ry
  cases rx
  obtain ⟨od, J⟩ := inst_at I ha
  obtain ⟨m, hF⟩ := I.fr
  refine PySem.W.cmp_K hr.units0 hF I.ok.mod.kin J (hT pins s u I ry) hn g.hs g.hf ?_
  exact thn (h pins s [.ref a, u] I (.cons rfl (.cons ry .nil))) fun _ _ q => told_of q
end
end Ni
namespace Ni
open PySem PySem.Spec PyProof.Rows L2
/-- a def at f keeps its promise; dvs: the defaults that fill up where fewer values are written -/
structure OkD (P : Program) (w : World) (K : PySem.W.Frag) (mg : Str → Option Value) (base : Heap) (k : Nat) (f : Addr) (ps : List Str) (dvs : List V) (sp : Sp) : Prop where
  ex : ∃ fd ds, FnOk P w K mg base (L2.CX P w) k f fd ps sp ∧ Vals dvs ds ∧ Binds K fd ps ds
  kp : PySem.W.keepIn K (.ref f) = true
section
variable {X : Cx} {σ : L2.St} {H : Hp} {Q : VK} {k : Nat} {f C : Addr} {ps : List Str} {sp : Sp} {vs dvs : List V}
theorem wf_ok (O : OkD X.prog X.w X.K X.mg X.base k f ps dvs sp) (hr : Room k X.A) (h : sp (vs ++ dvs) H Q (xk X σ)) : Wf X (.ref f) vs σ H Q := by
  obtain ⟨fd, ds, F, hd, hb⟩ := O.ex
  exact wf_fn F hr hb hd h
theorem wf_new (M : Mk X.K C f) (O : OkD X.prog X.w X.K X.mg X.base k f ps dvs sp) (hr : Room (k + 1) X.A)
    (h : ∀ x dx, H x = none → H dx = none → dx ≠ x → sp (.ref x :: (vs ++ dvs)) (upd (upd H dx (.own x)) x (.ins C dx [])) (fun v H2 => v = .non ∧ Q (.ref x) H2) (xk X σ)) : Wf X (.ref C) vs σ H Q := by
  obtain ⟨fd, ds, F, hd, hb⟩ := O.ex
  exact wf_make M F hr hb hd h
end
end Ni

/-! HM: a Hook that reads the kit's facts and one more Bool. -/
namespace Ni
open PySem PySem.Spec PyProof.Rows L2
/-- the kit's facts, and a list of own ones -/
structure Says (fa : List He.Fa) (fn : List He.DefD) (ex : List (PySem.W.Frag → Bool)) (K : PySem.W.Frag) : Prop where
  d : He.SaysD fa fn K
  m : (ex.all fun f => f K) = true
def hookM (n : Nat) (fa : List He.Fa) (fn : List He.DefD) (ex : List (PySem.W.Frag → Bool)) : PySem.W.Hook where
  α := He.AlD × Bool
  obs := fun s => (He.obsDG n fa fn s.heap.get?, ex.all fun f => f (He.frG s.heap.get? (He.asD s.heap.get? n)))
  val := fun _ => (He.valD fn, true)
  says := fun _ h => ∃ K : PySem.W.Frag, K.In h ∧ Says fa fn ex K
  of := by
    intro w s e
    exact ⟨_, He.frG_in, ⟨congrArg Prod.fst e, congrArg Prod.snd e⟩⟩
  keeps := by
    intro w h h' z k
    obtain ⟨K, hK, c⟩ := z
    exact ⟨K, PySem.W.Frag.In.keeps hK k, c⟩
def obM (n : Nat) (fa : List He.Fa) (fn : List He.DefD) (ex : List (PySem.W.Frag → Bool)) (g : Addr → Option Obj) : He.AlD × Bool := (He.obsDG n fa fn g, ex.all fun f => f (He.frG g (He.asD g n)))
theorem obM_eq {n : Nat} {fa : List He.Fa} {fn : List He.DefD} {ex : List (PySem.W.Frag → Bool)} {g : Addr → Option Obj} {s : Shared} (h : ∀ a, g a = s.heap.get? a) : obM n fa fn ex g = (hookM n fa fn ex).obs s := by
  have e : g = s.heap.get? := funext h
  rw [e]
  rfl
theorem Says.x {fa : List He.Fa} {fn : List He.DefD} {ex : List (PySem.W.Frag → Bool)} {K : PySem.W.Frag} (c : Says fa fn ex K) (i : Nat) {f : PySem.W.Frag → Bool} (h : ex[i]? = some f) : f K = true :=
  List.all_eq_true.mp c.m f (List.mem_of_getElem? h)
end Ni

/-! HF: facts of the head, as Bools, and what they say. -/
namespace Ni
open PySem PySem.Spec PyProof.Rows L2
section
variable {K : PySem.W.Frag} {C : Addr}
theorem and2 {a b : Bool} (h : (a && b) = true) : a = true ∧ b = true := Bool.and_eq_true_iff.mp h
def tyxB (K : PySem.W.Frag) (C : Addr) : Bool := decide (PySem.W.findIn K (.ref C) "__class__" = some (some (.builtin "object.__class__"))) && (decide (PySem.W.specialIn K (.builtin "object.__class__") "__get__" = some (some (.builtin "getset_descriptor.__get__"))) &&
  (decide (PySem.W.takesIn K (.builtin "object.__class__") = some true) && decide (PySem.W.mroIn K C (.type "object") = some true)))
theorem tyx_of {H : Hp} {a dx : Addr} {fs : List (Str × V)} (h : tyxB K C = true) (c : Cls K C) (e : H a = some (.ins C dx fs)) : TyX K H (.ref a) (.ref C) := by
  obtain ⟨h1, h⟩ := and2 h
  obtain ⟨h2, h⟩ := and2 h
  obtain ⟨h3, h4⟩ := and2 h
  exact .base (.ins e c (of_decide_eq_true h1) (of_decide_eq_true h2) (of_decide_eq_true h3) (of_decide_eq_true h4))
def exccB (K : PySem.W.Frag) (D : Addr) : Bool := decide (PySem.W.findIn K (.ref D) "__getattribute__" = some (some (.builtin "BaseException.__getattribute__"))) && (decide (PySem.W.findIn K (.ref D) "__getattr__" = some none) &&
  (decide (PySem.W.subIn K (.ref D) (.type "BaseException") = some true) && (PySem.W.hasDictIn K D && tyxB K D)))
theorem excc_of (h : exccB K C = true) : ExcC K C := by
  obtain ⟨h1, h⟩ := and2 h
  obtain ⟨h2, h⟩ := and2 h
  obtain ⟨h3, h⟩ := and2 h
  obtain ⟨h4, h⟩ := and2 h
  obtain ⟨h5, h⟩ := and2 h
  obtain ⟨h6, h⟩ := and2 h
  obtain ⟨h7, h8⟩ := and2 h
  exact ⟨of_decide_eq_true h1, of_decide_eq_true h2, of_decide_eq_true h3, h4, of_decide_eq_true h5, of_decide_eq_true h6, of_decide_eq_true h7, of_decide_eq_true h8⟩
def conB (K : PySem.W.Frag) (C : Addr) (f : Str) (v : V) : Bool := match PySem.W.findIn K (.ref C) f with
  | some (some u) => He.relB v u && (decide (PySem.W.specialIn K u "__get__" = some none) && !PySem.W.copiedNames.contains f)
  | _ => false
theorem con_of {f : Str} {v : V} (h : conB K C f v = true) : ∃ u, Con K C f v u := by
  unfold conB at h
  match e : PySem.W.findIn K (.ref C) f, h with
  | some (some u), h =>
    obtain ⟨h1, h⟩ := and2 h
    obtain ⟨h2, h3⟩ := and2 h
    exact ⟨u, e, He.relB_ok h1, of_decide_eq_true h2, by simpa using h3⟩
  | some none, h => cases h
  | none, h => cases h
def intB (K : PySem.W.Frag) (x : Str) (i : Int) : Bool := match PySem.W.nsIn K mainGlobals x with
  | some (some (.int j _)) => decide (j = i)
  | _ => false
theorem intIn {x : Str} {i : Int} (h : intB K x i = true) : ∃ t, PySem.W.nsIn K mainGlobals x = some (some (.int i t)) := by
  unfold intB at h
  split at h
  · rename_i j t e
    rw [of_decide_eq_true h] at e
    exact ⟨t, e⟩
  · cases h
def strB (K : PySem.W.Frag) (x z : Str) : Bool := match PySem.W.nsIn K mainGlobals x with
  | some (some (.str j _)) => decide (j = z)
  | _ => false
theorem strIn {x z : Str} (h : strB K x z = true) : ∃ t, PySem.W.nsIn K mainGlobals x = some (some (.str z t)) := by
  unfold strB at h
  split at h
  · rename_i j t e
    rw [of_decide_eq_true h] at e
    exact ⟨t, e⟩
  · cases h
end
end Ni

/-! WP: rules by values, in the form that the tactics take. -/
namespace Ni
open PySem PySem.Spec PyProof.Rows L2
/-- a size in bits -/
def Bd (n : Int) (k : Nat) : Prop := n.natAbs < 2 ^ k
theorem Bd.mono {n : Int} {k m : Nat} (h : Bd n k) (l : k ≤ m) : Bd n m := Nat.lt_of_lt_of_le h (Nat.pow_le_pow_right (by decide) l)
theorem Bd.add {a b : Int} {k m : Nat} (h : Bd a k) (h' : Bd b m) : Bd (a + b) (max k m + 1) := by
  have h1 := h.mono (Nat.le_max_left k m)
  have h2 := h'.mono (Nat.le_max_right k m)
  unfold Bd at *
  rw [Nat.pow_succ]
  omega
theorem Bd.neg {a : Int} {k : Nat} (h : Bd a k) : Bd (-a) k := by unfold Bd at *; rw [Int.natAbs_neg]; exact h
theorem Bd.sub {a b : Int} {k m : Nat} (h : Bd a k) (h' : Bd b m) : Bd (a - b) (max k m + 1) := by rw [Int.sub_eq_add_neg]; exact h.add h'.neg
theorem Bd.mul {a b : Int} {k m : Nat} (h : Bd a k) (h' : Bd b m) : Bd (a * b) (k + m) := wide_lt h h'
theorem Bd.of_abs {a b : Int} {k : Nat} (h : Bd b k) (l : a.natAbs ≤ b.natAbs) : Bd a k := Nat.lt_of_le_of_lt l h
theorem bd_log {n : Int} {k : Nat} (h : Bd n k) (h0 : 0 < k) : n.natAbs.log2 < k := PySem.Flt.log2_lt_of h0 h
theorem bd_mulW {i j : Int} {k m : Nat} (h : Bd i k) (h' : Bd j m) (l : k + m < 999990) : CMulW i j := wide_mul (a := k + 1) (b := m + 1) (h.mono (Nat.le_succ _)) (h'.mono (Nat.le_succ _)) (Nat.succ_pos _) (Nat.succ_pos _) (by omega)
section
variable {X : Cx} {σ : L2.St} {H : Hp} {Q : VK}
theorem wo_add {i j : Int} (q : Q (.int (i + j)) H) : Wo X (binaryOp .Add) (.int i) (.int j) σ H Q := wo_of op_add ⟨i, j, rfl, rfl, q⟩
theorem wo_sub {i j : Int} (q : Q (.int (i - j)) H) : Wo X (binaryOp .Sub) (.int i) (.int j) σ H Q := wo_of op_sub ⟨i, j, rfl, rfl, q⟩
theorem wo_mul {i j : Int} (c : CMulW i j) (q : Q (.int (i * j)) H) : Wo X (binaryOp .Mult) (.int i) (.int j) σ H Q := wo_of op_mulW ⟨i, j, rfl, rfl, c, q⟩
theorem wo_mulR {i j : Int} (c : -(2 ^ 64) < j ∧ j < 2 ^ 64) (q : Q (.int (i * j)) H) : Wo X (binaryOp .Mult) (.int i) (.int j) σ H Q := wo_of op_mul ⟨i, j, rfl, rfl, .inr c, q⟩
theorem wo_mod {i j : Int} (c : 0 < j) (q : Q (.int (i % j)) H) : Wo X (binaryOp .Mod) (.int i) (.int j) σ H Q := wo_of op_mod ⟨i, j, rfl, rfl, c, q⟩
theorem wo_div {i j : Int} {k : Nat} (c : 0 < j) (b : Bd j k) (l : 0 < k ∧ k ≤ 9000) (q : Q (.int (i / j)) H) : Wo X (binaryOp .FloorDiv) (.int i) (.int j) σ H Q := wo_of op_fdivW ⟨i, j, rfl, rfl, ⟨c, Nat.lt_of_lt_of_le (bd_log b l.1) l.2⟩, q⟩
/-- // by any number but 0 -/
theorem op_fdivZ : OpR X (binaryOp .FloorDiv) (rI (fun _ j => j ≠ 0 ∧ j.natAbs.log2 < 9000) fun i j => .int (i.fdiv j)) := opI fun i j _ _ _ _ _ hc q => floordiv_int hc.1 q (.inl (PyProof.noPylong_of_log2 hc.2))
theorem wo_fdiv {i j : Int} {k : Nat} (c : j ≠ 0) (b : Bd j k) (l : 0 < k ∧ k ≤ 9000) (q : Q (.int (i.fdiv j)) H) : Wo X (binaryOp .FloorDiv) (.int i) (.int j) σ H Q := wo_of op_fdivZ ⟨i, j, rfl, rfl, ⟨c, Nat.lt_of_lt_of_le (bd_log b l.1) l.2⟩, q⟩
theorem wo_lt {i j : Int} (q : Q (.bl (decide (i < j))) H) : Wo X (compareOp .Lt) (.int i) (.int j) σ H Q := wo_of op_lt ⟨i, j, rfl, rfl, q⟩
theorem wo_le {i j : Int} (q : Q (.bl (decide (i ≤ j))) H) : Wo X (compareOp .LtE) (.int i) (.int j) σ H Q := wo_of op_le ⟨i, j, rfl, rfl, q⟩
theorem wo_gt {i j : Int} (q : Q (.bl (decide (j < i))) H) : Wo X (compareOp .Gt) (.int i) (.int j) σ H Q := wo_of op_gt ⟨i, j, rfl, rfl, q⟩
theorem wo_ge {i j : Int} (q : Q (.bl (decide (j ≤ i))) H) : Wo X (compareOp .GtE) (.int i) (.int j) σ H Q := wo_of op_ge ⟨i, j, rfl, rfl, q⟩
theorem dec_v {i j : Int} : decide (V.int i = V.int j) = decide (i = j) := by
  by_cases h : i = j
  · rw [decide_eq_true h, decide_eq_true (congrArg V.int h)]
  · rw [decide_eq_false h, decide_eq_false (fun z => h (V.int.inj z))]
theorem wo_eqI {i j : Int} (q : Q (.bl (decide (i = j))) H) : Wo X (compareOp .Eq) (.int i) (.int j) σ H Q := wo_of op_eq ⟨rfl, by rw [dec_v]; exact q⟩
theorem wo_neI {i j : Int} (q : Q (.bl (!decide (i = j))) H) : Wo X (compareOp .NotEq) (.int i) (.int j) σ H Q := wo_of op_ne ⟨rfl, by rw [dec_v]; exact q⟩
theorem wu_negI {i : Int} (q : Q (.int (-i)) H) : Wu X (unaryOp .USub) (.int i) σ H Q := wu_of un_neg ⟨i, rfl, q⟩
theorem wo_isN {x : V} (q : Q (.bl (decide (x = .non))) H) : Wo X (compareOp .Is) x .non σ H Q := wo_of op_isN ⟨rfl, q⟩
theorem wo_notN {x : V} (q : Q (.bl (!decide (x = .non))) H) : Wo X (compareOp .IsNot) x .non σ H Q := wo_of op_notN ⟨rfl, q⟩
/-! ### tests whose outcome is open, known -/
theorem if_d {c : Prop} [Decidable c] {A B : Prop} (h1 : c → A) (h2 : ¬ c → B) : if decide c = true then A else B := by
  by_cases h : c
  · rw [decide_eq_true h, if_pos rfl]; exact h1 h
  · rw [decide_eq_false h, if_neg Bool.false_ne_true]; exact h2 h
theorem if_nd {c : Prop} [Decidable c] {A B : Prop} (h1 : ¬ c → A) (h2 : c → B) : if (!decide c) = true then A else B := by
  by_cases h : c
  · rw [decide_eq_true h, Bool.not_true, if_neg Bool.false_ne_true]; exact h2 h
  · rw [decide_eq_false h, Bool.not_false, if_pos rfl]; exact h1 h
theorem if_b {c : Bool} {A B : Prop} (h1 : c = true → A) (h2 : c = false → B) : if c = true then A else B := by
  cases c
  · exact h2 rfl
  · exact h1 rfl
theorem if_t {A B : Prop} (h : A) : if true = true then A else B := h
theorem if_f {A B : Prop} (h : B) : if false = true then A else B := h
theorem if_nt {A B : Prop} (h : B) : if (!true) = true then A else B := h
theorem if_nf {A B : Prop} (h : A) : if (!false) = true then A else B := h
theorem if_dt {c : Prop} [Decidable c] {A B : Prop} (hc : c) (h : A) : if decide c = true then A else B := by rw [decide_eq_true hc]; exact h
theorem if_df {c : Prop} [Decidable c] {A B : Prop} (hc : ¬ c) (h : B) : if decide c = true then A else B := by rw [decide_eq_false hc]; exact h
/-! ### built-ins by their rule -/
theorem wcb_gcd {t b : Int} (q : Q (.int ((Nat.gcd t.natAbs b.natAbs : Nat) : Int)) H) : Wcb X (.builtin "math.gcd") [.int t, .int b] H Q := ⟨_, cr_gcd, t, b, rfl, q⟩
theorem we_callGB {e : Expr} {es : List Expr} {x : Str} {id : String} {p pos : Pos} (hg : Gl X x) (hm : X.mg x = some (.builtin id)) (hdb : (x == ("__debug__" : Str)) = false)
    (he : starEach (e :: es) X.env = (false, eval e X.env) :: starEach es X.env) (hpl : (backTo pos (starEach es X.env)).any (·.1) = false)
    (h : Wa X (e :: es) σ H fun vs H1 => Wcb X (.builtin id) vs H1 Q) : We X (.Call (.Name x p) (e :: es) [] pos) σ H Q :=
  we_of (pe_callBfun (Wcb.ok X _) hg hm Wa.pa hdb he hpl) h
theorem wcb_abs {n : Int} (q : Q (.int (if n < 0 then -n else n)) H) : Wcb X (.builtin "abs") [.int n] H Q := ⟨_, call_abs, n, rfl, q⟩
theorem wcb_intI {n : Int} (q : Q (.int n) H) : Wcb X (.type "int") [.int n] H Q := ⟨_, call_int1, .inl ⟨n, rfl, q⟩⟩
theorem wcb_isi {x c : V} {t u : Value} {b : Bool} (k : ClsV c u) (ty : TyX X.K H x t) (e : PySem.W.kitOne X.K t u = some b) (q : Q (.bl b) H) : Wcb X (.builtin "isinstance") [x, c] H Q := ⟨_, call_isi, x, c, t, u, b, rfl, k, ty, e, q⟩
theorem wcb_len {x : V} {n : Nat} (h : LenV X.K x H n) (q : Q (.int (n : Int)) H) : Wcb X (.builtin "len") [x] H Q := ⟨_, call_len, x, n, rfl, h, q⟩
end
end Ni
namespace Ni
open PySem PySem.Spec PyProof.Rows L2
section
variable {X : Cx} {σ : L2.St} {H : Hp} {Q : VK} {N G : List Str} {e : Expr} {es : List Expr} {x : Str} {p pos : Pos}
theorem we_callS {f : Addr} (S : Names1 X N G) (hx : x ∈ G) (hm : X.mg x = some (.ref f)) (hk : PySem.W.keepIn X.K (.ref f) = true)
    (he : starEach (e :: es) X.env = (false, eval e X.env) :: starEach es X.env) (hpl : (backTo pos (starEach es X.env)).any (·.1) = false)
    (h : Wa X (e :: es) σ H fun vs H1 => Wf X (.ref f) vs σ H1 Q) : We X (.Call (.Name x p) (e :: es) [] pos) σ H Q := we_call (S.glb x hx).1 hm hk (S.glb x hx).2 he hpl h
theorem we_callS0 {f : Addr} (S : Names1 X N G) (hx : x ∈ G) (hm : X.mg x = some (.ref f)) (hk : PySem.W.keepIn X.K (.ref f) = true)
    (h : Wf X (.ref f) [] σ H Q) : We X (.Call (.Name x p) [] [] pos) σ H Q := we_call0 (S.glb x hx).1 hm hk (S.glb x hx).2 h
theorem we_callBS {id : String} (S : Names1 X N G) (hx : x ∈ G) (hm : X.mg x = none) (hv : bootBuiltins x = some (.builtin id)) (hn : x ≠ "__name__")
    (he : starEach (e :: es) X.env = (false, eval e X.env) :: starEach es X.env) (hpl : (backTo pos (starEach es X.env)).any (·.1) = false)
    (h : Wa X (e :: es) σ H fun vs H1 => Wcb X (.builtin id) vs H1 Q) : We X (.Call (.Name x p) (e :: es) [] pos) σ H Q := we_callB (S.glb x hx).1 hm hv hn (S.glb x hx).2 he hpl h
theorem we_callTS {id : String} (S : Names1 X N G) (hx : x ∈ G) (hm : X.mg x = none) (hv : bootBuiltins x = some (.type id)) (hn : x ≠ "__name__")
    (he : starEach (e :: es) X.env = (false, eval e X.env) :: starEach es X.env) (hpl : (backTo pos (starEach es X.env)).any (·.1) = false)
    (h : Wa X (e :: es) σ H fun vs H1 => Wcb X (.type id) vs H1 Q) : We X (.Call (.Name x p) (e :: es) [] pos) σ H Q := we_callTy (S.glb x hx).1 hm hv hn (S.glb x hx).2 he hpl h
theorem we_callGS {id : String} (S : Names1 X N G) (hx : x ∈ G) (hm : X.mg x = some (.builtin id))
    (he : starEach (e :: es) X.env = (false, eval e X.env) :: starEach es X.env) (hpl : (backTo pos (starEach es X.env)).any (·.1) = false)
    (h : Wa X (e :: es) σ H fun vs H1 => Wcb X (.builtin id) vs H1 Q) : We X (.Call (.Name x p) (e :: es) [] pos) σ H Q := we_callGB (S.glb x hx).1 hm (S.glb x hx).2 he hpl h
/-- a class, a def as a value -/
theorem we_gref {f : Addr} (S : Names1 X N G) (hx : x ∈ G) (hm : X.mg x = some (.ref f)) (q : Q (.ref f) H) : We X (.Name x pos) σ H Q := we_of (pe_glob (S.glb x hx).1 hm (v := .ref f) rfl (S.glb x hx).2) q
theorem we_gty {n : String} (S : Names1 X N G) (hx : x ∈ G) (hm : X.mg x = none) (hv : bootBuiltins x = some (.type n)) (hn : x ≠ "__name__") (q : Q (.ty n) H) : We X (.Name x pos) σ H Q := we_of (pe_bltn (S.glb x hx).1 hm hv (v := .ty n) rfl hn (S.glb x hx).2) q
theorem ws_raiseS {D : Ends} {m : Str} {j : Nat} {p2 p3 : Pos} {C : Addr} (V1 : Env1 X) (S : Names1 X N G) (hx : x ∈ G) (gC : X.mg x = some (.ref C))
    (q : PySem.W.excIn X.K C He.veBase "ValueError.__new__" = true ∧ PySem.W.keepIn X.K (.ref C) = true ∧ PySem.W.subIn X.K (.ref C) (.type "BaseException") = some true ∧ PySem.W.typeIn X.K (.ref C) = some (.type "type"))
    (h : XW X (.ref C) none σ H) : Ws X (.Raise (some (.Call (.Name x p) [.Constant (.str m) j p2] [] p3)) none pos) D σ H :=
  ws_raiseT V1 PySem.F.excBase_ValueError q.1 gC q.2.1 (raises_own q.2.2.1 q.2.2.2) (S.glb x hx).1 (S.glb x hx).2 h
end
/-! ### what stands stays -/
theorem same_new {H : Hp} {p : Addr} {o : HO} (h : H p = none) : Same H (upd H p o) := fun b u e => by
  rw [upd_ne (ne_of_none e h)]
  exact e
theorem same_mut {H H' : Hp} {p : Addr} {o : HO} (s : Same H H') (h : H p = none) : Same H (upd H' p o) := fun b u e => by
  rw [upd_ne (ne_of_none e h)]
  exact s b u e
theorem at_mono {H H' : Hp} {p : Addr} {o : HO} (s : Same H H') (h : H p = some o) : H' p = some o := s p o h
end Ni
namespace Ni
open PySem PySem.Spec PyProof.Rows L2
theorem wcb_isE {X : Cx} {H : Hp} {Q : VK} {a D : Addr} {oe : Obj} {pn : List (Addr × Obj)} {c : V} {cv : Value} {b : Bool} (C : exccB X.K D = true) (hz : Zc (.ref D) none oe) (hf : ∃ vs, oe.data = .fields vs)
    (hc : ClsV c cv) (e : PySem.W.kitOne X.K (.ref D) cv = some b) (q : Q (.bl b) H) : Wcb (X.suite a ((a, oe) :: pn)) (.builtin "isinstance") [.ref a, c] H Q :=
  ⟨_, call_isE (excc_of C) hz hf, c, cv, b, rfl, fun u r => hc.eq r, e, q⟩
end Ni

/-! WQ: items, tuples, equality of data. -/
namespace Ni
open PySem PySem.Spec PyProof.Rows L2
def Ix (X : Cx) (x y : V) (H : Hp) (Q : VK) : Prop := ∃ r, IxR X r ∧ r x y H Q
theorem Ix.ok (X : Cx) : IxR X (fun x y H Q => Ix X x y H Q) := by
  intro value slice pins s σ H x y v u Q I rx ry h hs
  obtain ⟨r, hr, q⟩ := h
  exact hr value slice pins s σ H x y v u Q I rx ry q hs
def St (X : Cx) (o i v : V) (H : Hp) (Q : Hp → Prop) : Prop := ∃ t, PSet X t ∧ t o i v H Q
theorem St.ok (X : Cx) : PSet X (fun o i v H Q => St X o i v H Q) := by
  intro pins s σ H o i v ov iv u Q I r1 r2 r3 h
  obtain ⟨t, ht, q⟩ := h
  exact ht pins s σ H o i v ov iv u Q I r1 r2 r3 q
section
variable {X : Cx} {σ : L2.St} {H : Hp} {Q : VK} {a b o i : Expr} {es : List Expr} {pos : Pos} {p q : Addr} {xs ys : List V} {n : Int} {v : V}
theorem we_ix (hs : PlainIx b) (h : We X a σ H fun x H1 => We X b σ H1 fun y H2 => Ix X x y H2 Q) : We X (.Subscript a b pos) σ H Q := we_of (pe_ix (Ix.ok X) We.pe We.pe hs) h
theorem ix_l (h : SqL X.K H p xs) (e : atI xs n = some v) (k : Q v H) : Ix X (.ref p) (.int n) H Q := ⟨_, ix_list, p, xs, n, v, rfl, rfl, h, e, k⟩
theorem ix_t (h : SqT X.K H p xs) (e : atI xs n = some v) (k : Q v H) : Ix X (.ref p) (.int n) H Q := ⟨_, ix_tup, p, xs, n, v, rfl, rfl, h, e, k⟩
theorem ix_lh (h : H p = some (.lst xs)) (e : atI xs n = some v) (k : Q v H) : Ix X (.ref p) (.int n) H Q := ix_l (.of h) e k
theorem ix_th (h : H p = some (.tup xs)) (e : atI xs n = some v) (k : Q v H) : Ix X (.ref p) (.int n) H Q := ix_t (.of h) e k
theorem wg_sub {QG : L2.St → Hp → Prop} (ha : ∀ v, assign (.Subscript o i pos) X.env v = (do
      let ov ← holding [v] (eval o X.env)
      let iv ← holding [v, ov] (eval i X.env)
      standAt pos
      holding [v, ov, iv] (setItem ov iv v)
      release [v, ov, iv] []))
    (h : We X o σ H fun x H1 => We X i σ H1 fun y H2 => St X x y v H2 fun H3 => QG σ H3) : Wg X (.Subscript o i pos) v σ H QG := wg_of (pg_sub We.pe We.pe (St.ok X) ha) h
theorem st_l {j : Nat} {QH : Hp → Prop} (h : H p = some (.lst xs)) (e : ixN xs.length n = some j) (k : QH (upd H p (.lst (xs.set j v)))) : St X (.ref p) (.int n) v H QH := ⟨_, set_list, p, xs, n, j, rfl, rfl, h, e, k⟩
theorem we_tup {x1 : Nat} (h : Wa X es σ H fun vs H1 => vs.length ≤ sizeLine ∧ ∀ p, H1 p = none → Q (.ref p) (upd H1 p (.tup vs))) : We X (.Tuple es x1 pos) σ H Q := we_of (pe_tup Wa.pa) h
theorem size_ok {n : Nat} (h : n ≤ 100000) : n ≤ sizeLine := Nat.le_trans h (by decide)
/-- == of data -/
theorem wo_eqD {k : Nat} {x y : V} {d e : PyData} {c : Bool} (hr : Room k X.A) (hd : Dp X.K H x d) (he : Dp X.K H y e) (sd : SeqAt.shaped d = true) (se : SeqAt.shaped e = true) (hc : PyData.eqv d e = c) (q : Q (.bl c) H) : Wo X (compareOp .Eq) x y σ H Q :=
  wo_of (op_eqD hr.units) ⟨d, e, hd, he, sd, se, by rw [hc]; exact q⟩
theorem wo_neD {k : Nat} {x y : V} {d e : PyData} {c : Bool} (hr : Room k X.A) (hd : Dp X.K H x d) (he : Dp X.K H y e) (sd : SeqAt.shaped d = true) (se : SeqAt.shaped e = true) (hc : PyData.eqv d e = c) (q : Q (.bl (!c)) H) : Wo X (compareOp .NotEq) x y σ H Q :=
  wo_of (op_neD hr.units) ⟨d, e, hd, he, sd, se, by rw [hc]; exact q⟩
theorem dp_ints {K : PySem.W.Frag} : ∀ ns : List Int, DpAll K H (ns.map V.int) (ns.map PyData.int)
  | [] => .nil
  | n :: r => .cons (.int n) (dp_ints r)
theorem wo_eq_nil {k : Nat} {ns : List Int} (hr : Room k X.A) (hp : SqL X.K H p (ns.map V.int)) (hq : H q = some (.lst [])) (c : Q (.bl (decide (ns = []))) H) : Wo X (compareOp .Eq) (.ref p) (.ref q) σ H Q := by
  refine wo_eqD hr (.lst hp (dp_ints ns)) (.lst (.of hq) .nil) (PySem.W.shaped_ints ns) (by decide) ?_ c
  cases ns with
  | nil => rfl
  | cons a r => rfl
/-- two pairs of ints -/
theorem eqv_t2 (a b c d : Int) : PyData.eqv (.tuple [.int a, .int b]) (.tuple [.int c, .int d]) = decide (a = c ∧ b = d) := by
  simp only [PyData.eqv, PyData.eqvAll, Bool.and_true]
  by_cases h : a = c <;> by_cases h2 : b = d <;> simp [h, h2]
theorem sh_t2 (a b : Int) : SeqAt.shaped (.tuple [.int a, .int b]) = true := by
  simp [SeqAt.shaped, PyData.canLay0, PyData.canLayAll0, PyData.depth, PyData.depthAll]
theorem wo_eq_t2 {k : Nat} {a b c d : Int} (hr : Room k X.A) (hp : H p = some (.tup [.int a, .int b])) (hq : H q = some (.tup [.int c, .int d])) (z : Q (.bl (decide (a = c ∧ b = d))) H) : Wo X (compareOp .Eq) (.ref p) (.ref q) σ H Q :=
  wo_eqD hr (.tup (.of hp) (.cons (.int a) (.cons (.int b) .nil))) (.tup (.of hq) (.cons (.int c) (.cons (.int d) .nil))) (sh_t2 a b) (sh_t2 c d) (eqv_t2 a b c d) z
theorem wo_ne_t2 {k : Nat} {a b c d : Int} (hr : Room k X.A) (hp : H p = some (.tup [.int a, .int b])) (hq : H q = some (.tup [.int c, .int d])) (z : Q (.bl (!decide (a = c ∧ b = d))) H) : Wo X (compareOp .NotEq) (.ref p) (.ref q) σ H Q :=
  wo_neD hr (.tup (.of hp) (.cons (.int a) (.cons (.int b) .nil))) (.tup (.of hq) (.cons (.int c) (.cons (.int d) .nil))) (sh_t2 a b) (sh_t2 c d) (eqv_t2 a b c d) z
theorem wo_divS {i j : Int} (c : 0 < j ∧ j < 1073741824) (q : Q (.int (i / j)) H) : Wo X (binaryOp .FloorDiv) (.int i) (.int j) σ H Q := wo_of op_fdiv ⟨i, j, rfl, rfl, c, q⟩
theorem wo_mulL {i j : Int} (c : -(2 ^ 64) < i ∧ i < 2 ^ 64) (q : Q (.int (i * j)) H) : Wo X (binaryOp .Mult) (.int i) (.int j) σ H Q := wo_of op_mul ⟨i, j, rfl, rfl, .inl c, q⟩
theorem wo_pow {i j : Int} (c : 0 ≤ j ∧ j ≤ 1000000 ∧ i.natAbs < 2 ^ 64) (q : Q (.int (i ^ j.toNat)) H) : Wo X (binaryOp .Pow) (.int i) (.int j) σ H Q := wo_of op_pow ⟨i, j, rfl, rfl, c, q⟩
theorem wcb_lenL (h : SqL X.K H p xs) (k : Q (.int (xs.length : Int)) H) : Wcb X (.builtin "len") [.ref p] H Q := ⟨_, call_len_seq, p, xs, rfl, .inl h, k⟩
theorem wcb_lenT (h : SqT X.K H p xs) (k : Q (.int (xs.length : Int)) H) : Wcb X (.builtin "len") [.ref p] H Q := ⟨_, call_len_seq, p, xs, rfl, .inr h, k⟩
theorem wcb_listL (h : SqL X.K H p xs) (k : ∀ l, H l = none → Q (.ref l) (upd H l (.lst xs))) : Wcb X (.type "list") [.ref p] H Q := ⟨_, call_list_of, p, xs, rfl, .inl h, k⟩
end
end Ni

/-! WR: keywords. -/
namespace Ni
open PySem PySem.Spec PyProof.Rows L2
structure OkK (P : Program) (w : World) (K : PySem.W.Frag) (mg : Str → Option Value) (base : Heap) (k : Nat) (f : Addr) (ps : List Str) (n : Nat) (ks : List Str) (gV : List V → List V → List V) (sp : Sp) : Prop where
  ex : ∃ fd g, FnOk P w K mg base (L2.CX P w) k f fd ps sp ∧ KBn K fd ps n ks g gV
  kp : PySem.W.keepIn K (.ref f) = true
section
variable {X : Cx} {σ : L2.St} {H : Hp} {Q : VK} {k n : Nat} {f C : Addr} {ps ks : List Str} {sp : Sp} {vs zs : List V} {gV : List V → List V → List V} {e : Expr} {es : List Expr} {kws : List Keyword} {x : Str} {p pos kpos : Pos} {N G : List Str} {nm : Option Str}
theorem wk_nil {QA : List V → Hp → Prop} (q : QA [] H) : Wk X [] σ H QA := fun pos pins s I => pk_nil.run pos pins s σ H _ I q
theorem wk_cons {QA : List V → Hp → Prop} (h : We X e σ H fun v H1 => Wk X kws σ H1 fun vs H2 => QA (v :: vs) H2) : Wk X (⟨nm, e, kpos⟩ :: kws) σ H QA := fun pos pins s I => (pk_cons We.pe Wk.pk).run pos pins s σ H QA I h
theorem we_newK (S : Names1 X N G) (hx : x ∈ G) (hm : X.mg x = some (.ref C)) (M : Mk X.K C f) (O : OkK X.prog X.w X.K X.mg X.base k f ps (n + 1) ks gV sp) (hr : Room (k + 1) X.A)
    (hall : (backToKw pos (keywordEach kws X.env)).all (·.1.isSome) = true) (hks : (backToKw pos (keywordEach kws X.env)).filterMap (·.1) = ks)
    (he : starEach (e :: es) X.env = (false, eval e X.env) :: starEach es X.env)
    (hpl : ((backTo pos (starEach (e :: es) X.env)).any (·.1) || (backToKw pos (keywordEach kws X.env)).any (·.1.isNone)) = false)
    (h : Wa X (e :: es) σ H fun vs H1 => Wk X kws σ H1 fun zs H2 => vs.length = n ∧ zs.length = ks.length ∧
      ∀ a dx, H2 a = none → H2 dx = none → dx ≠ a → sp (gV (.ref a :: vs) zs) (upd (upd H2 dx (.own a)) a (.ins C dx [])) (fun v H3 => v = .non ∧ Q (.ref a) H3) (xk X σ)) : We X (.Call (.Name x p) (e :: es) kws pos) σ H Q := by
  obtain ⟨fd, g, F, hb⟩ := O.ex
  intro pins s I
  refine wpAny_Call_Name_kw (ld_glob I (S.glb x hx).1 hm ?_ (S.glb x hx).2)
  refine PySem.W.callWith_KW (h₀ := X.base) I.ok.mod.kin M.kp hall (thn (h pos pins s I) fun us s1 ⟨vs, H1, I1, r, q⟩ => ?_) hpl he
  refine thn (q pos pins s1 I1) fun ws s2 ⟨zs, H2, I2, rz, l1, l2, q2⟩ => ⟨I2.kIn, ?_⟩
  rw [hks]
  have hq := q2 (s2.heap.objs.size + 1) s2.heap.objs.size (I2.hok.fresh (Nat.le_succ _)) (I2.hok.fresh (Nat.le_refl _)) (Nat.ne_of_lt (Nat.lt_succ_self _))
  have I3 := Inv.made (C := C) I2
  have r1 : Vals (V.ref (s2.heap.objs.size + 1) :: vs) (Value.ref (s2.heap.objs.size + 1) :: us) := .cons rfl r
  have r2 := hb.rel r1 rz
  have e1 : (Value.ref (s2.heap.objs.size + 1) :: us).length = n + 1 := r1.length.symm.trans (congrArg Nat.succ l1)
  have e2 : ws.length = ks.length := rz.length.symm.trans l2
  refine wpAny_call (make_map (f := f) I2.kIn M.makes M.init (beq_iff_eq.mp M.fn) (codeAny_mono (F.run _ X.stack _ _ ⟨Value.ref (s2.heap.objs.size + 1) :: us, ks.zip ws⟩ (g (Value.ref (s2.heap.objs.size + 1) :: us) ws) _ _ (xk X σ) (hr.make C us (ks.zip ws))
    (I3.env0.make C us (ks.zip ws)) (hb.to _ (Value.ref (s2.heap.objs.size + 1) :: us) ws I3.kIn e1 e2) r2 hq) fun rr s' hq' => ?_))
  cases rr with
  | error ee => exact passAt (xw_takes X) σ pins _ _ ee s' I3 hq'
  | ok fl =>
    cases fl with
    | ret u =>
      obtain ⟨v, H', I4, rv, ev, q3⟩ := I3.after hq'
      subst ev
      exact ⟨rv, ⟨V.ref (s2.heap.objs.size + 1), H', I4, rfl, q3⟩⟩
    | next => exact False.elim hq'
    | brk => exact False.elim hq'
    | cont => exact False.elim hq'
end
end Ni
namespace Ni
open PySem PySem.Spec PyProof.Rows L2
/-- a goal to stop at -/
def Jn (p : Prop) : Prop := p
section
variable {X : Cx} {σ : L2.St} {H : Hp} {b sts sts' rest : List Stmt} {D D' : Ends}
theorem SP.imp {pins : List (Addr × Obj)} {r : Flow} {s : Shared} (h1 : ∀ σ H, D.nx σ H → D'.nx σ H) (h2 : ∀ v H, D.rt v H → D'.rt v H) (h3 : ∀ σ H, D.bk σ H → D'.bk σ H) (h4 : ∀ σ H, D.ct σ H → D'.ct σ H) (h : SP X pins D r s) : SP X pins D' r s := by
  cases r with
  | next => obtain ⟨σ, H, I, q⟩ := h; exact ⟨σ, H, I, h1 _ _ q⟩
  | ret u => obtain ⟨v, σ, H, I, r, q⟩ := h; exact ⟨v, σ, H, I, r, h2 _ _ q⟩
  | brk => obtain ⟨σ, H, I, q⟩ := h; exact ⟨σ, H, I, h3 _ _ q⟩
  | cont => obtain ⟨σ, H, I, q⟩ := h; exact ⟨σ, H, I, h4 _ _ q⟩
theorem Wb.imp (k : ∀ σ H, D.nx σ H → D'.nx σ H) (k2 : ∀ v H, D.rt v H → D'.rt v H) (k3 : ∀ σ H, D.bk σ H → D'.bk σ H) (k4 : ∀ σ H, D.ct σ H → D'.ct σ H) (h : Wb X b D σ H) : Wb X b D' σ H := fun pins s I => thn (h pins s I) fun _ _ q => SP.imp k k2 k3 k4 q
/-- both branches of an if meet at J -/
theorem if_join {c : Prop} [Decidable c] (J : L2.St → Hp → Prop) (h1 : c → Wb X sts { D with nx := fun σ' H' => Jn (J σ' H') } σ H) (h2 : ¬ c → Wb X sts' { D with nx := fun σ' H' => Jn (J σ' H') } σ H) (h : ∀ σ' H', J σ' H' → Wb X rest D σ' H') :
    if decide c = true then Wb X sts { D with nx := Wb X rest D } σ H else Wb X sts' { D with nx := Wb X rest D } σ H :=
  if_d (fun z => Wb.imp (D := { D with nx := fun σ' H' => Jn (J σ' H') }) (fun σ' H' q => h σ' H' q) (fun _ _ q => q) (fun _ _ q => q) (fun _ _ q => q) (h1 z)) (fun z => Wb.imp (D := { D with nx := fun σ' H' => Jn (J σ' H') }) (fun σ' H' q => h σ' H' q) (fun _ _ q => q) (fun _ _ q => q) (fun _ _ q => q) (h2 z))
end
/-- a law, its context by the world -/
theorem walk_w {l : PySem.W.OpenLaw} {n k : Nat} {q : Program} {loose : List Str} {XP : (Str → Option Value) → Heap → Prop} {YP : World → Heap → Prop} {d : DefRec} {CX : World → CXT} {x : Str}
    (hn : l.most = some n) (hn2 : n ≤ sizeLine) (hdf : d.params.defaults = []) (hr : Room k callerA)
    (F : ∀ (w : World) (mg : Str → Option Value) (fa : Addr) (h : Heap), YP w h → h.Ns mainGlobals mg → mg d.name = some (.ref fa) →
      ∃ (K : PySem.W.Frag) (fd : FuncData) (sp : Sp), K.In h ∧ (∀ (s : Shared) (u : Value), BindsTo s fd ⟨[u], []⟩ [(x, u)]) ∧
        (∀ (H : Hp) (a : Addr) (ns : List Int), ns.length ≤ n → Only H → SqL K H a (ns.map V.int) → sp [.ref a] H (fun v _ => v = .bl true) fun _ _ _ => False) ∧
        ∀ base : Heap, K.In base → base.Ns mainGlobals mg → FnOk l.prog w K mg base (CX w) k fa fd [x] sp)
    (hCX : ∀ (w : World) (H : Hp) (s : Shared) (e : Value) (s' : Shared), CX w [] H s (fun _ _ _ => False) e s' → False) :
    PySem.W.WalkO q loose XP YP l.row.toRowW d [] (fun f vs => PySem.call f vs) := by
  refine Att.attach_call hn hdf fun w s0 s1 mg mb fa o pm cd doc a vs ns G Y ho hd hcd hmg hobj hints hlen hg => ?_
  obtain ⟨K, fd, sp, KX, hb, hsp, hF⟩ := F w mg fa _ Y G.T.g hmg
  exact law_call KX G.T.g G.T.b G.T.builtins G.T.nolimit hg hobj hints (Nat.le_trans hlen hn2) hr hF hb (fun H hO hS => hsp H a ns hlen hO hS) fun H e s' => hCX w H s1 e s'
end Ni

/-! WS: a number on the left, an instance on the right. -/
namespace Ni
open PySem PySem.Spec PyProof.Rows PySem.W
section
variable {prog : Program} {w : World} {A : Around} {E : Value → Shared → Prop} {s : Shared} {K : Frag} {x C L f f0 : Addr} {h0 : Heap} {m : Str → Option Value} {ox : Obj} {od : Option Obj} {n : Int} {t : Tok}
/-- a built-in method gives up -/
def GivesUp (id : String) : Prop := ∀ {prog : Program} {w : World} {A : Around} {E : Value → Shared → Prop} {s : Shared} {Q : Value → Shared → Prop} (n : Int) (t : Tok) (x : Addr) (o : Obj), s.heap.get? x = some o → o.data = .plain → Q .notImplemented s →
  wpAny (model prog w) A (call (.builtin id) [.int n t, .ref x]) Q E s
theorem up_bin {name : String} {g : Int → Int → Sem Fin} {s : Shared} {A : Around} {M : Model} {Q : Fin → Shared → Prop} {E : Value → Shared → Prop} (n : Int) (t : Tok) (x : Addr) (o : Obj) (h1 : s.heap.get? x = some o) (h2 : o.data = .plain)
    (q : Q (.done (.ret .notImplemented)) s) : wpAny M A (PySem.Builtin.Int.intBinary name g false ⟨[.int n t, .ref x], []⟩) Q E s := by
  unfold PySem.Builtin.Int.intBinary
  refine wpAny_bind (m := slotArgs name 1 _) (wpAny_pure ?_)
  refine wpAny_bind (m := PySem.Builtin.Int.intOfSelf (.int n t)) (wpAny_pure ?_)
  refine wpAny_bind (m := asInt? (.ref x)) ?_
  unfold asInt?
  refine wpAny_bind (wpAny_load h1 ?_)
  rw [h2]
  show wpAny M A (pure none) _ _ _
  refine wpAny_pure ?_
  exact wpAny_bind (wpAny_rule (wpAny_pure q))
theorem gives_up {id : String} {b : Builtin} {name : Str} {nm : String} {g : Int → Int → Sem Fin} (slot : Slot "int" name id) (entry : entryFor table id = some b) (args : ∀ a b : Value, argsOk id ⟨[a, b], []⟩) (e : b = PySem.Builtin.Int.intBinary nm g false) : GivesUp id := by
  intro prog w A E s Q n t x o h1 h2 q
  refine wpAny_call_entry slot (typeIs_int s n t) entry ?_ (args _ _)
  rw [e]
  exact up_bin n t x o h1 h2 ⟨_, rfl, q⟩
theorem up_add : GivesUp "int.__add__" := gives_up F.slot_int_add F.entry_int_add F.args_int_add_2 rfl
theorem up_sub : GivesUp "int.__sub__" := gives_up F.slot_int_sub F.entry_int_sub F.args_int_sub_2 rfl
theorem up_mul : GivesUp "int.__mul__" := gives_up F.slot_int_mul F.entry_int_mul F.args_int_mul_2 rfl
theorem up_mod : GivesUp "int.__mod__" := gives_up F.slot_int_mod F.entry_int_mod F.args_int_mod_2 rfl
theorem up_lt : GivesUp "int.__lt__" := gives_up F.slot_int_lt F.entry_int_lt F.args_int_lt_2 rfl
theorem up_le : GivesUp "int.__le__" := gives_up F.slot_int_le F.entry_int_le F.args_int_le_2 rfl
theorem up_gt : GivesUp "int.__gt__" := gives_up F.slot_int_gt F.entry_int_gt F.args_int_gt_2 rfl
theorem up_ge : GivesUp "int.__ge__" := gives_up F.slot_int_ge F.entry_int_ge F.args_int_ge_2 rfl
theorem up_eq : GivesUp "int.__eq__" := gives_up F.slot_int_eq F.entry_int_eq F.args_int_eq_2 rfl
theorem up_ne : GivesUp "int.__ne__" := gives_up F.slot_int_ne F.entry_int_ne F.args_int_ne_2 rfl
theorem bin_right {op : Operator} {idl : String} {Q : Value → Shared → Prop} (F : Fr h0 L s.heap m) (X0 : K.In h0) (I : InstAt s.heap x ox C od) (hd : ox.data = .plain) (hc : selfFirst K C = true)
    (hs : findIn K (.ref C) (PySem.dunder op.info.2) = some (some (.ref f0))) (hr : findIn K (.ref C) (dunderR op.info.2) = some (some (.ref f))) (hf : isFn K (.ref f) = true)
    (hT : fillsNumberSlot (.type "int") op.info.2 = pure true) (hsub : subIn K (.ref C) (.type "int") = some false) (hl : Slot "int" (PySem.dunder op.info.2) idl) (up : GivesUp idl)
    (h : wpAny (model prog w) A (call (.ref f) [.ref x, .int n t]) (PySem.W.CmpBack Q) E s) : wpAny (model prog w) A (binaryOp op (.int n t) (.ref x)) Q E s := by
  have X := X0.keeps F.keep
  obtain ⟨cd, rest, hcd, hm⟩ := ksp_first hc
  rcases hi : op.info with ⟨sym, nm⟩
  rw [hi] at hs hr hT hl
  dsimp only at hs hr hT hl
  have one := ksp_try X I hr hf h
  have hne : (Value.type "int" == Value.ref C) = false := Bool.eq_false_iff.mpr fun q => by cases beq_iff_eq.mp q
  simp only [binaryOp, hi]
  refine wpAny_holding (wpAny_bind ?_)
  unfold binaryOp1
  refine wpAny_bind (wpAny_typeOf (typeIs_int s n t) (wpAny_bind (I.type.here (wpAny_bind (wpAny_of_eq hT ?_)))))
  simp only [hne, Bool.false_eq_true, if_false]
  refine wpAny_bind ((fills_K X hcd hm hs).here ?_)
  simp only [Bool.and_self, if_true]
  refine wpAny_bind ((looks_subIn X hsub).here ?_)
  have hpy : numberSlotInPython (.type "int") nm = pure false := rfl
  simp only [Bool.false_eq_true, if_false, pure_bind, Bool.not_false, Bool.and_self, if_true, hpy]
  refine wpAny_bind (m := tryMethod (.int n t) _ (.ref x)) ?_
  have lft : wpAny (model prog w) A (tryMethod (.int n t) (PySem.dunder nm) (.ref x)) (fun r s' => r = none ∧ s' = s) E s := by
    unfold tryMethod
    exact wpAny_bind (wpAny_callSpecial?_slot (typeIs_int s n t) hl (up n t x ox I.at_ hd (wpAny_pure ⟨rfl, rfl⟩)))
  refine wpAny_mono lft (fun r s' z => ?_) fun _ _ e => e
  obtain ⟨rfl, rfl⟩ := z
  dsimp only
  refine wpAny_bind (wpAny_mono one (fun r s' z => ?_) fun _ _ e => e)
  obtain ⟨v, rfl, hq⟩ := z
  exact wpAny_bind (wpAny_rule (wpAny_pure (wpAny_pure hq)))
theorem cmp_right {op : CmpOp} {idl : String} {Q : Value → Shared → Prop} (hu : A.units < cLine) (F : Fr h0 L s.heap m) (X0 : K.In h0) (I : InstAt s.heap x ox C od) (hd : ox.data = .plain)
    (hr : findIn K (.ref C) (cmpInfo op).2.2 = some (some (.ref f))) (hf : isFn K (.ref f) = true) (hsub : subIn K (.ref C) (.type "int") = some false) (hl : Slot "int" (cmpInfo op).2.1 idl) (up : GivesUp idl)
    (h : wpAny (model prog w) A (call (.ref f) [.ref x, .int n t]) (PySem.W.CmpBack Q) E s) : wpAny (model prog w) A (richCompare op (.int n t) (.ref x)) Q E s := by
  have X := X0.keeps F.keep
  have one : wpAny (model prog w) A (tryCompare (.ref x) (cmpInfo op).2.2 (.int n t)) (fun r s' => ∃ v, r = some v ∧ Q v s') E s := by
    unfold tryCompare
    refine wpAny_bind (ifBound_K X I hr hf (wpAny_mono h (fun v s' hv => ?_) fun _ _ e => e))
    cases v <;> first | exact hv.elim | exact wpAny_pure ⟨_, rfl, hv⟩
  have lft : wpAny (model prog w) A (tryCompare (.int n t) (cmpInfo op).2.1 (.ref x)) (fun r s' => r = none ∧ s' = s) E s := by
    unfold tryCompare
    exact wpAny_bind (wpAny_callSpecialIfBound?_slot (typeIs_int s n t) hl (up n t x ox I.at_ hd (wpAny_pure ⟨rfl, rfl⟩)))
  have hne : (Value.type "int" != Value.ref C) = true := by
    show (!(Value.type "int" == Value.ref C)) = true
    have z : (Value.type "int" == Value.ref C) = false := Bool.eq_false_iff.mpr fun q => by cases beq_iff_eq.mp q
    rw [z]
    rfl
  unfold richCompare
  simp only [(typeIs_int s n t).oneThing_none op]
  refine wpAny_holding (wpAny_bind (wpAny_cRoomFor hu ?_))
  refine wpAny_bind (wpAny_typeOf (typeIs_int s n t) (wpAny_bind (I.type.here ?_)))
  simp only [hne, if_true]
  refine wpAny_bind ((looks_subIn X hsub).here ?_)
  simp only [Bool.false_eq_true, if_false]
  refine wpAny_bind (wpAny_mono lft (fun r s' z => ?_) fun _ _ e => e)
  obtain ⟨rfl, rfl⟩ := z
  simp only [Bool.not_false, if_true]
  refine wpAny_bind (wpAny_mono one (fun r s' z => ?_) fun _ _ e => e)
  obtain ⟨v, rfl, hq⟩ := z
  exact wpAny_pure hq
end
end Ni

/-! WT: in-place signs over own classes, abs. -/
namespace Ni
open PySem PySem.Spec PyProof.Rows PySem.W PySem.Calls
/-- no in-place method of that sign -/
def noiB (K : Frag) (C : Addr) (nm : String) : Bool := (match clsIn K C with
  | some cd => decide (cd.mro = [.ref C, .type "object"])
  | none => false) && decide (findIn K (.ref C) (dunderI nm) = some none)
section
variable {prog : Program} {w : World} {M : Model} {A : Around} {E : Value → Shared → Prop} {s : Shared} {K : Frag} {x C L f f0 : Addr} {h0 : Heap} {m : Str → Option Value} {ox : Obj} {od : Option Obj} {n : Int} {t : Tok}
theorem noi_of {nm : String} {add : Bool} {h : Heap} (X : K.In h) (hn : noiB K C nm = true) (ho : typeLookup (.type "object") (dunderI nm) = pure none) : Looks M h (fillsInplaceSlot (.ref C) nm add) false := by
  intro A Q E s k q
  obtain ⟨c1, c2⟩ := Bool.and_eq_true_iff.mp hn
  cases hc : clsIn K C with
  | none => rw [hc] at c1; cases c1
  | some cd =>
    rw [hc] at c1
    have hm := of_decide_eq_true c1
    have X' := X.keeps k
    have lm : Looks M s.heap (mroOf (.ref C)) cd.mro := (looks_clsIn X' hc).andThen (f := fun cd => pure cd.mro) .now
    have li : Looks M s.heap (typeLookup (.ref C) (dunderI nm)) none := looks_findIn X' (of_decide_eq_true c2)
    unfold fillsInplaceSlot
    refine wpAny_bind (lm.here ?_)
    rw [hm, List.anyM_cons]
    refine wpAny_bind ?_
    refine wpAny_bind (li.here (wpAny_pure ?_))
    rw [if_neg Bool.false_ne_true, List.anyM_cons]
    refine wpAny_bind ?_
    refine wpAny_bind (wpAny_of_eq ho (wpAny_pure ?_))
    rw [if_neg Bool.false_ne_true]
    exact wpAny_pure q
theorem bin1_two {nm : String} {b : Value} {Q : Value → Shared → Prop} (X : K.In s.heap) (I : InstAt s.heap x ox C od) (tb : Looks M s.heap (typeOf b) (.ref C)) (hc : selfFirst K C = true)
    (hs : findIn K (.ref C) (PySem.dunder nm) = some (some (.ref f))) (one : wpAny M A (tryMethod (.ref x) (PySem.dunder nm) b) (fun r s' => ∃ v, r = some v ∧ Q v s') E s) :
    wpAny M A (binaryOp1 nm (.ref x) b) (fun r s' => ∃ v, r = some v ∧ Q v s') E s := by
  obtain ⟨cd, rest, c1, c2⟩ := ksp_first hc
  unfold binaryOp1
  refine wpAny_bind (I.type.here ?_)
  refine wpAny_bind (tb.here ?_)
  refine wpAny_bind ((fills_K X c1 c2 hs).here ?_)
  rw [if_pos (beq_self_eq_true _)]
  refine wpAny_bind (wpAny_pure ?_)
  simp only [Bool.and_false, Bool.false_and, Bool.false_eq_true, if_false, if_true, pure_bind]
  refine wpAny_bind (wpAny_mono one (fun r s' z => ?_) fun _ _ e => e)
  obtain ⟨v, rfl, q⟩ := z
  exact wpAny_pure ⟨_, rfl, q⟩
theorem bin1_int {nm : String} {b : Value} {ro rc : Option Value} {Q : Value → Shared → Prop} (X : K.In s.heap) (I : InstAt s.heap x ox C od) (tb : typeOf b = pure (.type "int")) (hc : selfFirst K C = true)
    (hs : findIn K (.ref C) (PySem.dunder nm) = some (some (.ref f))) (hr : findIn K (.ref C) (dunderR nm) = some rc) (hp : rc = none ∨ ∃ g : Addr, rc = some (.ref g)) (hT : fillsNumberSlot (.type "int") nm = pure true)
    (h2 : findIn K (.type "int") (dunderR nm) = some ro) (hsub : subIn K (.type "int") (.ref C) = some false) (one : wpAny M A (tryMethod (.ref x) (PySem.dunder nm) b) (fun r s' => ∃ v, r = some v ∧ Q v s') E s) :
    wpAny M A (binaryOp1 nm (.ref x) b) (fun r s' => ∃ v, r = some v ∧ Q v s') E s := by
  obtain ⟨cd, rest, c1, c2⟩ := ksp_first hc
  have ne : (Value.ref C == Value.type "int") = false := Bool.eq_false_iff.mpr fun q => by cases beq_iff_eq.mp q
  have hpy : numberSlotInPython (.type "int") nm = pure false := rfl
  unfold binaryOp1
  refine wpAny_bind (I.type.here ?_)
  refine wpAny_bind (wpAny_of_eq tb ?_)
  refine wpAny_bind ((fills_K X c1 c2 hs).here ?_)
  rw [if_neg (by rw [ne]; exact Bool.false_ne_true)]
  refine wpAny_bind (wpAny_of_eq hT ?_)
  simp only [Bool.and_self, if_true]
  refine wpAny_bind ((looks_subIn X hsub).here ?_)
  simp only [Bool.false_eq_true, if_false, pure_bind, Bool.not_false, Bool.and_self, if_true, hpy]
  refine wpAny_bind ((ksp_inPy X hs hr hp).here ?_)
  simp only [if_true, pure_bind, hpy, Bool.not_false]
  refine wpAny_bind ((looks_findIn X h2).here ?_)
  refine wpAny_bind (wpAny_mono one (fun r s' z => ?_) fun _ _ e => e)
  obtain ⟨v, rfl, q⟩ := z
  exact wpAny_pure ⟨_, rfl, q⟩
theorem iop_of {op : Operator} {b : Value} {Q : Value → Shared → Prop} (X : K.In s.heap) (I : InstAt s.heap x ox C od) (hn : noiB K C op.info.2 = true) (ho : typeLookup (.type "object") (dunderI op.info.2) = pure none)
    (h : wpAny M A (binaryOp1 op.info.2 (.ref x) b) (fun r s' => ∃ v, r = some v ∧ Q v s') E s) : wpAny M A (inplaceOp op (.ref x) b) Q E s := by
  unfold inplaceOp
  refine wpAny_holding ?_
  refine wpAny_bind (I.type.here ?_)
  refine wpAny_bind ((noi_of X hn ho).here ?_)
  simp only [Bool.false_eq_true, if_false, pure_bind]
  refine wpAny_bind (wpAny_mono h (fun r s' z => ?_) fun _ _ e => e)
  obtain ⟨v, rfl, q⟩ := z
  exact wpAny_pure q
theorem abs_own {Q : Value → Shared → Prop} (X : K.In s.heap) (I : InstAt s.heap x ox C od) (hs : findIn K (.ref C) "__abs__" = some (some (.ref f))) (hf : isFn K (.ref f) = true)
    (h : wpAny (model prog w) A.in1 (call (.ref f) [.ref x]) Q E s) : wpAny (model prog w) A (call (.builtin "abs") [.ref x]) Q E s := by
  refine call_function_entry kind_abs plain_abs entry_abs (args_abs _) ?_
  unfold Builtin.«abs»
  refine wpAny_bind (m := oneArg "abs" _) (wpAny_pure ?_)
  refine wpAny_bind (special_fn X I hs (beq_iff_eq.mp hf) (wpAny_mono h (fun v s' q => ?_) fun _ _ e => e))
  exact wpAny_pure ⟨_, rfl, q⟩
end
theorem no_iadd : typeLookup (.type "object") (dunderI "add") = pure none := by rw [typeLookup_type, builtinLookup_eq_fast]; kernel_rfl
theorem no_imul : typeLookup (.type "object") (dunderI "mul") = pure none := by rw [typeLookup_type, builtinLookup_eq_fast]; kernel_rfl
theorem no_isub : typeLookup (.type "object") (dunderI "sub") = pure none := by rw [typeLookup_type, builtinLookup_eq_fast]; kernel_rfl
end Ni

namespace Ni
open PySem PySem.Spec PyProof.Rows L2
section
variable {X : Cx} {σ : L2.St} {H : Hp} {Q : VK} {op : Operator} {cop : CmpOp} {C f f0 a b dx dy : Addr} {fs gs : List (Str × V)} {n : Int} {k : Nat}
/-- an int on the left, an instance on the right -/
theorem wo_right {idl : String} (ha : H a = some (.ins C dx fs)) (hc : PySem.W.selfFirst X.K C = true) (g0 : Sg X.K C (PySem.dunder op.info.2) f0) (g : Sg X.K C (dunderR op.info.2) f) (hT : fillsNumberSlot (.type "int") op.info.2 = pure true)
    (hsub : PySem.W.subIn X.K (.ref C) (.type "int") = some false) (hl : Slot "int" (PySem.dunder op.info.2) idl) (up : GivesUp idl) (h : Wf X (.ref f) [.ref a, .int n] σ H Q) : Wo X (binaryOp op) (.int n) (.ref a) σ H Q := by
  intro pins s v u I rx ry
  obtain ⟨t, rfl⟩ := rx
  cases ry
  obtain ⟨od, J⟩ := inst_at I ha
  obtain ⟨m, hF⟩ := I.fr
  refine bin_right hF I.ok.mod.kin J rfl hc g0.hs g.hs g.hf hT hsub hl up ?_
  exact thn (h pins s [.ref a, .int n t] I (.cons rfl (.cons ⟨t, rfl⟩ .nil))) fun _ _ q => told_of q
theorem wo_cmpR {idl : String} (hr : Room k X.A) (ha : H a = some (.ins C dx fs)) (g : Sg X.K C (cmpInfo cop).2.2 f) (hsub : PySem.W.subIn X.K (.ref C) (.type "int") = some false) (hl : Slot "int" (cmpInfo cop).2.1 idl) (up : GivesUp idl)
    (h : Wf X (.ref f) [.ref a, .int n] σ H Q) : Wo X (richCompare cop) (.int n) (.ref a) σ H Q := by
  intro pins s v u I rx ry
  obtain ⟨t, rfl⟩ := rx
  cases ry
  obtain ⟨od, J⟩ := inst_at I ha
  obtain ⟨m, hF⟩ := I.fr
  refine cmp_right hr.units0 hF I.ok.mod.kin J rfl g.hs g.hf hsub hl up ?_
  exact thn (h pins s [.ref a, .int n t] I (.cons rfl (.cons ⟨t, rfl⟩ .nil))) fun _ _ q => told_of q
theorem try_of {pins : List (Addr × Obj)} {s : Shared} {A : Around} {m : Str} {E : Value → Shared → Prop} {v : Value} (I : Inv X pins σ H s) (ha : H a = some (.ins C dx fs)) (g : Sg X.K C m f)
    (h : wpAny (model X.prog X.w) A (call (.ref f) [.ref a, v]) (EP X pins σ Q) E s) : wpAny (model X.prog X.w) A (tryMethod (.ref a) m v) (fun r s' => ∃ v, r = some v ∧ EP X pins σ Q v s') E s := by
  obtain ⟨od, J⟩ := inst_at I ha
  obtain ⟨m, hF⟩ := I.fr
  exact PySem.W.ksp_try (I.ok.mod.kin.keeps hF.keep) J g.hs g.hf (thn h fun _ _ q => told_of q)
theorem wi_two (ha : H a = some (.ins C dx fs)) (hb : H b = some (.ins C dy gs)) (hc : PySem.W.selfFirst X.K C = true) (g : Sg X.K C (PySem.dunder op.info.2) f) (hn : noiB X.K C op.info.2 = true) (ho : typeLookup (.type "object") (dunderI op.info.2) = pure none)
    (h : Wf X (.ref f) [.ref a, .ref b] σ H Q) : Wo X (inplaceOp op) (.ref a) (.ref b) σ H Q := by
  intro pins s v u I rx ry
  cases rx
  cases ry
  obtain ⟨od, J⟩ := inst_at I ha
  obtain ⟨od', J'⟩ := inst_at I hb
  obtain ⟨m, hF⟩ := I.fr
  have X' := I.ok.mod.kin.keeps hF.keep
  exact iop_of X' J hn ho (bin1_two X' J J'.type hc g.hs (try_of I ha g (h pins s [.ref a, .ref b] I (.cons rfl (.cons rfl .nil)))))
theorem wi_int {ro rc : Option Value} (ha : H a = some (.ins C dx fs)) (hc : PySem.W.selfFirst X.K C = true) (g : Sg X.K C (PySem.dunder op.info.2) f) (hn : noiB X.K C op.info.2 = true) (ho : typeLookup (.type "object") (dunderI op.info.2) = pure none)
    (hr : PySem.W.findIn X.K (.ref C) (dunderR op.info.2) = some rc) (hp : rc = none ∨ ∃ g : Addr, rc = some (.ref g)) (hT : fillsNumberSlot (.type "int") op.info.2 = pure true)
    (h2 : PySem.W.findIn X.K (.type "int") (dunderR op.info.2) = some ro) (hsub : PySem.W.subIn X.K (.type "int") (.ref C) = some false)
    (h : Wf X (.ref f) [.ref a, .int n] σ H Q) : Wo X (inplaceOp op) (.ref a) (.int n) σ H Q := by
  intro pins s v u I rx ry
  cases rx
  obtain ⟨t, rfl⟩ := ry
  obtain ⟨od, J⟩ := inst_at I ha
  obtain ⟨m, hF⟩ := I.fr
  have X' := I.ok.mod.kin.keeps hF.keep
  exact iop_of X' J hn ho (bin1_int X' J rfl hc g.hs hr hp hT h2 hsub (try_of I ha g (h pins s [.ref a, .int n t] I (.cons rfl (.cons ⟨t, rfl⟩ .nil)))))
/-- abs of an instance -/
theorem we_aug {e : Expr} {x : Str} {pos pos' : Pos} {D : Ends} {N G : List Str} {v : V} {σ' : V → L2.St} (S : Names1 X N G) (h0 : Var N σ x v) (h1 : ∀ u, Put N σ x u (σ' u))
    (h : We X e σ H fun y H1 => Wo X (inplaceOp op) v y σ H1 fun z H2 => D.nx (σ' z) H2) : Ws X (.AugAssign (.Name x pos') op e pos) D σ H := by
  obtain ⟨i, e1, e2⟩ := h0.at
  intro pins s I
  have hxm : x ∈ N := List.mem_of_getElem? e1
  have hloc := S.vis x hxm
  obtain ⟨m, fr, sl⟩ := I.loc
  obtain ⟨uv, ru, ld⟩ := sl i x v (by rw [S.eq]; exact e1) e2 (hloc.elim .inl fun z => .inr (.inl z))
  refine wpAny_AugAssign_Name ?_
  have body : wpAny (model X.prog X.w) X.A (eval e X.env) (fun y s2 => wpAny (model X.prog X.w) X.A (inplaceOp op uv y) (fun z s3 => wpAny (model X.prog X.w) X.A (storeName X.env x z) (fun _ => SP X pins D .next) X.xe s3) X.xe s2) X.xe s := by
    refine thn (h pins s I) fun y s2 hy => ?_
    obtain ⟨yv, H1, J1, ry, q1⟩ := hy
    refine thn (q1 pins s2 uv y J1 ru ry) fun z s3 hz => ?_
    obtain ⟨zv, H2, J2, rz, q2⟩ := hz
    obtain ⟨j, f1, f2⟩ := (h1 zv).at
    rw [f2] at q2
    exact store_ok J2 (by rw [S.eq]; exact S.nd) (by rw [S.eq]; exact f1) hloc rz (fun s4 J3 => ⟨_, H2, J3, q2⟩) (.inl (S.fn x))
  rcases ld with ⟨k1, k2⟩ | ⟨k1, c, k2, k3⟩
  · exact wpAny_loadName_local I.ok.kind k1 fr k2 body
  · rcases k1 with k1 | k1
    · exact wpAny_loadName_cell I.ok.kind k1 k2 k3 body
    · rcases hloc with z | z
      · exact absurd (z.symm.trans k1) (by decide)
      · exact absurd (z.symm.trans k1) (by decide)
/-- a call somewhere below the running body -/
def WfA (X : Cx) (A : Around) (f : Value) (vs : List V) (σ : L2.St) (H : Hp) (Q : VK) : Prop := ∀ pins s us, Inv X pins σ H s → Vals vs us → wpAny (model X.prog X.w) A (call f us) (EP X pins σ Q) X.xe s
theorem wfA_ok {A : Around} {ps : List Str} {dvs vs : List V} {sp : Sp} (O : OkD X.prog X.w X.K X.mg X.base k f ps dvs sp) (hr : Room k A) (hA : A.frames = X.A.frames) (h : sp (vs ++ dvs) H Q (xk X σ)) : WfA X A (.ref f) vs σ H Q := by
  obtain ⟨fd, ds, F, hd, hb⟩ := O.ex
  intro pins s us I r
  have r2 : Vals (vs ++ dvs) (us ++ ds) := r.append hd
  have len := r2.length.symm.trans (F.len _ _ _ _ h)
  have e0 : Env0 X.prog X.w X.K X.mg X.base A X.stack s H := by
    have e := I.env0
    exact ⟨hA.trans e.frames, e.mod, e.bs, e.bsz, e.funs, e.frf, e.hok, e.bare⟩
  refine wpAny_call (codeAny_mono (F.run A X.stack s H ⟨us, []⟩ (us ++ ds) (vs ++ dvs) Q (xk X σ) hr e0 (hb s us I.kIn len) r2 h) fun fl s2 z => ?_)
  match fl, z with
  | .error e, z => exact passAt (xw_takes X) σ pins _ _ e s2 I z
  | .ok (.ret u), z => exact I.after z
  | .ok .next, z => exact z.elim
  | .ok .brk, z => exact z.elim
  | .ok .cont, z => exact z.elim
theorem wcb_absO (ha : H a = some (.ins C dx fs)) (g : Sg X.K C "__abs__" f) (h : ∀ σ', WfA X X.A.in1 (.ref f) [.ref a] σ' H Q) : Wcb X (.builtin "abs") [.ref a] H Q := by
  refine ⟨fun vs H' Q' => vs = [.ref a] ∧ H' = H ∧ ∀ v H2, Q v H2 → Q' v H2, ?_, rfl, rfl, fun _ _ q => q⟩
  rintro pins s σ' H' vs us Q' I r ⟨rfl, rfl, k⟩
  obtain ⟨u, rfl, ru⟩ := vals1 r
  cases ru
  obtain ⟨od, J⟩ := inst_at I ha
  obtain ⟨m, hF⟩ := I.fr
  exact abs_own (I.ok.mod.kin.keeps hF.keep) J g.hs g.hf (thn (h σ' pins s _ I r) fun _ _ q => EP.imp k q)
end
end Ni

namespace Ni
open PySem PySem.Spec PyProof.Rows L2
theorem d_add : PySem.dunder (Operator.info .Add).2 = "__add__" := by decide +kernel
theorem r_add : dunderR (Operator.info .Add).2 = "__radd__" := by decide +kernel
theorem d_sub : PySem.dunder (Operator.info .Sub).2 = "__sub__" := by decide +kernel
theorem r_sub : dunderR (Operator.info .Sub).2 = "__rsub__" := by decide +kernel
theorem d_mul : PySem.dunder (Operator.info .Mult).2 = "__mul__" := by decide +kernel
theorem r_mul : dunderR (Operator.info .Mult).2 = "__rmul__" := by decide +kernel
theorem d_floordiv : PySem.dunder (Operator.info .FloorDiv).2 = "__floordiv__" := by decide +kernel
theorem r_floordiv : dunderR (Operator.info .FloorDiv).2 = "__rfloordiv__" := by decide +kernel
theorem d_mod : PySem.dunder (Operator.info .Mod).2 = "__mod__" := by decide +kernel
theorem r_mod : dunderR (Operator.info .Mod).2 = "__rmod__" := by decide +kernel
theorem d_pow : PySem.dunder (Operator.info .Pow).2 = "__pow__" := by decide +kernel
theorem r_pow : dunderR (Operator.info .Pow).2 = "__rpow__" := by decide +kernel
theorem Sg.of_eq {K : PySem.W.Frag} {C f : Addr} {m m' : Str} (e : m' = m) (g : Sg K C m f) : Sg K C m' f := e ▸ g
theorem find_eq {K : PySem.W.Frag} {c : Value} {m m' : Str} (e : m' = m) (h : ∃ fo, PySem.W.findIn K c m = some fo) : ∃ fo, PySem.W.findIn K c m' = some fo := e ▸ h
end Ni

/-! RM: fractions as Lean's own Rat. -/
namespace Ni
/-- what gcd gives, with the sign of the bottom -/
def com (t b : Int) : Int := if b < 0 then -((Nat.gcd t.natAbs b.natAbs : Nat) : Int) else ((Nat.gcd t.natAbs b.natAbs : Nat) : Int)
theorem com_dvd_top (t b : Int) : com t b ∣ t := by
  have h : ((Nat.gcd t.natAbs b.natAbs : Nat) : Int) ∣ t := Int.ofNat_dvd_left.mpr (Nat.gcd_dvd_left _ _)
  unfold com
  split
  · exact Int.neg_dvd.mpr h
  · exact h
theorem com_dvd_bot (t b : Int) : com t b ∣ b := by
  have h : ((Nat.gcd t.natAbs b.natAbs : Nat) : Int) ∣ b := Int.ofNat_dvd_left.mpr (Nat.gcd_dvd_right _ _)
  unfold com
  split
  · exact Int.neg_dvd.mpr h
  · exact h
theorem com_ne {t b : Int} (h : b ≠ 0) : com t b ≠ 0 := by
  have : 0 < Nat.gcd t.natAbs b.natAbs := Nat.gcd_pos_of_pos_right _ (by omega)
  unfold com
  split <;> omega
theorem gcd_comm' (t b : Int) : (b.gcd t : Nat) = Nat.gcd t.natAbs b.natAbs := by
  rw [Int.gcd_eq_natAbs_gcd_natAbs, Nat.gcd_comm]
theorem com_top {t b : Int} (h : b ≠ 0) : t.fdiv (com t b) = (Rat.divInt t b).num := by
  rw [Int.fdiv_eq_ediv_of_dvd (com_dvd_top t b), Rat.num_divInt, gcd_comm']
  unfold com
  split
  · rename_i h1
    rw [Int.sign_eq_neg_one_of_neg h1, Int.ediv_neg, Int.neg_one_mul, Int.neg_ediv_of_dvd]
    exact Int.ofNat_dvd_left.mpr (Nat.gcd_dvd_left _ _)
  · rename_i h1
    rw [Int.sign_eq_one_of_pos (by omega), Int.one_mul]
theorem com_bot {t b : Int} (h : b ≠ 0) : b.fdiv (com t b) = ((Rat.divInt t b).den : Int) := by
  rw [Int.fdiv_eq_ediv_of_dvd (com_dvd_bot t b), Rat.den_divInt, if_neg h, gcd_comm']
  unfold com
  split
  · rename_i h1
    have e : ((b.natAbs : Nat) : Int) = -b := by omega
    have d : ((Nat.gcd t.natAbs b.natAbs : Nat) : Int) ∣ b := Int.ofNat_dvd_left.mpr (Nat.gcd_dvd_right _ _)
    rw [Int.ediv_neg, Int.natCast_ediv, e, Int.neg_ediv_of_dvd d]
  · rename_i h1
    have e : ((b.natAbs : Nat) : Int) = b := by omega
    rw [Int.natCast_ediv, e]
end Ni

namespace Ni
theorem q_add (q r : Rat) : Rat.divInt (q.num * (r.den : Int) + r.num * (q.den : Int)) ((q.den : Int) * (r.den : Int)) = q + r := by
  have h1 : (q.den : Int) ≠ 0 := by have := q.den_nz; omega
  have h2 : (r.den : Int) ≠ 0 := by have := r.den_nz; omega
  have e := Rat.divInt_add_divInt q.num r.num h1 h2
  rw [Rat.num_divInt_den, Rat.num_divInt_den] at e
  exact e.symm
theorem q_neg (q : Rat) : Rat.divInt (-q.num) (q.den : Int) = -q := by
  have e := Rat.neg_divInt q.num (q.den : Int)
  rw [Rat.num_divInt_den] at e
  exact e.symm
theorem q_sub (q r : Rat) : Rat.divInt (q.num * (r.den : Int) - r.num * (q.den : Int)) ((q.den : Int) * (r.den : Int)) = q - r := by
  have e := q_add q (-r)
  rw [Rat.neg_num, Rat.neg_den] at e
  rw [Rat.sub_eq_add_neg, ← e, Int.neg_mul, Int.sub_eq_add_neg]
theorem q_mul (q r : Rat) : Rat.divInt (q.num * r.num) ((q.den : Int) * (r.den : Int)) = q * r := by
  have e := Rat.divInt_mul_divInt q.num r.num (d₁ := (q.den : Int)) (d₂ := (r.den : Int))
  rw [Rat.num_divInt_den, Rat.num_divInt_den] at e
  exact e.symm
theorem den_ne (q : Rat) : (q.den : Int) ≠ 0 := by have := q.den_nz; omega
theorem den_pos (q : Rat) : (0 : Int) < (q.den : Int) := by have := q.den_nz; omega
theorem den_mul_ne (q r : Rat) : (q.den : Int) * (r.den : Int) ≠ 0 := Int.mul_ne_zero (den_ne q) (den_ne r)
end Ni
namespace Ni
theorem sz_div {t c : Int} (hc : c ≠ 0) (h : c ∣ t) : (t.fdiv c).natAbs ≤ t.natAbs := by
  rw [Int.fdiv_eq_ediv_of_dvd h]
  obtain ⟨k, rfl⟩ := h
  rw [Int.mul_ediv_cancel_left _ hc, Int.natAbs_mul]
  exact Nat.le_mul_of_pos_left _ (by omega)
theorem sz_top {t b : Int} (h : b ≠ 0) : (Rat.divInt t b).num.natAbs ≤ t.natAbs := by
  rw [← com_top h]
  exact sz_div (com_ne h) (com_dvd_top t b)
theorem sz_bot {t b : Int} (h : b ≠ 0) : ((Rat.divInt t b).den : Int).natAbs ≤ b.natAbs := by
  rw [← com_bot h]
  exact sz_div (com_ne h) (com_dvd_bot t b)
end Ni
namespace Ni
theorem q_abs (q : Rat) : Rat.divInt (if q.num < 0 then -q.num else q.num) (q.den : Int) = q.abs := by
  have hq : (q.num < 0) ↔ ¬ (0 ≤ q) := by
    rw [← Rat.num_nonneg]
    omega
  unfold Rat.abs
  by_cases h : 0 ≤ q
  · rw [if_pos h, if_neg (by rw [hq]; exact fun z => z h), Rat.num_divInt_den]
  · rw [if_neg h, if_pos (hq.mpr h), q_neg]
end Ni
namespace Ni
/-- a quotient by its equation -/
theorem div_mul {t b : Int} (h : b ≠ 0) : Rat.divInt t b * (b : Rat) = (t : Rat) := by
  have hb : (b : Rat) ≠ 0 := fun z => h (Rat.intCast_inj.mp z)
  rw [Rat.divInt_eq_div]
  exact Rat.div_mul_cancel hb
theorem is_div {x : Rat} {t b : Int} (h : b ≠ 0) (e : x * (b : Rat) = (t : Rat)) : x = Rat.divInt t b := by
  have hb : (b : Rat) ≠ 0 := fun z => h (Rat.intCast_inj.mp z)
  have e2 := div_mul (t := t) h
  grind
end Ni
namespace Ni
theorem abs_div {A B : Int} (h : 0 < B) : (Rat.divInt A B).abs = Rat.divInt (if A < 0 then -A else A) B := by
  have n : 0 ≤ Rat.divInt A B ↔ 0 ≤ A := Rat.divInt_nonneg_iff_of_pos_right h
  unfold Rat.abs
  by_cases z : 0 ≤ A
  · rw [if_pos (n.mpr z), if_neg (by omega)]
  · rw [if_neg (fun y => z (n.mp y)), if_pos (by omega), Rat.neg_divInt]
end Ni

namespace Pr
open PySem PySem.Spec PyProof.Rows L2 Ni
def top (i : Nat) : Stmt := PySem.Challenge.pw_neveridle_k02_sums_and_products.main.body.getD i (.Pass ⟨0, 0, 0, 0⟩)
abbrev s_is_number : Stmt := top 8
abbrev N_is_number : List Str := ["thing"]
abbrev p_is_number : List Str := ["thing"]
theorem sc_is_number : FnScope N_is_number p_is_number (defScope s_is_number) := ⟨rfl, rfl, rfl, by decide +kernel, rfl, by decide +kernel, by decide +kernel⟩
abbrev G_is_number : List Str := ["Ratio", "int", "isinstance"]
theorem nm_is_number : Names0 N_is_number G_is_number (defScope s_is_number) := ⟨by decide +kernel, by unfold L2.Loc; decide +kernel, by decide +kernel, by decide +kernel⟩
def d_is_number : He.DefD := ⟨("is_number", none), "is_number", "is_number", defArgs s_is_number, defBody s_is_number, defScope s_is_number, [], []⟩
abbrev s_as_ratio : Stmt := top 9
abbrev N_as_ratio : List Str := ["number"]
abbrev p_as_ratio : List Str := ["number"]
theorem sc_as_ratio : FnScope N_as_ratio p_as_ratio (defScope s_as_ratio) := ⟨rfl, rfl, rfl, by decide +kernel, rfl, by decide +kernel, by decide +kernel⟩
abbrev G_as_ratio : List Str := ["Ratio", "isinstance"]
theorem nm_as_ratio : Names0 N_as_ratio G_as_ratio (defScope s_as_ratio) := ⟨by decide +kernel, by unfold L2.Loc; decide +kernel, by decide +kernel, by decide +kernel⟩
def d_as_ratio : He.DefD := ⟨("as_ratio", none), "as_ratio", "as_ratio", defArgs s_as_ratio, defBody s_as_ratio, defScope s_as_ratio, [], []⟩
abbrev s_Ratio___init__ : Stmt := inClass (top 11) 1
abbrev N_Ratio___init__ : List Str := ["self", "top", "bottom", "common"]
abbrev p_Ratio___init__ : List Str := ["self", "top", "bottom"]
theorem sc_Ratio___init__ : FnScope N_Ratio___init__ p_Ratio___init__ (defScope s_Ratio___init__) := ⟨rfl, rfl, rfl, by decide +kernel, rfl, by decide +kernel, by decide +kernel⟩
abbrev G_Ratio___init__ : List Str := ["ZeroBottom", "gcd"]
theorem nm_Ratio___init__ : Names0 N_Ratio___init__ G_Ratio___init__ (defScope s_Ratio___init__) := ⟨by decide +kernel, by unfold L2.Loc; decide +kernel, by decide +kernel, by decide +kernel⟩
def d_Ratio___init__ : He.DefD := ⟨("Ratio", some "__init__"), "__init__", "Ratio.__init__", defArgs s_Ratio___init__, defBody s_Ratio___init__, defScope s_Ratio___init__, [.int 1], []⟩
abbrev s_Ratio___add__ : Stmt := inClass (top 11) 4
abbrev N_Ratio___add__ : List Str := ["self", "other"]
abbrev p_Ratio___add__ : List Str := ["self", "other"]
theorem sc_Ratio___add__ : FnScope N_Ratio___add__ p_Ratio___add__ (defScope s_Ratio___add__) := ⟨rfl, rfl, rfl, by decide +kernel, rfl, by decide +kernel, by decide +kernel⟩
abbrev G_Ratio___add__ : List Str := ["Ratio", "as_ratio"]
theorem nm_Ratio___add__ : Names0 N_Ratio___add__ G_Ratio___add__ (defScope s_Ratio___add__) := ⟨by decide +kernel, by unfold L2.Loc; decide +kernel, by decide +kernel, by decide +kernel⟩
def d_Ratio___add__ : He.DefD := ⟨("Ratio", some "__add__"), "__add__", "Ratio.__add__", defArgs s_Ratio___add__, defBody s_Ratio___add__, defScope s_Ratio___add__, [], []⟩
abbrev s_Ratio___radd__ : Stmt := inClass (top 11) 5
abbrev N_Ratio___radd__ : List Str := ["self", "other"]
abbrev p_Ratio___radd__ : List Str := ["self", "other"]
theorem sc_Ratio___radd__ : FnScope N_Ratio___radd__ p_Ratio___radd__ (defScope s_Ratio___radd__) := ⟨rfl, rfl, rfl, by decide +kernel, rfl, by decide +kernel, by decide +kernel⟩
abbrev G_Ratio___radd__ : List Str := []
theorem nm_Ratio___radd__ : Names0 N_Ratio___radd__ G_Ratio___radd__ (defScope s_Ratio___radd__) := ⟨by decide +kernel, by unfold L2.Loc; decide +kernel, by decide +kernel, by decide +kernel⟩
def d_Ratio___radd__ : He.DefD := ⟨("Ratio", some "__radd__"), "__radd__", "Ratio.__radd__", defArgs s_Ratio___radd__, defBody s_Ratio___radd__, defScope s_Ratio___radd__, [], []⟩
abbrev s_Ratio___sub__ : Stmt := inClass (top 11) 6
abbrev N_Ratio___sub__ : List Str := ["self", "other"]
abbrev p_Ratio___sub__ : List Str := ["self", "other"]
theorem sc_Ratio___sub__ : FnScope N_Ratio___sub__ p_Ratio___sub__ (defScope s_Ratio___sub__) := ⟨rfl, rfl, rfl, by decide +kernel, rfl, by decide +kernel, by decide +kernel⟩
abbrev G_Ratio___sub__ : List Str := ["Ratio", "as_ratio"]
theorem nm_Ratio___sub__ : Names0 N_Ratio___sub__ G_Ratio___sub__ (defScope s_Ratio___sub__) := ⟨by decide +kernel, by unfold L2.Loc; decide +kernel, by decide +kernel, by decide +kernel⟩
def d_Ratio___sub__ : He.DefD := ⟨("Ratio", some "__sub__"), "__sub__", "Ratio.__sub__", defArgs s_Ratio___sub__, defBody s_Ratio___sub__, defScope s_Ratio___sub__, [], []⟩
abbrev s_Ratio___rsub__ : Stmt := inClass (top 11) 7
abbrev N_Ratio___rsub__ : List Str := ["self", "other"]
abbrev p_Ratio___rsub__ : List Str := ["self", "other"]
theorem sc_Ratio___rsub__ : FnScope N_Ratio___rsub__ p_Ratio___rsub__ (defScope s_Ratio___rsub__) := ⟨rfl, rfl, rfl, by decide +kernel, rfl, by decide +kernel, by decide +kernel⟩
abbrev G_Ratio___rsub__ : List Str := ["as_ratio"]
theorem nm_Ratio___rsub__ : Names0 N_Ratio___rsub__ G_Ratio___rsub__ (defScope s_Ratio___rsub__) := ⟨by decide +kernel, by unfold L2.Loc; decide +kernel, by decide +kernel, by decide +kernel⟩
def d_Ratio___rsub__ : He.DefD := ⟨("Ratio", some "__rsub__"), "__rsub__", "Ratio.__rsub__", defArgs s_Ratio___rsub__, defBody s_Ratio___rsub__, defScope s_Ratio___rsub__, [], []⟩
abbrev s_Ratio___mul__ : Stmt := inClass (top 11) 8
abbrev N_Ratio___mul__ : List Str := ["self", "other"]
abbrev p_Ratio___mul__ : List Str := ["self", "other"]
theorem sc_Ratio___mul__ : FnScope N_Ratio___mul__ p_Ratio___mul__ (defScope s_Ratio___mul__) := ⟨rfl, rfl, rfl, by decide +kernel, rfl, by decide +kernel, by decide +kernel⟩
abbrev G_Ratio___mul__ : List Str := ["NotImplemented", "Ratio", "as_ratio", "is_number"]
theorem nm_Ratio___mul__ : Names0 N_Ratio___mul__ G_Ratio___mul__ (defScope s_Ratio___mul__) := ⟨by decide +kernel, by unfold L2.Loc; decide +kernel, by decide +kernel, by decide +kernel⟩
def d_Ratio___mul__ : He.DefD := ⟨("Ratio", some "__mul__"), "__mul__", "Ratio.__mul__", defArgs s_Ratio___mul__, defBody s_Ratio___mul__, defScope s_Ratio___mul__, [], []⟩
abbrev s_Ratio___rmul__ : Stmt := inClass (top 11) 9
abbrev N_Ratio___rmul__ : List Str := ["self", "other"]
abbrev p_Ratio___rmul__ : List Str := ["self", "other"]
theorem sc_Ratio___rmul__ : FnScope N_Ratio___rmul__ p_Ratio___rmul__ (defScope s_Ratio___rmul__) := ⟨rfl, rfl, rfl, by decide +kernel, rfl, by decide +kernel, by decide +kernel⟩
abbrev G_Ratio___rmul__ : List Str := []
theorem nm_Ratio___rmul__ : Names0 N_Ratio___rmul__ G_Ratio___rmul__ (defScope s_Ratio___rmul__) := ⟨by decide +kernel, by unfold L2.Loc; decide +kernel, by decide +kernel, by decide +kernel⟩
def d_Ratio___rmul__ : He.DefD := ⟨("Ratio", some "__rmul__"), "__rmul__", "Ratio.__rmul__", defArgs s_Ratio___rmul__, defBody s_Ratio___rmul__, defScope s_Ratio___rmul__, [], []⟩
abbrev s_Ratio___neg__ : Stmt := inClass (top 11) 15
abbrev N_Ratio___neg__ : List Str := ["self"]
abbrev p_Ratio___neg__ : List Str := ["self"]
theorem sc_Ratio___neg__ : FnScope N_Ratio___neg__ p_Ratio___neg__ (defScope s_Ratio___neg__) := ⟨rfl, rfl, rfl, by decide +kernel, rfl, by decide +kernel, by decide +kernel⟩
abbrev G_Ratio___neg__ : List Str := ["Ratio"]
theorem nm_Ratio___neg__ : Names0 N_Ratio___neg__ G_Ratio___neg__ (defScope s_Ratio___neg__) := ⟨by decide +kernel, by unfold L2.Loc; decide +kernel, by decide +kernel, by decide +kernel⟩
def d_Ratio___neg__ : He.DefD := ⟨("Ratio", some "__neg__"), "__neg__", "Ratio.__neg__", defArgs s_Ratio___neg__, defBody s_Ratio___neg__, defScope s_Ratio___neg__, [], []⟩
abbrev s_Ratio___abs__ : Stmt := inClass (top 11) 16
abbrev N_Ratio___abs__ : List Str := ["self"]
abbrev p_Ratio___abs__ : List Str := ["self"]
theorem sc_Ratio___abs__ : FnScope N_Ratio___abs__ p_Ratio___abs__ (defScope s_Ratio___abs__) := ⟨rfl, rfl, rfl, by decide +kernel, rfl, by decide +kernel, by decide +kernel⟩
abbrev G_Ratio___abs__ : List Str := ["Ratio", "abs"]
theorem nm_Ratio___abs__ : Names0 N_Ratio___abs__ G_Ratio___abs__ (defScope s_Ratio___abs__) := ⟨by decide +kernel, by unfold L2.Loc; decide +kernel, by decide +kernel, by decide +kernel⟩
def d_Ratio___abs__ : He.DefD := ⟨("Ratio", some "__abs__"), "__abs__", "Ratio.__abs__", defArgs s_Ratio___abs__, defBody s_Ratio___abs__, defScope s_Ratio___abs__, [], []⟩
abbrev s__law_mixed : Stmt := top 13
abbrev N__law_mixed : List Str := ["_law_cell", "_law_turn", "_law_one", "_law_two"]
abbrev p__law_mixed : List Str := ["_law_cell", "_law_turn"]
theorem sc__law_mixed : FnScope N__law_mixed p__law_mixed (defScope s__law_mixed) := ⟨rfl, rfl, rfl, by decide +kernel, rfl, by decide +kernel, by decide +kernel⟩
abbrev G__law_mixed : List Str := ["int"]
theorem nm__law_mixed : Names0 N__law_mixed G__law_mixed (defScope s__law_mixed) := ⟨by decide +kernel, by unfold L2.Loc; decide +kernel, by decide +kernel, by decide +kernel⟩
def d__law_mixed : He.DefD := ⟨("_law_mixed", none), "_law_mixed", "_law_mixed", defArgs s__law_mixed, defBody s__law_mixed, defScope s__law_mixed, [], []⟩
abbrev s__law_draw : Stmt := top 14
abbrev N__law_draw : List Str := ["_law_pool", "_law_many", "_law_cell", "_law_digit"]
abbrev p__law_draw : List Str := ["_law_pool", "_law_many"]
theorem sc__law_draw : FnScope N__law_draw p__law_draw (defScope s__law_draw) := ⟨rfl, rfl, rfl, by decide +kernel, rfl, by decide +kernel, by decide +kernel⟩
abbrev G__law_draw : List Str := ["_law_mixed", "int", "len"]
theorem nm__law_draw : Names0 N__law_draw G__law_draw (defScope s__law_draw) := ⟨by decide +kernel, by unfold L2.Loc; decide +kernel, by decide +kernel, by decide +kernel⟩
def d__law_draw : He.DefD := ⟨("_law_draw", none), "_law_draw", "_law_draw", defArgs s__law_draw, defBody s__law_draw, defScope s__law_draw, [], []⟩
abbrev s__law_low : Stmt := top 15
abbrev N__law_low : List Str := ["_law_top", "_law_bottom", "_law_one", "_law_two", "_law_rest"]
abbrev p__law_low : List Str := ["_law_top", "_law_bottom"]
theorem sc__law_low : FnScope N__law_low p__law_low (defScope s__law_low) := ⟨rfl, rfl, rfl, by decide +kernel, rfl, by decide +kernel, by decide +kernel⟩
abbrev G__law_low : List Str := ["abs", "int"]
theorem nm__law_low : Names0 N__law_low G__law_low (defScope s__law_low) := ⟨by decide +kernel, by unfold L2.Loc; decide +kernel, by decide +kernel, by decide +kernel⟩
def d__law_low : He.DefD := ⟨("_law_low", none), "_law_low", "_law_low", defArgs s__law_low, defBody s__law_low, defScope s__law_low, [], []⟩
abbrev s__law_whole : Stmt := top 16
abbrev N__law_whole : List Str := ["_law_thing"]
abbrev p__law_whole : List Str := ["_law_thing"]
theorem sc__law_whole : FnScope N__law_whole p__law_whole (defScope s__law_whole) := ⟨rfl, rfl, rfl, by decide +kernel, rfl, by decide +kernel, by decide +kernel⟩
abbrev G__law_whole : List Str := ["bool", "int", "isinstance"]
theorem nm__law_whole : Names0 N__law_whole G__law_whole (defScope s__law_whole) := ⟨by decide +kernel, by unfold L2.Loc; decide +kernel, by decide +kernel, by decide +kernel⟩
def d__law_whole : He.DefD := ⟨("_law_whole", none), "_law_whole", "_law_whole", defArgs s__law_whole, defBody s__law_whole, defScope s__law_whole, [], []⟩
abbrev s__law_pair : Stmt := top 17
abbrev N__law_pair : List Str := ["_law_thing"]
abbrev p__law_pair : List Str := ["_law_thing"]
theorem sc__law_pair : FnScope N__law_pair p__law_pair (defScope s__law_pair) := ⟨rfl, rfl, rfl, by decide +kernel, rfl, by decide +kernel, by decide +kernel⟩
abbrev G__law_pair : List Str := ["Ratio", "_law_low", "_law_whole", "isinstance"]
theorem nm__law_pair : Names0 N__law_pair G__law_pair (defScope s__law_pair) := ⟨by decide +kernel, by unfold L2.Loc; decide +kernel, by decide +kernel, by decide +kernel⟩
def d__law_pair : He.DefD := ⟨("_law_pair", none), "_law_pair", "_law_pair", defArgs s__law_pair, defBody s__law_pair, defScope s__law_pair, [], []⟩
abbrev s__law_is : Stmt := top 18
abbrev N__law_is : List Str := ["_law_made", "_law_top", "_law_bottom"]
abbrev p__law_is : List Str := ["_law_made", "_law_top", "_law_bottom"]
theorem sc__law_is : FnScope N__law_is p__law_is (defScope s__law_is) := ⟨rfl, rfl, rfl, by decide +kernel, rfl, by decide +kernel, by decide +kernel⟩
abbrev G__law_is : List Str := ["_law_low", "_law_pair"]
theorem nm__law_is : Names0 N__law_is G__law_is (defScope s__law_is) := ⟨by decide +kernel, by unfold L2.Loc; decide +kernel, by decide +kernel, by decide +kernel⟩
def d__law_is : He.DefD := ⟨("_law_is", none), "_law_is", "_law_is", defArgs s__law_is, defBody s__law_is, defScope s__law_is, [], []⟩
abbrev s_law : Stmt := top 19
abbrev N_law : List Str := ["_law_script", "_law_pool", "_law_width", "_law_a", "_law_b", "_law_c", "_law_d", "_law_n", "_law_one", "_law_two", "_law_total"]
abbrev p_law : List Str := ["_law_script"]
theorem sc_law : FnScope N_law p_law (defScope s_law) := ⟨rfl, rfl, rfl, by decide +kernel, rfl, by decide +kernel, by decide +kernel⟩
abbrev G_law : List Str := ["Ratio", "_law_draw", "_law_is", "abs", "list"]
theorem nm_law : Names0 N_law G_law (defScope s_law) := ⟨by decide +kernel, by unfold L2.Loc; decide +kernel, by decide +kernel, by decide +kernel⟩
def d_law : He.DefD := ⟨("law", none), "law", "law", defArgs s_law, defBody s_law, defScope s_law, [], []⟩
def fn : List He.DefD := [d_is_number, d_as_ratio, d_Ratio___init__, d_Ratio___add__, d_Ratio___radd__, d_Ratio___sub__, d_Ratio___rsub__, d_Ratio___mul__, d_Ratio___rmul__, d_Ratio___neg__, d_Ratio___abs__, d__law_mixed, d__law_draw, d__law_low, d__law_whole, d__law_pair, d__law_is, d_law]
def fa0 : List He.Fa := [.cls "Ratio", .noat "Ratio" "top", .noat "Ratio" "bottom", .mkr "Ratio", .meth "Ratio" "__add__", .meth "Ratio" "__radd__", .meth "Ratio" "__sub__", .meth "Ratio" "__rsub__", .meth "Ratio" "__mul__", .meth "Ratio" "__rmul__", .meth "Ratio" "__neg__", .meth "Ratio" "__abs__", .glo "BadNumber", .keep "BadNumber", .exc "BadNumber", .glo "Ratio", .keep "Ratio", .glo "ZeroBottom", .keep "ZeroBottom", .exc "ZeroBottom", .glo "_law_draw", .keep "_law_draw", .glo "_law_is", .keep "_law_is", .glo "_law_low", .keep "_law_low", .glo "_law_mixed", .keep "_law_mixed", .glo "_law_pair", .keep "_law_pair"]
def fa1 : List He.Fa := [.glo "_law_whole", .keep "_law_whole", .glo "_wall", .keep "_wall", .free "abs", .glo "as_ratio", .keep "as_ratio", .free "bool", .free "int", .glo "is_number", .keep "is_number", .free "isinstance", .free "len", .free "list", .free "range", .glo "read_digits", .keep "read_digits", .free "str", .glo "law"]
def fa : List He.Fa := fa0 ++ (fa1)
def ex : List (PySem.W.Frag → Bool) := [fun K => decide (PySem.W.kitOne K (.type "int") (.type "int") = some true), fun K => decide (PySem.W.kitOne K (.type "int") (.ref (He.ga K "Ratio")) = some false), fun K => tyxB K (He.ga K "Ratio"), fun K => decide (PySem.W.kitOne K (.ref (He.ga K "Ratio")) (.ref (He.ga K "Ratio")) = some true), fun K => decide (PySem.W.kitOne K (.ref (He.ga K "Ratio")) (.type "int") = some false), fun K => PySem.W.selfFirst K (He.ga K "Ratio"), fun K => decide (PySem.W.subIn K (.type "int") (.ref (He.ga K "Ratio")) = some false), fun K => decide (PySem.W.subIn K (.ref (He.ga K "Ratio")) (.type "int") = some false), fun K => (PySem.W.findIn K (.type "int") "__add__").isSome, fun K => (PySem.W.findIn K (.type "int") "__radd__").isSome, fun K => (PySem.W.findIn K (.type "int") "__sub__").isSome, fun K => (PySem.W.findIn K (.type "int") "__rsub__").isSome, fun K => (PySem.W.findIn K (.type "int") "__mul__").isSome, fun K => (PySem.W.findIn K (.type "int") "__rmul__").isSome, fun K => noiB K (He.ga K "Ratio") "add", fun K => noiB K (He.ga K "Ratio") "mul", fun K => decide (PySem.W.kitOne K (.type "int") (.type "bool") = some false), fun K => decide (PySem.W.nsIn K mainGlobals "gcd" = some (some (.builtin "math.gcd")))]
structure Ctx (K : PySem.W.Frag) (mg : Str → Option Value) : Prop where
  c : Says fa fn ex K
  m : ∀ x v, PySem.W.nsIn K mainGlobals x = some v → mg x = v
section
variable {K : PySem.W.Frag} {mg : Str → Option Value}
theorem f_cls_Ratio (T : Ctx K mg) : Cls K (He.ga K "Ratio") := He.cls_ok (T.c.d.fact 0 rfl)
theorem f_noat_Ratio'top (T : Ctx K mg) : NoAttr K (He.ga K "Ratio") "top" := He.noat_ok (T.c.d.fact 1 rfl)
theorem f_noat_Ratio'bottom (T : Ctx K mg) : NoAttr K (He.ga K "Ratio") "bottom" := He.noat_ok (T.c.d.fact 2 rfl)
theorem f_mkr_Ratio (T : Ctx K mg) : Mk K (He.ga K "Ratio") (He.ma K (He.ga K "Ratio") "__init__") := He.mkr_ok (T.c.d.fact 3 rfl)
theorem f_kit_int'int (T : Ctx K mg) : PySem.W.kitOne K (.type "int") (.type "int") = some true := of_decide_eq_true (T.c.x 0 rfl)
theorem f_kit_int'Ratio (T : Ctx K mg) : PySem.W.kitOne K (.type "int") (.ref (He.ga K "Ratio")) = some false := of_decide_eq_true (T.c.x 1 rfl)
theorem f_tyx_Ratio (T : Ctx K mg) : tyxB K (He.ga K "Ratio") = true := T.c.x 2 rfl
theorem f_kit_Ratio'Ratio (T : Ctx K mg) : PySem.W.kitOne K (.ref (He.ga K "Ratio")) (.ref (He.ga K "Ratio")) = some true := of_decide_eq_true (T.c.x 3 rfl)
theorem f_kit_Ratio'int (T : Ctx K mg) : PySem.W.kitOne K (.ref (He.ga K "Ratio")) (.type "int") = some false := of_decide_eq_true (T.c.x 4 rfl)
theorem f_sf_Ratio (T : Ctx K mg) : PySem.W.selfFirst K (He.ga K "Ratio") = true := T.c.x 5 rfl
theorem f_sub_int'Ratio (T : Ctx K mg) : PySem.W.subIn K (.type "int") (.ref (He.ga K "Ratio")) = some false := of_decide_eq_true (T.c.x 6 rfl)
theorem f_sub_Ratio'int (T : Ctx K mg) : PySem.W.subIn K (.ref (He.ga K "Ratio")) (.type "int") = some false := of_decide_eq_true (T.c.x 7 rfl)
theorem f_sg_Ratio'__add__ (T : Ctx K mg) : Sg K (He.ga K "Ratio") "__add__" (He.ma K (He.ga K "Ratio") "__add__") := ⟨(He.meth_ok (T.c.d.fact 4 rfl)).at_, (He.meth_ok (T.c.d.fact 4 rfl)).fn⟩
theorem f_sg_Ratio'__radd__ (T : Ctx K mg) : Sg K (He.ga K "Ratio") "__radd__" (He.ma K (He.ga K "Ratio") "__radd__") := ⟨(He.meth_ok (T.c.d.fact 5 rfl)).at_, (He.meth_ok (T.c.d.fact 5 rfl)).fn⟩
theorem f_find_int'__add__ (T : Ctx K mg) : ∃ fo, PySem.W.findIn K (.type "int") "__add__" = some fo := Option.isSome_iff_exists.mp (T.c.x 8 rfl)
theorem f_find_int'__radd__ (T : Ctx K mg) : ∃ fo, PySem.W.findIn K (.type "int") "__radd__" = some fo := Option.isSome_iff_exists.mp (T.c.x 9 rfl)
theorem f_sg_Ratio'__sub__ (T : Ctx K mg) : Sg K (He.ga K "Ratio") "__sub__" (He.ma K (He.ga K "Ratio") "__sub__") := ⟨(He.meth_ok (T.c.d.fact 6 rfl)).at_, (He.meth_ok (T.c.d.fact 6 rfl)).fn⟩
theorem f_sg_Ratio'__rsub__ (T : Ctx K mg) : Sg K (He.ga K "Ratio") "__rsub__" (He.ma K (He.ga K "Ratio") "__rsub__") := ⟨(He.meth_ok (T.c.d.fact 7 rfl)).at_, (He.meth_ok (T.c.d.fact 7 rfl)).fn⟩
theorem f_find_int'__sub__ (T : Ctx K mg) : ∃ fo, PySem.W.findIn K (.type "int") "__sub__" = some fo := Option.isSome_iff_exists.mp (T.c.x 10 rfl)
theorem f_find_int'__rsub__ (T : Ctx K mg) : ∃ fo, PySem.W.findIn K (.type "int") "__rsub__" = some fo := Option.isSome_iff_exists.mp (T.c.x 11 rfl)
theorem f_sg_Ratio'__mul__ (T : Ctx K mg) : Sg K (He.ga K "Ratio") "__mul__" (He.ma K (He.ga K "Ratio") "__mul__") := ⟨(He.meth_ok (T.c.d.fact 8 rfl)).at_, (He.meth_ok (T.c.d.fact 8 rfl)).fn⟩
theorem f_sg_Ratio'__rmul__ (T : Ctx K mg) : Sg K (He.ga K "Ratio") "__rmul__" (He.ma K (He.ga K "Ratio") "__rmul__") := ⟨(He.meth_ok (T.c.d.fact 9 rfl)).at_, (He.meth_ok (T.c.d.fact 9 rfl)).fn⟩
theorem f_find_int'__mul__ (T : Ctx K mg) : ∃ fo, PySem.W.findIn K (.type "int") "__mul__" = some fo := Option.isSome_iff_exists.mp (T.c.x 12 rfl)
theorem f_find_int'__rmul__ (T : Ctx K mg) : ∃ fo, PySem.W.findIn K (.type "int") "__rmul__" = some fo := Option.isSome_iff_exists.mp (T.c.x 13 rfl)
theorem f_noi_Ratio'add (T : Ctx K mg) : noiB K (He.ga K "Ratio") "add" = true := T.c.x 14 rfl
theorem f_noi_Ratio'mul (T : Ctx K mg) : noiB K (He.ga K "Ratio") "mul" = true := T.c.x 15 rfl
theorem f_sg_Ratio'__neg__ (T : Ctx K mg) : Sg K (He.ga K "Ratio") "__neg__" (He.ma K (He.ga K "Ratio") "__neg__") := ⟨(He.meth_ok (T.c.d.fact 10 rfl)).at_, (He.meth_ok (T.c.d.fact 10 rfl)).fn⟩
theorem f_sg_Ratio'__abs__ (T : Ctx K mg) : Sg K (He.ga K "Ratio") "__abs__" (He.ma K (He.ga K "Ratio") "__abs__") := ⟨(He.meth_ok (T.c.d.fact 11 rfl)).at_, (He.meth_ok (T.c.d.fact 11 rfl)).fn⟩
theorem f_kit_int'bool (T : Ctx K mg) : PySem.W.kitOne K (.type "int") (.type "bool") = some false := of_decide_eq_true (T.c.x 16 rfl)
theorem f_glo_BadNumber (T : Ctx K mg) : mg "BadNumber" = some (.ref (He.ga K "BadNumber")) := T.m _ _ (He.eqO_ok (T.c.d.fact 12 rfl))
theorem f_keep_BadNumber (T : Ctx K mg) : PySem.W.keepIn K (.ref (He.ga K "BadNumber")) = true := He.keep_ok (T.c.d.fact 13 rfl)
theorem f_exc_BadNumber (T : Ctx K mg) : PySem.W.excIn K (He.ga K "BadNumber") He.veBase "ValueError.__new__" = true ∧ PySem.W.keepIn K (.ref (He.ga K "BadNumber")) = true ∧ PySem.W.subIn K (.ref (He.ga K "BadNumber")) (.type "BaseException") = some true ∧ PySem.W.typeIn K (.ref (He.ga K "BadNumber")) = some (.type "type") := He.exc_ok (T.c.d.fact 14 rfl)
theorem f_glo_Ratio (T : Ctx K mg) : mg "Ratio" = some (.ref (He.ga K "Ratio")) := T.m _ _ (He.eqO_ok (T.c.d.fact 15 rfl))
theorem f_keep_Ratio (T : Ctx K mg) : PySem.W.keepIn K (.ref (He.ga K "Ratio")) = true := He.keep_ok (T.c.d.fact 16 rfl)
theorem f_glo_ZeroBottom (T : Ctx K mg) : mg "ZeroBottom" = some (.ref (He.ga K "ZeroBottom")) := T.m _ _ (He.eqO_ok (T.c.d.fact 17 rfl))
theorem f_keep_ZeroBottom (T : Ctx K mg) : PySem.W.keepIn K (.ref (He.ga K "ZeroBottom")) = true := He.keep_ok (T.c.d.fact 18 rfl)
theorem f_exc_ZeroBottom (T : Ctx K mg) : PySem.W.excIn K (He.ga K "ZeroBottom") He.veBase "ValueError.__new__" = true ∧ PySem.W.keepIn K (.ref (He.ga K "ZeroBottom")) = true ∧ PySem.W.subIn K (.ref (He.ga K "ZeroBottom")) (.type "BaseException") = some true ∧ PySem.W.typeIn K (.ref (He.ga K "ZeroBottom")) = some (.type "type") := He.exc_ok (T.c.d.fact 19 rfl)
theorem f_glo__law_draw (T : Ctx K mg) : mg "_law_draw" = some (.ref (He.ga K "_law_draw")) := T.m _ _ (He.eqO_ok (T.c.d.fact 20 rfl))
theorem f_keep__law_draw (T : Ctx K mg) : PySem.W.keepIn K (.ref (He.ga K "_law_draw")) = true := He.keep_ok (T.c.d.fact 21 rfl)
theorem f_glo__law_is (T : Ctx K mg) : mg "_law_is" = some (.ref (He.ga K "_law_is")) := T.m _ _ (He.eqO_ok (T.c.d.fact 22 rfl))
theorem f_keep__law_is (T : Ctx K mg) : PySem.W.keepIn K (.ref (He.ga K "_law_is")) = true := He.keep_ok (T.c.d.fact 23 rfl)
theorem f_glo__law_low (T : Ctx K mg) : mg "_law_low" = some (.ref (He.ga K "_law_low")) := T.m _ _ (He.eqO_ok (T.c.d.fact 24 rfl))
theorem f_keep__law_low (T : Ctx K mg) : PySem.W.keepIn K (.ref (He.ga K "_law_low")) = true := He.keep_ok (T.c.d.fact 25 rfl)
theorem f_glo__law_mixed (T : Ctx K mg) : mg "_law_mixed" = some (.ref (He.ga K "_law_mixed")) := T.m _ _ (He.eqO_ok (T.c.d.fact 26 rfl))
theorem f_keep__law_mixed (T : Ctx K mg) : PySem.W.keepIn K (.ref (He.ga K "_law_mixed")) = true := He.keep_ok (T.c.d.fact 27 rfl)
theorem f_glo__law_pair (T : Ctx K mg) : mg "_law_pair" = some (.ref (He.ga K "_law_pair")) := T.m _ _ (He.eqO_ok (T.c.d.fact 28 rfl))
theorem f_keep__law_pair (T : Ctx K mg) : PySem.W.keepIn K (.ref (He.ga K "_law_pair")) = true := He.keep_ok (T.c.d.fact 29 rfl)
theorem f_glo__law_whole (T : Ctx K mg) : mg "_law_whole" = some (.ref (He.ga K "_law_whole")) := T.m _ _ (He.eqO_ok (T.c.d.fact 30 rfl))
theorem f_keep__law_whole (T : Ctx K mg) : PySem.W.keepIn K (.ref (He.ga K "_law_whole")) = true := He.keep_ok (T.c.d.fact 31 rfl)
theorem f_glo__wall (T : Ctx K mg) : mg "_wall" = some (.ref (He.ga K "_wall")) := T.m _ _ (He.eqO_ok (T.c.d.fact 32 rfl))
theorem f_keep__wall (T : Ctx K mg) : PySem.W.keepIn K (.ref (He.ga K "_wall")) = true := He.keep_ok (T.c.d.fact 33 rfl)
theorem f_free_abs (T : Ctx K mg) : mg "abs" = none := T.m _ _ (He.eqO_ok (T.c.d.fact 34 rfl))
theorem f_glo_as_ratio (T : Ctx K mg) : mg "as_ratio" = some (.ref (He.ga K "as_ratio")) := T.m _ _ (He.eqO_ok (T.c.d.fact 35 rfl))
theorem f_keep_as_ratio (T : Ctx K mg) : PySem.W.keepIn K (.ref (He.ga K "as_ratio")) = true := He.keep_ok (T.c.d.fact 36 rfl)
theorem f_free_bool (T : Ctx K mg) : mg "bool" = none := T.m _ _ (He.eqO_ok (T.c.d.fact 37 rfl))
theorem f_gcd_x (T : Ctx K mg) : mg "gcd" = some (.builtin "math.gcd") := T.m _ _ (of_decide_eq_true (T.c.x 17 rfl))
theorem f_free_int (T : Ctx K mg) : mg "int" = none := T.m _ _ (He.eqO_ok (T.c.d.fact 38 rfl))
theorem f_glo_is_number (T : Ctx K mg) : mg "is_number" = some (.ref (He.ga K "is_number")) := T.m _ _ (He.eqO_ok (T.c.d.fact 39 rfl))
theorem f_keep_is_number (T : Ctx K mg) : PySem.W.keepIn K (.ref (He.ga K "is_number")) = true := He.keep_ok (T.c.d.fact 40 rfl)
theorem f_free_isinstance (T : Ctx K mg) : mg "isinstance" = none := T.m _ _ (He.eqO_ok (T.c.d.fact 41 rfl))
theorem f_free_len (T : Ctx K mg) : mg "len" = none := T.m _ _ (He.eqO_ok (T.c.d.fact 42 rfl))
theorem f_free_list (T : Ctx K mg) : mg "list" = none := T.m _ _ (He.eqO_ok (T.c.d.fact 43 rfl))
theorem f_free_range (T : Ctx K mg) : mg "range" = none := T.m _ _ (He.eqO_ok (T.c.d.fact 44 rfl))
theorem f_glo_read_digits (T : Ctx K mg) : mg "read_digits" = some (.ref (He.ga K "read_digits")) := T.m _ _ (He.eqO_ok (T.c.d.fact 45 rfl))
theorem f_keep_read_digits (T : Ctx K mg) : PySem.W.keepIn K (.ref (He.ga K "read_digits")) = true := He.keep_ok (T.c.d.fact 46 rfl)
theorem f_free_str (T : Ctx K mg) : mg "str" = none := T.m _ _ (He.eqO_ok (T.c.d.fact 47 rfl))
theorem f_glo_law (T : Ctx K mg) : mg "law" = some (.ref (He.ga K "law")) := T.m _ _ (He.eqO_ok (T.c.d.fact 48 rfl))
theorem F_is_number (T : Ctx K mg) : ∃ fd, FunD K "is_number" "is_number" (defArgs s_is_number) (defBody s_is_number) (defScope s_is_number) (d_is_number.dvs K) (d_is_number.kws K) (He.fAd K d_is_number.at_) fd := T.c.d.def_ 0 rfl
theorem F_as_ratio (T : Ctx K mg) : ∃ fd, FunD K "as_ratio" "as_ratio" (defArgs s_as_ratio) (defBody s_as_ratio) (defScope s_as_ratio) (d_as_ratio.dvs K) (d_as_ratio.kws K) (He.fAd K d_as_ratio.at_) fd := T.c.d.def_ 1 rfl
theorem F_Ratio___init__ (T : Ctx K mg) : ∃ fd, FunD K "__init__" "Ratio.__init__" (defArgs s_Ratio___init__) (defBody s_Ratio___init__) (defScope s_Ratio___init__) (d_Ratio___init__.dvs K) (d_Ratio___init__.kws K) (He.fAd K d_Ratio___init__.at_) fd := T.c.d.def_ 2 rfl
theorem F_Ratio___add__ (T : Ctx K mg) : ∃ fd, FunD K "__add__" "Ratio.__add__" (defArgs s_Ratio___add__) (defBody s_Ratio___add__) (defScope s_Ratio___add__) (d_Ratio___add__.dvs K) (d_Ratio___add__.kws K) (He.fAd K d_Ratio___add__.at_) fd := T.c.d.def_ 3 rfl
theorem F_Ratio___radd__ (T : Ctx K mg) : ∃ fd, FunD K "__radd__" "Ratio.__radd__" (defArgs s_Ratio___radd__) (defBody s_Ratio___radd__) (defScope s_Ratio___radd__) (d_Ratio___radd__.dvs K) (d_Ratio___radd__.kws K) (He.fAd K d_Ratio___radd__.at_) fd := T.c.d.def_ 4 rfl
theorem F_Ratio___sub__ (T : Ctx K mg) : ∃ fd, FunD K "__sub__" "Ratio.__sub__" (defArgs s_Ratio___sub__) (defBody s_Ratio___sub__) (defScope s_Ratio___sub__) (d_Ratio___sub__.dvs K) (d_Ratio___sub__.kws K) (He.fAd K d_Ratio___sub__.at_) fd := T.c.d.def_ 5 rfl
theorem F_Ratio___rsub__ (T : Ctx K mg) : ∃ fd, FunD K "__rsub__" "Ratio.__rsub__" (defArgs s_Ratio___rsub__) (defBody s_Ratio___rsub__) (defScope s_Ratio___rsub__) (d_Ratio___rsub__.dvs K) (d_Ratio___rsub__.kws K) (He.fAd K d_Ratio___rsub__.at_) fd := T.c.d.def_ 6 rfl
theorem F_Ratio___mul__ (T : Ctx K mg) : ∃ fd, FunD K "__mul__" "Ratio.__mul__" (defArgs s_Ratio___mul__) (defBody s_Ratio___mul__) (defScope s_Ratio___mul__) (d_Ratio___mul__.dvs K) (d_Ratio___mul__.kws K) (He.fAd K d_Ratio___mul__.at_) fd := T.c.d.def_ 7 rfl
theorem F_Ratio___rmul__ (T : Ctx K mg) : ∃ fd, FunD K "__rmul__" "Ratio.__rmul__" (defArgs s_Ratio___rmul__) (defBody s_Ratio___rmul__) (defScope s_Ratio___rmul__) (d_Ratio___rmul__.dvs K) (d_Ratio___rmul__.kws K) (He.fAd K d_Ratio___rmul__.at_) fd := T.c.d.def_ 8 rfl
theorem F_Ratio___neg__ (T : Ctx K mg) : ∃ fd, FunD K "__neg__" "Ratio.__neg__" (defArgs s_Ratio___neg__) (defBody s_Ratio___neg__) (defScope s_Ratio___neg__) (d_Ratio___neg__.dvs K) (d_Ratio___neg__.kws K) (He.fAd K d_Ratio___neg__.at_) fd := T.c.d.def_ 9 rfl
theorem F_Ratio___abs__ (T : Ctx K mg) : ∃ fd, FunD K "__abs__" "Ratio.__abs__" (defArgs s_Ratio___abs__) (defBody s_Ratio___abs__) (defScope s_Ratio___abs__) (d_Ratio___abs__.dvs K) (d_Ratio___abs__.kws K) (He.fAd K d_Ratio___abs__.at_) fd := T.c.d.def_ 10 rfl
theorem F__law_mixed (T : Ctx K mg) : ∃ fd, FunD K "_law_mixed" "_law_mixed" (defArgs s__law_mixed) (defBody s__law_mixed) (defScope s__law_mixed) (d__law_mixed.dvs K) (d__law_mixed.kws K) (He.fAd K d__law_mixed.at_) fd := T.c.d.def_ 11 rfl
theorem F__law_draw (T : Ctx K mg) : ∃ fd, FunD K "_law_draw" "_law_draw" (defArgs s__law_draw) (defBody s__law_draw) (defScope s__law_draw) (d__law_draw.dvs K) (d__law_draw.kws K) (He.fAd K d__law_draw.at_) fd := T.c.d.def_ 12 rfl
theorem F__law_low (T : Ctx K mg) : ∃ fd, FunD K "_law_low" "_law_low" (defArgs s__law_low) (defBody s__law_low) (defScope s__law_low) (d__law_low.dvs K) (d__law_low.kws K) (He.fAd K d__law_low.at_) fd := T.c.d.def_ 13 rfl
theorem F__law_whole (T : Ctx K mg) : ∃ fd, FunD K "_law_whole" "_law_whole" (defArgs s__law_whole) (defBody s__law_whole) (defScope s__law_whole) (d__law_whole.dvs K) (d__law_whole.kws K) (He.fAd K d__law_whole.at_) fd := T.c.d.def_ 14 rfl
theorem F__law_pair (T : Ctx K mg) : ∃ fd, FunD K "_law_pair" "_law_pair" (defArgs s__law_pair) (defBody s__law_pair) (defScope s__law_pair) (d__law_pair.dvs K) (d__law_pair.kws K) (He.fAd K d__law_pair.at_) fd := T.c.d.def_ 15 rfl
theorem F__law_is (T : Ctx K mg) : ∃ fd, FunD K "_law_is" "_law_is" (defArgs s__law_is) (defBody s__law_is) (defScope s__law_is) (d__law_is.dvs K) (d__law_is.kws K) (He.fAd K d__law_is.at_) fd := T.c.d.def_ 16 rfl
theorem F_law (T : Ctx K mg) : ∃ fd, FunD K "law" "law" (defArgs s_law) (defBody s_law) (defScope s_law) (d_law.dvs K) (d_law.kws K) (He.fAd K d_law.at_) fd := T.c.d.def_ 17 rfl
end
def loose : List Str := ["_wall", "NeverIdleError", "BadNumber", "ZeroBottom", "FIGURES", "is_number", "as_ratio", "read_digits", "Ratio", "_law_mixed", "_law_draw", "_law_low", "_law_whole", "_law_pair", "_law_is"]
abbrev R : PySem.W.OpenRow := PySem.W.OpenLaw.row PySem.Challenge.rw_neveridle_k02_sums_and_products
abbrev hk : PySem.W.Hook := hookM 6 fa fn ex
def ob (s : PySem.W.SharedT) : He.AlD × Bool := obM 6 fa fn ex (HandSHeadRun.getT s)
theorem ob_eq (s : PySem.W.SharedT) : ob s = hk.obs s.abs := obM_eq (HandSHeadRun.getT_eq s)
end Pr
/-! TAC: one step of the walk, by the head of the syntax. -/
section
open PySem PySem.Spec PyProof.Rows L2 Ni
local macro_rules | `(tactic| exists "ni var") => `(tactic| (repeat (first | (with_reducible apply Var.here) | (with_reducible apply Var.next))))
local macro_rules | `(tactic| exists "ni put") => `(tactic| (repeat (first | (with_reducible apply Put.here) | (with_reducible apply Put.next))))
local macro_rules | `(tactic| exists "ni bd") => `(tactic| (repeat (first | assumption | (with_reducible apply Bd.add) | (with_reducible apply Bd.sub) | (with_reducible apply Bd.mul) | (with_reducible apply Bd.neg))))
local macro_rules | `(tactic| exists "ni room") => `(tactic| exact Room.mono (by assumption) (by decide))
local macro_rules | `(tactic| exists "ni expr") => `(tactic| first
  | ((with_reducible refine' we_var (by assumption) ?niv ?_); (case niv => exists "ni var"))
  | (with_reducible refine' we_int ?_)
  | (with_reducible refine' we_bl ?_)
  | (with_reducible refine' we_non ?_)
  | (with_reducible refine' we_str ?_)
  | (with_reducible refine' we_bin ?_)
  | (with_reducible refine' we_not ?_)
  | ((with_reducible refine' we_un ?_ ?ni1); rotate_left; (case ni1 => (intro z; cases z)))
  | ((with_reducible refine' we_cmp ?ni1 ?_); (case ni1 => with_unfolding_all rfl))
  | (with_reducible refine' we_and1 ?_)
  | (with_reducible refine' we_or1 ?_)
  | (with_reducible refine' we_and ?_)
  | (with_reducible refine' we_or ?_)
  | (with_reducible refine' we_ite ?_)
  | (with_reducible refine' we_lst ?_)
  | ((with_reducible refine' we_fld ?ni1 ?_); (case ni1 => with_unfolding_all rfl))
  | ((with_reducible refine' wa_cons ?ni1 ?_); (case ni1 => with_unfolding_all rfl))
  | (with_reducible refine' wa_nil ?_))
local macro_rules | `(tactic| exists "ni test") => `(tactic| first
  | ((with_reducible refine' wt_cmp ?ni1 ?_); (case ni1 => with_unfolding_all rfl))
  | (with_reducible refine' wt_not ?_)
  | (with_reducible refine' wt_ww (ww_and1 ?_))
  | (with_reducible refine' wt_ww (ww_or1 ?_))
  | (with_reducible refine' wt_ww (ww_and ?_))
  | (with_reducible refine' wt_ww (ww_or ?_))
  | (with_reducible refine' ww_and1 ?_)
  | (with_reducible refine' ww_or1 ?_)
  | (with_reducible refine' ww_and ?_)
  | (with_reducible refine' ww_or ?_)
  | ((with_reducible refine' wt_val ?ni1 ?_); (case ni1 => with_unfolding_all (intro _; rfl))))
local macro_rules | `(tactic| exists "ni stmt") => `(tactic| first
  | (with_reducible refine' wb_cons ?_)
  | (with_reducible refine' wb_nil ?_)
  | (with_reducible refine' ws_if ?_)
  | (with_reducible refine' ws_ret ?_)
  | (with_reducible refine' ws_retN ?_)
  | (with_reducible refine' ws_pass ?_)
  | (with_reducible refine' ws_continue ?_)
  | (with_reducible refine' ws_break ?_)
  | (with_reducible refine' ws_doc ?_)
  | ((with_reducible refine' ws_expr ?ni1 ?_); (case ni1 => with_unfolding_all rfl))
  | ((with_reducible refine' ws_fld ?ni1 ?_); (case ni1 => with_unfolding_all rfl))
  | ((with_reducible refine' ws_asg ?ni1 ?ni2 ?ni3 ?_); (case ni1 => with_unfolding_all rfl); (case ni2 => with_unfolding_all rfl); (case ni3 => with_unfolding_all rfl))
  | ((with_reducible refine' wg_var (by assumption) ?nip ?_); (case nip => exists "ni put")))
local macro_rules | `(tactic| exists "ni val") => `(tactic| first
  | (with_reducible refine' wo_add ?_)
  | (with_reducible refine' wo_sub ?_)
  | (with_reducible refine' wo_mod (by first | assumption | omega | decide) ?_)
  | (with_reducible refine' wo_lt ?_)
  | (with_reducible refine' wo_le ?_)
  | (with_reducible refine' wo_gt ?_)
  | (with_reducible refine' wo_ge ?_)
  | (with_reducible refine' wo_eqI ?_)
  | (with_reducible refine' wo_neI ?_)
  | (with_reducible refine' wo_isN ?_)
  | (with_reducible refine' wo_notN ?_)
  | (with_reducible refine' wu_negI ?_)
  | (with_reducible refine' wcb_gcd ?_)
  | (with_reducible refine' wcb_abs ?_)
  | (with_reducible refine' wcb_intI ?_)
  | ((with_reducible refine' wo_pow ?ni1 ?_); (case ni1 => decide))
  | ((with_reducible refine' wo_mulR ?ni1 ?_); (case ni1 => (constructor <;> omega)))
  | ((with_reducible refine' wo_mulL ?ni1 ?_); (case ni1 => (constructor <;> omega)))
  | ((with_reducible refine' wo_divS ?ni1 ?_); (case ni1 => (constructor <;> omega)))
  | ((with_reducible refine' wo_mul (bd_mulW ?ni1 ?ni2 ?ni3) ?_); (case ni1 => exists "ni bd"); (case ni2 => exists "ni bd"); (case ni3 => first | decide | omega)))
local macro_rules | `(tactic| exists "ni bool") => `(tactic| first
  | (with_reducible refine' ⟨_, rfl, ?_⟩)
  | (with_reducible refine' if_t ?_)
  | (with_reducible refine' if_f ?_)
  | (with_reducible refine' if_nt ?_)
  | (with_reducible refine' if_nf ?_))
local macro_rules | `(tactic| exists "ni heap") => `(tactic| first
  | assumption
  | exact upd_same
  | ((refine' Eq.trans (upd_ne ?ni1) ?ni2); (case ni1 => assumption); (case ni2 => exists "ni heap"))
  | ((refine' at_mono ?ni1 ?ni2); (case ni1 => assumption); (case ni2 => exists "ni heap"))
  | ((refine' at_mono (same_new ?ni1) ?ni2); (case ni1 => assumption); (case ni2 => exists "ni heap")))
local macro_rules | `(tactic| exists "ni seq") => `(tactic| first
  | ((with_reducible refine' we_ix ?ni1 ?_); (case ni1 => (intro _ _; rfl)))
  | ((with_reducible refine' wg_sub ?ni1 ?_); (case ni1 => with_unfolding_all (intro _; rfl)))
  | ((with_reducible refine' ix_lh ?ni1 ?ni2 ?_); (case ni1 => exists "ni heap"); (case ni2 => rfl))
  | ((with_reducible refine' ix_th ?ni1 ?ni2 ?_); (case ni1 => exists "ni heap"); (case ni2 => rfl))
  | ((with_reducible refine' st_l ?ni1 ?ni2 ?_); (case ni1 => exists "ni heap"); (case ni2 => rfl))
  | (with_reducible refine' we_tup ?_)
  | ((with_reducible refine' wcb_lenL (.of ?ni1) ?_); (case ni1 => exists "ni heap"))
  | ((with_reducible refine' And.intro ?ni1 ?_); (case ni1 => exact size_ok (Nat.le_of_ble_eq_true rfl))))
local macro_rules | `(tactic| exists "ni own") => `(tactic| fail)
local macro_rules | `(tactic| exists "ni call") => `(tactic| fail)
local macro_rules | `(tactic| exists "ni") => `(tactic| first
  | exists "ni stmt" | exists "ni expr" | exists "ni val" | exists "ni bool" | exists "ni seq" | exists "ni own" | exists "ni call" | exists "ni test")
local macro_rules | `(tactic| exists "ni go") => `(tactic| repeat (exists "ni"))

open Pr in
local macro_rules | `(tactic| exists "ni call") => `(tactic| first
  | ((with_reducible refine' we_callS (x := "BadNumber") ?ni0 ?ni1 ?ni2 ?ni3 ?ni4 ?ni5 ?_); (case ni0 => assumption); (case ni1 => decide +kernel); (case ni2 => exact f_glo_BadNumber (by assumption)); (case ni3 => exact f_keep_BadNumber (by assumption)); (case ni4 => with_unfolding_all rfl); (case ni5 => with_unfolding_all rfl))
  | ((with_reducible refine' we_callS0 (x := "BadNumber") ?ni0 ?ni1 ?ni2 ?ni3 ?_); (case ni0 => assumption); (case ni1 => decide +kernel); (case ni2 => exact f_glo_BadNumber (by assumption)); (case ni3 => exact f_keep_BadNumber (by assumption)))
  | ((with_reducible refine' we_gref (x := "BadNumber") ?ni0 ?ni1 ?ni2 ?_); (case ni0 => assumption); (case ni1 => decide +kernel); (case ni2 => exact f_glo_BadNumber (by assumption)))
  | ((with_reducible refine' ws_raiseS (x := "BadNumber") ?ni0 ?ni1 ?ni2 ?ni3 ?ni4 ?_); (case ni0 => assumption); (case ni1 => assumption); (case ni2 => decide +kernel); (case ni3 => exact f_glo_BadNumber (by assumption)); (case ni4 => exact f_exc_BadNumber (by assumption)))
  | ((with_reducible refine' we_callS (x := "Ratio") ?ni0 ?ni1 ?ni2 ?ni3 ?ni4 ?ni5 ?_); (case ni0 => assumption); (case ni1 => decide +kernel); (case ni2 => exact f_glo_Ratio (by assumption)); (case ni3 => exact f_keep_Ratio (by assumption)); (case ni4 => with_unfolding_all rfl); (case ni5 => with_unfolding_all rfl))
  | ((with_reducible refine' we_callS0 (x := "Ratio") ?ni0 ?ni1 ?ni2 ?ni3 ?_); (case ni0 => assumption); (case ni1 => decide +kernel); (case ni2 => exact f_glo_Ratio (by assumption)); (case ni3 => exact f_keep_Ratio (by assumption)))
  | ((with_reducible refine' we_gref (x := "Ratio") ?ni0 ?ni1 ?ni2 ?_); (case ni0 => assumption); (case ni1 => decide +kernel); (case ni2 => exact f_glo_Ratio (by assumption)))
  | ((with_reducible refine' we_callS (x := "ZeroBottom") ?ni0 ?ni1 ?ni2 ?ni3 ?ni4 ?ni5 ?_); (case ni0 => assumption); (case ni1 => decide +kernel); (case ni2 => exact f_glo_ZeroBottom (by assumption)); (case ni3 => exact f_keep_ZeroBottom (by assumption)); (case ni4 => with_unfolding_all rfl); (case ni5 => with_unfolding_all rfl))
  | ((with_reducible refine' we_callS0 (x := "ZeroBottom") ?ni0 ?ni1 ?ni2 ?ni3 ?_); (case ni0 => assumption); (case ni1 => decide +kernel); (case ni2 => exact f_glo_ZeroBottom (by assumption)); (case ni3 => exact f_keep_ZeroBottom (by assumption)))
  | ((with_reducible refine' we_gref (x := "ZeroBottom") ?ni0 ?ni1 ?ni2 ?_); (case ni0 => assumption); (case ni1 => decide +kernel); (case ni2 => exact f_glo_ZeroBottom (by assumption)))
  | ((with_reducible refine' ws_raiseS (x := "ZeroBottom") ?ni0 ?ni1 ?ni2 ?ni3 ?ni4 ?_); (case ni0 => assumption); (case ni1 => assumption); (case ni2 => decide +kernel); (case ni3 => exact f_glo_ZeroBottom (by assumption)); (case ni4 => exact f_exc_ZeroBottom (by assumption)))
  | ((with_reducible refine' we_callS (x := "_law_draw") ?ni0 ?ni1 ?ni2 ?ni3 ?ni4 ?ni5 ?_); (case ni0 => assumption); (case ni1 => decide +kernel); (case ni2 => exact f_glo__law_draw (by assumption)); (case ni3 => exact f_keep__law_draw (by assumption)); (case ni4 => with_unfolding_all rfl); (case ni5 => with_unfolding_all rfl))
  | ((with_reducible refine' we_callS0 (x := "_law_draw") ?ni0 ?ni1 ?ni2 ?ni3 ?_); (case ni0 => assumption); (case ni1 => decide +kernel); (case ni2 => exact f_glo__law_draw (by assumption)); (case ni3 => exact f_keep__law_draw (by assumption)))
  | ((with_reducible refine' we_callS (x := "_law_is") ?ni0 ?ni1 ?ni2 ?ni3 ?ni4 ?ni5 ?_); (case ni0 => assumption); (case ni1 => decide +kernel); (case ni2 => exact f_glo__law_is (by assumption)); (case ni3 => exact f_keep__law_is (by assumption)); (case ni4 => with_unfolding_all rfl); (case ni5 => with_unfolding_all rfl))
  | ((with_reducible refine' we_callS0 (x := "_law_is") ?ni0 ?ni1 ?ni2 ?ni3 ?_); (case ni0 => assumption); (case ni1 => decide +kernel); (case ni2 => exact f_glo__law_is (by assumption)); (case ni3 => exact f_keep__law_is (by assumption)))
  | ((with_reducible refine' we_callS (x := "_law_low") ?ni0 ?ni1 ?ni2 ?ni3 ?ni4 ?ni5 ?_); (case ni0 => assumption); (case ni1 => decide +kernel); (case ni2 => exact f_glo__law_low (by assumption)); (case ni3 => exact f_keep__law_low (by assumption)); (case ni4 => with_unfolding_all rfl); (case ni5 => with_unfolding_all rfl))
  | ((with_reducible refine' we_callS0 (x := "_law_low") ?ni0 ?ni1 ?ni2 ?ni3 ?_); (case ni0 => assumption); (case ni1 => decide +kernel); (case ni2 => exact f_glo__law_low (by assumption)); (case ni3 => exact f_keep__law_low (by assumption)))
  | ((with_reducible refine' we_callS (x := "_law_mixed") ?ni0 ?ni1 ?ni2 ?ni3 ?ni4 ?ni5 ?_); (case ni0 => assumption); (case ni1 => decide +kernel); (case ni2 => exact f_glo__law_mixed (by assumption)); (case ni3 => exact f_keep__law_mixed (by assumption)); (case ni4 => with_unfolding_all rfl); (case ni5 => with_unfolding_all rfl))
  | ((with_reducible refine' we_callS0 (x := "_law_mixed") ?ni0 ?ni1 ?ni2 ?ni3 ?_); (case ni0 => assumption); (case ni1 => decide +kernel); (case ni2 => exact f_glo__law_mixed (by assumption)); (case ni3 => exact f_keep__law_mixed (by assumption)))
  | ((with_reducible refine' we_callS (x := "_law_pair") ?ni0 ?ni1 ?ni2 ?ni3 ?ni4 ?ni5 ?_); (case ni0 => assumption); (case ni1 => decide +kernel); (case ni2 => exact f_glo__law_pair (by assumption)); (case ni3 => exact f_keep__law_pair (by assumption)); (case ni4 => with_unfolding_all rfl); (case ni5 => with_unfolding_all rfl))
  | ((with_reducible refine' we_callS0 (x := "_law_pair") ?ni0 ?ni1 ?ni2 ?ni3 ?_); (case ni0 => assumption); (case ni1 => decide +kernel); (case ni2 => exact f_glo__law_pair (by assumption)); (case ni3 => exact f_keep__law_pair (by assumption)))
  | ((with_reducible refine' we_callS (x := "_law_whole") ?ni0 ?ni1 ?ni2 ?ni3 ?ni4 ?ni5 ?_); (case ni0 => assumption); (case ni1 => decide +kernel); (case ni2 => exact f_glo__law_whole (by assumption)); (case ni3 => exact f_keep__law_whole (by assumption)); (case ni4 => with_unfolding_all rfl); (case ni5 => with_unfolding_all rfl))
  | ((with_reducible refine' we_callS0 (x := "_law_whole") ?ni0 ?ni1 ?ni2 ?ni3 ?_); (case ni0 => assumption); (case ni1 => decide +kernel); (case ni2 => exact f_glo__law_whole (by assumption)); (case ni3 => exact f_keep__law_whole (by assumption)))
  | ((with_reducible refine' we_callS (x := "_wall") ?ni0 ?ni1 ?ni2 ?ni3 ?ni4 ?ni5 ?_); (case ni0 => assumption); (case ni1 => decide +kernel); (case ni2 => exact f_glo__wall (by assumption)); (case ni3 => exact f_keep__wall (by assumption)); (case ni4 => with_unfolding_all rfl); (case ni5 => with_unfolding_all rfl))
  | ((with_reducible refine' we_callS0 (x := "_wall") ?ni0 ?ni1 ?ni2 ?ni3 ?_); (case ni0 => assumption); (case ni1 => decide +kernel); (case ni2 => exact f_glo__wall (by assumption)); (case ni3 => exact f_keep__wall (by assumption)))
  | ((with_reducible refine' we_callBS (x := "abs") ?ni0 ?ni1 ?ni2 ?ni3 ?ni4 ?ni5 ?ni6 ?_); (case ni0 => assumption); (case ni1 => decide +kernel); (case ni2 => exact f_free_abs (by assumption)); (case ni3 => exact (show bootBuiltins "abs" = some (.builtin "abs") by decide +kernel)); (case ni4 => decide +kernel); (case ni5 => with_unfolding_all rfl); (case ni6 => with_unfolding_all rfl))
  | ((with_reducible refine' we_callS (x := "as_ratio") ?ni0 ?ni1 ?ni2 ?ni3 ?ni4 ?ni5 ?_); (case ni0 => assumption); (case ni1 => decide +kernel); (case ni2 => exact f_glo_as_ratio (by assumption)); (case ni3 => exact f_keep_as_ratio (by assumption)); (case ni4 => with_unfolding_all rfl); (case ni5 => with_unfolding_all rfl))
  | ((with_reducible refine' we_callS0 (x := "as_ratio") ?ni0 ?ni1 ?ni2 ?ni3 ?_); (case ni0 => assumption); (case ni1 => decide +kernel); (case ni2 => exact f_glo_as_ratio (by assumption)); (case ni3 => exact f_keep_as_ratio (by assumption)))
  | ((with_reducible refine' we_callTS (x := "bool") ?ni0 ?ni1 ?ni2 ?ni3 ?ni4 ?ni5 ?ni6 ?_); (case ni0 => assumption); (case ni1 => decide +kernel); (case ni2 => exact f_free_bool (by assumption)); (case ni3 => exact (show bootBuiltins "bool" = some (.type "bool") by decide +kernel)); (case ni4 => decide +kernel); (case ni5 => with_unfolding_all rfl); (case ni6 => with_unfolding_all rfl))
  | ((with_reducible refine' we_gty (x := "bool") ?ni0 ?ni1 ?ni2 ?ni3 ?ni4 ?_); (case ni0 => assumption); (case ni1 => decide +kernel); (case ni2 => exact f_free_bool (by assumption)); (case ni3 => exact (show bootBuiltins "bool" = some (.type "bool") by decide +kernel)); (case ni4 => decide +kernel))
  | ((with_reducible refine' we_callGS (x := "gcd") ?ni0 ?ni1 ?ni2 ?ni3 ?ni4 ?_); (case ni0 => assumption); (case ni1 => decide +kernel); (case ni2 => exact f_gcd_x (by assumption)); (case ni3 => with_unfolding_all rfl); (case ni4 => with_unfolding_all rfl))
  | ((with_reducible refine' we_callTS (x := "int") ?ni0 ?ni1 ?ni2 ?ni3 ?ni4 ?ni5 ?ni6 ?_); (case ni0 => assumption); (case ni1 => decide +kernel); (case ni2 => exact f_free_int (by assumption)); (case ni3 => exact (show bootBuiltins "int" = some (.type "int") by decide +kernel)); (case ni4 => decide +kernel); (case ni5 => with_unfolding_all rfl); (case ni6 => with_unfolding_all rfl))
  | ((with_reducible refine' we_gty (x := "int") ?ni0 ?ni1 ?ni2 ?ni3 ?ni4 ?_); (case ni0 => assumption); (case ni1 => decide +kernel); (case ni2 => exact f_free_int (by assumption)); (case ni3 => exact (show bootBuiltins "int" = some (.type "int") by decide +kernel)); (case ni4 => decide +kernel))
  | ((with_reducible refine' we_callS (x := "is_number") ?ni0 ?ni1 ?ni2 ?ni3 ?ni4 ?ni5 ?_); (case ni0 => assumption); (case ni1 => decide +kernel); (case ni2 => exact f_glo_is_number (by assumption)); (case ni3 => exact f_keep_is_number (by assumption)); (case ni4 => with_unfolding_all rfl); (case ni5 => with_unfolding_all rfl))
  | ((with_reducible refine' we_callS0 (x := "is_number") ?ni0 ?ni1 ?ni2 ?ni3 ?_); (case ni0 => assumption); (case ni1 => decide +kernel); (case ni2 => exact f_glo_is_number (by assumption)); (case ni3 => exact f_keep_is_number (by assumption)))
  | ((with_reducible refine' we_callBS (x := "isinstance") ?ni0 ?ni1 ?ni2 ?ni3 ?ni4 ?ni5 ?ni6 ?_); (case ni0 => assumption); (case ni1 => decide +kernel); (case ni2 => exact f_free_isinstance (by assumption)); (case ni3 => exact (show bootBuiltins "isinstance" = some (.builtin "isinstance") by decide +kernel)); (case ni4 => decide +kernel); (case ni5 => with_unfolding_all rfl); (case ni6 => with_unfolding_all rfl))
  | ((with_reducible refine' we_callBS (x := "len") ?ni0 ?ni1 ?ni2 ?ni3 ?ni4 ?ni5 ?ni6 ?_); (case ni0 => assumption); (case ni1 => decide +kernel); (case ni2 => exact f_free_len (by assumption)); (case ni3 => exact (show bootBuiltins "len" = some (.builtin "len") by decide +kernel)); (case ni4 => decide +kernel); (case ni5 => with_unfolding_all rfl); (case ni6 => with_unfolding_all rfl))
  | ((with_reducible refine' we_callTS (x := "list") ?ni0 ?ni1 ?ni2 ?ni3 ?ni4 ?ni5 ?ni6 ?_); (case ni0 => assumption); (case ni1 => decide +kernel); (case ni2 => exact f_free_list (by assumption)); (case ni3 => exact (show bootBuiltins "list" = some (.type "list") by decide +kernel)); (case ni4 => decide +kernel); (case ni5 => with_unfolding_all rfl); (case ni6 => with_unfolding_all rfl))
  | ((with_reducible refine' we_gty (x := "list") ?ni0 ?ni1 ?ni2 ?ni3 ?ni4 ?_); (case ni0 => assumption); (case ni1 => decide +kernel); (case ni2 => exact f_free_list (by assumption)); (case ni3 => exact (show bootBuiltins "list" = some (.type "list") by decide +kernel)); (case ni4 => decide +kernel))
  | ((with_reducible refine' we_callTS (x := "range") ?ni0 ?ni1 ?ni2 ?ni3 ?ni4 ?ni5 ?ni6 ?_); (case ni0 => assumption); (case ni1 => decide +kernel); (case ni2 => exact f_free_range (by assumption)); (case ni3 => exact (show bootBuiltins "range" = some (.type "range") by decide +kernel)); (case ni4 => decide +kernel); (case ni5 => with_unfolding_all rfl); (case ni6 => with_unfolding_all rfl))
  | ((with_reducible refine' we_callS (x := "read_digits") ?ni0 ?ni1 ?ni2 ?ni3 ?ni4 ?ni5 ?_); (case ni0 => assumption); (case ni1 => decide +kernel); (case ni2 => exact f_glo_read_digits (by assumption)); (case ni3 => exact f_keep_read_digits (by assumption)); (case ni4 => with_unfolding_all rfl); (case ni5 => with_unfolding_all rfl))
  | ((with_reducible refine' we_callS0 (x := "read_digits") ?ni0 ?ni1 ?ni2 ?ni3 ?_); (case ni0 => assumption); (case ni1 => decide +kernel); (case ni2 => exact f_glo_read_digits (by assumption)); (case ni3 => exact f_keep_read_digits (by assumption)))
  | ((with_reducible refine' we_callTS (x := "str") ?ni0 ?ni1 ?ni2 ?ni3 ?ni4 ?ni5 ?ni6 ?_); (case ni0 => assumption); (case ni1 => decide +kernel); (case ni2 => exact f_free_str (by assumption)); (case ni3 => exact (show bootBuiltins "str" = some (.type "str") by decide +kernel)); (case ni4 => decide +kernel); (case ni5 => with_unfolding_all rfl); (case ni6 => with_unfolding_all rfl))
  | ((with_reducible refine' we_gty (x := "str") ?ni0 ?ni1 ?ni2 ?ni3 ?ni4 ?_); (case ni0 => assumption); (case ni1 => decide +kernel); (case ni2 => exact f_free_str (by assumption)); (case ni3 => exact (show bootBuiltins "str" = some (.type "str") by decide +kernel)); (case ni4 => decide +kernel)))

/-! RL0: the class Ratio: fractions in the heap. -/
namespace Rt
open PySem PySem.Spec PyProof.Rows L2 Ni Pr
abbrev aR (K : PySem.W.Frag) : Addr := He.ga K "Ratio"
abbrev aZ (K : PySem.W.Frag) : Addr := He.ga K "ZeroBottom"
theorem tb_ne : ¬ (("top" : Str) = "bottom") := by decide +kernel
theorem bt_ne : ¬ (("bottom" : Str) = "top") := by decide +kernel
/-- the attributes of a fraction -/
def rf (q : Rat) : List (Str × V) := putF "bottom" (.int (q.den : Int)) (putF "top" (.int q.num) [])
theorem rf_eq (q : Rat) : rf q = ([("top", V.int q.num), ("bottom", V.int (q.den : Int))] : List (Str × V)) := by
  show (if ("top" : Str) = "bottom" then [(("top" : Str), V.int (q.den : Int))] else (("top" : Str), V.int q.num) :: putF "bottom" (V.int (q.den : Int)) []) = _
  rw [if_neg tb_ne]
  rfl
theorem rf_top (q : Rat) : (rf q).lookup ("top" : Str) = some (.int q.num) := by
  unfold rf
  rw [lookup_putF, if_neg tb_ne, lookup_putF, if_pos rfl]
theorem rf_bot (q : Rat) : (rf q).lookup ("bottom" : Str) = some (.int (q.den : Int)) := by
  unfold rf
  rw [lookup_putF, if_pos rfl]
theorem rf_no (q : Rat) {m : Str} (h1 : ¬ m = "top") (h2 : ¬ m = "bottom") : (rf q).lookup m = none := by
  unfold rf
  rw [lookup_putF, if_neg h2, lookup_putF, if_neg h1]
  rfl
/-- at a stands the fraction q -/
def IsR (K : PySem.W.Frag) (H : Hp) (a : Addr) (q : Rat) : Prop := ∃ dx, H a = some (.ins (aR K) dx (rf q))
/-- a number: an int, or a fraction -/
def IsQ (K : PySem.W.Frag) (H : Hp) (v : V) (q : Rat) : Prop := (∃ n : Int, v = .int n ∧ q = (n : Rat)) ∨ ∃ a, v = .ref a ∧ IsR K H a q
theorem IsR.mono {K : PySem.W.Frag} {H H' : Hp} {a : Addr} {q : Rat} (s : Same H H') (h : IsR K H a q) : IsR K H' a q := let ⟨dx, e⟩ := h; ⟨dx, s _ _ e⟩
theorem IsQ.mono {K : PySem.W.Frag} {H H' : Hp} {v : V} {q : Rat} (s : Same H H') (h : IsQ K H v q) : IsQ K H' v q := h.elim .inl fun ⟨a, e, r⟩ => .inr ⟨a, e, r.mono s⟩
theorem IsR.inj {K : PySem.W.Frag} {H : Hp} {a : Addr} {q r : Rat} (h : IsR K H a q) (h' : IsR K H a r) : q = r := by
  obtain ⟨dx, e⟩ := h
  obtain ⟨dx', e'⟩ := h'
  rw [e] at e'
  have z := Option.some.inj e'
  injection z with _ _ z3
  have a1 := rf_top q
  have a2 := rf_bot q
  rw [z3, rf_top] at a1
  rw [z3, rf_bot] at a2
  injection a1 with a1
  injection a1 with a1
  injection a2 with a2
  injection a2 with a2
  exact Rat.ext a1.symm (by omega)
/-- the size of a fraction -/
def Sz (q : Rat) (k : Nat) : Prop := Bd q.num k ∧ Bd (q.den : Int) k
theorem sz_of {t b : Int} {k : Nat} (h : b ≠ 0) (ht : Bd t k) (hb : Bd b k) : Sz (Rat.divInt t b) k := ⟨ht.of_abs (sz_top h), hb.of_abs (sz_bot h)⟩
theorem Sz.mono {q : Rat} {k m : Nat} (h : Sz q k) (l : k ≤ m) : Sz q m := ⟨h.1.mono l, h.2.mono l⟩
theorem com_bd {t b : Int} {k : Nat} (h : b ≠ 0) (hb : Bd b k) : Bd (com t b) k := by
  refine hb.of_abs ?_
  have l : Nat.gcd t.natAbs b.natAbs ≤ b.natAbs := Nat.gcd_le_right _ (by omega)
  unfold com
  split <;> omega
/-! ### promises -/
def spInit (K : PySem.W.Frag) : Sp := fun vs H Q E => ∃ (p dx : Addr) (t b : Int), vs = [.ref p, .int t, .int b] ∧ H p = some (.ins (aR K) dx []) ∧ Bd b 8999 ∧ (b = 0 → E (.ref (aZ K)) none H) ∧
  (b ≠ 0 → Q .non (upd H p (.ins (aR K) dx (rf (Rat.divInt t b)))))
section
variable {P : Program} {w : World} {K : PySem.W.Frag} {mg : Str → Option Value} {base : Heap}
theorem fn_init (T : Ctx K mg) {fd : FuncData} (F : FunD K "__init__" "Ratio.__init__" (defArgs s_Ratio___init__) (defBody s_Ratio___init__) (defScope s_Ratio___init__) (d_Ratio___init__.dvs K) (d_Ratio___init__.kws K) (He.fAd K d_Ratio___init__.at_) fd) :
    FnOk P w K mg base (L2.CX P w) 1 (He.fAd K d_Ratio___init__.at_) fd p_Ratio___init__ (spInit K) := by
  refine fn_go F sc_Ratio___init__ nm_Ratio___init__ ?len ?body
  case len =>
    intro vs H Q E h
    obtain ⟨p, dx, t, b, rfl, _⟩ := h
    rfl
  case body =>
    intro X e1 e2 e3 e4 e5 S V1 hr vs H Q E hE h
    subst e1 e2 e3 e4 e5
    obtain ⟨p, dx, t, b, rfl, hp, hb, h0, h1⟩ := h
    show Wb X _ _ [some (.ref p), some (.int t), some (.int b), none] H
    refine wb_cons ?_
    exists "ni go"
    refine if_d (fun z => ?_) (fun z => ?_)
    · exists "ni go"
      exact hE _ _ _ _ (h0 z)
    · have bc : Bd (com t b) 8999 := com_bd z hb
      have nc : com t b ≠ 0 := com_ne z
      exists "ni go"
      refine if_d (fun z2 => ?_) (fun z2 => ?_)
      all_goals exists "ni go"
      · rw [show -((Nat.gcd t.natAbs b.natAbs : Nat) : Int) = com t b from (if_pos z2).symm]
        refine wo_fdiv nc bc (by decide) ?_
        rw [com_top z]
        exists "ni go"
        refine ⟨p, aR X.K, dx, _, rfl, hp, f_cls_Ratio T, f_noat_Ratio'top T, (by show 0 < 1000; decide), ?_⟩
        exists "ni go"
        refine wo_fdiv nc bc (by decide) ?_
        rw [com_bot z]
        exists "ni go"
        refine ⟨p, aR X.K, dx, _, rfl, upd_same, f_cls_Ratio T, f_noat_Ratio'bottom T, (by show 1 < 1000; decide), ?_⟩
        exists "ni go"
        rw [upd_upd]
        exact h1 z
      · rw [show ((Nat.gcd t.natAbs b.natAbs : Nat) : Int) = com t b from (if_neg z2).symm]
        refine wo_fdiv nc bc (by decide) ?_
        rw [com_top z]
        exists "ni go"
        refine ⟨p, aR X.K, dx, _, rfl, hp, f_cls_Ratio T, f_noat_Ratio'top T, (by show 0 < 1000; decide), ?_⟩
        exists "ni go"
        refine wo_fdiv nc bc (by decide) ?_
        rw [com_bot z]
        exists "ni go"
        refine ⟨p, aR X.K, dx, _, rfl, upd_same, f_cls_Ratio T, f_noat_Ratio'bottom T, (by show 1 < 1000; decide), ?_⟩
        exists "ni go"
        rw [upd_upd]
        exact h1 z
theorem ok_init (T : Ctx K mg) : OkD P w K mg base 1 (He.ma K (aR K) "__init__") p_Ratio___init__ [] (spInit K) := by
  obtain ⟨fd, F⟩ := F_Ratio___init__ T
  obtain ⟨ds, r, hb⟩ := FunD.binds1 (ps := p_Ratio___init__) F 3 1 (by intro z; cases z) rfl fun T kV doc pm an cdv ct us its h1 h2 => match us, its, h1, h2 with | [_, _, _], [_], _, _ => ⟨_, rfl, rfl⟩
  exact ⟨⟨fd, ds, fn_init T F, r, hb⟩, F.kp⟩
theorem ok_init1 (T : Ctx K mg) : OkD P w K mg base 1 (He.ma K (aR K) "__init__") p_Ratio___init__ [.int 1] (spInit K) := by
  obtain ⟨fd, F⟩ := F_Ratio___init__ T
  obtain ⟨ds, r, hb⟩ := FunD.binds1 (ps := p_Ratio___init__) F 2 0 (by intro z; cases z) rfl fun T kV doc pm an cdv ct us its h1 h2 => match us, its, h1, h2 with | [_, _], [_], _, _ => ⟨_, rfl, rfl⟩
  exact ⟨⟨fd, ds, fn_init T F, r, hb⟩, F.kp⟩
theorem ok_initK (T : Ctx K mg) : OkK P w K mg base 1 (He.ma K (aR K) "__init__") p_Ratio___init__ 2 ["bottom"] (fun vs zs => vs ++ zs) (spInit K) := by
  obtain ⟨fd, F⟩ := F_Ratio___init__ T
  obtain ⟨its, hb⟩ := FunD.kbindsD (ps := p_Ratio___init__) F 2 ["bottom"] (fun us ds zs => us ++ zs) (by intro z; cases z) (fun r1 _ r2 => r1.append r2)
    fun T kV doc pm an cdv ct us its ws h1 h2 h3 => match us, its, ws, h1, h2, h3 with | [_, _], [_], [_], _, _, _ => ⟨_, rfl, rfl⟩
  exact ⟨⟨fd, _, fn_init T F, hb⟩, F.kp⟩
end
section
variable {X : Cx} {σ : L2.St} {H : Hp} {Q : VK} {t b n : Int} {a : Addr} {q r : Rat} {v : V}
theorem made_same {p dx C : Addr} {fs : List (Str × V)} (hp : H p = none) (hd : H dx = none) : Same H (upd (upd (upd H dx (.own p)) p (.ins C dx [])) p (.ins C dx fs)) := by
  rw [upd_upd]
  exact same_mut (same_new hd) hp
theorem go_new (T : Ctx X.K X.mg) (hr : Room 2 X.A) (hb : Bd b 8999) (h0 : b ≠ 0) (k : ∀ p H', Same H H' → IsR X.K H' p (Rat.divInt t b) → Q (.ref p) H') : Wf X (.ref (aR X.K)) [.int t, .int b] σ H Q := by
  refine wf_new (f_mkr_Ratio T) (ok_init T) hr fun p dx hp hd ne => ?_
  refine ⟨p, dx, t, b, rfl, upd_same, hb, fun z => absurd z h0, fun _ => ⟨rfl, ?_⟩⟩
  exact k p _ (made_same hp hd) ⟨dx, upd_same⟩
theorem go_new0 (T : Ctx X.K X.mg) (hr : Room 2 X.A) (k : ∀ H', Same H H' → XW X (.ref (aZ X.K)) none σ H') : Wf X (.ref (aR X.K)) [.int t, .int 0] σ H Q := by
  refine wf_new (f_mkr_Ratio T) (ok_init T) hr fun p dx hp hd ne => ?_
  exact ⟨p, dx, t, 0, rfl, upd_same, Nat.two_pow_pos _, fun _ => k _ (same_mut (same_new hd) hp), fun z => absurd rfl z⟩
theorem divInt_one (n : Int) : Rat.divInt n 1 = (n : Rat) := by
  apply Rat.ext
  · rw [Rat.num_divInt]; simp
  · rw [Rat.den_divInt]; simp
theorem go_new1 (T : Ctx X.K X.mg) (hr : Room 2 X.A) (k : ∀ p H', Same H H' → IsR X.K H' p (n : Rat) → Q (.ref p) H') : Wf X (.ref (aR X.K)) [.int n] σ H Q := by
  refine wf_new (f_mkr_Ratio T) (ok_init1 T) hr fun p dx hp hd ne => ?_
  refine ⟨p, dx, n, 1, rfl, upd_same, ?_, fun z => (by cases z), fun _ => ⟨rfl, ?_⟩⟩
  · exact Nat.one_lt_two_pow (by decide)
  · have e := made_same (C := aR X.K) (fs := rf (Rat.divInt n 1)) hp hd
    rw [divInt_one] at e
    have e2 := k p _ e ⟨dx, upd_same⟩
    rw [divInt_one]
    exact e2
theorem fl_top (T : Ctx X.K X.mg) (h : IsR X.K H a q) (k : Q (.int q.num) H) : Fl X (.ref a) "top" H Q := by
  obtain ⟨dx, e⟩ := h
  exact ⟨a, aR X.K, dx, _, _, rfl, e, f_cls_Ratio T, f_noat_Ratio'top T, rf_top q, k⟩
theorem fl_bot (T : Ctx X.K X.mg) (h : IsR X.K H a q) (k : Q (.int (q.den : Int)) H) : Fl X (.ref a) "bottom" H Q := by
  obtain ⟨dx, e⟩ := h
  exact ⟨a, aR X.K, dx, _, _, rfl, e, f_cls_Ratio T, f_noat_Ratio'bottom T, rf_bot q, k⟩
theorem isq_int {K : PySem.W.Frag} {n : Int} : IsQ K H (.int n) (n : Rat) := .inl ⟨n, rfl, rfl⟩
theorem isq_ref {K : PySem.W.Frag} (h : IsR K H a q) : IsQ K H (.ref a) q := .inr ⟨a, rfl, h⟩
/-- isinstance(x, Ratio), isinstance(x, int) of a number -/
theorem isi_int_int (T : Ctx X.K X.mg) (k : Q (.bl true) H) : Wcb X (.builtin "isinstance") [.int n, .ty "int"] H Q := wcb_isi (.ty "int") (.base (.int n)) (f_kit_int'int T) k
theorem isi_int_R (T : Ctx X.K X.mg) (k : Q (.bl false) H) : Wcb X (.builtin "isinstance") [.int n, .ref (aR X.K)] H Q := wcb_isi (.own _) (.base (.int n)) (f_kit_int'Ratio T) k
theorem isi_R_R (T : Ctx X.K X.mg) (h : IsR X.K H a q) (k : Q (.bl true) H) : Wcb X (.builtin "isinstance") [.ref a, .ref (aR X.K)] H Q := by
  obtain ⟨dx, e⟩ := h
  exact wcb_isi (.own _) (tyx_of (f_tyx_Ratio T) (f_cls_Ratio T) e) (f_kit_Ratio'Ratio T) k
theorem isi_R_int (T : Ctx X.K X.mg) (h : IsR X.K H a q) (k : Q (.bl false) H) : Wcb X (.builtin "isinstance") [.ref a, .ty "int"] H Q := by
  obtain ⟨dx, e⟩ := h
  exact wcb_isi (.ty "int") (tyx_of (f_tyx_Ratio T) (f_cls_Ratio T) e) (f_kit_Ratio'int T) k
end
end Rt

/-! TACR: the walk's steps over fractions. -/
section
open PySem PySem.Spec PyProof.Rows L2 Ni Pr Rt
local macro_rules | `(tactic| exists "ni keep") => `(tactic| first
  | assumption
  | (with_reducible exact isq_int)
  | ((with_reducible refine' isq_ref ?ni1); (case ni1 => exists "ni keep"))
  | ((with_reducible refine' IsR.mono ?ni1 ?ni2); (case ni1 => assumption); (case ni2 => exists "ni keep"))
  | ((with_reducible refine' IsQ.mono ?ni1 ?ni2); (case ni1 => assumption); (case ni2 => exists "ni keep")))
local macro_rules | `(tactic| exists "ni own") => `(tactic| first
  | ((with_reducible refine' fl_top ?ni1 ?ni2 ?_); (case ni1 => assumption); (case ni2 => exists "ni keep"))
  | ((with_reducible refine' fl_bot ?ni1 ?ni2 ?_); (case ni1 => assumption); (case ni2 => exists "ni keep"))
  | ((with_reducible refine' isi_int_int ?ni1 ?_); (case ni1 => assumption))
  | ((with_reducible refine' isi_int_R ?ni1 ?_); (case ni1 => assumption))
  | ((with_reducible refine' isi_R_R ?ni1 ?ni2 ?_); (case ni1 => assumption); (case ni2 => exists "ni keep"))
  | ((with_reducible refine' isi_R_int ?ni1 ?ni2 ?_); (case ni1 => assumption); (case ni2 => exists "ni keep"))
  | ((with_reducible refine' go_new1 ?ni1 ?ni2 ?_); (case ni1 => assumption); (case ni2 => exists "ni room"); intro _ _ _ _))

/-! RL1: Ratio: the numbers and the signs. -/
namespace Rt
open PySem PySem.Spec PyProof.Rows L2 Ni Pr
/-- two fractions small enough to be reckoned with -/
def Mz (q r : Rat) : Prop := ∃ k m, Sz q k ∧ Sz r m ∧ k + m ≤ 8990
def spOne (K : PySem.W.Frag) : Sp := fun vs H Q _ => ∃ (v : V) (q : Rat), vs = [v] ∧ IsQ K H v q ∧ ∀ p H', Same H H' → IsR K H' p q → Q (.ref p) H'
def spBin (K : PySem.W.Frag) (f : Rat → Rat → Rat) : Sp := fun vs H Q _ => ∃ (a : Addr) (v : V) (q r : Rat), vs = [.ref a, v] ∧ IsR K H a q ∧ IsQ K H v r ∧ Mz q r ∧ ∀ p H', Same H H' → IsR K H' p (f q r) → Q (.ref p) H'
section
variable {P : Program} {w : World} {K : PySem.W.Frag} {mg : Str → Option Value} {base : Heap}
theorem ok_as_ratio (T : Ctx K mg) : OkD P w K mg base 5 (He.ga K "as_ratio") p_as_ratio [] (spOne K) := by
  obtain ⟨fd, F⟩ := F_as_ratio T
  refine ⟨⟨fd, [], fn_go (k := 4) F sc_as_ratio nm_as_ratio ?len ?body, .nil, FunD.bindsN F fun _ _ _ _ _ _ us hl => match us, hl with | [_], _ => rfl⟩, F.kp⟩
  case len =>
    rintro vs H Q E ⟨v, q, rfl, _⟩
    rfl
  case body =>
    intro X e1 e2 e3 e4 e5 S V1 hr vs H Q E hE h
    subst e1 e2 e3 e4 e5
    obtain ⟨v, q, rfl, hq, k⟩ := h
    show Wb X _ _ [some v] H
    refine wb_cons ?_
    rcases hq with ⟨n, rfl, rfl⟩ | ⟨a, rfl, ha⟩
    · exists "ni go"
      exact k _ _ (by assumption) (by assumption)
    · exists "ni go"
      exact k _ _ (Same.refl _) ha
end
section
variable {X : Cx} {σ : L2.St} {H : Hp} {Q : VK} {t b n : Int} {a : Addr} {q r : Rat} {v : V}
theorem go_as_ratio (T : Ctx X.K X.mg) (hr : Room 5 X.A) (hq : IsQ X.K H v q) (k : ∀ p H', Same H H' → IsR X.K H' p q → Q (.ref p) H') : Wf X (.ref (He.ga X.K "as_ratio")) [v] σ H Q :=
  wf_ok (ok_as_ratio T) hr ⟨v, q, rfl, hq, k⟩
end
end Rt

end

/-! TACR2: more of them. -/
section
open PySem PySem.Spec PyProof.Rows L2 Ni Pr Rt
local macro_rules | `(tactic| exists "ni keep") => `(tactic| first
  | assumption
  | (with_reducible exact isq_int)
  | ((with_reducible refine' isq_ref ?ni1); (case ni1 => exists "ni keep"))
  | ((with_reducible refine' IsR.mono ?ni1 ?ni2); (case ni1 => assumption); (case ni2 => exists "ni keep"))
  | ((with_reducible refine' IsQ.mono ?ni1 ?ni2); (case ni1 => assumption); (case ni2 => exists "ni keep")))
local macro_rules | `(tactic| exists "ni own") => `(tactic| first
  | ((with_reducible refine' fl_top ?ni1 ?ni2 ?_); (case ni1 => assumption); (case ni2 => exists "ni keep"))
  | ((with_reducible refine' fl_bot ?ni1 ?ni2 ?_); (case ni1 => assumption); (case ni2 => exists "ni keep"))
  | ((with_reducible refine' isi_int_int ?ni1 ?_); (case ni1 => assumption))
  | ((with_reducible refine' isi_int_R ?ni1 ?_); (case ni1 => assumption))
  | ((with_reducible refine' isi_R_R ?ni1 ?ni2 ?_); (case ni1 => assumption); (case ni2 => exists "ni keep"))
  | ((with_reducible refine' isi_R_int ?ni1 ?ni2 ?_); (case ni1 => assumption); (case ni2 => exists "ni keep"))
  | ((with_reducible refine' go_as_ratio ?ni1 ?ni2 ?ni3 ?_); (case ni1 => assumption); (case ni2 => exists "ni room"); (case ni3 => exists "ni keep"); intro _ _ _ _)
  | ((with_reducible refine' go_new1 ?ni1 ?ni2 ?_); (case ni1 => assumption); (case ni2 => exists "ni room"); intro _ _ _ _))
local macro_rules | `(tactic| exists "ni same") => `(tactic| first
  | assumption
  | exact Same.refl _
  | ((refine' Same.trans ?ni1 ?ni2); (case ni2 => assumption); (case ni1 => exists "ni same")))

/-! RL2: the signs of Ratio. -/
namespace Rt
open PySem PySem.Spec PyProof.Rows L2 Ni Pr
section
variable {P : Program} {w : World} {K : PySem.W.Frag} {mg : Str → Option Value} {base : Heap}
theorem ok_add (T : Ctx K mg) : OkD P w K mg base 10 (He.ma K (aR K) "__add__") p_Ratio___add__ [] (spBin K (· + ·)) := by
  obtain ⟨fd, F⟩ := F_Ratio___add__ T
  refine ⟨⟨fd, [], fn_go (k := 9) F sc_Ratio___add__ nm_Ratio___add__ ?len ?body, .nil, FunD.bindsN F fun _ _ _ _ _ _ us hl => match us, hl with | [_, _], _ => rfl⟩, F.kp⟩
  case len =>
    rintro vs H Q E ⟨a, v, q, r, rfl, _⟩
    rfl
  case body =>
    intro X e1 e2 e3 e4 e5 S V1 hr vs H Q E hE h
    subst e1 e2 e3 e4 e5
    obtain ⟨a, v, q, r, rfl, ha, hv, ⟨k, m, ⟨k1, k2⟩, ⟨m1, m2⟩, hkm⟩, fin⟩ := h
    show Wb X _ _ [some (.ref a), some v] H
    refine wb_cons ?_
    exists "ni go"
    refine go_new T (Room.mono hr (by decide)) ((k2.mul m2).mono (by omega)) (den_mul_ne q r) fun p H' s hp => ?_
    rw [q_add] at hp
    exact fin p H' (by exists "ni same") hp
end
end Rt

/-! RL3: signs between fractions and numbers. -/
namespace Rt
open PySem PySem.Spec PyProof.Rows L2 Ni Pr
def spRev (K : PySem.W.Frag) (f : Rat → Rat → Rat) : Sp := fun vs H Q _ => ∃ (a : Addr) (v : V) (q r : Rat), vs = [.ref a, v] ∧ IsR K H a q ∧ IsQ K H v r ∧ Mz q r ∧ ∀ p H', Same H H' → IsR K H' p (f r q) → Q (.ref p) H'
theorem Mz.symm {q r : Rat} (h : Mz q r) : Mz r q := let ⟨k, m, a, b, l⟩ := h; ⟨m, k, b, a, by omega⟩
theorem type_int : ∀ u {n : Int}, RelV (.int n) u → typeOf u = pure (.type "int") := by
  rintro u n ⟨t, rfl⟩
  rfl
section
variable {X : Cx} {σ : L2.St} {H : Hp} {Q : VK} {op : Operator} {a f f2 : Addr} {v : V} {q r : Rat} {fn : Rat → Rat → Rat} {k : Nat} {ps : List Str} {n : Int} {idl : String}
theorem o_bin (T : Ctx X.K X.mg) (O : OkD X.prog X.w X.K X.mg X.base k f ps [] (spBin X.K fn)) (g : Sg X.K (aR X.K) (PySem.dunder op.info.2) f) (g2 : Sg X.K (aR X.K) (dunderR op.info.2) f2)
    (h1 : ∃ fo, PySem.W.findIn X.K (.type "int") (PySem.dunder op.info.2) = some fo) (h2 : ∃ fo, PySem.W.findIn X.K (.type "int") (dunderR op.info.2) = some fo) (hr : Room k X.A) (ha : IsR X.K H a q) (hv : IsQ X.K H v r) (mz : Mz q r)
    (kk : ∀ p H', Same H H' → IsR X.K H' p (fn q r) → Q (.ref p) H') : Wo X (binaryOp op) (.ref a) v σ H Q := by
  have run := wf_ok (σ := σ) (Q := Q) (vs := [.ref a, v]) O hr ⟨a, v, q, r, rfl, ha, hv, mz, kk⟩
  obtain ⟨dx, e⟩ := ha
  obtain ⟨fo, h1⟩ := h1
  obtain ⟨ro, h2⟩ := h2
  rcases hv with ⟨n, rfl, rfl⟩ | ⟨b, rfl, dy, e2⟩
  · exact wo_left (T := "int") e (fun u => type_int u) (f_sf_Ratio T) g g2.hs (.inr ⟨_, rfl⟩) h1 h2 (f_sub_int'Ratio T) run
  · exact wo_two e e2 (f_sf_Ratio T) g run
theorem i_bin (T : Ctx X.K X.mg) (O : OkD X.prog X.w X.K X.mg X.base k f ps [] (spBin X.K fn)) (g : Sg X.K (aR X.K) (PySem.dunder op.info.2) f) (g2 : Sg X.K (aR X.K) (dunderR op.info.2) f2)
    (hT : fillsNumberSlot (.type "int") op.info.2 = pure true) (hn : noiB X.K (aR X.K) op.info.2 = true) (ho : typeLookup (.type "object") (dunderI op.info.2) = pure none)
    (h2 : ∃ fo, PySem.W.findIn X.K (.type "int") (dunderR op.info.2) = some fo) (hr : Room k X.A) (ha : IsR X.K H a q) (hv : IsQ X.K H v r) (mz : Mz q r)
    (kk : ∀ p H', Same H H' → IsR X.K H' p (fn q r) → Q (.ref p) H') : Wo X (inplaceOp op) (.ref a) v σ H Q := by
  have run := wf_ok (σ := σ) (Q := Q) (vs := [.ref a, v]) O hr ⟨a, v, q, r, rfl, ha, hv, mz, kk⟩
  obtain ⟨dx, e⟩ := ha
  obtain ⟨ro, h2⟩ := h2
  rcases hv with ⟨n, rfl, rfl⟩ | ⟨b, rfl, dy, e2⟩
  · exact wi_int e (f_sf_Ratio T) g hn ho g2.hs (.inr ⟨_, rfl⟩) hT h2 (f_sub_int'Ratio T) run
  · exact wi_two e e2 (f_sf_Ratio T) g hn ho run
theorem o_rev (T : Ctx X.K X.mg) (O : OkD X.prog X.w X.K X.mg X.base k f2 ps [] (spRev X.K fn)) (g : Sg X.K (aR X.K) (PySem.dunder op.info.2) f) (g2 : Sg X.K (aR X.K) (dunderR op.info.2) f2)
    (hT : fillsNumberSlot (.type "int") op.info.2 = pure true) (hl : Slot "int" (PySem.dunder op.info.2) idl) (up : GivesUp idl) (hr : Room k X.A) (ha : IsR X.K H a q) (mz : Mz q n)
    (kk : ∀ p H', Same H H' → IsR X.K H' p (fn n q) → Q (.ref p) H') : Wo X (binaryOp op) (.int n) (.ref a) σ H Q := by
  have run := wf_ok (σ := σ) (Q := Q) (vs := [.ref a, .int n]) O hr ⟨a, .int n, q, n, rfl, ha, .inl ⟨n, rfl, rfl⟩, mz, kk⟩
  obtain ⟨dx, e⟩ := ha
  exact wo_right e (f_sf_Ratio T) g g2 hT (f_sub_Ratio'int T) hl up run
end
end Rt

/-! RL4: the defs of the signs. -/
namespace Rt
open PySem PySem.Spec PyProof.Rows L2 Ni Pr
def spUn (K : PySem.W.Frag) (f : Rat → Rat) : Sp := fun vs H Q _ => ∃ (a : Addr) (q : Rat), vs = [.ref a] ∧ IsR K H a q ∧ Sz q 8990 ∧ ∀ p H', Same H H' → IsR K H' p (f q) → Q (.ref p) H'
def spNum (K : PySem.W.Frag) : Sp := fun vs H Q _ => ∃ (v : V) (r : Rat), vs = [v] ∧ IsQ K H v r ∧ Q (.bl true) H
section
variable {P : Program} {w : World} {K : PySem.W.Frag} {mg : Str → Option Value} {base : Heap}
theorem ok_is_number (T : Ctx K mg) : OkD P w K mg base 1 (He.ga K "is_number") p_is_number [] (spNum K) := by
  obtain ⟨fd, F⟩ := F_is_number T
  refine ⟨⟨fd, [], fn_go (k := 0) F sc_is_number nm_is_number ?len ?body, .nil, FunD.bindsN F fun _ _ _ _ _ _ us hl => match us, hl with | [_], _ => rfl⟩, F.kp⟩
  case len =>
    rintro vs H Q E ⟨v, r, rfl, _⟩
    rfl
  case body =>
    intro X e1 e2 e3 e4 e5 S V1 hr vs H Q E hE h
    subst e1 e2 e3 e4 e5
    obtain ⟨v, r, rfl, hv, fin⟩ := h
    show Wb X _ _ [some v] H
    refine wb_cons ?_
    rcases hv with ⟨n, rfl, rfl⟩ | ⟨a, rfl, ha⟩
    · exists "ni go"
      exact fin
    · exists "ni go"
      exact fin
end
section
variable {X : Cx} {σ : L2.St} {H : Hp} {Q : VK} {v : V} {r : Rat}
theorem go_is_number (T : Ctx X.K X.mg) (hr : Room 1 X.A) (hv : IsQ X.K H v r) (k : Q (.bl true) H) : Wf X (.ref (He.ga X.K "is_number")) [v] σ H Q := wf_ok (ok_is_number T) hr ⟨v, r, rfl, hv, k⟩
end
section
variable {P : Program} {w : World} {K : PySem.W.Frag} {mg : Str → Option Value} {base : Heap}
theorem ok_sub (T : Ctx K mg) : OkD P w K mg base 10 (He.ma K (aR K) "__sub__") p_Ratio___sub__ [] (spBin K (· - ·)) := by
  obtain ⟨fd, F⟩ := F_Ratio___sub__ T
  refine ⟨⟨fd, [], fn_go (k := 9) F sc_Ratio___sub__ nm_Ratio___sub__ ?len ?body, .nil, FunD.bindsN F fun _ _ _ _ _ _ us hl => match us, hl with | [_, _], _ => rfl⟩, F.kp⟩
  case len =>
    rintro vs H Q E ⟨a, v, q, r, rfl, _⟩
    rfl
  case body =>
    intro X e1 e2 e3 e4 e5 S V1 hr vs H Q E hE h
    subst e1 e2 e3 e4 e5
    obtain ⟨a, v, q, r, rfl, ha, hv, ⟨k, m, ⟨k1, k2⟩, ⟨m1, m2⟩, hkm⟩, fin⟩ := h
    show Wb X _ _ [some (.ref a), some v] H
    refine wb_cons ?_
    exists "ni go"
    refine go_new T (Room.mono hr (by decide)) ((k2.mul m2).mono (by omega)) (den_mul_ne q r) fun p H' s hp => ?_
    rw [q_sub] at hp
    exact fin p H' (by exists "ni same") hp
theorem ok_mul (T : Ctx K mg) : OkD P w K mg base 10 (He.ma K (aR K) "__mul__") p_Ratio___mul__ [] (spBin K (· * ·)) := by
  obtain ⟨fd, F⟩ := F_Ratio___mul__ T
  refine ⟨⟨fd, [], fn_go (k := 9) F sc_Ratio___mul__ nm_Ratio___mul__ ?len ?body, .nil, FunD.bindsN F fun _ _ _ _ _ _ us hl => match us, hl with | [_, _], _ => rfl⟩, F.kp⟩
  case len =>
    rintro vs H Q E ⟨a, v, q, r, rfl, _⟩
    rfl
  case body =>
    intro X e1 e2 e3 e4 e5 S V1 hr vs H Q E hE h
    subst e1 e2 e3 e4 e5
    obtain ⟨a, v, q, r, rfl, ha, hv, ⟨k, m, ⟨k1, k2⟩, ⟨m1, m2⟩, hkm⟩, fin⟩ := h
    show Wb X _ _ [some (.ref a), some v] H
    refine wb_cons ?_
    exists "ni go"
    refine go_is_number T (Room.mono hr (by decide)) hv ?_
    exists "ni go"
    refine go_new T (Room.mono hr (by decide)) ((k2.mul m2).mono (by omega)) (den_mul_ne q r) fun p H' s hp => ?_
    rw [q_mul] at hp
    exact fin p H' (by exists "ni same") hp
theorem ok_neg (T : Ctx K mg) : OkD P w K mg base 10 (He.ma K (aR K) "__neg__") p_Ratio___neg__ [] (spUn K (fun q => -q)) := by
  obtain ⟨fd, F⟩ := F_Ratio___neg__ T
  refine ⟨⟨fd, [], fn_go (k := 9) F sc_Ratio___neg__ nm_Ratio___neg__ ?len ?body, .nil, FunD.bindsN F fun _ _ _ _ _ _ us hl => match us, hl with | [_], _ => rfl⟩, F.kp⟩
  case len =>
    rintro vs H Q E ⟨a, q, rfl, _⟩
    rfl
  case body =>
    intro X e1 e2 e3 e4 e5 S V1 hr vs H Q E hE h
    subst e1 e2 e3 e4 e5
    obtain ⟨a, q, rfl, ha, ⟨s1, s2⟩, fin⟩ := h
    show Wb X _ _ [some (.ref a)] H
    refine wb_cons ?_
    exists "ni go"
    refine go_new T (Room.mono hr (by decide)) (s2.mono (by decide)) (den_ne q) fun p H' s hp => ?_
    rw [q_neg] at hp
    exact fin p H' (by exists "ni same") hp
theorem ok_abs (T : Ctx K mg) : OkD P w K mg base 10 (He.ma K (aR K) "__abs__") p_Ratio___abs__ [] (spUn K Rat.abs) := by
  obtain ⟨fd, F⟩ := F_Ratio___abs__ T
  refine ⟨⟨fd, [], fn_go (k := 9) F sc_Ratio___abs__ nm_Ratio___abs__ ?len ?body, .nil, FunD.bindsN F fun _ _ _ _ _ _ us hl => match us, hl with | [_], _ => rfl⟩, F.kp⟩
  case len =>
    rintro vs H Q E ⟨a, q, rfl, _⟩
    rfl
  case body =>
    intro X e1 e2 e3 e4 e5 S V1 hr vs H Q E hE h
    subst e1 e2 e3 e4 e5
    obtain ⟨a, q, rfl, ha, ⟨s1, s2⟩, fin⟩ := h
    show Wb X _ _ [some (.ref a)] H
    refine wb_cons ?_
    exists "ni go"
    refine go_new T (Room.mono hr (by decide)) (s2.mono (by decide)) (den_ne q) fun p H' s hp => ?_
    rw [q_abs] at hp
    exact fin p H' (by exists "ni same") hp
end
end Rt

/-! RL5: the signs as they are written, the reflected ones. -/
namespace Rt
open PySem PySem.Spec PyProof.Rows L2 Ni Pr
section
variable {X : Cx} {σ : L2.St} {H : Hp} {Q : VK} {a : Addr} {v : V} {q r : Rat} {n : Int}
theorem o_add (T : Ctx X.K X.mg) (hr : Room 10 X.A) (ha : IsR X.K H a q) (hv : IsQ X.K H v r) (mz : Mz q r) (kk : ∀ p H', Same H H' → IsR X.K H' p (q + r) → Q (.ref p) H') : Wo X (binaryOp .Add) (.ref a) v σ H Q :=
  o_bin T (ok_add T) (Sg.of_eq d_add (f_sg_Ratio'__add__ T)) (Sg.of_eq r_add (f_sg_Ratio'__radd__ T)) (find_eq d_add (f_find_int'__add__ T)) (find_eq r_add (f_find_int'__radd__ T)) hr ha hv mz kk
theorem o_sub (T : Ctx X.K X.mg) (hr : Room 10 X.A) (ha : IsR X.K H a q) (hv : IsQ X.K H v r) (mz : Mz q r) (kk : ∀ p H', Same H H' → IsR X.K H' p (q - r) → Q (.ref p) H') : Wo X (binaryOp .Sub) (.ref a) v σ H Q :=
  o_bin T (ok_sub T) (Sg.of_eq d_sub (f_sg_Ratio'__sub__ T)) (Sg.of_eq r_sub (f_sg_Ratio'__rsub__ T)) (find_eq d_sub (f_find_int'__sub__ T)) (find_eq r_sub (f_find_int'__rsub__ T)) hr ha hv mz kk
theorem o_mul (T : Ctx X.K X.mg) (hr : Room 10 X.A) (ha : IsR X.K H a q) (hv : IsQ X.K H v r) (mz : Mz q r) (kk : ∀ p H', Same H H' → IsR X.K H' p (q * r) → Q (.ref p) H') : Wo X (binaryOp .Mult) (.ref a) v σ H Q :=
  o_bin T (ok_mul T) (Sg.of_eq d_mul (f_sg_Ratio'__mul__ T)) (Sg.of_eq r_mul (f_sg_Ratio'__rmul__ T)) (find_eq d_mul (f_find_int'__mul__ T)) (find_eq r_mul (f_find_int'__rmul__ T)) hr ha hv mz kk
theorem i_add (T : Ctx X.K X.mg) (hr : Room 10 X.A) (ha : IsR X.K H a q) (hv : IsQ X.K H v r) (mz : Mz q r) (kk : ∀ p H', Same H H' → IsR X.K H' p (q + r) → Q (.ref p) H') : Wo X (inplaceOp .Add) (.ref a) v σ H Q :=
  i_bin T (ok_add T) (Sg.of_eq d_add (f_sg_Ratio'__add__ T)) (Sg.of_eq r_add (f_sg_Ratio'__radd__ T)) F.fills_int_add (f_noi_Ratio'add T) no_iadd (find_eq r_add (f_find_int'__radd__ T)) hr ha hv mz kk
theorem i_mul (T : Ctx X.K X.mg) (hr : Room 10 X.A) (ha : IsR X.K H a q) (hv : IsQ X.K H v r) (mz : Mz q r) (kk : ∀ p H', Same H H' → IsR X.K H' p (q * r) → Q (.ref p) H') : Wo X (inplaceOp .Mult) (.ref a) v σ H Q :=
  i_bin T (ok_mul T) (Sg.of_eq d_mul (f_sg_Ratio'__mul__ T)) (Sg.of_eq r_mul (f_sg_Ratio'__rmul__ T)) F.fills_int_mul (f_noi_Ratio'mul T) no_imul (find_eq r_mul (f_find_int'__rmul__ T)) hr ha hv mz kk
theorem o_neg (T : Ctx X.K X.mg) (hr : Room 10 X.A) (ha : IsR X.K H a q) (s : Sz q 8990) (kk : ∀ p H', Same H H' → IsR X.K H' p (-q) → Q (.ref p) H') : Wu X (unaryOp .USub) (.ref a) σ H Q := by
  have run := wf_ok (σ := σ) (Q := Q) (vs := [.ref a]) (ok_neg T) hr ⟨a, q, rfl, ha, s, kk⟩
  obtain ⟨dx, e⟩ := ha
  exact wu_neg e (f_sg_Ratio'__neg__ T) run
theorem o_abs (T : Ctx X.K X.mg) (hr : Room 11 X.A) (ha : IsR X.K H a q) (s : Sz q 8990) (kk : ∀ p H', Same H H' → IsR X.K H' p q.abs → Q (.ref p) H') : Wcb X (.builtin "abs") [.ref a] H Q := by
  have run := fun σ' => wfA_ok (σ := σ') (Q := Q) (vs := [.ref a]) (A := X.A.in1) (ok_abs T) hr.in1 rfl ⟨a, q, rfl, ha, s, kk⟩
  obtain ⟨dx, e⟩ := ha
  exact wcb_absO e (f_sg_Ratio'__abs__ T) run
end
section
open PySem PySem.Spec PyProof.Rows L2 Ni Pr Rt
local macro_rules | `(tactic| exists "ni own") => `(tactic| first
  | ((with_reducible refine' o_add ?ni1 ?ni2 ?ni3 ?ni4 ?ni5 ?_); (case ni1 => assumption); (case ni2 => exists "ni room"); (case ni3 => exists "ni keep"); (case ni4 => exists "ni keep"); (case ni5 => assumption))
  | ((with_reducible refine' o_sub ?ni1 ?ni2 ?ni3 ?ni4 ?ni5 ?_); (case ni1 => assumption); (case ni2 => exists "ni room"); (case ni3 => exists "ni keep"); (case ni4 => exists "ni keep"); (case ni5 => assumption))
  | ((with_reducible refine' o_mul ?ni1 ?ni2 ?ni3 ?ni4 ?ni5 ?_); (case ni1 => assumption); (case ni2 => exists "ni room"); (case ni3 => exists "ni keep"); (case ni4 => exists "ni keep"); (case ni5 => assumption))
  | ((with_reducible refine' go_as_ratio ?ni1 ?ni2 ?ni3 ?_); (case ni1 => assumption); (case ni2 => exists "ni room"); (case ni3 => exists "ni keep"); intro _ _ _ _))
section
variable {P : Program} {w : World} {K : PySem.W.Frag} {mg : Str → Option Value} {base : Heap}
theorem ok_radd (T : Ctx K mg) : OkD P w K mg base 15 (He.ma K (aR K) "__radd__") p_Ratio___radd__ [] (spRev K (· + ·)) := by
  obtain ⟨fd, F⟩ := F_Ratio___radd__ T
  refine ⟨⟨fd, [], fn_go (k := 14) F sc_Ratio___radd__ nm_Ratio___radd__ ?len ?body, .nil, FunD.bindsN F fun _ _ _ _ _ _ us hl => match us, hl with | [_, _], _ => rfl⟩, F.kp⟩
  case len =>
    rintro vs H Q E ⟨a, v, q, r, rfl, _⟩
    rfl
  case body =>
    intro X e1 e2 e3 e4 e5 S V1 hr vs H Q E hE h
    subst e1 e2 e3 e4 e5
    obtain ⟨a, v, q, r, rfl, ha, hv, mz, fin⟩ := h
    have mz2 := mz.symm
    show Wb X _ _ [some (.ref a), some v] H
    refine wb_cons ?_
    exists "ni go"
    intro p H1 s1 i1
    rw [Rat.add_comm] at i1
    exact fin p H1 s1 i1
theorem ok_rsub (T : Ctx K mg) : OkD P w K mg base 15 (He.ma K (aR K) "__rsub__") p_Ratio___rsub__ [] (spRev K (· - ·)) := by
  obtain ⟨fd, F⟩ := F_Ratio___rsub__ T
  refine ⟨⟨fd, [], fn_go (k := 14) F sc_Ratio___rsub__ nm_Ratio___rsub__ ?len ?body, .nil, FunD.bindsN F fun _ _ _ _ _ _ us hl => match us, hl with | [_, _], _ => rfl⟩, F.kp⟩
  case len =>
    rintro vs H Q E ⟨a, v, q, r, rfl, _⟩
    rfl
  case body =>
    intro X e1 e2 e3 e4 e5 S V1 hr vs H Q E hE h
    subst e1 e2 e3 e4 e5
    obtain ⟨a, v, q, r, rfl, ha, hv, mz, fin⟩ := h
    have mz2 := mz.symm
    show Wb X _ _ [some (.ref a), some v] H
    refine wb_cons ?_
    exists "ni go"
    intro p H1 s1 i1
    exact fin p H1 (by exists "ni same") i1
theorem ok_rmul (T : Ctx K mg) : OkD P w K mg base 15 (He.ma K (aR K) "__rmul__") p_Ratio___rmul__ [] (spRev K (· * ·)) := by
  obtain ⟨fd, F⟩ := F_Ratio___rmul__ T
  refine ⟨⟨fd, [], fn_go (k := 14) F sc_Ratio___rmul__ nm_Ratio___rmul__ ?len ?body, .nil, FunD.bindsN F fun _ _ _ _ _ _ us hl => match us, hl with | [_, _], _ => rfl⟩, F.kp⟩
  case len =>
    rintro vs H Q E ⟨a, v, q, r, rfl, _⟩
    rfl
  case body =>
    intro X e1 e2 e3 e4 e5 S V1 hr vs H Q E hE h
    subst e1 e2 e3 e4 e5
    obtain ⟨a, v, q, r, rfl, ha, hv, mz, fin⟩ := h
    have mz2 := mz.symm
    show Wb X _ _ [some (.ref a), some v] H
    refine wb_cons ?_
    exists "ni go"
    intro p H1 s1 i1
    rw [Rat.mul_comm] at i1
    exact fin p H1 s1 i1
end
end
section
variable {X : Cx} {σ : L2.St} {H : Hp} {Q : VK} {a : Addr} {v : V} {q r : Rat} {n : Int}
theorem l_add (T : Ctx X.K X.mg) (hr : Room 15 X.A) (ha : IsR X.K H a q) (mz : Mz q n) (kk : ∀ p H', Same H H' → IsR X.K H' p ((n : Rat) + q) → Q (.ref p) H') : Wo X (binaryOp .Add) (.int n) (.ref a) σ H Q :=
  o_rev T (ok_radd T) (Sg.of_eq d_add (f_sg_Ratio'__add__ T)) (Sg.of_eq r_add (f_sg_Ratio'__radd__ T)) F.fills_int_add F.slot_int_add up_add hr ha mz kk
theorem l_sub (T : Ctx X.K X.mg) (hr : Room 15 X.A) (ha : IsR X.K H a q) (mz : Mz q n) (kk : ∀ p H', Same H H' → IsR X.K H' p ((n : Rat) - q) → Q (.ref p) H') : Wo X (binaryOp .Sub) (.int n) (.ref a) σ H Q :=
  o_rev T (ok_rsub T) (Sg.of_eq d_sub (f_sg_Ratio'__sub__ T)) (Sg.of_eq r_sub (f_sg_Ratio'__rsub__ T)) F.fills_int_sub F.slot_int_sub up_sub hr ha mz kk
theorem l_mul (T : Ctx X.K X.mg) (hr : Room 15 X.A) (ha : IsR X.K H a q) (mz : Mz q n) (kk : ∀ p H', Same H H' → IsR X.K H' p ((n : Rat) * q) → Q (.ref p) H') : Wo X (binaryOp .Mult) (.int n) (.ref a) σ H Q :=
  o_rev T (ok_rmul T) (Sg.of_eq d_mul (f_sg_Ratio'__mul__ T)) (Sg.of_eq r_mul (f_sg_Ratio'__rmul__ T)) F.fills_int_mul F.slot_int_mul up_mul hr ha mz kk
end
end Rt

end

/-! LH: the law's own helpers: the draws from the script. -/
namespace Lh
open PySem PySem.Spec PyProof.Rows L2 Ni Pr
/-- the pool at P: the script's copy, a place, a rest, a turn -/
def Pool (H : Hp) (P : Addr) : Prop := ∃ (s : Addr) (ns : List Int) (i c t : Int), H P = some (.lst [.ref s, .int i, .int c, .int t]) ∧ H s = some (.lst (ns.map V.int)) ∧ s ≠ P ∧ 0 ≤ i ∧ 0 ≤ c
/-- all but the pool stands -/
def Mild (P : Addr) (H H' : Hp) : Prop := ∀ b o, H b = some o → b ≠ P → H' b = some o
theorem mild_upd (P : Addr) (H : Hp) (o : HO) : Mild P H (upd H P o) := fun b u e n => by rw [upd_ne n]; exact e
theorem Mild.trans {P : Addr} {H H1 H2 : Hp} (a : Mild P H H1) (b : Mild P H1 H2) : Mild P H H2 := fun c o e n => b c o (a c o e n) n
theorem Mild.refl (P : Addr) (H : Hp) : Mild P H H := fun _ _ e _ => e
theorem at_ints {ns : List Int} {i : Int} (h0 : 0 ≤ i) (h1 : i < (ns.length : Int)) : ∃ n : Int, atI (ns.map V.int) i = some (.int n) := by
  obtain ⟨j, rfl⟩ := Int.eq_ofNat_of_zero_le h0
  have hj : j < ns.length := by omega
  exact ⟨ns[j], atI_nat (by rw [List.getElem?_map, List.getElem?_eq_getElem hj]; rfl)⟩
def spMixed : Sp := fun vs H Q _ => ∃ c t : Int, vs = [.int c, .int t] ∧ ∀ d : Int, Q (.int d) H
def spDraw : Sp := fun vs H Q _ => ∃ (P : Addr) (m : Int), vs = [.ref P, .int m] ∧ Pool H P ∧ 0 < m ∧ Bd m 8999 ∧ ∀ (d : Int) H', 0 ≤ d → d < m → Pool H' P → Mild P H H' → Q (.int d) H'
section
variable {P : Program} {w : World} {K : PySem.W.Frag} {mg : Str → Option Value} {base : Heap}
theorem ok_mixed (T : Ctx K mg) : OkD P w K mg base 1 (He.ga K "_law_mixed") p__law_mixed [] spMixed := by
  obtain ⟨fd, F⟩ := F__law_mixed T
  refine ⟨⟨fd, [], fn_go (k := 0) F sc__law_mixed nm__law_mixed ?len ?body, .nil, FunD.bindsN F fun _ _ _ _ _ _ us hl => match us, hl with | [_, _], _ => rfl⟩, F.kp⟩
  case len =>
    rintro vs H Q E ⟨c, t, rfl, _⟩
    rfl
  case body =>
    intro X e1 e2 e3 e4 e5 S V1 hr vs H Q E hE h
    subst e1 e2 e3 e4 e5
    obtain ⟨c, t, rfl, k⟩ := h
    show Wb X _ _ [some (.int c), some (.int t), none, none] H
    refine wb_cons ?_
    exists "ni go"
    exact k _
end
section
variable {X : Cx} {σ : L2.St} {H : Hp} {Q : VK}
theorem go_mixed (T : Ctx X.K X.mg) (hr : Room 1 X.A) {c t : Int} (k : ∀ d : Int, Q (.int d) H) : Wf X (.ref (He.ga X.K "_law_mixed")) [.int c, .int t] σ H Q := wf_ok (ok_mixed T) hr ⟨c, t, rfl, k⟩
end
end Lh

section
open PySem PySem.Spec PyProof.Rows L2 Ni Pr Lh
local macro_rules | `(tactic| exists "ni own") => `(tactic| first
  | ((with_reducible refine' go_mixed ?ni1 ?ni2 ?_); (case ni1 => assumption); (case ni2 => exists "ni room"); intro _))
namespace Lh
section
variable {P : Program} {w : World} {K : PySem.W.Frag} {mg : Str → Option Value} {base : Heap}
theorem ok_draw (T : Ctx K mg) : OkD P w K mg base 5 (He.ga K "_law_draw") p__law_draw [] spDraw := by
  obtain ⟨fd, F⟩ := F__law_draw T
  refine ⟨⟨fd, [], fn_go (k := 4) F sc__law_draw nm__law_draw ?len ?body, .nil, FunD.bindsN F fun _ _ _ _ _ _ us hl => match us, hl with | [_, _], _ => rfl⟩, F.kp⟩
  case len =>
    rintro vs H Q E ⟨P, m, rfl, _⟩
    rfl
  case body =>
    intro X e1 e2 e3 e4 e5 S V1 hr vs H Q E hE h
    subst e1 e2 e3 e4 e5
    obtain ⟨P, m, rfl, ⟨s, ns, i, c, t, hP, hs, ne, i0, c0⟩, m0, mb, k⟩ := h
    show Wb X _ _ [some (.ref P), some (.int m), none, none] H
    refine wb_cons ?_
    exists "ni go"
    have k' : ∀ (d i c t : Int) (o : List V), 0 ≤ d → d < m → o = [.ref s, .int i, .int c, .int t] → 0 ≤ i → 0 ≤ c → ∀ H', Mild P H H' → H' P = some (.lst o) → Q (.int d) H' := by
      intro d i c t o h1 h2 e h3 h4 H' h5 h6
      subst e
      exact k d H' h1 h2 ⟨s, ns, i, c, t, h6, h5 s _ hs ne, ne, h3, h4⟩ h5
    have fin : ∀ (x i' c' t' : Int) (o : List V) (u : HO), o = [.ref s, .int i', .int c', .int t'] → 0 ≤ i' → 0 ≤ c' → Q (.int (x % m)) (upd H P (.lst o)) := by
      intro x i' c' t' o u e h3 h4
      exact k' _ i' c' t' o (Int.emod_nonneg _ (by omega)) (Int.emod_lt_of_pos _ m0) e h3 h4 _ (mild_upd P H _) upd_same
    refine if_d (fun z => ?_) (fun z => ?_)
    · exists "ni go"
      refine if_d (fun z2 => ?_) (fun z2 => ?_)
      · exists "ni go"
        obtain ⟨x, hx⟩ := at_ints i0 (show i < (ns.length : Int) by simpa using z2)
        refine ix_lh (by exists "ni heap") hx ?_
        exists "ni go"
        refine if_d (fun z3 => ?_) (fun z3 => ?_)
        · exists "ni go"
          rw [upd_upd]
          exact fin _ (i + 1) c (t + 1) _ (.lst []) rfl (by omega) c0
        · have x0 : 0 < x := by
            have e : (10 : Int) ^ Int.toNat 18 = 1000000000000000000 := by decide
            omega
          exists "ni go"
          refine if_d (fun z4 => ?_) (fun z4 => absurd x0 z4)
          exists "ni go"
          refine wo_div m0 mb (by decide) ?_
          exists "ni go"
          simp only [upd_upd]
          exact fin x (i + 1) (x / m) (t + 1) _ (.lst []) rfl (by omega) (Int.ediv_nonneg (by omega) (by omega))
      · exists "ni go"
        refine if_d (fun z4 => absurd z4 (by omega)) (fun z4 => ?_)
        exists "ni go"
        intro p hp
        refine wo_eq_nil hr (.of (by exists "ni heap")) upd_same ?_
        exists "ni go"
        refine if_d (fun z5 => ?_) (fun z5 => ?_)
        · exists "ni go"
          refine k' (1 % m) i c (t + 1) _ (Int.emod_nonneg _ (by omega)) (Int.emod_lt_of_pos _ m0) rfl i0 c0 _ ?_ (by exists "ni heap")
          intro b o e n
          exact at_mono (same_new (by assumption)) (by rw [upd_ne n]; exact e)
        · exists "ni go"
          have l0 : 0 < ((ns.map V.int).length : Int) := by
            rw [List.length_map]
            have : ns.length ≠ 0 := fun e => z5 (List.eq_nil_of_length_eq_zero e)
            omega
          refine wo_mod l0 ?_
          obtain ⟨x, hx⟩ := at_ints (ns := ns) (i := (t + 1) % ((ns.map V.int).length : Int)) (Int.emod_nonneg _ (by omega)) (by have := Int.emod_lt_of_pos (t + 1) l0; rw [List.length_map] at *; omega)
          refine ix_lh (by exists "ni heap") hx ?_
          exists "ni go"
          refine k' _ i c (t + 1) _ (Int.emod_nonneg _ (by omega)) (Int.emod_lt_of_pos _ m0) rfl i0 c0 _ ?_ (by exists "ni heap")
          intro b o e n
          exact at_mono (same_new (by assumption)) (by rw [upd_ne n]; exact e)
    · exists "ni go"
      refine if_d (fun z4 => ?_) (fun z4 => absurd (show 0 < c by omega) z4)
      exists "ni go"
      refine wo_div m0 mb (by decide) ?_
      exists "ni go"
      simp only [upd_upd]
      exact fin c i (c / m) (t + 1) _ (.lst []) rfl i0 (Int.ediv_nonneg c0 (by omega))
end
end Lh

namespace Lh
open PySem PySem.Spec PyProof.Rows L2 Ni Pr
theorem gcd_step {a b : Int} (h0 : 0 ≤ a) (hb : 0 < b) : Nat.gcd b.toNat (a % b).toNat = Nat.gcd a.toNat b.toNat := by
  have e : (a % b).toNat = a.toNat % b.toNat := by
    rw [Int.toNat_emod h0 (by omega)]
  rw [e, Nat.gcd_comm, ← Nat.gcd_rec, Nat.gcd_comm]
/-- the lowest terms of a top and a bottom, as two ints -/
def spLow : Sp := fun vs H Q _ => ∃ t b : Int, vs = [.int t, .int b] ∧ 0 < b ∧ Bd b 8999 ∧ ∀ p H', Same H H' → H' p = some (.tup [.int (Rat.divInt t b).num, .int ((Rat.divInt t b).den : Int)]) → Q (.ref p) H'
section
variable {P : Program} {w : World} {K : PySem.W.Frag} {mg : Str → Option Value} {base : Heap}
theorem ok_low (T : Ctx K mg) : OkD P w K mg base 1 (He.ga K "_law_low") p__law_low [] spLow := by
  obtain ⟨fd, F⟩ := F__law_low T
  refine ⟨⟨fd, [], fn_go (k := 0) F sc__law_low nm__law_low ?len ?body, .nil, FunD.bindsN F fun _ _ _ _ _ _ us hl => match us, hl with | [_, _], _ => rfl⟩, F.kp⟩
  case len =>
    rintro vs H Q E ⟨c, t, rfl, _⟩
    rfl
  case body =>
    intro X e1 e2 e3 e4 e5 S V1 hr vs H Q E hE h
    subst e1 e2 e3 e4 e5
    obtain ⟨t, b, rfl, b0, bb, k⟩ := h
    show Wb X _ _ [some (.int t), some (.int b), none, none, none] H
    refine wb_cons ?_
    exists "ni go"
    have et : (if t < 0 then -t else t) = ((t.natAbs : Nat) : Int) := by
      split <;> omega
    rw [et]
    refine ws_while V1 (fun m σ' H' => ∃ (one two : Int) (rest : Option V), σ' = [some (.int t), some (.int b), some (.int one), some (.int two), rest] ∧ H' = H ∧ 0 ≤ one ∧ 0 ≤ two ∧ Nat.gcd one.toNat two.toNat = Nat.gcd t.natAbs b.natAbs ∧ m = two.toNat) b.toNat
      ⟨_, b, none, rfl, rfl, by omega, by omega, by rw [Int.toNat_natCast, show b.toNat = b.natAbs by omega], rfl⟩ ?_
    rintro m σ' H' ⟨one, two, rest, rfl, rfl, h1, h2, hg, rfl⟩
    exists "ni go"
    refine if_d (fun z => ?_) (fun z => ?_)
    · exists "ni go"
      refine ⟨(one % two).toNat, ?_, two, one % two, _, rfl, rfl, by omega, Int.emod_nonneg _ (by omega), ?_, rfl⟩
      · have := Int.emod_lt_of_pos one z
        have := Int.emod_nonneg one (show two ≠ 0 by omega)
        omega
      · rw [gcd_step h1 z]
        exact hg
    · have e0 : two = 0 := by omega
      subst e0
      have eo : one = com t b := by
        rw [show Int.toNat 0 = 0 from rfl, Nat.gcd_zero_right] at hg
        unfold com
        rw [if_neg (by omega)]
        omega
      rw [eo]
      have bc : Bd (com t b) 8999 := Rt.com_bd (by omega) bb
      have nc : com t b ≠ 0 := com_ne (by omega)
      exists "ni go"
      refine wo_fdiv nc bc (by decide) ?_
      exists "ni go"
      refine wo_fdiv nc bc (by decide) ?_
      rw [com_top (by omega), com_bot (by omega)]
      exists "ni go"
      intro p hp
      exact k p _ (same_new hp) upd_same
end
section
variable {X : Cx} {σ : L2.St} {H : Hp} {Q : VK}
theorem go_low (T : Ctx X.K X.mg) (hr : Room 1 X.A) {t b : Int} (b0 : 0 < b) (bb : Bd b 8999) (k : ∀ p H', Same H H' → H' p = some (.tup [.int (Rat.divInt t b).num, .int ((Rat.divInt t b).den : Int)]) → Q (.ref p) H') :
    Wf X (.ref (He.ga X.K "_law_low")) [.int t, .int b] σ H Q := wf_ok (ok_low T) hr ⟨t, b, rfl, b0, bb, k⟩
theorem go_draw (T : Ctx X.K X.mg) (hr : Room 5 X.A) {P : Addr} {m : Int} (hP : Pool H P) (m0 : 0 < m) (mb : Bd m 8999) (k : ∀ (d : Int) H', 0 ≤ d → d < m → Pool H' P → Mild P H H' → Q (.int d) H') :
    Wf X (.ref (He.ga X.K "_law_draw")) [.ref P, .int m] σ H Q := wf_ok (ok_draw T) hr ⟨P, m, rfl, hP, m0, mb, k⟩
end
end Lh

namespace Lh
open PySem PySem.Spec PyProof.Rows L2 Ni Pr Rt
def spWhole : Sp := fun vs H Q _ => ∃ n : Int, vs = [.int n] ∧ Q (.bl true) H
section
variable {P : Program} {w : World} {K : PySem.W.Frag} {mg : Str → Option Value} {base : Heap}
theorem isi_int_bool {X : Cx} {H : Hp} {Q : VK} {n : Int} (T : Ctx X.K X.mg) (k : Q (.bl false) H) : Wcb X (.builtin "isinstance") [.int n, .ty "bool"] H Q := wcb_isi (.ty "bool") (.base (.int n)) (f_kit_int'bool T) k
local macro_rules | `(tactic| exists "ni own") => `(tactic| first
  | ((with_reducible refine' isi_int_int ?ni1 ?_); (case ni1 => assumption))
  | ((with_reducible refine' isi_int_bool ?ni1 ?_); (case ni1 => assumption)))
theorem ok_whole (T : Ctx K mg) : OkD P w K mg base 1 (He.ga K "_law_whole") p__law_whole [] spWhole := by
  obtain ⟨fd, F⟩ := F__law_whole T
  refine ⟨⟨fd, [], fn_go (k := 0) F sc__law_whole nm__law_whole ?len ?body, .nil, FunD.bindsN F fun _ _ _ _ _ _ us hl => match us, hl with | [_], _ => rfl⟩, F.kp⟩
  case len =>
    rintro vs H Q E ⟨n, rfl, _⟩
    rfl
  case body =>
    intro X e1 e2 e3 e4 e5 S V1 hr vs H Q E hE h
    subst e1 e2 e3 e4 e5
    obtain ⟨n, rfl, k⟩ := h
    show Wb X _ _ [some (.int n)] H
    refine wb_cons ?_
    exists "ni go"
    exact k
end
section
variable {X : Cx} {σ : L2.St} {H : Hp} {Q : VK}
theorem go_whole (T : Ctx X.K X.mg) (hr : Room 1 X.A) {n : Int} (k : Q (.bl true) H) : Wf X (.ref (He.ga X.K "_law_whole")) [.int n] σ H Q := wf_ok (ok_whole T) hr ⟨n, rfl, k⟩
end
end Lh

section
open PySem PySem.Spec PyProof.Rows L2 Ni Pr Lh Rt
local macro_rules | `(tactic| exists "ni keep") => `(tactic| first
  | assumption
  | (with_reducible exact isq_int)
  | ((with_reducible refine' isq_ref ?ni1); (case ni1 => exists "ni keep"))
  | ((with_reducible refine' IsR.mono ?ni1 ?ni2); (case ni1 => assumption); (case ni2 => exists "ni keep"))
  | ((with_reducible refine' IsR.mono (same_new ?ni1) ?ni2); (case ni1 => assumption); (case ni2 => exists "ni keep"))
  | ((with_reducible refine' IsQ.mono ?ni1 ?ni2); (case ni1 => assumption); (case ni2 => exists "ni keep")))
local macro_rules | `(tactic| exists "ni same") => `(tactic| first
  | assumption
  | exact Same.refl _
  | ((refine' Same.trans ?ni1 (same_new ?ni2)); (case ni2 => assumption); (case ni1 => exists "ni same"))
  | ((refine' Same.trans ?ni1 ?ni2); (case ni2 => assumption); (case ni1 => exists "ni same")))
local macro_rules | `(tactic| exists "ni own") => `(tactic| first
  | ((with_reducible refine' fl_top ?ni1 ?ni2 ?_); (case ni1 => assumption); (case ni2 => exists "ni keep"))
  | ((with_reducible refine' fl_bot ?ni1 ?ni2 ?_); (case ni1 => assumption); (case ni2 => exists "ni keep"))
  | ((with_reducible refine' isi_R_R ?ni1 ?ni2 ?_); (case ni1 => assumption); (case ni2 => exists "ni keep"))
  | ((with_reducible refine' go_whole ?ni1 ?ni2 ?_); (case ni1 => assumption); (case ni2 => exists "ni room")))
namespace Lh
def spPair (K : PySem.W.Frag) : Sp := fun vs H Q _ => ∃ (a : Addr) (q : Rat), vs = [.ref a] ∧ IsR K H a q ∧ Bd (q.den : Int) 8999 ∧ ∀ p H', Same H H' → H' p = some (.tup [.int q.num, .int (q.den : Int)]) → Q (.ref p) H'
def spIs (K : PySem.W.Frag) : Sp := fun vs H Q _ => ∃ (a : Addr) (q : Rat) (t b : Int), vs = [.ref a, .int t, .int b] ∧ IsR K H a q ∧ 0 < b ∧ q = Rat.divInt t b ∧ Bd b 8999 ∧ ∀ H', Same H H' → Q (.bl true) H'
section
variable {P : Program} {w : World} {K : PySem.W.Frag} {mg : Str → Option Value} {base : Heap}
theorem ok_pair (T : Ctx K mg) : OkD P w K mg base 5 (He.ga K "_law_pair") p__law_pair [] (spPair K) := by
  obtain ⟨fd, F⟩ := F__law_pair T
  refine ⟨⟨fd, [], fn_go (k := 4) F sc__law_pair nm__law_pair ?len ?body, .nil, FunD.bindsN F fun _ _ _ _ _ _ us hl => match us, hl with | [_], _ => rfl⟩, F.kp⟩
  case len =>
    rintro vs H Q E ⟨a, q, rfl, _⟩
    rfl
  case body =>
    intro X e1 e2 e3 e4 e5 S V1 hr vs H Q E hE h
    subst e1 e2 e3 e4 e5
    obtain ⟨a, q, rfl, ha, bd, k⟩ := h
    show Wb X _ _ [some (.ref a)] H
    refine wb_cons ?_
    exists "ni go"
    have d0 : (0 : Int) < (q.den : Int) := den_pos q
    refine if_df (by omega) ?_
    exists "ni go"
    refine go_low T (Room.mono hr (by decide)) d0 bd fun p H' sm hp => ?_
    exists "ni go"
    intro p2 hp2
    rw [Rat.num_divInt_den] at hp
    refine wo_ne_t2 hr (by exists "ni heap") upd_same ?_
    rw [decide_eq_true ⟨rfl, rfl⟩]
    exists "ni go"
    intro p3 hp3
    exists "ni go"
    exact k p3 _ (by exists "ni same") upd_same
end
section
variable {X : Cx} {σ : L2.St} {H : Hp} {Q : VK}
theorem go_pair (T : Ctx X.K X.mg) (hr : Room 5 X.A) {a : Addr} {q : Rat} (ha : IsR X.K H a q) (b : Bd (q.den : Int) 8999) (k : ∀ p H', Same H H' → H' p = some (.tup [.int q.num, .int (q.den : Int)]) → Q (.ref p) H') :
    Wf X (.ref (He.ga X.K "_law_pair")) [.ref a] σ H Q := wf_ok (ok_pair T) hr ⟨a, q, rfl, ha, b, k⟩
end
end Lh

namespace Lh
open PySem PySem.Spec PyProof.Rows L2 Ni Pr Rt
section
variable {P : Program} {w : World} {K : PySem.W.Frag} {mg : Str → Option Value} {base : Heap}
theorem ok_is (T : Ctx K mg) : OkD P w K mg base 10 (He.ga K "_law_is") p__law_is [] (spIs K) := by
  obtain ⟨fd, F⟩ := F__law_is T
  refine ⟨⟨fd, [], fn_go (k := 9) F sc__law_is nm__law_is ?len ?body, .nil, FunD.bindsN F fun _ _ _ _ _ _ us hl => match us, hl with | [_, _, _], _ => rfl⟩, F.kp⟩
  case len =>
    rintro vs H Q E ⟨a, q, t, b, rfl, _⟩
    rfl
  case body =>
    intro X e1 e2 e3 e4 e5 S V1 hr vs H Q E hE h
    subst e1 e2 e3 e4 e5
    obtain ⟨a, q, t, b, rfl, ha, b0, rfl, bb, k⟩ := h
    show Wb X _ _ [some (.ref a), some (.int t), some (.int b)] H
    refine wb_cons ?_
    exists "ni go"
    refine go_pair T (Room.mono hr (by decide)) (by exists "ni keep") (bb.of_abs (sz_bot (by omega))) fun p H' sm hp => ?_
    exists "ni go"
    refine go_low T (Room.mono hr (by decide)) b0 bb fun p2 H2 sm2 hp2 => ?_
    exists "ni go"
    refine wo_eq_t2 hr (by exists "ni heap") hp2 ?_
    rw [decide_eq_true ⟨rfl, rfl⟩]
    exact k _ (by exists "ni same")
end
section
variable {X : Cx} {σ : L2.St} {H : Hp} {Q : VK}
theorem go_is (T : Ctx X.K X.mg) (hr : Room 10 X.A) {a : Addr} {q : Rat} {t b : Int} (ha : IsR X.K H a q) (b0 : 0 < b) (e : q = Rat.divInt t b) (bb : Bd b 8999) (k : ∀ H', Same H H' → Q (.bl true) H') :
    Wf X (.ref (He.ga X.K "_law_is")) [.ref a, .int t, .int b] σ H Q := wf_ok (ok_is T) hr ⟨a, q, t, b, rfl, ha, b0, e, bb, k⟩
end
end Lh

section
open PySem PySem.Spec PyProof.Rows L2 Ni Pr Lh Rt
local macro_rules | `(tactic| exists "ni keep") => `(tactic| first
  | assumption
  | (with_reducible exact isq_int)
  | ((with_reducible refine' isq_ref ?ni1); (case ni1 => exists "ni keep"))
  | ((with_reducible refine' IsR.mono ?ni1 ?ni2); (case ni1 => assumption); (case ni2 => exists "ni keep"))
  | ((with_reducible refine' IsR.mono (same_new ?ni1) ?ni2); (case ni1 => assumption); (case ni2 => exists "ni keep"))
  | ((with_reducible refine' IsQ.mono ?ni1 ?ni2); (case ni1 => assumption); (case ni2 => exists "ni keep")))

namespace Lh
open PySem PySem.Spec PyProof.Rows L2 Ni Pr Rt
def spLaw (K : PySem.W.Frag) : Sp := fun vs H Q _ => ∃ (a : Addr) (ns : List Int), vs = [.ref a] ∧ SqL K H a (ns.map V.int) ∧ ∀ H', Q (.bl true) H'
theorem pick3 {d : Int} (h0 : 0 ≤ d) (h1 : d < 3) : ∃ W : Int, atI [V.int 9, .int 1000, .int (10 ^ Int.toNat 40)] d = some (.int W) ∧ 9 ≤ W ∧ W ≤ 10 ^ 40 := by
  have h : d = 0 ∨ d = 1 ∨ d = 2 := by omega
  rcases h with rfl | rfl | rfl
  · exact ⟨_, rfl, by decide, by decide⟩
  · exact ⟨_, rfl, by decide, by decide⟩
  · exact ⟨_, rfl, by decide, by decide⟩
theorem bd_small {n : Int} {k : Nat} (h : n.natAbs < 8) (l : 3 ≤ k) : Bd n k := Bd.mono (k := 3) h l
theorem wide_of {W : Int} (h : W ≤ 10 ^ 40) (h0 : 0 ≤ W) (n : Int) (l : n.natAbs ≤ 100 * W.natAbs + 100) : Bd n 200 := by
  have e : (100 * 10 ^ 40 + 100 : Nat) < 2 ^ 200 := by decide +kernel
  have e2 : (10 ^ 40 : Int) = ((10 ^ 40 : Nat) : Int) := by decide +kernel
  rw [e2] at h
  unfold Bd
  omega
theorem sz_int {n : Int} {k : Nat} (h : Bd n k) (l : 3 ≤ k) : Sz (n : Rat) k := by
  rw [← divInt_one n]
  exact sz_of (by decide) h (bd_small (by decide) l)
section
open PySem PySem.Spec PyProof.Rows L2 Ni Pr Lh Rt
local macro_rules | `(tactic| exists "ni eq") => `(tactic| first | with_reducible rfl | exact abs_div (by assumption) | (refine' is_div ?ni1 ?ni2; (case ni1 => first | omega | assumption | exact Int.mul_ne_zero (by assumption) (by assumption)); (case ni2 => (simp only [Rat.intCast_mul, Rat.intCast_add, Rat.intCast_sub, Rat.intCast_neg]; grind))))
local macro_rules | `(tactic| exists "ni own") => `(tactic| first
  | ((with_reducible refine' o_add ?ni1 ?ni2 ?ni3 ?ni4 ?ni5 ?_); (case ni1 => assumption); (case ni2 => exists "ni room"); (case ni3 => exists "ni keep"); (case ni4 => exists "ni keep"); (case ni5 => assumption); intro _ _ _ _)
  | ((with_reducible refine' o_sub ?ni1 ?ni2 ?ni3 ?ni4 ?ni5 ?_); (case ni1 => assumption); (case ni2 => exists "ni room"); (case ni3 => exists "ni keep"); (case ni4 => exists "ni keep"); (case ni5 => assumption); intro _ _ _ _)
  | ((with_reducible refine' o_mul ?ni1 ?ni2 ?ni3 ?ni4 ?ni5 ?_); (case ni1 => assumption); (case ni2 => exists "ni room"); (case ni3 => exists "ni keep"); (case ni4 => exists "ni keep"); (case ni5 => assumption); intro _ _ _ _)
  | ((with_reducible refine' i_add ?ni1 ?ni2 ?ni3 ?ni4 ?ni5 ?_); (case ni1 => assumption); (case ni2 => exists "ni room"); (case ni3 => exists "ni keep"); (case ni4 => exists "ni keep"); (case ni5 => assumption); intro _ _ _ _)
  | ((with_reducible refine' i_mul ?ni1 ?ni2 ?ni3 ?ni4 ?ni5 ?_); (case ni1 => assumption); (case ni2 => exists "ni room"); (case ni3 => exists "ni keep"); (case ni4 => exists "ni keep"); (case ni5 => assumption); intro _ _ _ _)
  | ((with_reducible refine' l_add ?ni1 ?ni2 ?ni3 ?ni5 ?_); (case ni1 => assumption); (case ni2 => exists "ni room"); (case ni3 => exists "ni keep"); (case ni5 => assumption); intro _ _ _ _)
  | ((with_reducible refine' l_sub ?ni1 ?ni2 ?ni3 ?ni5 ?_); (case ni1 => assumption); (case ni2 => exists "ni room"); (case ni3 => exists "ni keep"); (case ni5 => assumption); intro _ _ _ _)
  | ((with_reducible refine' l_mul ?ni1 ?ni2 ?ni3 ?ni5 ?_); (case ni1 => assumption); (case ni2 => exists "ni room"); (case ni3 => exists "ni keep"); (case ni5 => assumption); intro _ _ _ _)
  | ((with_reducible refine' o_neg ?ni1 ?ni2 ?ni3 ?ni5 ?_); (case ni1 => assumption); (case ni2 => exists "ni room"); (case ni3 => exists "ni keep"); (case ni5 => assumption); intro _ _ _ _)
  | ((with_reducible refine' o_abs ?ni1 ?ni2 ?ni3 ?ni5 ?_); (case ni1 => assumption); (case ni2 => exists "ni room"); (case ni3 => exists "ni keep"); (case ni5 => assumption); intro _ _ _ _)
  | ((with_reducible refine' go_is ?ni1 ?ni2 ?ni3 ?ni4 ?ni5 ?ni6 ?_); (case ni1 => assumption); (case ni2 => exists "ni room"); (case ni3 => exists "ni keep"); (case ni4 => assumption); (case ni5 => exists "ni eq"); (case ni6 => assumption); intro _ _)
  | ((with_reducible refine' we_aug (by assumption) ?niv ?nip ?_); (case niv => exists "ni var"); (case nip => (intro _; exists "ni put"))))
section
variable {P : Program} {w : World} {K : PySem.W.Frag} {mg : Str → Option Value} {base : Heap}
theorem fn_law (T : Ctx K mg) {fd : FuncData} {f : Addr} (F : FunD K "law" "law" (defArgs s_law) (defBody s_law) (defScope s_law) (d_law.dvs K) (d_law.kws K) f fd) : FnOk P w K mg base (L2.CX P w) 40 f fd p_law (spLaw K) := by
  refine fn_go (k := 39) F sc_law nm_law ?len ?body
  case len =>
    rintro vs H Q E ⟨a, ns, rfl, _⟩
    rfl
  case body =>
    intro X e1 e2 e3 e4 e5 S V1 hr vs H Q E hE h
    subst e1 e2 e3 e4 e5
    obtain ⟨a, ns, rfl, hS, k⟩ := h
    show Wb X _ _ [some (.ref a), none, none, none, none, none, none, none, none, none, none] H
    refine wb_cons ?_
    exists "ni go"
    refine wcb_listL hS fun l hl => ?_
    exists "ni go"
    intro p hp
    exists "ni go"
    intro q hq
    have lp : l ≠ p := ne_of_none upd_same hp
    have pq : p ≠ q := ne_of_none upd_same hq
    exists "ni go"
    refine go_draw T (Room.mono hr (by decide)) ⟨l, ns, 0, 0, 0, (by exists "ni heap"), (by exists "ni heap"), lp, by decide, by decide⟩ (by decide) (bd_small (by decide) (by decide)) fun d0 H1 d1 d2 P1 m1 => ?_
    have hq1 := m1 q _ upd_same pq.symm
    obtain ⟨W, hW, w1, w2⟩ := pick3 d1 d2
    refine ix_lh hq1 hW ?_
    have bw := wide_of w2 (by omega)
    exists "ni go"
    refine go_draw T (Room.mono hr (by decide)) P1 (by omega) ((bw _ (by omega)).mono (by decide)) fun x1 H2 t1 t2 P2 m2 => ?_
    exists "ni go"
    refine go_draw T (Room.mono hr (by decide)) P2 (by omega) ((bw _ (by omega)).mono (by decide)) fun x2 H3 t3 t4 P3 m3 => ?_
    exists "ni go"
    refine go_draw T (Room.mono hr (by decide)) P3 (by omega) ((bw _ (by omega)).mono (by decide)) fun x3 H4 t5 t6 P4 m4 => ?_
    exists "ni go"
    refine go_draw T (Room.mono hr (by decide)) P4 (by omega) ((bw _ (by omega)).mono (by decide)) fun x4 H5 t7 t8 P5 m5 => ?_
    exists "ni go"
    refine go_draw T (Room.mono hr (by decide)) P5 (by omega) ((bw _ (by omega)).mono (by decide)) fun x5 H6 t9 t10 P6 m6 => ?_
    exists "ni go"
    refine go_draw T (Room.mono hr (by decide)) P6 (by decide) (bd_small (by decide) (by decide)) fun x6 H7 t11 t12 P7 m7 => ?_
    exists "ni go"
    have b1 : Bd (x1 - W) 200 := bw _ (by omega)
    have b2 : Bd (1 + x2) 200 := bw _ (by omega)
    have b5 : Bd (x5 - W) 200 := bw _ (by omega)
    have p2 : 0 < 1 + x2 := by omega
    have b3 : Bd (x3 - W) 200 := bw _ (by omega)
    have b4 : Bd (1 + x4) 200 := bw _ (by omega)
    have p4 : 0 < 1 + x4 := by omega
    clear bw
    generalize x1 - W = A at b1
    generalize 1 + x2 = B at b2 p2
    generalize x5 - W = N at b5
    generalize x3 - W = C at b3
    generalize 1 + x4 = D at b4 p4
    refine if_join (fun σ' H' => ∃ C D : Int, σ' = [some (.ref a), some (.ref p), some (.int W), some (.int A), some (.int B), some (.int C), some (.int D), some (.int N), none, none, none] ∧ H' = H7 ∧ 0 < D ∧ Bd C 200 ∧ Bd D 200) (fun z => ?_) (fun z => ?_) ?_
    · exists "ni go"
      exact ⟨_, _, rfl, rfl, p2, b1.neg, b2⟩
    · exists "ni go"
      exact ⟨_, _, rfl, rfl, p4, b3, b4⟩
    clear b3 b4 p4
    rintro σ' H' ⟨C, D, rfl, rfl, p4, b3, b4⟩
    exists "ni go"
    refine go_new T (Room.mono hr (by decide)) (b2.mono (by decide)) (by omega) fun r0 H8 s8 i0 => ?_
    exists "ni go"
    refine go_new T (Room.mono hr (by decide)) (b4.mono (by decide)) (by omega) fun r1 H9 s9 i1 => ?_
    have sz1 : Sz (Rat.divInt A B) 200 := sz_of (by omega) b1 b2
    have sz2 : Sz (Rat.divInt C D) 200 := sz_of (by omega) b3 b4
    have szN : Sz (N : Rat) 200 := sz_int b5 (by decide)
    have e1 : Rat.divInt A B * (B : Rat) = (A : Rat) := div_mul (by omega)
    have e2 : Rat.divInt C D * (D : Rat) = (C : Rat) := div_mul (by omega)
    have nB : B ≠ 0 := by omega
    have nD : D ≠ 0 := by omega
    have mz12 : Mz (Rat.divInt A B) (Rat.divInt C D) := ⟨200, 200, sz1, sz2, by decide⟩
    have mz21 := mz12.symm
    have mz1N : Mz (Rat.divInt A B) N := ⟨200, 200, sz1, szN, by decide⟩
    have mzT : Mz (Rat.divInt A B + Rat.divInt C D) N := ⟨401, 200, (by
      rw [show Rat.divInt A B + Rat.divInt C D = Rat.divInt (A * D + C * B) (B * D) by exists "ni eq"]
      exact sz_of (Int.mul_ne_zero (by omega) (by omega)) ((b1.mul b4).add (b3.mul b2)) ((b2.mul b4).mono (by decide))), szN, by decide⟩
    have szA : Sz (Rat.divInt A B) 8990 := sz1.mono (by decide)
    have szC : Sz (Rat.divInt C D) 8990 := sz2.mono (by decide)
    have pBD : 0 < B * D := Int.mul_pos p2 p4
    have bBD : Bd (B * D) 8999 := (b2.mul b4).mono (by decide)
    have bB : Bd B 8999 := b2.mono (by decide)
    have bD : Bd D 8999 := b4.mono (by decide)
    exists "ni go"
    exact k _
end
end
end Lh

end

end

end

end

namespace Pr
open PySem PySem.Spec PyProof.Rows L2 Ni
set_option maxHeartbeats 0 in
theorem run (w : World) : HandSHeadRun.RunEqI R (PySem.W.view R.prog [0, 19]) hk ob 20000 loose w := by
  unfold HandSHeadRun.RunEqI
  kernel_rfl
end Pr

namespace Pr
open PySem PySem.Spec PyProof.Rows L2 Ni
theorem facts {w : World} {mg : Str → Option Value} {fa : Addr} {h : Heap} (Y : hk.says w h) (G : h.Ns mainGlobals mg) (hmg : mg ("law" : Str) = some (.ref fa)) :
    ∃ (K : PySem.W.Frag) (fd : FuncData) (sp : Sp), K.In h ∧ (∀ (s : Shared) (u : Value), BindsTo s fd ⟨[u], []⟩ [("_law_script", u)]) ∧
      (∀ (H : Hp) (a : Addr) (ns : List Int), ns.length ≤ 63 → Only H → SqL K H a (ns.map V.int) → sp [.ref a] H (fun v _ => v = .bl true) fun _ _ _ => False) ∧
      ∀ base : Heap, K.In base → base.Ns mainGlobals mg → FnOk (PySem.Challenge.rw_neveridle_k02_sums_and_products).prog w K mg base (L2.CX (PySem.Challenge.rw_neveridle_k02_sums_and_products).prog w) 40 fa fd ["_law_script"] sp := by
  obtain ⟨K, KX, c⟩ := Y
  have T : Ctx K mg := ⟨c, fun x v e => by
    cases v with
    | none => exact PySem.W.mg_none_of KX G e
    | some v => exact PySem.W.mg_of KX G e⟩
  obtain ⟨fd, F⟩ := F_law T
  have e := hmg.symm.trans (f_glo_law T)
  cases e
  have b := FunD.bindsA (ps := ["_law_script"]) F fun _ _ _ _ _ _ us hl => match us, hl with | [_], _ => rfl
  exact ⟨K, fd, Lh.spLaw K, KX, fun s v => b s [v] rfl, fun H a ns hl ho hS => ⟨a, ns, rfl, hS, fun _ => rfl⟩, fun base _ _ => Lh.fn_law T F⟩
end Pr

open PySem PySem.W PySem.Calls PyProof.Rows
theorem PySem.Challenge.cw_neveridle_k02_sums_and_products_holds : PySem.Challenge.rw_neveridle_k02_sums_and_products.Holds := by
  w_on; o_law
  refine HandSHeadRun.head_imp (r := OpenLaw.row PySem.Challenge.rw_neveridle_k02_sums_and_products) (q := view (OpenLaw.row PySem.Challenge.rw_neveridle_k02_sums_and_products).prog [0, 19]) (H := Pr.hk) (ob := Pr.ob) (M := 20000) (loose := Pr.loose) (d := HandSHeadRun.topDef (OpenLaw.row PySem.Challenge.rw_neveridle_k02_sums_and_products).prog 19) (kwd := []) Pr.ob_eq
    Pr.run (by kernel_rfl) (by kernel_rfl) (by kernel_rfl) (by rfl) (by first | assumption | decide +kernel) (by decide +kernel) ⟨rfl, rfl, rfl, rfl, rfl, by decide +kernel⟩ ?hw ?hc
  case hw => w_witness2
  case hc =>
    refine Ni.walk_w (l := PySem.Challenge.rw_neveridle_k02_sums_and_products) (n := 63) (k := 40) (x := "_law_script") (CX := fun w => L2.CX (PySem.Challenge.rw_neveridle_k02_sums_and_products).prog w) rfl (by decide) (by kernel_rfl) ⟨rfl, by decide, by decide⟩ ?F (fun w H s e s' z => by
      obtain ⟨_, _, _, _, _, _, _, _, _, _, _, _, z⟩ := z
      exact z)
    intro w mg fa h Y G hmg0
    have hmg : mg ("law" : PySem.Str) = some (.ref fa) := by
      have e : (HandSHeadRun.topDef (OpenLaw.row PySem.Challenge.rw_neveridle_k02_sums_and_products).prog 19).name = ("law" : PySem.Str) := by kernel_rfl
      rw [← e]
      exact hmg0
    exact Pr.facts Y G hmg
