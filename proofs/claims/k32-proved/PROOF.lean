import PyProof.Rows.All
import Wide.All
import OpenK.AllK
import Wide.FinOn
import HandS.ForMost
import HandS.Wide
import HandS.WideBits
import HandS.IsInst
import HandS.TupAny
import HandS.StrMore
import HandS.RevRange
import HandS.Deep
import HandS.SortInts
import HandS.Strs
import HandS.SetFor
import PyProof.ReprRoads
import PyProof.Rows.SortShellAny
import KE.KStateDown
import HandS.Head2
import HandS.HeadEnd
import HandS.HeadHook4
import HandS.Style
import HandS.WrittenGet
import KE.Datum
import HandS.NoneIn
import PySem.Challenge.RW_hourrings_k32_whole_papers_put_together
set_option Elab.async false
set_option linter.all false
set_option maxRecDepth 100000
set_option maxHeartbeats 4000000
namespace K32
open PySem PySem.Spec PyProof.Rows L2
set_option maxHeartbeats 4000000
/-! # KW1 -/

theorem sameNew {H : Hp} {p : Addr} {o : HO} (h : H p = none) : Same H (upd H p o) := fun a u e => by
  rw [upd_ne (ne_of_none e h)]
  exact e
/-! ## W: what a piece of syntax asks, as a whole (the weakest reading) -/
structure WE (X : Cx) (e : Expr) (σ : L2.St) (H : Hp) (Q : VK) : Prop where
  run : ∀ pins s, Inv X pins σ H s → wpAny (model X.prog X.w) X.A (eval e X.env) (EP X pins σ Q) X.xe s
structure WT (X : Cx) (e : Expr) (σ : L2.St) (H : Hp) (Q : Bool → Hp → Prop) : Prop where
  run : ∀ pins s, Inv X pins σ H s → wpAny (model X.prog X.w) X.A (isTrue e X.env (eval e X.env)) (TP X pins σ Q) X.xe s
structure WW (X : Cx) (e : Expr) (σ : L2.St) (H : Hp) (Q : Bool → Hp → Prop) : Prop where
  run : ∀ wh pins s, Inv X pins σ H s → wpAny (model X.prog X.w) X.A (isTrue e X.env wh) (TP X pins σ Q) X.xe s
structure WA (X : Cx) (es : List Expr) (σ : L2.St) (H : Hp) (Q : List V → Hp → Prop) : Prop where
  run : ∀ pos pins s, Inv X pins σ H s → wpAny (model X.prog X.w) X.A (spliced (backTo pos (starEach es X.env))) (AP X pins σ Q) X.xe s
structure WS (X : Cx) (st : Stmt) (D : Ends) (σ : L2.St) (H : Hp) : Prop where
  run : ∀ pins s, Inv X pins σ H s → wpAny (model X.prog X.w) X.A (exec st X.env) (SP X pins D) X.xe s
structure WB (X : Cx) (st : List Stmt) (D : Ends) (σ : L2.St) (H : Hp) : Prop where
  run : ∀ pins s, Inv X pins σ H s → wpAny (model X.prog X.w) X.A (execs st X.env) (SP X pins D) X.xe s
structure WP (X : Cx) (e : Option Expr) (σ : L2.St) (H : Hp) (Q : Option Int → Hp → Prop) : Prop where
  run : ∀ pins s, Inv X pins σ H s → wpAny (model X.prog X.w) X.A (evalPart e X.env) (fun u s' => ∃ o H', Inv X pins σ H' s' ∧ IsPart u o ∧ Q o H') X.xe s
structure WG (X : Cx) (tg : Expr) (v : V) (σ : L2.St) (H : Hp) (Q : L2.St → Hp → Prop) : Prop where
  run : ∀ pins s u, Inv X pins σ H s → RelV v u → wpAny (model X.prog X.w) X.A (assign tg X.env u) (fun _ s' => ∃ σ' H', Inv X pins σ' H' s' ∧ Q σ' H') X.xe s
structure WGs (X : Cx) (ts : List Expr) (vs : List V) (σ : L2.St) (H : Hp) (Q : L2.St → Hp → Prop) : Prop where
  run : ∀ pins s us, Inv X pins σ H s → Vals vs us → wpAny (model X.prog X.w) X.A (assignInOrder ((assignEach ts X.env).map (·.2)) us) (fun _ s' => ∃ σ' H', Inv X pins σ' H' s' ∧ Q σ' H') X.xe s
/-- by values -/
structure WO (X : Cx) (f : Value → Value → Sem Value) (x y : V) (H : Hp) (Q : VK) : Prop where
  run : ∀ pins s σ v u, Inv X pins σ H s → RelV x v → RelV y u → wpAny (model X.prog X.w) X.A (f v u) (EP X pins σ Q) X.xe s
structure WC (X : Cx) (f : Value) (xs : List V) (H : Hp) (Q : VK) : Prop where
  run : ∀ pins s σ us, Inv X pins σ H s → Vals xs us → wpAny (model X.prog X.w) X.A (call f us) (EP X pins σ Q) X.xe s

section
variable {X : Cx} {e : Expr} {es : List Expr} {st : Stmt} {sts : List Stmt} {σ : L2.St} {H : Hp}
theorem pWE : PE X e (WE X e) := ⟨fun pins s _ _ _ I h => h.run pins s I⟩
theorem pWT : PT X e (WT X e) := ⟨fun pins s _ _ _ I h => h.run pins s I⟩
theorem pWW : PW X e (WW X e) := ⟨fun wh pins s _ _ _ I h => h.run wh pins s I⟩
theorem pWA : PA X es (WA X es) := ⟨fun pos pins s _ _ _ I h => h.run pos pins s I⟩
theorem pWS : PS X st (WS X st) := ⟨fun pins s _ _ _ I h => h.run pins s I⟩
theorem pWB : PSs X sts (WB X sts) := ⟨fun pins s _ _ _ I h => h.run pins s I⟩
theorem pWP {o : Option Expr} : PO X o (WP X o) := ⟨fun pins s _ _ _ I h => h.run pins s I⟩
theorem pWG : PG X e (WG X e) := ⟨fun pins s _ _ _ u _ I r h => h.run pins s u I r⟩
theorem pWGs : PGs X es (WGs X es) := ⟨fun pins s _ _ _ us _ I r h => h.run pins s us I r⟩
theorem pWO {f : Value → Value → Sem Value} : OpR X f (WO X f) := fun pins s σ _ _ _ v u _ I rx ry h => h.run pins s σ v u I rx ry
theorem pWC {f : Value} : CallR X f (WC X f) := fun pins s σ _ _ us _ I r h => h.run pins s σ us I r
theorem ofE {t : TE} {Q : VK} (p : PE X e t) (h : t σ H Q) : WE X e σ H Q := ⟨fun pins s I => p.run pins s σ H Q I h⟩
theorem ofT {t : TT} {Q : Bool → Hp → Prop} (p : PT X e t) (h : t σ H Q) : WT X e σ H Q := ⟨fun pins s I => p.run pins s σ H Q I h⟩
theorem ofW {t : TT} {Q : Bool → Hp → Prop} (p : PW X e t) (h : t σ H Q) : WW X e σ H Q := ⟨fun wh pins s I => p.run wh pins s σ H Q I h⟩
theorem ofA {t : TA} {Q : List V → Hp → Prop} (p : PA X es t) (h : t σ H Q) : WA X es σ H Q := ⟨fun pos pins s I => p.run pos pins s σ H Q I h⟩
theorem ofS {t : TS} {D : Ends} (p : PS X st t) (h : t D σ H) : WS X st D σ H := ⟨fun pins s I => p.run pins s σ H D I h⟩
theorem ofB {t : TS} {D : Ends} (p : PSs X sts t) (h : t D σ H) : WB X sts D σ H := ⟨fun pins s I => p.run pins s σ H D I h⟩
theorem ofP {o : Option Expr} {t : TO} {Q : Option Int → Hp → Prop} (p : PO X o t) (h : t σ H Q) : WP X o σ H Q := ⟨fun pins s I => p.run pins s σ H Q I h⟩
theorem ofG {t : TG} {v : V} {Q : L2.St → Hp → Prop} (p : PG X e t) (h : t v σ H Q) : WG X e v σ H Q := ⟨fun pins s u I r => p.run pins s σ H v u Q I r h⟩
theorem ofGs {t : TGs} {vs : List V} {Q : L2.St → Hp → Prop} (p : PGs X es t) (h : t vs σ H Q) : WGs X es vs σ H Q := ⟨fun pins s us I r => p.run pins s σ H vs us Q I r h⟩
theorem ofO {f : Value → Value → Sem Value} {r : R2} {x y : V} {Q : VK} (p : OpR X f r) (h : r x y H Q) : WO X f x y H Q := ⟨fun pins s σ v u I rx ry => p pins s σ H x y v u Q I rx ry h⟩
theorem ofC {f : Value} {r : List V → Hp → VK → Prop} {xs : List V} {Q : VK} (p : CallR X f r) (h : r xs H Q) : WC X f xs H Q := ⟨fun pins s σ us I rx => p pins s σ H xs us Q I rx h⟩
/-- weaker ends -/
theorem WE.mono {Q Q' : VK} (h : WE X e σ H Q) (k : ∀ v H', Q v H' → Q' v H') : WE X e σ H Q' := ⟨fun pins s I =>
  thn (h.run pins s I) fun _ _ ⟨v, H', I', r, q⟩ => ⟨v, H', I', r, k v H' q⟩⟩
theorem WT.mono {Q Q' : Bool → Hp → Prop} (h : WT X e σ H Q) (k : ∀ v H', Q v H' → Q' v H') : WT X e σ H Q' := ⟨fun pins s I =>
  thn (h.run pins s I) fun b _ ⟨H', I', q⟩ => ⟨H', I', k b H' q⟩⟩

/-! ### a name's place; a global's -/
structure Nm (X : Cx) (x : Str) (i : Nat) : Prop where
  n : X.N[i]? = some x
  v : Vis X.env.scope x
  d : (x == ("__debug__" : Str)) = false
  c : (x == ("__classdict__" : Str)) = false
structure Tg (X : Cx) (x : Str) (i : Nat) : Prop where
  nd : X.N.Nodup
  n : X.N[i]? = some x
  l : Loc X.env.scope x
  f : X.fn x = true ∨ X.env.scope.names.lookup x = some .local

/-! ### expressions -/
variable {a b c : Expr} {pos : Pos} {Q : VK} {x : Str} {i : Nat} {v : V}
theorem w_name (n : Nm X x i) (h : σ[i]? = some (some v)) (q : Q v H) : WE X (.Name x pos) σ H Q := ofE (pe_var n.n n.v n.d n.c) ⟨v, h, q⟩
theorem w_int {k : Int} {j : Nat} (q : Q (.int k) H) : WE X (.Constant (.int k) j pos) σ H Q := ofE pe_int q
theorem w_bl {k : Bool} {j : Nat} (q : Q (.bl k) H) : WE X (.Constant (.bool k) j pos) σ H Q := ofE pe_bl q
theorem w_non {j : Nat} (q : Q .non H) : WE X (.Constant .none j pos) σ H Q := ofE pe_non q
theorem w_str {k : Str} {j : Nat} (q : Q (.str k) H) : WE X (.Constant (.str k) j pos) σ H Q := ofE pe_str q
theorem w_glob {u : Value} (hg : Gl X x) (hm : X.mg x = some u) (r : RelV v u) (q : Q v H) (hd : (x == ("__debug__" : Str)) = false := by decide) : WE X (.Name x pos) σ H Q := ofE (pe_glob hg hm r hd) q
theorem w_blt {u : Value} (hg : Gl X x) (hm : X.mg x = none) (hv : bootBuiltins x = some u) (r : RelV v u) (hn : x ≠ "__name__") (hd : (x == ("__debug__" : Str)) = false) (q : Q v H) : WE X (.Name x pos) σ H Q := ofE (pe_bltn hg hm hv r hn hd) q
theorem w_op {op : Operator} (h : WE X a σ H fun x H1 => WE X b σ H1 fun y H2 => WO X (binaryOp op) x y H2 Q) : WE X (.BinOp a op b pos) σ H Q := ofE (pe_op pWO pWE pWE) h
theorem w_cmp {op : CmpOp} (hm : behindInMarks op b = false) (h : WE X a σ H fun x H1 => WE X b σ H1 fun y H2 => WO X (compareOp op) x y H2 Q) : WE X (.Compare a [op] [b] pos) σ H Q := ofE (pe_cmpR pWO pWE pWE hm) h
theorem w_not (h : WE X a σ H fun x H1 => ∃ k, x = .bl k ∧ Q (.bl (!k)) H1) : WE X (.UnaryOp .Not a pos) σ H Q := ofE (pe_not pWE) h
theorem w_one {op} (h : WE X a σ H Q) : WE X (.BoolOp op [a] pos) σ H Q := ofE (pe_one pWE) h
theorem w_and (h : WE X a σ H fun x H1 => ∃ k, x = .bl k ∧ if k = true then WE X (.BoolOp .And (b :: es) pos) σ H1 Q else Q (.bl false) H1) : WE X (.BoolOp .And (a :: b :: es) pos) σ H Q := ofE (pe_and pWE pWE) h
theorem w_or (h : WE X a σ H fun x H1 => ∃ k, x = .bl k ∧ if k = true then Q (.bl true) H1 else WE X (.BoolOp .Or (b :: es) pos) σ H1 Q) : WE X (.BoolOp .Or (a :: b :: es) pos) σ H Q := ofE (pe_or pWE pWE) h
theorem w_ifx (h : WT X c σ H fun k H1 => if k = true then WE X a σ H1 Q else WE X b σ H1 Q) : WE X (.IfExp c a b pos) σ H Q := ofE (pe_ifExp pWT pWE pWE) h
theorem w_tup {k} (h : WA X es σ H fun xs H1 => xs.length ≤ sizeLine ∧ ∀ p H2, H1 p = none → Same H1 H2 → H2 p = some (.tup xs) → Q (.ref p) H2) : WE X (.Tuple es k pos) σ H Q :=
  ofE (pe_tup (x1 := k) pWA) ((⟨fun pos pins s I => thn (h.run pos pins s I) fun _ _ ⟨vs, H', I', r, l, q⟩ => ⟨vs, H', I', r, l, fun p np => q p _ np (sameNew np) upd_same⟩⟩ : WA X es σ H _))
theorem w_lst (h : WA X es σ H fun xs H1 => xs.length ≤ sizeLine ∧ ∀ p H2, H1 p = none → Same H1 H2 → H2 p = some (.lst xs) → Q (.ref p) H2) : WE X (.List es pos) σ H Q :=
  ofE (pe_lst pWA) ((⟨fun pos pins s I => thn (h.run pos pins s I) fun _ _ ⟨vs, H', I', r, l, q⟩ => ⟨vs, H', I', r, l, fun p np => q p _ np (sameNew np) upd_same⟩⟩ : WA X es σ H _))
theorem w_anil {Q : List V → Hp → Prop} (q : Q [] H) : WA X [] σ H Q := ofA pa_nil q
theorem w_acons {Q : List V → Hp → Prop} (hs : starEach (e :: es) X.env = (false, eval e X.env) :: starEach es X.env) (h : WE X e σ H fun x H1 => WA X es σ H1 fun xs H2 => Q (x :: xs) H2) : WA X (e :: es) σ H Q := ofA (pa_cons pWE pWA hs) h

/-! ### tests -/
variable {T : Bool → Hp → Prop}
theorem wt_cmp {op : CmpOp} (hm : behindInMarks op b = false) (h : WE X a σ H fun x H1 => WE X b σ H1 fun y H2 => WO X (compareOp op) x y H2 fun z H3 => ∃ k, z = .bl k ∧ T k H3) : WT X (.Compare a [op] [b] pos) σ H T := ofT (pt_cmpR pWO pWE pWE hm) h
theorem wt_not (h : WT X a σ H fun k H1 => T (!k) H1) : WT X (.UnaryOp .Not a pos) σ H T := ofT (pt_not pWT) h
theorem wt_val (he : ∀ whole, isTrue e X.env whole = (do let v ← whole; standAt e.pos; holding [v] (truthy v))) (h : WE X e σ H fun x H1 => ∃ k, x = .bl k ∧ T k H1) : WT X e σ H T := ofT (pt_val pWE he) h
theorem wt_bool {op} (h : WW X (.BoolOp op es pos) σ H T) : WT X (.BoolOp op es pos) σ H T := ⟨fun pins s I => h.run _ pins s I⟩
theorem ww_and1 (h : WT X a σ H T) : WW X (.BoolOp .And [a] pos) σ H T := ofW (pw_and1 pWT) h
theorem ww_or1 (h : WT X a σ H T) : WW X (.BoolOp .Or [a] pos) σ H T := ofW (pw_or1 pWT) h
theorem ww_and (h : WT X a σ H fun k H1 => if k = true then WW X (.BoolOp .And (b :: es) pos) σ H1 T else T false H1) : WW X (.BoolOp .And (a :: b :: es) pos) σ H T := ofW (pw_and pWT pWW) h
theorem ww_or (h : WT X a σ H fun k H1 => if k = true then T true H1 else WW X (.BoolOp .Or (b :: es) pos) σ H1 T) : WW X (.BoolOp .Or (a :: b :: es) pos) σ H T := ofW (pw_or pWT pWW) h

/-! ### statements -/
variable {D : Ends} {xs ys : List Stmt}
theorem ws_nil (h : D.nx σ H) : WB X [] D σ H := ofB pss_nil h
theorem ws_cons (h : WS X st { D with nx := WB X sts D } σ H) : WB X (st :: sts) D σ H := ofB (pss_cons pWS pWB) h
theorem ws_last (h : WS X st D σ H) : WB X [st] D σ H := ofB (pss_one pWS) h
theorem ws_ret (h : WE X e σ H D.rt) : WS X (.Return (some e) pos) D σ H := ofS (ps_ret pWE) h
theorem ws_expr (hs : swapsWith e none pos.line X.env = pure false) (h : WE X e σ H fun _ H1 => D.nx σ H1) : WS X (.Expr e pos) D σ H := ofS (ps_expr pWE hs) h
theorem ws_if (h : WT X c σ H fun k H1 => if k = true then WB X xs D σ H1 else WB X ys D σ H1) : WS X (.If c xs ys pos) D σ H := ofS (ps_if pWT pWB pWB) h
theorem ws_set {pos' : Pos} (t : Tg X x i) (hs : swapsWith e (some (.Name x pos')) pos.line X.env = pure false) (h : WE X e σ H fun y H1 => D.nx (σ.set i (some y)) H1) : WS X (.Assign [.Name x pos'] e pos) D σ H :=
  ofS (ps_set t.nd t.n t.l pWE hs t.f) h
theorem ws_asg {tg : Expr} (hs : swapsWithSole [tg] e pos.line X.env = pure false) (hw : swappedStores [tg] e X.env = pure none)
    (h1 : (assignEach [tg] X.env).map (·.2) = [assign tg X.env]) (h : WE X e σ H fun y H1 => WG X tg y σ H1 D.nx) : WS X (.Assign [tg] e pos) D σ H := ofS (ps_asg pWE pWG hs hw h1) h
theorem wg_name (t : Tg X x i) {Q : L2.St → Hp → Prop} (q : Q (σ.set i (some v)) H) : WG X (.Name x pos) v σ H Q := ofG (pg_name t.nd t.n t.l t.f) q
theorem wgs_nil {Q : L2.St → Hp → Prop} (q : Q σ H) : WGs X [] [] σ H Q := ofGs pgs_nil ⟨rfl, q⟩
theorem wgs_cons {vs : List V} {Q : L2.St → Hp → Prop} (hs : (assignEach (e :: es) X.env).map (·.2) = assign e X.env :: (assignEach es X.env).map (·.2)) (h : WG X e v σ H fun σ' H' => WGs X es vs σ' H' Q) : WGs X (e :: es) (v :: vs) σ H Q :=
  ofGs (pgs_cons pWG pWGs hs) ⟨v, vs, rfl, h⟩
theorem ws_while {body : List Stmt} (hp : PassesOwn (model X.prog X.w) X.A X.env X.xe) (W : Nat → L2.St → Hp → Prop) (m0 : Nat) (h0 : W m0 σ H)
    (hs : ∀ m σ H, W m σ H → WT X c σ H fun k H1 => if k = true then WB X body { D with nx := fun σ' H' => ∃ m', m' < m ∧ W m' σ' H', ct := fun σ' H' => ∃ m', m' < m ∧ W m' σ' H', bk := D.nx } σ H1 else D.nx σ H1) : WS X (.While c body [] pos) D σ H := by
  refine ofS (ps_while hp pWT pWB) ⟨W, ⟨m0, h0⟩, fun m σ H w => WT.mono (hs m σ H w) fun k H1 q => ?_⟩
  cases k with
  | true => exact ⟨_, fun _ _ n => n, q⟩
  | false => exact q
end

/-! ### by values -/
section
variable {X : Cx} {H : Hp} {Q : VK} {i j : Int} {x y : Str} {p q : Addr} {xs ys : List V}
theorem o_add (h : Q (.int (i + j)) H) : WO X (binaryOp .Add) (.int i) (.int j) H Q := ofO op_add ⟨i, j, rfl, rfl, h⟩
theorem o_sub (h : Q (.int (i - j)) H) : WO X (binaryOp .Sub) (.int i) (.int j) H Q := ofO op_sub ⟨i, j, rfl, rfl, h⟩
theorem o_mul (hc : CMul i j) (h : Q (.int (i * j)) H) : WO X (binaryOp .Mult) (.int i) (.int j) H Q := ofO op_mul ⟨i, j, rfl, rfl, hc, h⟩
theorem o_mod (hc : 0 < j) (h : Q (.int (i % j)) H) : WO X (binaryOp .Mod) (.int i) (.int j) H Q := ofO op_mod ⟨i, j, rfl, rfl, hc, h⟩
theorem o_fdiv (hc : CDiv i j) (h : Q (.int (i / j)) H) : WO X (binaryOp .FloorDiv) (.int i) (.int j) H Q := ofO op_fdiv ⟨i, j, rfl, rfl, hc, h⟩
theorem o_xor (h : Q (.int (Builtin.bitXor i j)) H) : WO X (binaryOp .BitXor) (.int i) (.int j) H Q := ofO op_xor ⟨i, j, rfl, rfl, h⟩
theorem o_or (h : Q (.int (Builtin.bitOr i j)) H) : WO X (binaryOp .BitOr) (.int i) (.int j) H Q := ofO op_or ⟨i, j, rfl, rfl, h⟩
theorem o_and (h : Q (.int (Builtin.bitAnd i j)) H) : WO X (binaryOp .BitAnd) (.int i) (.int j) H Q := ofO op_and ⟨i, j, rfl, rfl, h⟩
theorem o_shl (hc : CPow i j) (h : Q (.int (i * 2 ^ j.toNat)) H) : WO X (binaryOp .LShift) (.int i) (.int j) H Q := ofO op_shl ⟨i, j, rfl, rfl, hc, h⟩
theorem o_shr (hc : 0 ≤ j) (h : Q (.int (i / 2 ^ j.toNat)) H) : WO X (binaryOp .RShift) (.int i) (.int j) H Q := ofO op_shr ⟨i, j, rfl, rfl, hc, h⟩
theorem o_cat (hp : H p = some (.lst xs)) (hq : H q = some (.lst ys)) (hl : xs.length + ys.length ≤ sizeLine) (h : ∀ r H', H r = none → Same H H' → H' r = some (.lst (xs ++ ys)) → Q (.ref r) H') : WO X (binaryOp .Add) (.ref p) (.ref q) H Q :=
  ofO op_cat ⟨p, q, xs, ys, rfl, rfl, hp, hq, hl, fun r nr => h r _ nr (sameNew nr) upd_same⟩
theorem o_lt (h : Q (.bl (decide (i < j))) H) : WO X (compareOp .Lt) (.int i) (.int j) H Q := ofO op_lt ⟨i, j, rfl, rfl, h⟩
theorem o_le (h : Q (.bl (decide (i ≤ j))) H) : WO X (compareOp .LtE) (.int i) (.int j) H Q := ofO op_le ⟨i, j, rfl, rfl, h⟩
theorem o_gt (h : Q (.bl (decide (j < i))) H) : WO X (compareOp .Gt) (.int i) (.int j) H Q := ofO op_gt ⟨i, j, rfl, rfl, h⟩
theorem o_ge (h : Q (.bl (decide (j ≤ i))) H) : WO X (compareOp .GtE) (.int i) (.int j) H Q := ofO op_ge ⟨i, j, rfl, rfl, h⟩
theorem o_eqI (h : Q (.bl (decide (i = j))) H) : WO X (compareOp .Eq) (.int i) (.int j) H Q := ofO op_eq ⟨rfl, by
  have e : decide (V.int i = V.int j) = decide (i = j) := by simp
  rw [e]; exact h⟩
theorem o_neI (h : Q (.bl (!decide (i = j))) H) : WO X (compareOp .NotEq) (.int i) (.int j) H Q := ofO op_ne ⟨rfl, by
  have e : decide (V.int i = V.int j) = decide (i = j) := by simp
  rw [e]; exact h⟩
theorem o_eqS (h : Q (.bl (decide (x = y))) H) : WO X (compareOp .Eq) (.str x) (.str y) H Q := ofO op_eq ⟨rfl, by
  have e : decide (V.str x = V.str y) = decide (x = y) := by simp
  rw [e]; exact h⟩
theorem o_neS (h : Q (.bl (!decide (x = y))) H) : WO X (compareOp .NotEq) (.str x) (.str y) H Q := ofO op_ne ⟨rfl, by
  have e : decide (V.str x = V.str y) = decide (x = y) := by simp
  rw [e]; exact h⟩
theorem o_isN {v : V} (h : Q (.bl (decide (v = .non))) H) : WO X (compareOp .Is) v .non H Q := ofO op_isN ⟨rfl, h⟩
theorem o_notN {v : V} (h : Q (.bl (!decide (v = .non))) H) : WO X (compareOp .IsNot) v .non H Q := ofO op_notN ⟨rfl, h⟩
end
/-! # KW2 -/

/-! ## defs: no exception, no guard above -/
structure Md where
  prog : Program
  w : World
  K : PySem.W.Frag
  mg : Str → Option Value
  base : Heap
def md (X : Cx) : Md := ⟨X.prog, X.w, X.K, X.mg, X.base⟩
abbrev SpG := List V → Hp → VK → Prop
structure FnG (m : Md) (k : Nat) (f : Addr) (fd : FuncData) (ps : List Str) (sp : SpG) : Prop where
  len : ∀ vs H Q, sp vs H Q → vs.length = ps.length
  run : ∀ (A : Around) (outer : List Env) (s : Shared) (H : Hp) (args : Args) (us : List Value) (vs : List V) (Q : VK), Room k A → A.guards = some [] →
    Env0 m.prog m.w m.K m.mg m.base A outer s H → BindsTo s fd args (ps.zip us) → Vals vs us → sp vs H Q →
    codeAny (model m.prog m.w) A (.call (.ref f) args) (CR CX0 outer m.prog m.w H s Q E0) s
/-- what is known of the context in which a piece of a body stands -/
structure Ctx (X : Cx) (m : Md) (N : List Str) (sc : Scope) (k : Nat) : Prop where
  hm : md X = m
  hN : X.N = N
  hsc : X.env.scope = sc
  calm : X.calm = true
  xe : X.xe = fun _ _ => False
  room : Room k X.A
  gd : X.A.guards = some []
  nd : N.Nodup
def visB (sc : Scope) (x : Str) : Bool := match sc.names.lookup x with
  | some .local => true
  | some .cell => true
  | some .free => true
  | _ => false
def locB (sc : Scope) (x : Str) : Bool := match sc.names.lookup x with
  | some .local => true
  | some .cell => true
  | _ => false
def gloB (sc : Scope) (x : Str) : Bool := match sc.names.lookup x with
  | some .globalImplicit => true
  | _ => false
def lcB (sc : Scope) (x : Str) : Bool := match sc.names.lookup x with
  | some .local => true
  | _ => false
theorem visB_ok {sc : Scope} {x : Str} (h : visB sc x = true) : Vis sc x := by
  unfold visB at h
  split at h
  · exact .inl (by assumption)
  · exact .inr (.inl (by assumption))
  · exact .inr (.inr (by assumption))
  · cases h
theorem locB_ok {sc : Scope} {x : Str} (h : locB sc x = true) : Loc sc x := by
  unfold locB at h
  split at h
  · exact .inl (by assumption)
  · exact .inr (by assumption)
  · cases h
theorem gloB_ok {sc : Scope} {x : Str} (h : gloB sc x = true) : sc.names.lookup x = some .globalImplicit := by
  unfold gloB at h
  split at h
  · assumption
  · cases h
theorem lcB_ok {sc : Scope} {x : Str} (h : lcB sc x = true) : sc.names.lookup x = some .local := by
  unfold lcB at h
  split at h
  · assumption
  · cases h
def plainNm (x : Str) : Bool := !(x == ("__debug__" : Str)) && !(x == ("__classdict__" : Str)) && !(x == ("__name__" : Str))
section
variable {X : Cx} {m : Md} {N : List Str} {sc : Scope} {k : Nat} {x : Str} {i : Nat}
theorem Ctx.nm (C : Ctx X m N sc k) (h : N[i]? = some x) (v : visB sc x = true) (d : (x == ("__debug__" : Str)) = false := by decide) (c : (x == ("__classdict__" : Str)) = false := by decide) : Nm X x i :=
  ⟨by rw [C.hN]; exact h, by rw [C.hsc]; exact visB_ok v, d, c⟩
theorem Ctx.gl (C : Ctx X m N sc k) (v : gloB sc x = true) : Gl X x := by
  have e := gloB_ok v
  rw [← C.hsc] at e
  exact e
/-- a target in a def's own body -/
theorem Ctx.tg (C : Ctx X m N sc k) (f : ∀ y, X.fn y = true) (h : N[i]? = some x) (v : locB sc x = true) : Tg X x i :=
  ⟨by rw [C.hN]; exact C.nd, by rw [C.hN]; exact h, by rw [C.hsc]; exact locB_ok v, .inl (f x)⟩
/-- a target in a comprehension's block -/
theorem Ctx.tgl (C : Ctx X m N sc k) (h : N[i]? = some x) (v : lcB sc x = true) : Tg X x i :=
  ⟨by rw [C.hN]; exact C.nd, by rw [C.hN]; exact h, by rw [C.hsc]; exact .inl (lcB_ok v), .inr (by rw [C.hsc]; exact lcB_ok v)⟩
theorem Ctx.own (C : Ctx X m N sc k) : PassesOwn (model X.prog X.w) X.A X.env X.xe := by
  rw [C.xe]
  exact PassesOwn.never
end
theorem cx_ctx {P : Program} {w : World} {K : PySem.W.Frag} {mg : Str → Option Value} {base : Heap} {N : List Str} {qual : Str} {scope : Scope} {f : Addr} {cd : Value} {A : Around} {outer : List Env} {s : Shared} {H : Hp} {E : XK} {k : Nat}
    (hr : Room (k + 1) A) (hg : A.guards = some []) (nd : N.Nodup) : Ctx (cxOf CX0 P w K mg base N qual scope f cd A outer s H E).nox ⟨P, w, K, mg, base⟩ N scope k :=
  ⟨rfl, rfl, rfl, rfl, rfl, hr.deeper _, hg, nd⟩

/-- what the top has left of a def -/
structure Has (m : Md) (x : Str) (st : Stmt) (ps : List Str) (f : Addr) (fd : FuncData) : Prop where
  fn : Fun m.K x x st f fd
  mg : m.mg x = some (.ref f)
  bd : Binds m.K fd ps []
/-- a def that keeps its promise, as callers take it -/
structure DefOk (m : Md) (x : Str) (ps : List Str) (k : Nat) (sp : SpG) (f : Addr) (fd : FuncData) : Prop where
  ok : FnG m k f fd ps sp
  mg : m.mg x = some (.ref f)
  kp : PySem.W.keepIn m.K (.ref f) = true
  bd : Binds m.K fd ps []
  lk : ∃ oc od osl, m.K.lookup f = some ⟨oc, od, .func fd, osl⟩
def Def (m : Md) (x : Str) (ps : List Str) (k : Nat) (sp : SpG) : Prop := ∃ f fd, DefOk m x ps k sp f fd
theorem def_of {m : Md} {x : Str} {st : Stmt} {N ps : List Str} {k : Nat} {sp : SpG} (hs : ∃ f fd, Has m x st ps f fd) (S : FnScope N ps (defScope st)) (len : ∀ vs H Q, sp vs H Q → vs.length = ps.length)
    (body : ∀ X, Ctx X m N (defScope st) k → (∀ y, X.fn y = true) → ∀ vs H Q, sp vs H Q → WB X (defBody st) { nx := fun _ H' => Q .non H', rt := Q } (start N vs) H) : Def m x ps (k + 1) sp := by
  obtain ⟨f, fd, F, hm, hb⟩ := hs
  obtain ⟨oc, od, kV, dc, pm, an, cdv, ct, osl, efd, lk, hcd⟩ := F.ex
  refine ⟨f, fd, ⟨len, fun A outer s H args us vs Q hr hg e0 hbd rv hsp => ?_⟩, hm, F.kp, hb, oc, od, osl, lk⟩
  subst efd
  have hl : vs.length = ps.length := len vs H Q hsp
  have kin : m.K.In s.heap := e0.mod.kin.keeps fun b o q => (e0.bs b o q).1
  have nolim : s.heap.NoLimit := e0.mod.nolimit.keeps fun b o q => (e0.bs b o q).1
  have kinds : ∀ y ∈ ps.zip us, (defScope st).names.lookup y.1 = some .local ∨ ((defScope st).names.lookup y.1 = some .cell ∧ ((cellsFrom (s.heap.objs.size + 1) (defScope st).names []).lookup y.1).isSome = true) := by
    rintro ⟨n, v⟩ hy
    exact (S.par n (List.of_mem_zip hy).1).imp (fun q => q) fun q => ⟨q, PySem.W.cellsFrom_some _ _ _ (.inl q)⟩
  refine codeAny_call_function hr.depth (kin f _ lk) rfl S.co S.gen rfl (PySem.W.codeRec_of kin hcd) (hbd _ _ _ _ ?_)
  refine wpAny_newFunctionEnv_cells S.kind kinds fun env he s1 ic => ?_
  subst he
  refine ⟨nolim.keeps ic.toInCall.keep, codeAny_func ?_⟩
  have I0 : Inv (cxOf CX0 m.prog m.w m.K m.mg m.base N x (defScope st) f cdv A outer s H E0) [] (start N vs) H s1 := inv_start S hr.hd e0 hl rv ic
  have hb' := (body (cxOf CX0 m.prog m.w m.K m.mg m.base N x (defScope st) f cdv A outer s H E0).nox (cx_ctx hr hg S.nd) (fun _ => rfl) vs H Q hsp).run [] s1 (I0.wish _)
  refine wpAny_mono hb' (fun fl s' hq => ?_) fun _ _ z => False.elim z
  cases fl with
  | ret u =>
    obtain ⟨v, σ', H', J, r, q⟩ := hq
    exact ⟨v, H', J.os, J.bare, J.base, J.hok, r, q⟩
  | next =>
    obtain ⟨σ', H', J, q⟩ := hq
    exact ⟨.non, H', J.os, J.bare, J.base, J.hok, rfl, q⟩
  | brk =>
    obtain ⟨_, _, _, q⟩ := hq
    exact False.elim q
  | cont =>
    obtain ⟨_, _, _, q⟩ := hq
    exact False.elim q
/-- more room is asked -/
theorem Def.mono {m : Md} {x : Str} {ps : List Str} {j k : Nat} {sp : SpG} (D : Def m x ps j sp) (h : j ≤ k) : Def m x ps k sp := by
  obtain ⟨f, fd, ok, a, b, c, d⟩ := D
  exact ⟨f, fd, ⟨ok.len, fun A outer s H args us vs Q hr => ok.run A outer s H args us vs Q (hr.mono h)⟩, a, b, c, d⟩

section
variable {X : Cx} {m : Md} {σ : L2.St} {H : Hp} {Q : VK} {N : List Str} {sc : Scope} {k j : Nat} {x : Str} {ps : List Str} {sp : SpG} {e : Expr} {es : List Expr} {p pos : Pos}
theorem run_def {f : Addr} {fd : FuncData} {pins : List (Addr × Obj)} {s : Shared} {args : Args} {us : List Value} {vs : List V} (C : Ctx X m N sc k) (F : FnG m j f fd ps sp) (hj : j ≤ k) (I : Inv X pins σ H s)
    (hb : BindsTo s fd args (ps.zip us)) (rv : Vals vs us) (h : sp vs H Q) : codeAny (model X.prog X.w) X.A (.call (.ref f) args) (fun r s' => match r with
      | .ok (.ret u) => EP X pins σ Q u s'
      | .ok _ => False
      | .error _ => False) s := by
  obtain rfl := C.hm
  refine codeAny_mono (F.run X.A X.stack s H args us vs Q (C.room.mono hj) C.gd I.env0 hb rv h) fun r s' hq => ?_
  cases r with
  | error e => exact hq
  | ok fl =>
    cases fl with
    | ret u => exact I.after hq
    | _ => exact hq
theorem w_call (C : Ctx X m N sc k) (D : Def m x ps j sp) (hj : j ≤ k) (hg : Gl X x) (hdb : (x == ("__debug__" : Str)) = false) (he : starEach (e :: es) X.env = (false, eval e X.env) :: starEach es X.env)
    (hpl : (backTo pos (starEach es X.env)).any (·.1) = false) (h : WA X (e :: es) σ H fun vs H1 => sp vs H1 Q) : WE X (.Call (.Name x p) (e :: es) [] pos) σ H Q := by
  obtain rfl := C.hm
  refine ⟨fun pins s I => ?_⟩
  obtain ⟨f, fd, ok, hm, hk, hb, _⟩ := D
  refine wpAny_Call_Name_kw (ld_glob I hg hm ?_ hdb)
  refine PySem.W.callWith_K (h₀ := X.base) I.ok.mod.kin hk (thn (h.run pos pins s I) fun us s1 ⟨vs, H1, I1, r, q⟩ => ⟨I1.kIn, ?_⟩) he hpl
  have hl : us.length = ps.length := r.length.symm.trans (ok.len _ _ _ q)
  have hb2 := hb s1 us I1.kIn (by rw [List.append_nil]; exact hl)
  rw [List.append_nil] at hb2
  refine wpAny_call (codeAny_mono (run_def C ok hj I1 hb2 r q) fun r s' hq => ?_)
  cases r with
  | error e => exact False.elim hq
  | ok fl =>
    cases fl with
    | ret u => exact hq
    | _ => exact False.elim hq
/-- f(k = v, ..): every parameter by its name; g puts the values in the parameters' order -/
theorem w_callK {kws : List Keyword} {ks : List Str} {g : {α : Type} → List α → List α} (C : Ctx X m N sc k) (D : Def m x ps j sp) (hj : j ≤ k) (hg : Gl X x) (hdb : (x == ("__debug__" : Str)) = false)
    (hall : (backToKw pos (keywordEach kws X.env)).all (·.1.isSome) = true) (hks : (backToKw pos (keywordEach kws X.env)).filterMap (·.1) = ks)
    (hpl : ((backTo pos (starEach [] X.env)).any (·.1) || (backToKw pos (keywordEach kws X.env)).any (·.1.isNone)) = false)
    (hbd : ∀ f fd, DefOk m x ps j sp f fd → ∀ (s : Shared) (ws : List Value), ws.length = ks.length → BindsTo s fd ⟨[], ks.zip ws⟩ (ps.zip (g ws))) (hrel : ∀ {vs : List V} {us : List Value}, Vals vs us → Vals (g vs) (g us))
    (tk : TA) (pk : PK X kws tk) (h : tk σ H fun vs H1 => vs.length = ks.length ∧ sp (g vs) H1 Q) : WE X (.Call (.Name x p) [] kws pos) σ H Q := by
  obtain rfl := C.hm
  refine ⟨fun pins s I => ?_⟩
  obtain ⟨f, fd, D⟩ := D
  refine wpAny_Call_Name_kw (ld_glob I hg D.mg ?_ hdb)
  refine PySem.W.callWith_KW0 (h₀ := X.base) I.ok.mod.kin D.kp hall ?_ hpl
  refine thn (pk.run pos pins s σ H _ I h) fun ws s2 ⟨zs, H2, I2, rz, hl, q2⟩ => ⟨I2.kIn, ?_⟩
  rw [hks]
  refine wpAny_call (codeAny_mono (run_def C D.ok hj I2 (hbd f fd D s2 ws (rz.length.symm.trans hl)) (hrel rz) q2) fun r s' hq => ?_)
  cases r with
  | error e => exact False.elim hq
  | ok fl =>
    cases fl with
    | ret u => exact hq
    | _ => exact False.elim hq
/-! ### built-ins by name -/
structure Bi (m : Md) (x : Str) (v : Value) : Prop where
  free : m.mg x = none
  boot : bootBuiltins x = some v
  n : x ≠ "__name__"
  d : (x == ("__debug__" : Str)) = false
theorem w_callB (C : Ctx X m N sc k) {id : String} (b : Bi m x (.builtin id)) (hg : Gl X x) (he : starEach (e :: es) X.env = (false, eval e X.env) :: starEach es X.env) (hpl : (backTo pos (starEach es X.env)).any (·.1) = false)
    (h : WA X (e :: es) σ H fun vs H1 => WC X (.builtin id) vs H1 Q) : WE X (.Call (.Name x p) (e :: es) [] pos) σ H Q := by
  obtain rfl := C.hm
  exact ofE (pe_callB pWC hg b.free b.boot pWA b.n b.d he hpl) h
theorem w_callTy (C : Ctx X m N sc k) {T : String} (b : Bi m x (.type T)) (hg : Gl X x) (he : starEach (e :: es) X.env = (false, eval e X.env) :: starEach es X.env) (hpl : (backTo pos (starEach es X.env)).any (·.1) = false)
    (h : WA X (e :: es) σ H fun vs H1 => WC X (.type T) vs H1 Q) : WE X (.Call (.Name x p) (e :: es) [] pos) σ H Q := by
  obtain rfl := C.hm
  exact ofE (pe_callTy pWC hg b.free b.boot pWA b.n b.d he hpl) h
/-- a built-in type's name as a value -/
theorem w_nmTy (C : Ctx X m N sc k) {T : String} (b : Bi m x (.type T)) (hg : Gl X x) (q : Q (.ty T) H) : WE X (.Name x pos) σ H Q := by
  obtain rfl := C.hm
  exact ofE (pe_bltn (v := .ty T) hg b.free b.boot rfl b.n b.d) q
/-- a constant of the module -/
structure Gc (m : Md) (x : Str) (v : V) : Prop where
  ex : ∃ u, m.mg x = some u ∧ RelV v u
  d : (x == ("__debug__" : Str)) = false
theorem w_const (C : Ctx X m N sc k) {v : V} (c : Gc m x v) (hg : Gl X x) (q : Q v H) : WE X (.Name x pos) σ H Q := by
  obtain rfl := C.hm
  obtain ⟨⟨u, hm, r⟩, d⟩ := c
  exact ofE (pe_glob hg hm r d) q

/-! ### subscripts, slices -/
structure WI (X : Cx) (x y : V) (H : Hp) (Q : VK) : Prop where
  run : ∀ (value slice : Expr) pins s σ v u, Inv X pins σ H s → RelV x v → RelV y u → subscripted slice false v u = operate [v, u] (getItem v u) → wpAny (model X.prog X.w) X.A (subscriptTail value slice v u) (EP X pins σ Q) X.xe s
theorem pWI : IxR X (WI X) := fun value slice pins s σ H x y v u Q I rx ry h hs => h.run value slice pins s σ v u I rx ry hs
theorem ofI {r : R2} {x y : V} (p : IxR X r) (h : r x y H Q) : WI X x y H Q := ⟨fun value slice pins s σ v u I rx ry hs => p value slice pins s σ H x y v u Q I rx ry h hs⟩
theorem w_sub {a b : Expr} (hs : PlainIx b) (h : WE X a σ H fun x H1 => WE X b σ H1 fun y H2 => WI X x y H2 Q) : WE X (.Subscript a b pos) σ H Q := ofE (pe_ix pWI pWE pWE hs) h
theorem i_list (C : Ctx X m N sc k) {q : Addr} {xs : List V} {i : Int} {v : V} (h : SqL m.K H q xs) (ha : atI xs i = some v) (k : Q v H) : WI X (.ref q) (.int i) H Q := by
  obtain rfl := C.hm
  exact ofI ix_list ⟨q, xs, i, v, rfl, rfl, h, ha, k⟩
theorem i_tup (C : Ctx X m N sc k) {q : Addr} {xs : List V} {i : Int} {v : V} (h : SqT m.K H q xs) (ha : atI xs i = some v) (k : Q v H) : WI X (.ref q) (.int i) H Q := by
  obtain rfl := C.hm
  exact ofI ix_tup ⟨q, xs, i, v, rfl, rfl, h, ha, k⟩
theorem i_str {z : Str} {i : Int} {c : Nat} (hl : z.length ≤ sizeLine) (ha : atI z.cps.toList i = some c) (k : Q (.str ⟨#[c]⟩) H) : WI X (.str z) (.int i) H Q := ofI ix_str ⟨z, i, c, rfl, rfl, hl, ha, k⟩
theorem i_kdict (C : Ctx X m N sc k) {q : Addr} {z : Str} {v : V} (h : KDct m.K m.w q z v) (k : Q v H) : WI X (.ref q) (.str z) H Q := by
  obtain rfl := C.hm
  exact ofI ix_kdict ⟨q, z, v, rfl, rfl, h, k⟩
theorem w_dget {a b : Expr} (C : Ctx X m N sc k) (hs : NoSl b) (h : WE X a σ H fun x H1 => WE X b σ H1 fun y H2 => ∃ q v, x = .ref q ∧ DGet H2 q y (some v) ∧ Q v H2) : WE X (.Subscript a b pos) σ H Q :=
  ofE (pe_dget (by have := C.room.un; omega) pWE pWE hs) h
structure WL (X : Cx) (x : V) (lo hi : Option Int) (H : Hp) (Q : VK) : Prop where
  run : ∀ pins s σ v vl vu sl, Inv X pins σ H s → RelV x v → s.heap.IsSliceOf sl vl vu .none → IsPart vl lo → IsPart vu hi →
    ∃ T id, typeLookup (.type T) "__getitem__" = pure (some (.builtin id)) ∧ s.TypeIs v T ∧ wpAny (model X.prog X.w) X.A (getItem v (.ref sl)) (EP X pins σ Q) X.xe s
theorem pWL : SlR X (WL X) := fun pins s σ H x v vl vu lo hi sl Q I rx hs pl pu h => h.run pins s σ v vl vu sl I rx hs pl pu
theorem ofL {r : V → Option Int → Option Int → Hp → VK → Prop} {x : V} {lo hi : Option Int} (p : SlR X r) (h : r x lo hi H Q) : WL X x lo hi H Q := ⟨fun pins s σ v vl vu sl I rx hs pl pu => p pins s σ H x v vl vu lo hi sl Q I rx hs pl pu h⟩
theorem w_slice {a : Expr} {lo hi : Option Expr} {p2 : Pos} (h : WE X a σ H fun x H1 => WP X lo σ H1 fun l H2 => WP X hi σ H2 fun u H3 => WL X x l u H3 Q) : WE X (.Subscript a (.Slice lo hi none p2) pos) σ H Q := ofE (pe_slice pWL pWE pWP pWP) h
theorem wp_no {R : Option Int → Hp → Prop} (h : R none H) : WP X none σ H R := ofP po_none h
theorem wp_yes {R : Option Int → Hp → Prop} (h : WE X e σ H fun x H1 => ∃ i, x = .int i ∧ R (some i) H1) : WP X (some e) σ H R := ofP (po_some pWE) h
theorem l_tup (C : Ctx X m N sc k) {q : Addr} {xs : List V} {lo hi : Option Int} (hq : SqT m.K H q xs) (h : ∀ r H', Same H H' → SqT m.K H' r (cutV xs lo hi) → (H r = none ∨ H' = H) → Q (.ref r) H') : WL X (.ref q) lo hi H Q := by
  obtain rfl := C.hm
  refine ofL sl_tupA ⟨q, xs, rfl, hq, fun hw => h q H (Same.refl H) ?_ (.inr rfl), fun _ r nr => h r _ (sameNew nr) (SqT.of upd_same) (.inl nr)⟩
  have e : cutV xs lo hi = xs := by
    unfold cutV
    rw [hw.1, hw.2, List.drop_zero, Nat.sub_zero, List.take_length]
  rw [e]
  exact hq
theorem l_list (C : Ctx X m N sc k) {q : Addr} {xs : List V} {lo hi : Option Int} (hq : SqL m.K H q xs) (h : ∀ r H', H r = none → Same H H' → H' r = some (.lst (cutV xs lo hi)) → Q (.ref r) H') : WL X (.ref q) lo hi H Q := by
  obtain rfl := C.hm
  exact ofL sl_list ⟨q, xs, rfl, hq, fun r nr => h r _ nr (sameNew nr) upd_same⟩
theorem l_str {z : Str} {lo hi : Option Int} (hl : z.length ≤ sizeLine) (h : Q (.str (cutS z lo hi)) H) : WL X (.str z) lo hi H Q := ofL sl_str ⟨z, rfl, hl, h⟩

/-! ### methods -/
structure WM (X : Cx) (id : String) (x : V) (xs : List V) (H : Hp) (Q : VK) : Prop where
  run : ∀ pins s σ v us, Inv X pins σ H s → RelV x v → Vals xs us → wpAny (model X.prog X.w) X.A (call (.builtin id) (v :: us)) (EP X pins σ Q) X.xe s
theorem pWM {id : String} : MtR X id (WM X id) := fun pins s σ H x xs v us Q I rx rv h => h.run pins s σ v us I rx rv
theorem ofM {id : String} {r : V → List V → Hp → VK → Prop} {x : V} {xs : List V} (p : MtR X id r) (h : r x xs H Q) : WM X id x xs H Q := ⟨fun pins s σ v us I rx rv => p pins s σ H x xs v us Q I rx rv h⟩
theorem w_bm (C : Ctx X m N sc k) {o : Expr} {name : Str} {apos cpos : Pos} {T id : String} (pa : PlainAttrs T) (slot : Slot T name id) (hty : typeOf (.builtin id) = pure (.type "method_descriptor"))
    (hbase : attributeBase o name X.env (eval o X.env) = eval o X.env)
    (hfew : ((backTo cpos (starEach (e :: es) X.env)).all (fun x => !x.1) && (backToKw cpos (keywordEach [] X.env)).all (fun x => x.1.isSome)
      && decide ((e :: es).length + ([] : List Keyword).length + (if ([] : List Keyword).isEmpty then 0 else 1) < 30)) = true)
    (hline : (apos.endLine == cpos.line) = true) (hs : starEach (e :: es) X.env = (false, eval e X.env) :: starEach es X.env) (hplain : (backTo cpos (starEach es X.env)).any (·.1) = false)
    (h : WE X o σ H fun x H1 => tyV m.K T x H1 ∧ WA X (e :: es) σ H1 fun xs H2 => WM X id x xs H2 Q) : WE X (.Call (.Attribute o name apos) (e :: es) [] cpos) σ H Q := by
  obtain rfl := C.hm
  exact ofE (pe_bm pa slot hty pWM pWE pWA hbase hfew hline hs hplain) h
theorem m_append {l : Addr} {xs : List V} {y : V} (h : H l = some (.lst xs)) (hl : xs.length < sizeLine) (q : Q .non (upd H l (.lst (xs ++ [y])))) : WM X "list.append" (.ref l) [y] H Q := ofM mt_append ⟨l, xs, y, rfl, rfl, h, hl, q⟩
theorem m_rstrip {a b : Str} (h : a.length ≤ sizeLine) (q : Q (.str (Txt.rstripChars a b)) H) : WM X "str.rstrip" (.str a) [.str b] H Q := ofM mt_rstripChars ⟨a, b, rfl, rfl, h, q⟩
theorem m_strip {a b : Str} (h : a.length ≤ sizeLine) (q : Q (.str (Txt.stripChars a b)) H) : WM X "str.strip" (.str a) [.str b] H Q := ofM mt_stripChars ⟨a, b, rfl, rfl, h, q⟩
theorem m_popAt {l : Addr} {xs : List V} {i : Int} {j : Nat} {y : V} (h : H l = some (.lst xs)) (h1 : -(2 ^ 63) ≤ i) (h2 : i < 2 ^ 63) (hk : seqIndex? i xs.length = some j) (hy : xs[j]? = some y) (q : Q y (upd H l (.lst (xs.eraseIdx j)))) :
    WM X "list.pop" (.ref l) [.int i] H Q := ofM mt_popAt ⟨l, xs, i, j, y, rfl, rfl, h, h1, h2, hk, hy, q⟩
theorem m_index (C : Ctx X m N sc k) {a : Addr} {ys : List V} {y z : V} {j : Nat} (h : SqL m.K H a ys) (f1 : flatV y = true) (f2 : ys.all flatV = true) (hj : ys[j]? = some z) (e : eqV z y = true) (no : ∀ (m : Nat) (z' : V), m < j → ys[m]? = some z' → eqV z' y = false)
    (q : Q (.int (j : Nat)) H) : WM X "list.index" (.ref a) [y] H Q := by
  obtain rfl := C.hm
  exact ofM mt_index ⟨a, ys, y, j, z, rfl, rfl, h, f1, f2, hj, e, no, q⟩
theorem w_bits {o : Expr} {apos : Pos} (hbase : attributeBase o "bit_length" X.env (eval o X.env) = eval o X.env) (hline : (apos.endLine == pos.line) = true)
    (h : WE X o σ H fun x H1 => ∃ i, x = .int i ∧ Q (.int (Builtin.Int.intBits i : Nat)) H1) : WE X (.Call (.Attribute o "bit_length" apos) [] [] pos) σ H Q := ofE (pe_bits pWE hbase hline) h

/-! ### built-ins by values -/
theorem c_lenS {z : Str} (hl : z.length ≤ sizeLine) (q : Q (.int z.length) H) : WC X (.builtin "len") [.str z] H Q := ofC call_len ⟨.str z, z.length, rfl, ⟨hl, rfl⟩, q⟩
theorem c_lenL (C : Ctx X m N sc k) {a : Addr} {ys : List V} (h : SqL m.K H a ys) (q : Q (.int ys.length) H) : WC X (.builtin "len") [.ref a] H Q := by
  obtain rfl := C.hm
  exact ofC call_len_seq ⟨a, ys, rfl, .inl h, q⟩
theorem c_lenT (C : Ctx X m N sc k) {a : Addr} {ys : List V} (h : SqT m.K H a ys) (q : Q (.int ys.length) H) : WC X (.builtin "len") [.ref a] H Q := by
  obtain rfl := C.hm
  exact ofC call_len_seq ⟨a, ys, rfl, .inr h, q⟩
theorem c_isi (C : Ctx X m N sc k) {x c : V} {t u : Value} {b : Bool} (hc : ClsV c u) (ty : TyX m.K H x t) (e : PySem.W.kitOne m.K t u = some b) (q : Q (.bl b) H) : WC X (.builtin "isinstance") [x, c] H Q := by
  obtain rfl := C.hm
  exact ofC call_isi ⟨x, c, t, u, b, rfl, hc, ty, e, q⟩
theorem c_max (C : Ctx X m N sc k) {i j : Int} (q : Q (.int (if j > i then j else i)) H) : WC X (.builtin "max") [.int i, .int j] H Q := by
  obtain rfl := C.hm
  exact ofC (call_max2 C.calm) ⟨i, j, rfl, q⟩
theorem c_int {i : Int} (q : Q (.int i) H) : WC X (.type "int") [.int i] H Q := ofC call_int1 (.inl ⟨i, rfl, q⟩)
theorem c_sum (C : Ctx X m N sc k) {a : Addr} {ns : List Int} (h : SqL m.K H a (ns.map V.int)) (q : Q (.int ns.sum) H) : WC X (.builtin "sum") [.ref a] H Q := by
  obtain rfl := C.hm
  exact ofC (cr_sum C.calm) ⟨a, ns, rfl, h, q⟩
theorem c_list (C : Ctx X m N sc k) {a : Addr} {ys : List V} (h : SqL m.K H a ys ∨ SqT m.K H a ys) (q : ∀ r H', H r = none → Same H H' → H' r = some (.lst ys) → Q (.ref r) H') : WC X (.type "list") [.ref a] H Q := by
  obtain rfl := C.hm
  exact ofC call_list_of ⟨a, ys, rfl, h, fun r nr => q r _ nr (sameNew nr) upd_same⟩
theorem c_tuple (C : Ctx X m N sc k) {a : Addr} {ys : List V} (h : SqL m.K H a ys) (q : ∀ r H', H r = none → Same H H' → H' r = some (.tup ys) → Q (.ref r) H') : WC X (.type "tuple") [.ref a] H Q := by
  obtain rfl := C.hm
  exact ofC call_tuple_of ⟨a, ys, rfl, .inl ⟨h, fun r nr => q r _ nr (sameNew nr) upd_same⟩⟩
theorem c_dict (C : Ctx X m N sc k) {a : Addr} {qs : List Addr} {kvs : List (Key × V)} (h : SqL m.K H a (qs.map V.ref)) (hp : Paired (fun p kv => SqT m.K H p [kV kv.1, kv.2]) qs kvs)
    (q : ∀ r H', H r = none → Same H H' → H' r = some (.dK (mergeK [] kvs)) → Q (.ref r) H') : WC X (.type "dict") [.ref a] H Q := by
  obtain rfl := C.hm
  exact ofC (call_dictP C.calm) ⟨a, qs, kvs, rfl, h, hp, fun r nr => q r _ nr (sameNew nr) upd_same⟩
theorem o_in (C : Ctx X m N sc k) {x : V} {a : Addr} {xs : List V} (h : SqL m.K H a xs ∨ SqT m.K H a xs) (f1 : flatV x = true) (f2 : xs.all flatV = true) (q : Q (.bl (inV x xs)) H) : WO X (compareOp .In) x (.ref a) H Q := by
  obtain rfl := C.hm
  exact ofO op_in_seq ⟨a, xs, rfl, h, f1, f2, q⟩
theorem o_notIn (C : Ctx X m N sc k) {x : V} {a : Addr} {xs : List V} (h : SqL m.K H a xs ∨ SqT m.K H a xs) (f1 : flatV x = true) (f2 : xs.all flatV = true) (q : Q (.bl (!inV x xs)) H) : WO X (compareOp .NotIn) x (.ref a) H Q := by
  obtain rfl := C.hm
  exact ofO op_notIn_seq ⟨a, xs, rfl, h, f1, f2, q⟩
theorem o_eqD (C : Ctx X m N sc k) {x y : V} {d e : PyData} (hx : Dp m.K H x d) (hy : Dp m.K H y e) (sx : SeqAt.shaped d = true) (sy : SeqAt.shaped e = true) (q : Q (.bl (PyData.eqv d e)) H) : WO X (compareOp .Eq) x y H Q := by
  obtain rfl := C.hm
  exact ofO (op_eqD C.room.units) ⟨d, e, hx, hy, sx, sy, q⟩
theorem o_neD (C : Ctx X m N sc k) {x y : V} {d e : PyData} (hx : Dp m.K H x d) (hy : Dp m.K H y e) (sx : SeqAt.shaped d = true) (sy : SeqAt.shaped e = true) (q : Q (.bl (!PyData.eqv d e)) H) : WO X (compareOp .NotEq) x y H Q := by
  obtain rfl := C.hm
  exact ofO (op_neD C.room.units) ⟨d, e, hx, hy, sx, sy, q⟩
theorem o_catT (C : Ctx X m N sc k) {p q : Addr} {xs ys : List V} (hp : SqT m.K H p xs) (hq : SqT m.K H q ys) (hl : xs.length + ys.length ≤ sizeLine) (h : ∀ r H', Same H H' → SqT m.K H' r (xs ++ ys) → (H r = none ∨ H' = H) → Q (.ref r) H') :
    WO X (binaryOp .Add) (.ref p) (.ref q) H Q := by
  obtain rfl := C.hm
  exact ofO op_catA ⟨p, q, xs, ys, rfl, rfl, hp, hq, hl, fun e => by subst e; exact h q H (Same.refl H) hq (.inr rfl), fun _ e => by subst e; exact h p H (Same.refl H) (by rw [List.append_nil]; exact hp) (.inr rfl),
    fun _ _ r nr => h r _ (sameNew nr) (SqT.of upd_same) (.inl nr)⟩
theorem wg_tup (C : Ctx X m N sc k) {kk n : Nat} {p : Addr} {vs : List V} {Q : L2.St → Hp → Prop} (hn : (assignEach es X.env).length = n) (hst : (assignEach es X.env).findIdx? (·.1) = none)
    (hp : SqT m.K H p vs) (hl : vs.length = n) (h : WGs X es vs σ H Q) : WG X (.Tuple es kk pos) (.ref p) σ H Q := by
  obtain rfl := C.hm
  exact ofG (pg_tup C.calm pWGs hn hst) ⟨p, vs, rfl, hp, hl, h⟩
theorem o_inD {r : R2} {x y : V} (p : OpR X (compareOp .In) r) (h : r x y H Q) : WO X (compareOp .In) x y H Q := ofO p h
/-- repr of data that is read -/
theorem c_repr (C : Ctx X m N sc k) {a : Addr} {d : PyData} (hd : Dp m.K H (.ref a) d) (hs : d.showable = true) (hn : d.hasDict = false) (hdep : d.depth ≤ 60) (hz : d.shown.length ≤ sizeLine) (q : Q (.str d.shown) H) : WC X (.builtin "repr") [.ref a] H Q := by
  obtain rfl := C.hm
  refine ⟨fun pins s σ us I rv => ?_⟩
  obtain ⟨u, eu, ru⟩ := vals1 rv
  subst eu
  cases ru
  obtain ⟨as, r⟩ := Dp.reads I d (.ref a) (.ref a) hd rfl
  refine repr_of_reads' r hs (fun z => by rw [hn] at z; cases z) C.gd ?_ (fun _ _ z => z) (fun h' u tk hk => ⟨.str d.shown, H, I.kept (t' := tk) hk, ⟨u, rfl⟩, q⟩) hz
  have := C.room.un
  omega
end
/-! # KW3 -/

/-! ## set(xs) of a list of ints -/
section
variable {P : Program} {w : World} {A : Around} {E : Value → Shared → Prop} {s : Shared}
abbrev emptySet (w : World) : Obj := { cls := .type "set", dict := none, data := .set #[] 0 (.fresh 0 0 (!w.params.followText "set-order")) }
theorem set_of_list {l : Addr} {its : Array Value} (ns : List Int) {Q : Value → Shared → Prop} (hh : A.handled = none) (isl : s.heap.IsList l its) (ia : IntsAre its.toList ns) (room : ns.length + 1 < scanBound)
    (fin : ∀ (h2 : Heap) (tk c : Nat), SetR w h2 s.heap.objs.size (fun j => decide (j ∈ ns)) c → c ≤ ns.length → (∀ b o, s.heap.get? b = some o → h2.get? b = some o) → Q (.ref s.heap.objs.size) { s with heap := h2, toks := tk }) :
    wpAny (model P w) A (call (.type "set") [.ref l]) Q E s := by
  have sz : its.size = ns.length := by have e := IntsAre.length ia; rw [Array.length_toList] at e; exact e
  obtain ⟨cc, tll, mroS⟩ := F.called_set.mro
  have madeS := F.called_set.made; have subS := F.called_set.sub
  refine wpAny_call (codeAny_of_tree ?_)
  show wpAny _ _ (callAny (.type "set") _) _ _ _
  refine wpAny_pure ⟨Code.quiet_builtin _ (by decide +kernel), codeAny_builtin F.entry_type_call ?_⟩
  rw [Around.under_plain (weight_type_call_type "set" [.ref l] []) rfl]
  have n1 := F.called_set.notType; have n2 := F.called_set.canCreate; have n3 := F.typeCall_set_1 (.ref l)
  repeat (any_goals (first | assumption | wp_step))
  refine codeAny_mono (code_set_led1 (.ref l) (E := E) (Q₁ := fun ob st => ob = .ref s.heap.objs.size ∧ st = { s with heap := s.heap.push (emptySet w) }) ⟨rfl, rfl⟩) fun r st hr => ?_
  match r, hr with
  | .error e, hr => exact hr
  | .ok .next, hr => exact False.elim hr
  | .ok .brk, hr => exact False.elim hr
  | .ok .cont, hr => exact False.elim hr
  | .ok (.ret ob), hr =>
    obtain ⟨e1, e2⟩ := hr
    subst e1 e2
    have gS : (s.heap.push (emptySet w)).get? s.heap.objs.size = some (emptySet w) := Heap.get?_push_size _ rfl
    have tS : Shared.TypeIs { s with heap := s.heap.push (emptySet w) } (.ref s.heap.objs.size) "set" := ⟨_, gS, rfl⟩
    have look := F.called_set.init.lookup; have bnd := F.called_set.init.bind (.ref s.heap.objs.size)
    repeat (any_goals (first | assumption | wp_step))
    refine codeAny_mono (codeAny_call_builtin (R := wants (fun r s2 => r = .none ∧ ∃ h2 tk c, s2 = { s with heap := h2, toks := tk } ∧ SetR w h2 s.heap.objs.size (fun j => decide (j ∈ ns)) c ∧ c ≤ ns.length ∧
        ∀ b o, s.heap.get? b = some o → h2.get? b = some o) E) F.called_set.init.plain F.entry_set_init (check_set_init_1 tS ?_)) fun r2 s2 hr2 => ?_
    · obtain ⟨⟨cl, dd, dt, sl⟩, go, ec, nl, ed⟩ := isl
      simp only at ec ed
      subst ec; subst ed
      have go' : (s.heap.push (emptySet w)).get? l = some { cls := .type "list", dict := dd, data := .seq its nl, slots := sl } := Heap.get?_push_of_some _ go
      have q1 := F.sub_list_set; have q2 := F.sub_list_frozenset
      have q3 : (Value.type "list" == Value.type "dict") = false := by decide
      have isl2 : (s.heap.push (emptySet w)).IsList l its := ⟨_, go', rfl, nl, rfl⟩
      unfold Builtin.«set.__init__» noKeywords Builtin.Frozenset.updateFrom
      generalize hPI : pyIter = PI
      wp_walk
      subst hPI
      refine wpAny_pyIter_list isl2 (wpAny_bind (wpAny_runValue ?_))
      have below : l < s.heap.objs.size := Heap.lt_size go
      have hh3 : A.in1.in1.in1.handled = none := by simp [hh]
      have apart : l ≠ (s.heap.push (emptySet w)).objs.size := by rw [Heap.size_push]; exact Nat.ne_of_lt (Nat.lt_succ_of_lt below)
      have out : s.heap.objs.size ∉ [(s.heap.push (emptySet w)).objs.size, l] := by
        rw [Heap.size_push]
        simp only [List.mem_cons, List.mem_singleton, List.not_mem_nil, or_false, not_or]
        exact ⟨Nat.ne_of_lt (Nat.lt_succ_self _), Nat.ne_of_gt below⟩
      have vals : ∀ (i : Nat) (v : Value), its[i]? = some v → ∃ k t, ns[i]? = some k ∧ v = .int k t := fun i v hv => by
        have hi : i < ns.length := sz ▸ (Array.getElem?_eq_some_iff.mp hv).1
        obtain ⟨t, e⟩ := PyProof.Rows.IntsAre.int_at ia i v ((Array.getElem?_toList (xs := its) (i := i)).trans hv)
        exact ⟨ns[i], t, List.getElem?_eq_getElem hi, by rw [e, List.getD_eq_getElem?_getD, List.getElem?_eq_getElem hi]; rfl⟩
      refine set_update_ints ((Walks.list hh3 _ l apart its).toS) s.heap.objs.size out ns sz room vals (its.size - 0) 0 _ (by omega) (Nat.zero_le _) ⟨⟨_, Heap.get?_push_size _ rfl, rfl, rfl⟩, isl2.push _⟩ ⟨0, Nat.le_refl 0, setR_new_at (Heap.get?_push_of_some _ gS)⟩ ?_
      rintro ⟨h2, g2, d2, tk2, os2⟩ c2 mv hc2 hS2
      obtain rfl : g2 = s.gens := mv.gens
      obtain rfl : d2 = s.drawn := mv.drawn
      obtain rfl : os2 = s.os := mv.os
      show wpAny _ _ _ _ _ _
      refine wpAny_pure ?_
      show wpAny _ _ (ret Value.none) _ _ _
      rw [sz] at hc2
      refine wpAny_pure ⟨rfl, h2, tk2, c2, rfl, hS2, hc2, fun b o e => ?_⟩
      have lb : b < s.heap.objs.size := Heap.lt_size e
      refine mv.heap b o ?_ (Heap.get?_push_of_some _ (Heap.get?_push_of_some _ e))
      simp only [List.mem_cons, List.mem_singleton, List.not_mem_nil, or_false, not_or]
      exact ⟨Nat.ne_of_lt lb, by rw [Heap.size_push]; exact Nat.ne_of_lt (Nat.lt_succ_of_lt lb)⟩
    · match r2, hr2 with
      | .error e, hr2 => exact hr2
      | .ok .next, hr2 => exact False.elim hr2
      | .ok .brk, hr2 => exact False.elim hr2
      | .ok .cont, hr2 => exact False.elim hr2
      | .ok (.ret r), hr2 =>
        obtain ⟨rfl, h2, tk, c, rfl, a1, a2, a3⟩ := hr2
        repeat (any_goals (first | assumption | wp_step))
        exact fin _ _ _ a1 a2 a3
/-- sorted(set), any number of ints -/
theorem sorted_setAny {a : Addr} {S : Int → Bool} {n : Nat} {Q : Value → Shared → Prop} (R : SetR w s.heap a S n) (hh : A.handled = none)
    (fin : ∀ s2 p (out : Array Value) (c : Nat) (ns : List Int), (∀ b o, s.heap.get? b = some o → s2.heap.get? b = some o) → s2.gens = s.gens → s2.os = s.os → s.heap.objs.size ≤ p →
      s2.heap.get? p = some (seqObj "list" out c) → IntsAre out.toList ns → ns.Pairwise (· < ·) → (∀ k, k ∈ ns ↔ S k = true) → ns.length ≤ sizeLine → Q (.ref p) s2) :
    wpAny (model P w) A (call (.builtin "sorted") [.ref a]) Q E s := by
  obtain ⟨o, es, ep, t, go, ex, ed, good, nd, mem, few, fits, cnt, ris, led⟩ := R
  refine Calls.call_function_entry kind_sorted plain_sorted entry_sorted (args_sorted1 _) ?_
  unfold Builtin.«sorted»
  refine wpAny_bind (m := checkCount "sorted" 1 1 _) (wpAny_pure (wpAny_bind (collect_set (A := A.in1) hh ⟨o, go, ex.1, ed⟩ fits few ris led fun s1 vs keep1 big gen1 os1 pm => ?_)))
  have lv : vs.length = es.size := by rw [pm.length_eq, List.length_map, Array.length_toList]
  have ls : vs.length ≤ sizeLine := by rw [lv, sizeLine_eq]; exact Nat.le_trans (Nat.le_of_lt few) (by decide)
  have ia : IntsAre vs (vs.map Builtin.Re.reRawOf) := ints_of vs fun v hv => by
    obtain ⟨e, he, q⟩ := List.mem_map.mp (pm.mem_iff.mp hv)
    obtain ⟨k, tk, e1, _⟩ := good e he
    exact ⟨k, tk, q ▸ e1⟩
  have pk : (vs.map Builtin.Re.reRawOf).Perm (es.toList.map keyOf) := by have q := pm.map Builtin.Re.reRawOf; rw [List.map_map] at q; exact q
  refine wpAny_bind (wpAny_newList ?_ ls)
  have gL : (s1.heap.push (seqObj "list" vs.toArray 0)).get? s1.heap.objs.size = some (seqObj "list" vs.toArray 0) := Heap.get?_push_size _ rfl
  refine wpAny_bind (wpAny_holding (wpAny_call_entry slot_list_sort ⟨_, gL, rfl⟩ entry_list_sort (list_sort_treeAny gL ia ls fun out ns b1 b2 b3 => ⟨_, rfl, ?_⟩) (args_list_sort _)))
  obtain ⟨c, hc⟩ := sortedHeap_at (vs := vs) (out := out) gL
  have pn : ns.Perm (es.toList.map keyOf) := b2.trans pk
  refine wpAny_pure ⟨_, rfl, fin _ s1.heap.objs.size out c ns (fun b u e => ?_) gen1 os1 big hc b1 (lt_of_le_nodup ns b3 (pn.nodup_iff.mpr nd)) (fun k => (pn.mem_iff).trans (mem k).symm) ?_⟩
  · have e1 := keep1 b u e
    have lb := Heap.lt_size e1
    show (sortedHeap (s1.heap.push (seqObj "list" vs.toArray 0)) s1.heap.objs.size vs out).get? b = some u
    rw [sortedHeap_old (Nat.ne_of_lt lb) (size_push' _ _ ▸ Nat.lt_succ_of_lt lb)]
    exact Heap.get?_push_of_some _ e1
  · rw [pn.length_eq, List.length_map, Array.length_toList, ← lv]; exact ls
end
section
variable {X : Cx} {m : Md} {N : List Str} {sc : Scope} {k : Nat} {H : Hp} {Q : VK}
theorem c_set (C : Ctx X m N sc k) {a : Addr} {ns : List Int} (h : SqL m.K H a (ns.map V.int)) (few : ns.length + 1 < 4096)
    (q : ∀ r H' n, H r = none → Same H H' → H' r = some (SetO m.w r (fun j => decide (j ∈ ns)) n) → Q (.ref r) H') : WC X (.type "set") [.ref a] H Q := by
  obtain rfl := C.hm
  refine ⟨fun pins s σ us I rv => ?_⟩
  obtain ⟨u, eu, ru⟩ := vals1 rv
  subst eu
  cases ru
  obtain ⟨its, rv2, pl, hz⟩ := I.list h
  refine set_of_list ns (I.ok.hd C.calm) pl.isList (by simpa using rv2.ints) few fun h2 tk c hS _ keep => ?_
  have nr : H s.heap.objs.size = none := I.hok.fresh (Nat.le_refl _)
  exact ⟨.ref s.heap.objs.size, upd H s.heap.objs.size (SetO X.w s.heap.objs.size (fun j => decide (j ∈ ns)) c), I.laid (t' := tk) keep (Nat.le_refl _) (setO_new hS), rfl, q _ _ c nr (sameNew nr) upd_same⟩
theorem c_sortedSet (C : Ctx X m N sc k) {a : Addr} {S : Int → Bool} {n : Nat} (h : H a = some (SetO m.w a S n))
    (q : ∀ r H' (ns : List Int), H r = none → Same H H' → H' r = some (.lst (ns.map V.int)) → ns.Pairwise (· < ·) → (∀ k : Int, k ∈ ns ↔ S k = true) → Q (.ref r) H') : WC X (.builtin "sorted") [.ref a] H Q := by
  obtain rfl := C.hm
  refine ⟨fun pins s σ us I rv => ?_⟩
  obtain ⟨u, eu, ru⟩ := vals1 rv
  subst eu
  cases ru
  refine sorted_setAny (setO_get I h) (I.ok.hd C.calm) fun s2 p out c ns keep gen os big hp ia pw mem hl => ?_
  have nr : H p = none := I.hok.fresh big
  have J : Inv X pins σ (upd H p (.lst (ns.map V.int))) { s with heap := s2.heap, gens := s2.gens, drawn := s2.drawn, toks := s2.toks } :=
    I.call (ch := []) (Un.laid keep big nr) (I.hok.laid keep big ⟨by rw [List.length_map]; exact hl, out.toList, c, vals_of_ints ia, hp⟩) (by rw [gen]; exact I.bare) (fun _ z => nomatch z)
  have e : s2 = { s with heap := s2.heap, gens := s2.gens, drawn := s2.drawn, toks := s2.toks } := by
    cases s2; cases s; cases os; rfl
  rw [e]
  exact ⟨.ref p, _, J, rfl, q p _ ns nr (sameNew nr) upd_same pw mem⟩
end

/-! ## for -/
section
variable {X : Cx} {m : Md} {σ : L2.St} {H : Hp} {D : Ends} {tg iter : Expr} {body : List Stmt} {pos : Pos}
abbrev fEnds (D : Ends) (N : L2.St → Hp → Prop) : Ends := { D with nx := N, ct := N, bk := D.nx }
theorem ws_for {wi : TI} (hp : PassesOwn (model X.prog X.w) X.A X.env X.xe) (hc : X.calm = true) (hi : PI X tg iter wi) (hs : ∀ x, foldedSetIterable iter X.env x = pure x)
    (h : wi σ H fun J H1 => ∃ W : Nat → Nat → L2.St → Hp → Prop, (∃ m, W 0 m σ H1) ∧ ∀ i m σ H, W i m σ H →
      (J.stop i H ∧ D.nx σ H) ∨ (J.go i H ∧ ∃ N : L2.St → Hp → Prop, (∀ σ' H', N σ' H' → ∃ m', m' < m ∧ W (i + 1) m' σ' H') ∧ ∀ x H', J.yld i H x H' → WG X tg x σ H' fun σ2 H2 => WB X body (fEnds D N) σ2 H2)) : WS X (.For tg iter body [] pos) D σ H :=
  ofS (ps_for hp hc hi pWG pWB hs) h
/-- over a list that the body leaves -/
theorem ws_forL {N : List Str} {sc : Scope} {k : Nat} (C : Ctx X m N sc k) (hs : ∀ x, foldedSetIterable iter X.env x = pure x)
    (h : WE X iter σ H fun v H1 => ∃ a xs, v = .ref a ∧ SqL m.K H1 a xs ∧ ∃ Pv : Nat → L2.St → Hp → Prop, Pv 0 σ H1 ∧ (∀ i σ H, Pv i σ H → SqL m.K H a xs) ∧
      (∀ i x σ H, xs[i]? = some x → Pv i σ H → WG X tg x σ H fun σ2 H2 => WB X body (fEnds D (Pv (i + 1))) σ2 H2) ∧ ∀ σ H, Pv xs.length σ H → D.nx σ H) : WS X (.For tg iter body [] pos) D σ H := by
  obtain rfl := C.hm
  refine ws_for C.own C.calm (pi_list pWE) hs (WE.mono h ?_)
  rintro v H1 ⟨a, xs, rfl, hq, Pv, h0, hl, hst, hd⟩
  exact ⟨a, rfl, ⟨xs, hq⟩, for_list (K := X.K) (a := a) (xs := xs) (g := WG X tg) (tb := WB X body) (D := D) Pv h0 (fun i σ H _ p => hl i σ H p) hst hd⟩
/-- over range(e) -/
theorem ws_forR {N : List Str} {sc : Scope} {k : Nat} {a : Expr} {p pos2 : Pos} (C : Ctx X m N sc k) (hg : Gl X "range") (hm : m.mg "range" = none) (hsa : starEach [a] X.env = [(false, eval a X.env)])
    (hs : ∀ x, foldedSetIterable (.Call (.Name "range" p) [a] [] pos2) X.env x = pure x)
    (h : WE X a σ H fun v H1 => ∃ j : Int, v = .int j ∧ -(2 ^ 62) ≤ j ∧ j < 2 ^ 62 ∧ ∃ Pv : Nat → L2.St → Hp → Prop, Pv 0 σ H1 ∧
      (∀ i σ H, i < j.toNat → Pv i σ H → WG X tg (.int (i : Nat)) σ H fun σ2 H2 => WB X body (fEnds D (Pv (i + 1))) σ2 H2) ∧ ∀ σ H, Pv j.toNat σ H → D.nx σ H) : WS X (.For tg (.Call (.Name "range" p) [a] [] pos2) body [] pos) D σ H := by
  obtain rfl := C.hm
  refine ws_for C.own C.calm (pi_range1 hg hm pWA hsa) hs ?_
  show WA X [a] σ H _
  refine w_acons (by rw [hsa]; rfl) (WE.mono h ?_)
  rintro v H1 ⟨j, rfl, b1, b2, Pv, h0, hst, hd⟩
  refine w_anil ⟨j, rfl, b1, b2, for_range (lo := 0) (n := j.toNat) (g := WG X tg) (tb := WB X body) (D := D) Pv h0 (fun i σ H hi p => ?_) hd⟩
  rw [Int.zero_add]
  exact hst i σ H hi p
/-- over range(a, b) -/
theorem ws_forR2 {N : List Str} {sc : Scope} {k : Nat} {a b : Expr} {p pos2 : Pos} (C : Ctx X m N sc k) (hg : Gl X "range") (hm : m.mg "range" = none) (hsa : starEach [a, b] X.env = [(false, eval a X.env), (false, eval b X.env)]) (hsb : starEach [b] X.env = [(false, eval b X.env)])
    (hs : ∀ x, foldedSetIterable (.Call (.Name "range" p) [a, b] [] pos2) X.env x = pure x)
    (h : WE X a σ H fun v H1 => WE X b σ H1 fun u H2 => ∃ i j : Int, v = .int i ∧ u = .int j ∧ (-(2 ^ 62) ≤ i ∧ i < 2 ^ 62 ∧ -(2 ^ 62) ≤ j ∧ j < 2 ^ 62) ∧ ∃ Pv : Nat → L2.St → Hp → Prop, Pv 0 σ H2 ∧
      (∀ t σ H, t < (j - i).toNat → Pv t σ H → WG X tg (.int (i + t)) σ H fun σ2 H2 => WB X body (fEnds D (Pv (t + 1))) σ2 H2) ∧ ∀ σ H, Pv (j - i).toNat σ H → D.nx σ H) : WS X (.For tg (.Call (.Name "range" p) [a, b] [] pos2) body [] pos) D σ H := by
  obtain rfl := C.hm
  refine ws_for C.own C.calm (pi_range2 hg hm pWA hsa hsb) hs ?_
  show WA X [a, b] σ H _
  refine w_acons (by rw [hsa, hsb]) (WE.mono h fun v H1 h1 => w_acons (by rw [hsb]; rfl) (WE.mono h1 ?_))
  rintro u H2 ⟨i, j, rfl, rfl, bd, Pv, h0, hst, hd⟩
  exact w_anil ⟨i, j, rfl, bd, for_range (lo := i) (n := (j - i).toNat) (g := WG X tg) (tb := WB X body) (D := D) Pv h0 hst hd⟩
/-- over reversed(range(a)) -/
theorem ws_forRev {N : List Str} {sc : Scope} {k : Nat} {a : Expr} {p p2 pos2 pos3 : Pos} (C : Ctx X m N sc k) (hg : Gl X "range") (hm : m.mg "range" = none) (hg2 : Gl X "reversed") (hm2 : m.mg "reversed" = none)
    (hsa : starEach [a] X.env = (false, eval a X.env) :: starEach [] X.env) (hsr : starEach [(.Call (.Name "range" p) [a] [] pos2 : Expr)] X.env = (false, eval (.Call (.Name "range" p) [a] [] pos2) X.env) :: starEach [] X.env)
    (hs : ∀ x, foldedSetIterable (.Call (.Name "reversed" p2) [.Call (.Name "range" p) [a] [] pos2] [] pos3) X.env x = pure x)
    (h : WE X a σ H fun v H1 => ∃ n : Nat, v = .int (n : Int) ∧ (n : Int) < 2 ^ 62 ∧ ∃ Pv : Nat → L2.St → Hp → Prop, Pv 0 σ H1 ∧
      (∀ i σ H, i < n → Pv i σ H → WG X tg (.int ((n - 1 - i : Nat) : Int)) σ H fun σ2 H2 => WB X body (fEnds D (Pv (i + 1))) σ2 H2) ∧ ∀ σ H, Pv n σ H → D.nx σ H) :
    WS X (.For tg (.Call (.Name "reversed" p2) [.Call (.Name "range" p) [a] [] pos2] [] pos3) body [] pos) D σ H := by
  obtain rfl := C.hm
  refine ws_for C.own C.calm (pi_revR hg2 hm2 (prg_1 hg hm (pWE (e := a)) hsa) hsr) hs ?_
  refine WE.mono h ?_
  rintro v H1 ⟨n, rfl, bn, Pv, h0, hst, hd⟩
  refine ⟨(n : Int), rfl, by omega, by omega, by omega, bn, ?_⟩
  have e : (((n : Int)) - 0).toNat = n := by omega
  rw [e]
  refine for_rangeC (lo := 0 + ((n : Nat) : Int) - 1) (c := -1) (n := n) (g := WG X tg) (tb := WB X body) (D := D) Pv h0 (fun i σ H hi pv => ?_) hd
  have e2 : 0 + ((n : Nat) : Int) - 1 + ((i : Nat) : Int) * (-1) = ((n - 1 - i : Nat) : Int) := by omega
  rw [e2]
  exact hst i σ H hi pv
end

/-! ## comprehensions -/
/-- a comprehension's block within X -/
structure Blk (X X' : Cx) (scope : Scope) : Prop where
  m : md X' = md X
  hN : X'.N = X.N
  hsc : X'.env.scope = relS scope X.env.scope
  A : X'.A = X.A
  calm : X'.calm = X.calm
  xe : X'.xe = fun _ _ => False
theorem Blk.ctx {X X' : Cx} {m : Md} {scope : Scope} {N : List Str} {sc : Scope} {k : Nat} (B : Blk X X' scope) (C : Ctx X m N sc k) : Ctx X' m N (relS scope sc) k :=
  ⟨B.m.trans C.hm, B.hN.trans C.hN, by rw [B.hsc, C.hsc], B.calm.trans C.calm, B.xe, by rw [B.A]; exact C.room, by rw [B.A]; exact C.gd, C.nd⟩
theorem blk_is {X : Cx} {s : Shared} {H : Hp} {scope : Scope} {C : Addr} {cl : List (Str × Addr)} {fp : List Addr} : Blk X (X.blk s H scope (compEnvC scope cl C X.env) fp) scope := ⟨rfl, rfl, rfl, rfl, rfl, rfl⟩
structure WTs (X : Cx) (ifs : List Expr) (σ : L2.St) (H : Hp) (Q : Bool → Hp → Prop) : Prop where
  run : ∀ pins s, Inv X pins σ H s →
    wpAny (model X.prog X.w) X.A (forIn ifs true fun c r => if r = true then do let ok ← isTrue c X.env (eval c X.env); pure (ForInStep.yield ok) else pure (ForInStep.yield r)) (TP X pins σ Q) X.xe s
theorem wts_nil {X : Cx} {σ : L2.St} {H : Hp} {Q : Bool → Hp → Prop} (h : Q true H) : WTs X [] σ H Q := ⟨fun pins s I => (pts_nil (X := X)).run pins s σ H Q I h⟩
theorem wts_one {X : Cx} {c : Expr} {σ : L2.St} {H : Hp} {Q : Bool → Hp → Prop} (h : WT X c σ H Q) : WTs X [c] σ H Q := ⟨fun pins s I => (pts_one (pWT (X := X) (e := c))).run pins s σ H Q I h⟩
section
variable {X : Cx} {m : Md} {σ : L2.St} {H : Hp} {tg iter elt : Expr} {ifs : List Expr} {scope : Scope} {pos : Pos} {N : List Str} {sc : Scope} {k : Nat}
def gB (X : Cx) (tg : Expr) (scope : Scope) : TG := fun x σ H R => ∀ X', Blk X X' scope → WG X' tg x σ H R
def tB (X : Cx) (ifs : List Expr) (scope : Scope) : TT := fun σ H R => ∀ X', Blk X X' scope → WTs X' ifs σ H R
def eB (X : Cx) (elt : Expr) (scope : Scope) : TE := fun σ H Q => ∀ X', Blk X X' scope → WE X' elt σ H Q
theorem tLc_of {wi : TI} {own : List (Str × Nat)} (C : Ctx X m N sc k) (hi : PI X tg iter wi) (ok : blkC N sc scope own = true) (hs : ∀ x, foldedSetIterable iter X.env x = pure x) :
    PE X (.ListComp elt [⟨tg, iter, ifs, 0⟩] scope pos) (tLc wi (gB X tg scope) (tB X ifs scope) (eB X elt scope) (own.map (·.2))) := by
  have okb : BlkOk X.N X.env.scope scope own := by rw [C.hN, C.hsc]; exact blkOk_by ok
  exact pe_lc C.calm (by rw [C.hN]; exact C.nd) hi okb (fun s H C cl fp => ⟨fun pins s1 σ H1 v u Q I r h => (h _ blk_is).run pins s1 u I r⟩) (fun s H C cl fp => ⟨fun pins s1 σ H1 Q I h => (h _ blk_is).run pins s1 I⟩)
    (fun s H C cl fp => ⟨fun pins s1 σ H1 Q I h => (h _ blk_is).run pins s1 I⟩) hs
theorem ps_lc {wi : TI} {own : List (Str × Nat)} {i : Nat} {y : Str} {py spos : Pos} (C : Ctx X m N sc k) (hy : N[i]? = some y) (hyl : lcB sc y = true) (hsw : (py.line == pos.line) = true)
    (hany : (scope.names.any fun (n, k) => n == y && (k == .local || k == .cell)) = false) (hkind : sc.kind = .function) (hi : PI X tg iter wi) (ok : blkC N sc scope own = true) (hs : ∀ x, foldedSetIterable iter X.env x = pure x) :
    PS X (.Assign [.Name y py] (.ListComp elt [⟨tg, iter, ifs, 0⟩] scope pos) spos) (tAsg (tLc wi (gB X tg scope) (tB X ifs scope) (eB X elt scope) (own.map (·.2))) (gName i)) := by
  have okb : BlkOk X.N X.env.scope scope own := by rw [C.hN, C.hsc]; exact blkOk_by ok
  exact ps_setLc C.calm (by rw [C.hN]; exact C.nd) (by rw [C.hN]; exact hy) (by rw [C.hsc]; exact lcB_ok hyl) (sw_true (by rw [C.hsc]; exact hkind) (by rw [C.hsc]; exact lcB_ok hyl) hsw hany) hi okb
    (fun s H C cl fp => ⟨fun pins s1 σ H1 v u Q I r h => (h _ blk_is).run pins s1 u I r⟩) (fun s H C cl fp => ⟨fun pins s1 σ H1 Q I h => (h _ blk_is).run pins s1 I⟩) (fun s H C cl fp => ⟨fun pins s1 σ H1 Q I h => (h _ blk_is).run pins s1 I⟩) hs
/-- [elt for tg in iter if ..], in its parts -/
theorem w_lc {wi : TI} (own : List (Str × Nat)) {Q : VK} (C : Ctx X m N sc k) (hi : PI X tg iter wi) (ok : blkC N sc scope own = true) (hs : ∀ x, foldedSetIterable iter X.env x = pure x)
    (h : tLc wi (gB X tg scope) (tB X ifs scope) (eB X elt scope) (own.map (·.2)) σ H Q) :
    WE X (.ListComp elt [⟨tg, iter, ifs, 0⟩] scope pos) σ H Q := ofE (tLc_of C hi ok hs) h
/-- what a turn does with the item x: the name is set, the tests are asked, an element goes behind acc or does not -/
def Turn1 (X : Cx) (tg elt : Expr) (ifs : List Expr) (scope : Scope) (vs : List Nat) (x : V) (σ : L2.St) (H : Hp) (D : Addr) (acc : List V) (R : Hp → List V → Prop) : Prop :=
  ∃ σ2, wipe σ2 vs = wipe σ vs ∧ (∀ X', Blk X X' scope → ∀ R : L2.St → Hp → Prop, R σ2 H → WG X' tg x (wipe σ vs) H R) ∧
    ∃ (T : Bool → Hp → Prop), (∀ X', Blk X X' scope → WTs X' ifs σ2 H T) ∧ ∀ b H3, T b H3 → if b = true then (∃ Y : VK, (∀ X', Blk X X' scope → WE X' elt σ2 H3 Y) ∧ ∀ y H4, Y y H4 → H4 D = some (.lst acc) ∧ acc.length < sizeLine ∧ R (upd H4 D (.lst (acc ++ [y]))) (acc ++ [y])) else R H3 acc
theorem turn_go {vs : List Nat} {x : V} {D : Addr} {acc : List V} {R : Hp → List V → Prop} {Pn : Hp → Prop} (h : Turn1 X tg elt ifs scope vs x σ H D acc R) (hd : ∀ H' ys, R H' ys → Pn H') :
    (gB X tg scope) x (wipe σ vs) H fun σ2 H2 => wipe σ2 vs = wipe σ vs ∧ (tB X ifs scope) σ2 H2 fun b H3 =>
      if b = true then (eB X elt scope) σ2 H3 fun y H4 => ∃ acc, H4 D = some (.lst acc) ∧ acc.length < sizeLine ∧ Pn (upd H4 D (.lst (acc ++ [y]))) else Pn H3 := by
  obtain ⟨σ2, hw, hg, T, ht, hx⟩ := h
  intro X' B
  refine hg X' B _ ⟨hw, fun X2 B2 => ⟨fun pins s I => thn ((ht X2 B2).run pins s I) fun b s' ⟨H', I', q⟩ => ⟨H', I', ?_⟩⟩⟩
  have z := hx b H' q
  cases b with
  | false => exact hd _ _ z
  | true =>
    obtain ⟨Y, hy, hz⟩ := z
    intro X3 B3
    refine WE.mono (hy X3 B3) fun y H4 q4 => ?_
    obtain ⟨a1, a2, a3⟩ := hz y H4 q4
    exact ⟨acc, a1, a2, hd _ _ a3⟩
/-- over a list: R speaks of the turn, the heap, what is made so far -/
theorem w_lcL (own : List (Str × Nat)) {Q : VK} (C : Ctx X m N sc k) (ok : blkC N sc scope own = true) (hs : ∀ x, foldedSetIterable iter X.env x = pure x)
    (h : WE X iter σ H fun v H1 => ∃ a xs, v = .ref a ∧ SqL m.K H1 a xs ∧ ∀ D, H1 D = none → ∃ R : Nat → Hp → List V → Prop, R 0 (upd H1 D (.lst [])) [] ∧ (∀ i H acc, R i H acc → SqL m.K H a xs) ∧
      (∀ i x H acc, xs[i]? = some x → R i H acc → Turn1 X tg elt ifs scope (own.map (·.2)) x σ H D acc (R (i + 1))) ∧ ∀ H acc, R xs.length H acc → Q (.ref D) H) :
    WE X (.ListComp elt [⟨tg, iter, ifs, 0⟩] scope pos) σ H Q := by
  obtain rfl := C.hm
  refine w_lc own C (pi_list pWE) ok hs (WE.mono h ?_)
  rintro v H1 ⟨a, xs, rfl, hq, hD⟩
  refine ⟨a, rfl, ⟨xs, hq⟩, fun D nD => ?_⟩
  obtain ⟨R, r0, rl, rs, rd⟩ := hD D nD
  exact lc_list (K := X.K) (a := a) (xs := xs) (g := gB X tg scope) (tt := tB X ifs scope) (te := eB X elt scope) (vs := own.map (·.2)) (σ := σ) (fun i H => ∃ acc, R i H acc) ⟨[], r0⟩ (fun i H _ ⟨acc, r⟩ => rl i H acc r) (fun i x H hx ⟨acc, r⟩ => turn_go (Pn := fun H => ∃ acc, R (i + 1) H acc) (rs i x H acc hx r) fun H' ys q => ⟨ys, q⟩) (fun H ⟨acc, r⟩ => rd H acc r)
theorem w_lcT (own : List (Str × Nat)) {Q : VK} (C : Ctx X m N sc k) (ok : blkC N sc scope own = true) (hs : ∀ x, foldedSetIterable iter X.env x = pure x)
    (h : WE X iter σ H fun v H1 => ∃ a xs, v = .ref a ∧ SqT m.K H1 a xs ∧ ∀ D, H1 D = none → ∃ R : Nat → Hp → List V → Prop, R 0 (upd H1 D (.lst [])) [] ∧ (∀ i H acc, R i H acc → SqT m.K H a xs) ∧
      (∀ i x H acc, xs[i]? = some x → R i H acc → Turn1 X tg elt ifs scope (own.map (·.2)) x σ H D acc (R (i + 1))) ∧ ∀ H acc, R xs.length H acc → Q (.ref D) H) :
    WE X (.ListComp elt [⟨tg, iter, ifs, 0⟩] scope pos) σ H Q := by
  obtain rfl := C.hm
  refine w_lc own C (pi_tup pWE) ok hs (WE.mono h ?_)
  rintro v H1 ⟨a, xs, rfl, hq, hD⟩
  refine ⟨a, rfl, ⟨xs, hq⟩, fun D nD => ?_⟩
  obtain ⟨R, r0, rl, rs, rd⟩ := hD D nD
  exact lc_tup (K := X.K) (a := a) (xs := xs) (g := gB X tg scope) (tt := tB X ifs scope) (te := eB X elt scope) (vs := own.map (·.2)) (σ := σ) (fun i H => ∃ acc, R i H acc) ⟨[], r0⟩ (fun i H _ ⟨acc, r⟩ => rl i H acc r) (fun i x H hx ⟨acc, r⟩ => turn_go (Pn := fun H => ∃ acc, R (i + 1) H acc) (rs i x H acc hx r) fun H' ys q => ⟨ys, q⟩) (fun H ⟨acc, r⟩ => rd H acc r)
theorem w_lcR (own : List (Str × Nat)) {Q : VK} {a : Expr} {p pos2 : Pos} (C : Ctx X m N sc k) (hg : Gl X "range") (hm : m.mg "range" = none) (hsa : starEach [a] X.env = [(false, eval a X.env)]) (ok : blkC N sc scope own = true)
    (hs : ∀ x, foldedSetIterable (.Call (.Name "range" p) [a] [] pos2) X.env x = pure x)
    (h : WE X a σ H fun v H1 => ∃ n : Int, v = .int n ∧ -(2 ^ 62) ≤ n ∧ n < 2 ^ 62 ∧ ∀ D, H1 D = none → ∃ R : Nat → Hp → List V → Prop, R 0 (upd H1 D (.lst [])) [] ∧
      (∀ i H acc, i < n.toNat → R i H acc → Turn1 X tg elt ifs scope (own.map (·.2)) (.int (i : Nat)) σ H D acc (R (i + 1))) ∧ ∀ H acc, R n.toNat H acc → Q (.ref D) H) :
    WE X (.ListComp elt [⟨tg, .Call (.Name "range" p) [a] [] pos2, ifs, 0⟩] scope pos) σ H Q := by
  obtain rfl := C.hm
  refine w_lc own C (pi_range1 hg hm pWA hsa) ok hs ?_
  show WA X [a] σ H _
  refine w_acons (by rw [hsa]; rfl) (WE.mono h ?_)
  rintro v H1 ⟨n, rfl, b1, b2, hD⟩
  refine w_anil ⟨n, rfl, b1, b2, fun D nD => ?_⟩
  obtain ⟨R, r0, rs, rd⟩ := hD D nD
  refine lc_range (lo := 0) (n := n.toNat) (g := gB X tg scope) (tt := tB X ifs scope) (te := eB X elt scope) (vs := own.map (·.2)) (σ := σ) (fun i H => ∃ acc, R i H acc) ⟨[], r0⟩ (fun i H hi ⟨acc, r⟩ => ?_) (fun H ⟨acc, r⟩ => rd H acc r)
  rw [Int.zero_add]
  exact turn_go (Pn := fun H => ∃ acc, R (i + 1) H acc) (rs i H acc hi r) fun H' ys q => ⟨ys, q⟩
/-- over enumerate(list): the pair stands in a new tuple -/
theorem w_lcE (own : List (Str × Nat)) {Q : VK} {a : Expr} {p pos2 tpos : Pos} {elts : List Expr} {kk : Nat} (C : Ctx X m N sc k) (hg : Gl X "enumerate") (hm : m.mg "enumerate" = none) (hsa : starEach [a] X.env = [(false, eval a X.env)]) (ok : blkC N sc scope own = true)
    (hs : ∀ x, foldedSetIterable (.Call (.Name "enumerate" p) [a] [] pos2) X.env x = pure x)
    (h : WE X a σ H fun v H1 => ∃ b xs, v = .ref b ∧ SqL m.K H1 b xs ∧ ∀ D, H1 D = none → ∃ R : Nat → Hp → List V → Prop, R 0 (upd H1 D (.lst [])) [] ∧ (∀ i H acc, R i H acc → SqL m.K H b xs) ∧
      (∀ i x H acc T, xs[i]? = some x → R i H acc → H T = none → Turn1 X (.Tuple elts kk tpos) elt ifs scope (own.map (·.2)) (.ref T) σ (upd H T (.tup [.int (i : Nat), x])) D acc (R (i + 1))) ∧ ∀ H acc, R xs.length H acc → Q (.ref D) H) :
    WE X (.ListComp elt [⟨.Tuple elts kk tpos, .Call (.Name "enumerate" p) [a] [] pos2, ifs, 0⟩] scope pos) σ H Q := by
  obtain rfl := C.hm
  refine w_lc own C (pi_enum hg hm pWA hsa) ok hs ?_
  show WA X [a] σ H _
  refine w_acons (by rw [hsa]; rfl) (WE.mono h ?_)
  rintro v H1 ⟨b, xs, rfl, hq, hD⟩
  refine w_anil ⟨b, xs, rfl, hq, fun D nD => ?_⟩
  obtain ⟨R, r0, rl, rs, rd⟩ := hD D nD
  refine ⟨fun i n H => n = xs.length - i ∧ i ≤ xs.length ∧ ∃ acc, R i H acc, ⟨xs.length, by omega, Nat.zero_le _, [], r0⟩, ?_⟩
  rintro i n H ⟨rfl, hi, acc, r⟩
  by_cases hlt : i < xs.length
  · refine .inr ⟨⟨xs, xs[i], rl i H acc r, List.getElem?_eq_getElem hlt⟩, fun H' => ∃ acc, R (i + 1) H' acc, fun H' ⟨acc', r'⟩ => ⟨xs.length - (i + 1), by omega, rfl, hlt, acc', r'⟩, ?_⟩
    rintro x H' ⟨T, y, rfl, nT, rfl, hy⟩
    exact turn_go (Pn := fun H => ∃ acc, R (i + 1) H acc) (rs i y H acc T (hy xs (rl i H acc r)) r nT) fun H' ys q => ⟨ys, q⟩
  · have e : i = xs.length := by omega
    subst e
    exact .inl ⟨⟨xs, rl _ H acc r, Nat.le_refl _⟩, rd H acc r⟩
end
/-! # KT -/
/-! ## the text by places -/
def top (i : Nat) : Stmt := PySem.Challenge.pw_hourrings_k32_whole_papers_put_together.main.body.getD i (.Pass ⟨0, 0, 0, 0⟩)
/-- names and sizes of a def -/
theorem sc_by {N ps : List Str} {sc : Scope} (h : ((match sc.kind with | .function => true | _ => false) && !sc.isCoroutine && !sc.isGenerator && decide N.Nodup && decide (N.take ps.length = ps) && (ps.all fun x => locB sc x) && (sc.names.all fun y => match y.2 with | .free => false | _ => true)) = true) : FnScope N ps sc := by
  simp only [Bool.and_eq_true, decide_eq_true_eq, List.all_eq_true, Bool.not_eq_true'] at h
  obtain ⟨⟨⟨⟨⟨⟨h1, h2⟩, h3⟩, h4⟩, h5⟩, h6⟩, h7⟩ := h
  refine ⟨?_, h2, h3, h4, h5, fun x hx => locB_ok (h6 x hx), fun y hy e => ?_⟩
  · split at h1
    · assumption
    · cases h1
  · have q := h7 y hy
    rw [e] at q
    cases q
theorem iteP {c A B : Prop} [Decidable c] (h : c) (a : A) : if decide c = true then A else B := by
  rw [if_pos (decide_eq_true h)]; exact a
theorem iteN {c A B : Prop} [Decidable c] (h : ¬ c) (b : B) : if decide c = true then A else B := by
  rw [if_neg (by rw [decide_eq_false h]; exact Bool.false_ne_true)]; exact b
theorem iteNP {c A B : Prop} [Decidable c] (h : ¬ c) (a : A) : if (!decide c) = true then A else B := by
  rw [decide_eq_false h]; exact iteT a
theorem iteNN {c A B : Prop} [Decidable c] (h : c) (b : B) : if (!decide c) = true then A else B := by
  rw [decide_eq_true h]; exact iteF b
theorem iteB {b : Bool} {A B : Prop} (h1 : b = true → A) (h2 : b = false → B) : if b = true then A else B := by
  cases b with
  | true => exact iteT (h1 rfl)
  | false => exact iteF (h2 rfl)
/-- the kinds -/
def ks (hb : Bool) : Str := if hb then "hours" else "bits"
set_option maxHeartbeats 0
/-! # HD -/
def dd (x : Str) (i : Nat) : He.DefD := ⟨(x, none), x, x, defArgs (top i), defBody (top i), defScope (top i), [], []⟩
def fnL0 : List He.DefD := [dd "is_whole" 9, dd "is_count" 10, dd "is_kind" 11, dd "is_number_of" 12, dd "name_fits" 13, dd "line_fits" 14, dd "lines_fit" 15, dd "book_fits" 16, dd "check_book" 17, dd "add_in" 18, dd "less_in" 19, dd "turned_in" 20, dd "times_in" 21, dd "divided_in" 22]
def fnL1 : List He.DefD := [dd "rest_in" 23, dd "over_in" 24, dd "is_multiple_in" 25, dd "divisor_in" 26, dd "multiple_in" 27, dd "bezout_in" 28, dd "met_in" 29, dd "agrees_in" 32, dd "turned_line" 33, dd "joined_line" 34, dd "met_line" 35, dd "less_line" 36, dd "is_elder" 37, dd "pair_line" 38]
def fnL2 : List He.DefD := [dd "entry_line" 39, dd "lines_in" 40, dd "check_paper" 41, dd "leaning" 42, dd "renamed" 43, dd "trimmed_at" 44, dd "used_lines" 45, dd "trimmed" 46, dd "check_papers" 47, dd "put_through" 48, dd "_law_hash" 50, dd "_law_random" 51, dd "_law_cell" 52, dd "_law_generator" 53]
def fnL3 : List He.DefD := [dd "_law_plus" 54, dd "_law_less" 55, dd "_law_rest" 56, dd "_law_divisor" 57, dd "_law_multiple" 58, dd "_law_agree" 59, dd "_law_meet" 60, dd "_law_opposite" 61, dd "_law_line" 62, dd "_law_round" 63, dd "_law_book" 64, dd "_law_entry" 65, dd "_law_is_name" 66, dd "_law_made" 67]
def fnL4 : List He.DefD := [dd "_law_told" 68, dd "_law_any_entry" 69, dd "_law_paper" 70, dd "_law_named" 71, dd "_law_leans" 72, dd "_law_trimmed" 73, dd "_law_right" 74, dd "law" 75]
def fnL : List He.DefD := fnL0 ++ (fnL1 ++ (fnL2 ++ (fnL3 ++ (fnL4))))
def faL0 : List He.Fa := [.glo "is_whole", .glo "is_count", .glo "is_kind", .glo "is_number_of", .glo "name_fits", .glo "line_fits", .glo "lines_fit", .glo "book_fits", .glo "check_book", .glo "add_in", .glo "less_in", .glo "turned_in", .glo "times_in", .glo "divided_in"]
def faL1 : List He.Fa := [.glo "rest_in", .glo "over_in", .glo "is_multiple_in", .glo "divisor_in", .glo "multiple_in", .glo "bezout_in", .glo "met_in", .glo "agrees_in", .glo "turned_line", .glo "joined_line", .glo "met_line", .glo "less_line", .glo "is_elder", .glo "pair_line"]
def faL2 : List He.Fa := [.glo "entry_line", .glo "lines_in", .glo "check_paper", .glo "leaning", .glo "renamed", .glo "trimmed_at", .glo "used_lines", .glo "trimmed", .glo "check_papers", .glo "put_through", .glo "_law_hash", .glo "_law_random", .glo "_law_cell", .glo "_law_generator"]
def faL3 : List He.Fa := [.glo "_law_plus", .glo "_law_less", .glo "_law_rest", .glo "_law_divisor", .glo "_law_multiple", .glo "_law_agree", .glo "_law_meet", .glo "_law_opposite", .glo "_law_line", .glo "_law_round", .glo "_law_book", .glo "_law_entry", .glo "_law_is_name", .glo "_law_made"]
def faL4 : List He.Fa := [.glo "_law_told", .glo "_law_any_entry", .glo "_law_paper", .glo "_law_named", .glo "_law_leans", .glo "_law_trimmed", .glo "_law_right", .glo "law"]
def faB : List He.Fa := [.free "isinstance", .free "len", .free "int", .free "bool", .free "str", .free "tuple", .free "list", .free "range", .free "sorted", .free "set", .free "reversed", .free "enumerate", .free "dict", .free "max", .free "sum", .free "repr"]
def faC : List He.Fa := [.str "FIGURES" "0123456789", .str "LETTERS" "abcdefghijklmnopqrstuvwxyz", .int "MOST_LETTERS" 6, .int "MOST_FIGURES" 3, .glo "SIZES"]
def faL : List He.Fa := faB ++ (faC ++ (faL0 ++ (faL1 ++ (faL2 ++ (faL3 ++ (faL4))))))
def szL : List (Str × He.Dv) := [("told", .int 2), ("nothing", .int 3), ("turned", .int 2), ("joined", .int 3), ("met", .int 3), ("less", .int 3)]
def tsL : List He.Tab := [(fun K => He.ga K "SIZES", ["told", "nothing", "turned", "joined", "met", "less"])]
def exL (K : PySem.W.Frag) : Bool := He.valsB K (He.ga K "SIZES") szL
def loose0 : List Str := ["__name__", "HourError", "InvalidBook", "InvalidPaper", "LETTERS", "FIGURES", "MOST_LETTERS", "MOST_FIGURES", "SIZES", "is_whole", "is_count", "is_kind", "is_number_of", "name_fits", "line_fits", "lines_fit", "book_fits", "check_book", "add_in", "less_in"]
def loose1 : List Str := ["turned_in", "times_in", "divided_in", "rest_in", "over_in", "is_multiple_in", "divisor_in", "multiple_in", "bezout_in", "met_in", "agrees_in", "turned_line", "joined_line", "met_line", "less_line", "is_elder", "pair_line", "entry_line", "lines_in", "check_paper"]
def loose2 : List Str := ["leaning", "renamed", "trimmed_at", "used_lines", "trimmed", "check_papers", "put_through", "_law_hash", "_law_random", "_law_cell", "_law_generator", "_law_plus", "_law_less", "_law_rest", "_law_divisor", "_law_multiple", "_law_agree", "_law_meet", "_law_opposite", "_law_line"]
def loose3 : List Str := ["_law_round", "_law_book", "_law_entry", "_law_is_name", "_law_made", "_law_told", "_law_any_entry", "_law_paper", "_law_named", "_law_leans", "_law_trimmed", "_law_right"]
def looseL : List Str := loose0 ++ (loose1 ++ (loose2 ++ (loose3)))
abbrev hdR : PySem.W.OpenRow := PySem.W.OpenLaw.row PySem.Challenge.rw_hourrings_k32_whole_papers_put_together
abbrev hdK : PySem.W.Hook := He.hookX 2 faL fnL tsL [] exL
def hdOb (s : PySem.W.SharedT) : He.AlX := He.obsX 2 faL fnL tsL [] exL (HandSHeadRun.getT s)
theorem hdOb_eq (s : PySem.W.SharedT) : hdOb s = hdK.obs s.abs := He.obsX_eq (HandSHeadRun.getT_eq s)
theorem hdRun_f (w : World) : HandSHeadRun.RunEq hdR (PySem.W.view hdR.prog [75]) hdK hdOb 4000 looseL (w.withFollow "special-get-raises" false) := by
  intro os
  kernel_rfl
theorem hdRun_t (w : World) : HandSHeadRun.RunEq hdR (PySem.W.view hdR.prog [75]) hdK hdOb 4000 looseL (w.withFollow "special-get-raises" true) := by
  intro os
  kernel_rfl
theorem hdRun (w : World) : HandSHeadRun.RunEq hdR (PySem.W.view hdR.prog [75]) hdK hdOb 4000 looseL w := PySem.W.byRow2 "special-get-raises" (P := fun w => HandSHeadRun.RunEq hdR (PySem.W.view hdR.prog [75]) hdK hdOb 4000 looseL w) hdRun_f hdRun_t w
set_option maxHeartbeats 4000000
/-! # KW4 -/
def envS (sc : Scope) : Env := envOfC "" sc 0 0 .none
theorem sw_scope {env : Env} {sc : Scope} {ts : List Expr} {v : Expr} (h : env.scope = sc) : swappedStores ts v env = swappedStores ts v (envS sc) := by
  have e : env.scope = (envS sc).scope := h
  unfold swappedStores Env.blockKind Env.kindOf
  rw [e]
theorem andI {n : Nat} {R : Prop} (h : n ≤ 16777216) (r : R) : n ≤ sizeLine ∧ R := ⟨h, r⟩
theorem Same.get {H H' : Hp} {a : Addr} {o : HO} (s : Same H H') (h : H a = some o) : H' a = some o := s a o h
/-- the built-ins by name -/
structure Bis (m : Md) : Prop where
  isinstance : Bi m "isinstance" (.builtin "isinstance")
  len : Bi m "len" (.builtin "len")
  int : Bi m "int" (.type "int")
  bool : Bi m "bool" (.type "bool")
  str : Bi m "str" (.type "str")
  tuple : Bi m "tuple" (.type "tuple")
  list : Bi m "list" (.type "list")
  range : Bi m "range" (.type "range")
  sorted : Bi m "sorted" (.builtin "sorted")
  set : Bi m "set" (.type "set")
  reversed : Bi m "reversed" (.type "reversed")
  enumerate : Bi m "enumerate" (.type "enumerate")
  dict : Bi m "dict" (.type "dict")
  max : Bi m "max" (.builtin "max")
  sum : Bi m "sum" (.builtin "sum")
  repr : Bi m "repr" (.builtin "repr")
section
variable {X : Cx} {m : Md} {σ : L2.St} {H : Hp} {Q : VK} {N : List Str} {sc : Scope} {k : Nat}
/-! ### a, b = x, y -/
theorem ws_par2 (C : Ctx X m N sc k) {D : Ends} {x y : Str} {i j kt k2 : Nat} {px py pt pt2 pos : Pos} {a b : Expr} (t1 : Tg X x i) (t2 : Tg X y j) (hij : i ≠ j) (hx : lcB sc x = true) (hy : lcB sc y = true)
    (hw : swappedStores [.Tuple [.Name x px, .Name y py] kt pt] (.Tuple [a, b] k2 pt2) (envS sc) = pure (some [x, y])) (hs : swapsWithSole [.Tuple [.Name x px, .Name y py] kt pt] (.Tuple [a, b] k2 pt2) pos.line X.env = pure false)
    (h : WA X [a, b] σ H fun vs H1 => ∃ v w, vs = [v, w] ∧ D.nx ((σ.set i (some v)).set j (some w)) H1) : WS X (.Assign [.Tuple [.Name x px, .Name y py] kt pt] (.Tuple [a, b] k2 pt2) pos) D σ H :=
  ofS (ps_par C.calm t1.nd t1.n t2.n hij (by rw [C.hsc]; exact lcB_ok hx) (by rw [C.hsc]; exact lcB_ok hy) pWA (by rw [sw_scope C.hsc]; exact hw) hs) h
theorem ws_par3 (C : Ctx X m N sc k) {D : Ends} {x y z : Str} {i j l kt k2 : Nat} {px py pz pt pt2 pos : Pos} {a b c : Expr} (t1 : Tg X x i) (t2 : Tg X y j) (t3 : Tg X z l) (hij : i ≠ j) (hil : i ≠ l) (hjl : j ≠ l)
    (hx : lcB sc x = true) (hy : lcB sc y = true) (hz : lcB sc z = true)
    (hw : swappedStores [.Tuple [.Name x px, .Name y py, .Name z pz] kt pt] (.Tuple [a, b, c] k2 pt2) (envS sc) = pure (some [x, y, z]))
    (hs : swapsWithSole [.Tuple [.Name x px, .Name y py, .Name z pz] kt pt] (.Tuple [a, b, c] k2 pt2) pos.line X.env = pure false)
    (h : WA X [a, b, c] σ H fun vs H1 => ∃ u v w, vs = [u, v, w] ∧ D.nx (((σ.set i (some u)).set j (some v)).set l (some w)) H1) : WS X (.Assign [.Tuple [.Name x px, .Name y py, .Name z pz] kt pt] (.Tuple [a, b, c] k2 pt2) pos) D σ H :=
  ofS (ps_par3 C.calm t1.nd t1.n t2.n t3.n hij hil hjl (by rw [C.hsc]; exact lcB_ok hx) (by rw [C.hsc]; exact lcB_ok hy) (by rw [C.hsc]; exact lcB_ok hz) pWA (by rw [sw_scope C.hsc]; exact hw) hs) h
/-- the tuple made and taken apart -/
theorem ws_tupA (C : Ctx X m N sc k) {D : Ends} {e : Expr} {es : List Expr} {kt : Nat} {pt pos : Pos} (hs : swapsWithSole [.Tuple es kt pt] e pos.line X.env = pure false) (hw : swappedStores [.Tuple es kt pt] e (envS sc) = pure none)
    (h1 : (assignEach [.Tuple es kt pt] X.env).map (·.2) = [assign (.Tuple es kt pt) X.env]) (h : WE X e σ H fun y H1 => WG X (.Tuple es kt pt) y σ H1 D.nx) : WS X (.Assign [.Tuple es kt pt] e pos) D σ H :=
  ws_asg hs (by rw [sw_scope C.hsc]; exact hw) h1 h
/-! ### isinstance, the kinds that occur -/
theorem isi_ii (C : Ctx X m N sc k) {i : Int} (q : Q (.bl true) H) : WC X (.builtin "isinstance") [.int i, .ty "int"] H Q := c_isi C (.ty "int") (.base (.int i)) (kit_ty (by decide +kernel)) q
theorem isi_ib (C : Ctx X m N sc k) {i : Int} (q : Q (.bl false) H) : WC X (.builtin "isinstance") [.int i, .ty "bool"] H Q := c_isi C (.ty "bool") (.base (.int i)) (kit_ty (by decide +kernel)) q
theorem isi_ss (C : Ctx X m N sc k) {z : Str} (q : Q (.bl true) H) : WC X (.builtin "isinstance") [.str z, .ty "str"] H Q := c_isi C (.ty "str") (.base (.str z)) (kit_ty (by decide +kernel)) q
theorem isi_tt (C : Ctx X m N sc k) {a : Addr} {xs : List V} (h : H a = some (.tup xs)) (q : Q (.bl true) H) : WC X (.builtin "isinstance") [.ref a, .ty "tuple"] H Q := c_isi C (.ty "tuple") (.base (.tup h)) (kit_ty (by decide +kernel)) q
theorem isi_ll (C : Ctx X m N sc k) {a : Addr} {xs : List V} (h : H a = some (.lst xs)) (q : Q (.bl true) H) : WC X (.builtin "isinstance") [.ref a, .ty "list"] H Q := c_isi C (.ty "list") (.base (.lst h)) (kit_ty (by decide +kernel)) q
/-! ### tracked lists and tuples -/
theorem i_L (C : Ctx X m N sc k) {q : Addr} {xs : List V} {i : Int} {v : V} (h : H q = some (.lst xs)) (ha : atI xs i = some v) (k : Q v H) : WI X (.ref q) (.int i) H Q := i_list C (SqL.of h) ha k
theorem i_T (C : Ctx X m N sc k) {q : Addr} {xs : List V} {i : Int} {v : V} (h : H q = some (.tup xs)) (ha : atI xs i = some v) (k : Q v H) : WI X (.ref q) (.int i) H Q := i_tup C (SqT.of h) ha k
theorem len_L (C : Ctx X m N sc k) {a : Addr} {ys : List V} (h : H a = some (.lst ys)) (q : Q (.int ys.length) H) : WC X (.builtin "len") [.ref a] H Q := c_lenL C (SqL.of h) q
theorem len_T (C : Ctx X m N sc k) {a : Addr} {ys : List V} (h : H a = some (.tup ys)) (q : Q (.int ys.length) H) : WC X (.builtin "len") [.ref a] H Q := c_lenT C (SqT.of h) q
theorem cat_T (C : Ctx X m N sc k) {p q : Addr} {xs ys : List V} (hp : H p = some (.tup xs)) (hq : H q = some (.tup ys)) (hl : xs.length + ys.length ≤ sizeLine) (h : ∀ r H', Same H H' → H' r = some (.tup (xs ++ ys)) → Q (.ref r) H') :
    WO X (binaryOp .Add) (.ref p) (.ref q) H Q := by
  obtain rfl := C.hm
  exact ofO op_catA ⟨p, q, xs, ys, rfl, rfl, SqT.of hp, SqT.of hq, hl, fun e => by subst e; exact h q H (Same.refl H) hq, fun _ e => by subst e; exact h p H (Same.refl H) (by rw [List.append_nil]; exact hp),
    fun _ _ r nr => h r _ (sameNew nr) upd_same⟩
theorem sl_T (C : Ctx X m N sc k) {q : Addr} {xs : List V} {lo hi : Option Int} (hq : H q = some (.tup xs)) (h : ∀ r H', Same H H' → H' r = some (.tup (cutV xs lo hi)) → Q (.ref r) H') : WL X (.ref q) lo hi H Q := by
  obtain rfl := C.hm
  refine ofL sl_tupA ⟨q, xs, rfl, SqT.of hq, fun hw => h q H (Same.refl H) ?_, fun _ r nr => h r _ (sameNew nr) upd_same⟩
  have e : cutV xs lo hi = xs := by
    unfold cutV
    rw [hw.1, hw.2, List.drop_zero, Nat.sub_zero, List.take_length]
  rw [e]
  exact hq
theorem sl_L (C : Ctx X m N sc k) {q : Addr} {xs : List V} {lo hi : Option Int} (hq : H q = some (.lst xs)) (h : ∀ r H', H r = none → Same H H' → H' r = some (.lst (cutV xs lo hi)) → Q (.ref r) H') : WL X (.ref q) lo hi H Q := l_list C (SqL.of hq) h
theorem in_L (C : Ctx X m N sc k) {x : V} {a : Addr} {xs : List V} (h : H a = some (.lst xs)) (f1 : flatV x = true) (f2 : xs.all flatV = true) (q : Q (.bl (inV x xs)) H) : WO X (compareOp .In) x (.ref a) H Q := o_in C (.inl (SqL.of h)) f1 f2 q
theorem nin_L (C : Ctx X m N sc k) {x : V} {a : Addr} {xs : List V} (h : H a = some (.lst xs)) (f1 : flatV x = true) (f2 : xs.all flatV = true) (q : Q (.bl (!inV x xs)) H) : WO X (compareOp .NotIn) x (.ref a) H Q := o_notIn C (.inl (SqL.of h)) f1 f2 q
theorem wg_T (C : Ctx X m N sc k) {es : List Expr} {pos : Pos} {kk : Nat} {p : Addr} {vs : List V} {Q : L2.St → Hp → Prop} (hst : (assignEach es X.env).findIdx? (·.1) = none)
    (hp : H p = some (.tup vs)) (hl : vs.length = (assignEach es X.env).length) (h : WGs X es vs σ H Q) : WG X (.Tuple es kk pos) (.ref p) σ H Q := wg_tup C rfl hst (SqT.of hp) hl h
end
/-! # MA -/
theorem iteBT {P R : Prop} (h : R) : if (!true) = true then P else R := h
theorem iteBF {P R : Prop} (h : P) : if (!false) = true then P else R := h
/-! ## numbers of both kinds, in plain Lean -/
def blen (n : Nat) : Nat := if n = 0 then 0 else n.log2 + 1
theorem intBits_nat (n : Nat) : Builtin.Int.intBits (n : Int) = blen n := by
  unfold Builtin.Int.intBits blen
  by_cases h : n = 0
  · subst h; rfl
  · rw [if_neg (by simpa using h), if_neg h]; rfl
theorem intBits_nn {i : Int} (h : 0 ≤ i) : Builtin.Int.intBits i = blen i.toNat := by
  obtain ⟨n, rfl⟩ := Int.eq_ofNat_of_zero_le h
  exact intBits_nat n
theorem blen_le {n k : Nat} (h : n < 2 ^ k) : blen n ≤ k := by
  unfold blen
  split
  · omega
  · rename_i hn
    have := (Nat.log2_lt hn).mpr h
    omega
theorem lt_blen (n : Nat) : n < 2 ^ blen n := by
  unfold blen
  split
  · subst_vars; decide
  · exact Nat.lt_log2_self
theorem blen_lt {n k : Nat} (h : n < 2 ^ k) (k0 : n ≠ 0) : n.log2 < k := (Nat.log2_lt k0).mpr h
theorem blen_mono {n k : Nat} (h : blen n ≤ k) : n < 2 ^ k := Nat.lt_of_lt_of_le (lt_blen n) (Nat.pow_le_pow_right (by decide) h)
theorem blen_top {n k : Nat} (h : blen n = k + 1) : n.testBit k = true ∧ n < 2 ^ (k + 1) := by
  have h1 := lt_blen n
  rw [h] at h1
  refine ⟨?_, h1⟩
  unfold blen at h
  split at h
  · cases h
  · rename_i hn
    have e : n.log2 = k := by omega
    rw [← e]
    exact Nat.testBit_log2 hn
theorem blen_pos {n : Nat} (h : n ≠ 0) : 0 < blen n := by
  unfold blen
  rw [if_neg h]
  omega
/-- one step of the long division: the top bit falls -/
theorem step_lt {a b : Nat} (hb : b ≠ 0) (h : blen b ≤ blen a) : blen (a ^^^ b <<< (blen a - blen b)) < blen a := by
  have hp : 0 < blen b := blen_pos hb
  obtain ⟨k, hk⟩ : ∃ k, blen a = k + 1 := ⟨blen a - 1, by omega⟩
  obtain ⟨j, hj⟩ : ∃ j, blen b = j + 1 := ⟨blen b - 1, by omega⟩
  obtain ⟨ta, la⟩ := blen_top hk
  obtain ⟨tb, lb⟩ := blen_top hj
  have hd : k - j + j = k := by omega
  have e : blen a - blen b = k - j := by omega
  rw [e, hk]
  have ls : b <<< (k - j) < 2 ^ (k + 1) := by
    rw [Nat.shiftLeft_eq]
    have : b * 2 ^ (k - j) < 2 ^ (j + 1) * 2 ^ (k - j) := Nat.mul_lt_mul_of_pos_right lb (Nat.two_pow_pos _)
    rw [← Nat.pow_add] at this
    have e2 : j + 1 + (k - j) = k + 1 := by omega
    rw [e2] at this
    exact this
  have lx : a ^^^ b <<< (k - j) < 2 ^ (k + 1) := Nat.xor_lt_two_pow la ls
  have tx : (a ^^^ b <<< (k - j)).testBit k = false := by
    rw [Nat.testBit_xor, ta, Nat.testBit_shiftLeft]
    have : decide (k ≥ k - j) = true := decide_eq_true (by omega)
    rw [this, show k - (k - j) = j by omega, tb]
    rfl
  have : a ^^^ b <<< (k - j) < 2 ^ k := by
    refine Nat.lt_pow_two_of_testBit _ fun i hi => ?_
    by_cases e3 : i = k
    · rw [e3]; exact tx
    · exact Nat.testBit_lt_two_pow (Nat.lt_of_lt_of_le lx (Nat.pow_le_pow_right (by decide) (by omega)))
  have := blen_le this
  omega
def restF (b : Nat) : Nat → Nat → Nat
  | 0, a => a
  | f + 1, a => if blen b ≤ blen a then restF b f (a ^^^ b <<< (blen a - blen b)) else a
def quoF (b : Nat) : Nat → Nat → Nat → Nat
  | 0, q, _ => q
  | f + 1, q, a => if blen b ≤ blen a then quoF b f (q ||| 1 <<< (blen a - blen b)) (a ^^^ b <<< (blen a - blen b)) else q
def restN (a b : Nat) : Nat := restF b (blen a) a
def quoN (a b : Nat) : Nat := quoF b (blen a) 0 a
theorem restF_more {b : Nat} (hb : b ≠ 0) : ∀ (f g a : Nat), blen a ≤ f → blen a ≤ g → restF b f a = restF b g a := by
  intro f
  induction f with
  | zero =>
    intro g a h1 h2
    have : ¬ blen b ≤ blen a := by have := blen_pos hb; omega
    cases g with
    | zero => rfl
    | succ g => unfold restF; rw [if_neg this]
  | succ f ih =>
    intro g a h1 h2
    cases g with
    | zero =>
      have : ¬ blen b ≤ blen a := by have := blen_pos hb; omega
      unfold restF; rw [if_neg this]
    | succ g =>
      unfold restF
      by_cases h : blen b ≤ blen a
      · rw [if_pos h, if_pos h]
        have := step_lt hb h
        exact ih g _ (by omega) (by omega)
      · rw [if_neg h, if_neg h]
theorem quoF_more {b : Nat} (hb : b ≠ 0) : ∀ (f g q a : Nat), blen a ≤ f → blen a ≤ g → quoF b f q a = quoF b g q a := by
  intro f
  induction f with
  | zero =>
    intro g q a h1 h2
    have : ¬ blen b ≤ blen a := by have := blen_pos hb; omega
    cases g with
    | zero => rfl
    | succ g => unfold quoF; rw [if_neg this]
  | succ f ih =>
    intro g q a h1 h2
    cases g with
    | zero =>
      have : ¬ blen b ≤ blen a := by have := blen_pos hb; omega
      unfold quoF; rw [if_neg this]
    | succ g =>
      unfold quoF
      by_cases h : blen b ≤ blen a
      · rw [if_pos h, if_pos h]
        have := step_lt hb h
        exact ih g _ _ (by omega) (by omega)
      · rw [if_neg h, if_neg h]
theorem restN_step {a b : Nat} (hb : b ≠ 0) (h : blen b ≤ blen a) : restN a b = restN (a ^^^ b <<< (blen a - blen b)) b := by
  have l := step_lt hb h
  have e : restF b (blen a) a = restF b (blen a + 1) a := restF_more hb _ _ _ (Nat.le_refl _) (Nat.le_succ _)
  show restF b (blen a) a = _
  rw [e]
  show (if blen b ≤ blen a then _ else _) = _
  rw [if_pos h]
  exact restF_more hb _ _ _ (Nat.le_of_lt l) (Nat.le_refl _)
theorem restN_stop {a b : Nat} (h : ¬ blen b ≤ blen a) : restN a b = a := by
  unfold restN
  cases e : blen a with
  | zero => rfl
  | succ n =>
    unfold restF
    rw [if_neg h]
theorem restN_lt {b : Nat} (hb : b ≠ 0) : ∀ (n a : Nat), blen a ≤ n → blen (restN a b) < blen b := by
  intro n
  induction n with
  | zero =>
    intro a h
    have : ¬ blen b ≤ blen a := by have := blen_pos hb; omega
    rw [restN_stop this]; omega
  | succ n ih =>
    intro a h
    by_cases c : blen b ≤ blen a
    · rw [restN_step hb c]
      have := step_lt hb c
      exact ih _ (by omega)
    · rw [restN_stop c]; omega
theorem restN_small {a b : Nat} (hb : b ≠ 0) : blen (restN a b) < blen b := restN_lt hb _ a (Nat.le_refl _)
theorem blen_num {a b : Nat} (h : blen a < blen b) : a < b := by
  refine Nat.lt_of_lt_of_le (lt_blen a) ?_
  obtain ⟨k, hk⟩ : ∃ k, blen b = k + 1 := ⟨blen b - 1, by omega⟩
  obtain ⟨tb, _⟩ := blen_top hk
  exact Nat.le_trans (Nat.pow_le_pow_right (by decide) (by omega : blen a ≤ k)) (Nat.ge_two_pow_of_testBit tb)
def timesF (a b : Nat) : Nat → Nat
  | 0 => 0
  | n + 1 => if b / 2 ^ n % 2 = 1 then timesF a b n ^^^ a <<< n else timesF a b n
theorem timesF_yes {a b n : Nat} (h : b / 2 ^ n % 2 = 1) : timesF a b (n + 1) = timesF a b n ^^^ a <<< n := if_pos h
theorem timesF_no {a b n : Nat} (h : ¬ b / 2 ^ n % 2 = 1) : timesF a b (n + 1) = timesF a b n := if_neg h
def timesN (a b : Nat) : Nat := timesF a b (blen b)

def xorI (a b : Int) : Int := ((a.toNat ^^^ b.toNat : Nat) : Int)
def addK (hb : Bool) (a b : Int) : Int := if hb then a + b else xorI a b
def subK (hb : Bool) (a b : Int) : Int := if hb then a - b else xorI a b
def negK (hb : Bool) (a : Int) : Int := if hb then 0 - a else a
def timesK (hb : Bool) (a b : Int) : Int := if hb then a * b else (timesN a.toNat b.toNat : Int)
def quoK (hb : Bool) (a b : Int) : Int := if hb then a / b else (quoN a.toNat b.toNat : Int)
def remK (hb : Bool) (a b : Int) : Int := if hb then a % b else (restN a.toNat b.toNat : Int)
def restK (hb : Bool) (a b : Int) : Int := if b = 0 then a else remK hb a b
def gcdL (hb : Bool) : Nat → Int → Int → Int
  | 0, a, _ => a
  | f + 1, a, b => if b = 0 then a else gcdL hb f b (restK hb a b)
def gcdK (hb : Bool) (a b : Int) : Int := gcdL hb (b.toNat + 1) a b
def multK (hb : Bool) (a b : Int) : Int := if a = 0 ∨ b = 0 then 0 else timesK hb (quoK hb a (gcdK hb a b)) b
def bezL (hb : Bool) : Nat → Int → Int → Int → Int → Int
  | 0, _, _, here, _ => here
  | f + 1, l, r, here, there => if r = 0 then here else bezL hb f r (remK hb l r) there (subK hb here (timesK hb (quoK hb l r) there))
def bezK (hb : Bool) (a b : Int) : Int := bezL hb (b.toNat + 1) a b 1 0
def agreeK (hb : Bool) (a b c d : Int) : Bool := decide (restK hb (subK hb a c) (gcdK hb b d) = 0)
def foundK (hb : Bool) (a b c d : Int) : Int :=
  addK hb a (if hb then timesK hb b (timesK hb (quoK hb (subK hb c a) (gcdK hb b d)) (bezK hb b d)) else timesK hb (timesK hb (quoK hb (subK hb c a) (gcdK hb b d)) (bezK hb b d)) b)
/-- the two rests (a, b), (c, d) met, where they agree -/
def metK (hb : Bool) (a b c d : Int) : Int × Int :=
  if b = 0 ∨ d = 0 then (if b = 0 then a else c, 0) else (restK hb (foundK hb a b c d) (multK hb b d), multK hb b d)
theorem xor_nn {a b : Int} (ha : 0 ≤ a) (hb : 0 ≤ b) : Builtin.bitXor a b = xorI a b := Bits.bitXor_pp ha hb
theorem xor_cast (a b : Nat) : Builtin.bitXor (a : Int) (b : Int) = ((a ^^^ b : Nat) : Int) := xor_nn (Int.natCast_nonneg _) (Int.natCast_nonneg _)
theorem or_cast (a b : Nat) : Builtin.bitOr (a : Int) (b : Int) = ((a ||| b : Nat) : Int) := bitOr_nn (Int.natCast_nonneg _) (Int.natCast_nonneg _)
theorem shl_cast (a n : Nat) : (a : Int) * 2 ^ ((n : Int)).toNat = ((a <<< n : Nat) : Int) := by
  rw [Int.toNat_natCast, Nat.shiftLeft_eq, Int.natCast_mul, PySem.W.kbt_cast]
theorem bit_at (b n : Nat) : Builtin.bitAnd ((b : Int) / 2 ^ ((n : Int)).toNat) 1 = ((b / 2 ^ n % 2 : Nat) : Int) := by
  rw [bitAnd_m1, Int.toNat_natCast, ← PySem.W.kbt_cast, ← Int.natCast_ediv, Int.natCast_emod]
  rfl
theorem one_shl (n : Nat) : (1 : Int) * 2 ^ ((n : Int)).toNat = ((1 <<< n : Nat) : Int) := shl_cast 1 n
theorem cpow_nat {a n : Nat} (h : n ≤ 1000000) (ha : a < 2 ^ 64) : CPow (a : Int) (n : Int) := ⟨Int.natCast_nonneg _, by omega, by simpa using ha⟩
theorem xorI_cast (a b : Nat) : xorI (a : Int) (b : Int) = ((a ^^^ b : Nat) : Int) := rfl
theorem o_shlN {X : Cx} {H : Hp} {Q : VK} {a n : Nat} (h : n ≤ 1000000) (ha : a < 2 ^ 64) (q : Q (.int ((a <<< n : Nat) : Int)) H) : WO X (binaryOp .LShift) (.int (a : Int)) (.int (n : Int)) H Q :=
  o_shl (cpow_nat h ha) (by rw [shl_cast]; exact q)
theorem o_shl1 {X : Cx} {H : Hp} {Q : VK} {n : Nat} (h : n ≤ 1000000) (q : Q (.int ((1 <<< n : Nat) : Int)) H) : WO X (binaryOp .LShift) (.int 1) (.int (n : Int)) H Q :=
  o_shlN (a := 1) h (by decide) q
theorem o_xorN {X : Cx} {H : Hp} {Q : VK} {a b : Nat} (q : Q (.int ((a ^^^ b : Nat) : Int)) H) : WO X (binaryOp .BitXor) (.int (a : Int)) (.int (b : Int)) H Q := o_xor (by rw [xor_cast]; exact q)
theorem o_orN {X : Cx} {H : Hp} {Q : VK} {a b : Nat} (q : Q (.int ((a ||| b : Nat) : Int)) H) : WO X (binaryOp .BitOr) (.int (a : Int)) (.int (b : Int)) H Q := o_or (by rw [or_cast]; exact q)
theorem remK_lt {hb : Bool} {a b : Int} (h : 0 < b) (ha : hb = false → 0 ≤ a) : 0 ≤ remK hb a b ∧ remK hb a b < b := by
  unfold remK
  cases hb with
  | true => exact ⟨Int.emod_nonneg _ (by omega), Int.emod_lt_of_pos _ h⟩
  | false =>
    obtain ⟨y, rfl⟩ := Int.eq_ofNat_of_zero_le (Int.le_of_lt h)
    refine ⟨Int.natCast_nonneg _, ?_⟩
    have := blen_num (restN_small (a := a.toNat) (b := y) (by omega))
    simp only [Int.toNat_natCast, Bool.false_eq_true, if_false]
    omega
theorem gcdL_more {hb : Bool} : ∀ (f g : Nat) (a b : Int), 0 ≤ b → (hb = false → 0 ≤ a) → b.toNat < f → b.toNat < g → gcdL hb f a b = gcdL hb g a b := by
  intro f
  induction f with
  | zero => intro g a b h0 h1 h2; omega
  | succ f ih =>
    intro g a b h0 ha h1 h2
    cases g with
    | zero => omega
    | succ g =>
      unfold gcdL
      by_cases c : b = 0
      · rw [if_pos c, if_pos c]
      · rw [if_neg c, if_neg c]
        have r := remK_lt (hb := hb) (a := a) (b := b) (by omega) ha
        have e : restK hb a b = remK hb a b := if_neg c
        rw [e]
        exact ih g b _ r.1 (fun _ => by omega) (by omega) (by omega)
theorem gcdK_zero {hb : Bool} (a : Int) : gcdK hb a 0 = a := rfl
theorem gcdK_step {hb : Bool} {a b : Int} (h : 0 < b) (ha : hb = false → 0 ≤ a) : gcdK hb a b = gcdK hb b (restK hb a b) := by
  have c : b ≠ 0 := by omega
  have r := remK_lt (hb := hb) (a := a) (b := b) h ha
  have e : restK hb a b = remK hb a b := if_neg c
  show gcdL hb (b.toNat + 1) a b = gcdL hb ((restK hb a b).toNat + 1) b (restK hb a b)
  show (if b = 0 then a else gcdL hb b.toNat b (restK hb a b)) = _
  rw [if_neg c, e]
  exact gcdL_more _ _ _ _ r.1 (fun _ => by omega) (by omega) (by omega)
theorem bezL_more {hb : Bool} : ∀ (f g : Nat) (a b x y : Int), 0 ≤ b → (hb = false → 0 ≤ a) → b.toNat < f → b.toNat < g → bezL hb f a b x y = bezL hb g a b x y := by
  intro f
  induction f with
  | zero => intro g a b x y h0 h1 h2; omega
  | succ f ih =>
    intro g a b x y h0 ha h1 h2
    cases g with
    | zero => omega
    | succ g =>
      unfold bezL
      by_cases c : b = 0
      · rw [if_pos c, if_pos c]
      · rw [if_neg c, if_neg c]
        have r := remK_lt (hb := hb) (a := a) (b := b) (by omega) ha
        exact ih g b _ _ _ r.1 (fun _ => by omega) (by omega) (by omega)
theorem bez_step {hb : Bool} {a b x y : Int} (h : 0 < b) (ha : hb = false → 0 ≤ a) : bezL hb (b.toNat + 1) a b x y = bezL hb ((remK hb a b).toNat + 1) b (remK hb a b) y (subK hb x (timesK hb (quoK hb a b) y)) := by
  have c : b ≠ 0 := by omega
  have r := remK_lt (hb := hb) (a := a) (b := b) h ha
  show (if b = 0 then x else bezL hb b.toNat b (remK hb a b) y (subK hb x (timesK hb (quoK hb a b) y))) = _
  rw [if_neg c]
  exact bezL_more _ _ _ _ _ _ r.1 (fun _ => by omega) (by omega) (by omega)
def lim (hb : Bool) : Int := if hb then 2 ^ 30 else 2 ^ 64
theorem lim_le (hb : Bool) : lim hb ≤ 2 ^ 64 := by cases hb <;> decide
theorem lim_t : lim true = 2 ^ 30 := rfl
theorem lim_f : lim false = 2 ^ 64 := rfl
theorem restK_pos {hb : Bool} {a b : Int} (h : b ≠ 0) : restK hb a b = remK hb a b := if_neg h
theorem gcd_ind {hb : Bool} {P : Int → Prop} (h : ∀ a b, 0 < b → (hb = false → 0 ≤ a) → P a → P b → P (remK hb a b)) : ∀ (f : Nat) (a b : Int), 0 ≤ b → (hb = false → 0 ≤ a) → b.toNat < f → P a → P b → P (gcdL hb f a b) := by
  intro f
  induction f with
  | zero => intro a b h0 ha h1; omega
  | succ f ih =>
    intro a b h0 ha h1 pa pb
    unfold gcdL
    by_cases c : b = 0
    · rw [if_pos c]; exact pa
    · rw [if_neg c, restK_pos c]
      have r := remK_lt (hb := hb) (a := a) (b := b) (by omega) ha
      exact ih b _ r.1 (fun _ => by omega) (by omega) pb (h a b (by omega) ha pa pb)
theorem gcdK_bd {hb : Bool} {a b L : Int} (ha : 0 ≤ a) (hb' : 0 ≤ b) (la : a < L) (lb : b < L) : 0 ≤ gcdK hb a b ∧ gcdK hb a b < L :=
  gcd_ind (P := fun x => 0 ≤ x ∧ x < L) (fun a b h0 h1 pa pb => by
    have r := remK_lt (hb := hb) (a := a) (b := b) h0 h1
    omega) _ a b hb' (fun _ => ha) (Nat.lt_succ_self _) ⟨ha, la⟩ ⟨hb', lb⟩
theorem gcdL_pos {hb : Bool} : ∀ (f : Nat) (a b : Int), 0 ≤ a → 0 ≤ b → b.toNat < f → (0 < a ∨ 0 < b) → 0 < gcdL hb f a b := by
  intro f
  induction f with
  | zero => intro a b h0 ha h1; omega
  | succ f ih =>
    intro a b ha h0 h1 hp
    unfold gcdL
    by_cases c : b = 0
    · rw [if_pos c]; omega
    · rw [if_neg c, restK_pos c]
      have r := remK_lt (hb := hb) (a := a) (b := b) (by omega) (fun _ => ha)
      exact ih b _ (by omega) r.1 (by omega) (.inl (by omega))
theorem gcdK_pos {hb : Bool} {a b : Int} (ha : 0 ≤ a) (hb' : 0 ≤ b) (h : 0 < a ∨ 0 < b) : 0 < gcdK hb a b := gcdL_pos _ a b ha hb' (Nat.lt_succ_self _) h
theorem quoF_lt {b k : Nat} : ∀ (f q a : Nat), q < 2 ^ k → blen a ≤ k → 0 < blen b → quoF b f q a < 2 ^ k := by
  intro f
  induction f with
  | zero => intro q a hq _ _; exact hq
  | succ f ih =>
    intro q a hq ha h0
    unfold quoF
    by_cases c : blen b ≤ blen a
    · rw [if_pos c]
      refine ih _ _ (Nat.or_lt_two_pow hq ?_) ?_ h0
      · rw [Nat.shiftLeft_eq, Nat.one_mul]
        exact Nat.pow_lt_pow_right (by decide) (by omega)
      · have hb : b ≠ 0 := fun e => by subst e; exact absurd h0 (by decide)
        have := step_lt hb c
        omega
    · rw [if_neg c]; exact hq
theorem quoN_lt {a b k : Nat} (ha : a < 2 ^ k) (hb : b ≠ 0) : quoN a b < 2 ^ k := quoF_lt _ _ _ (Nat.two_pow_pos k) (blen_le ha) (blen_pos hb)
theorem quoK_bd {hb : Bool} {a b : Int} (ha : 0 ≤ a) (la : a < lim hb) (h : 0 < b) : 0 ≤ quoK hb a b ∧ quoK hb a b < lim hb := by
  cases hb with
  | true =>
    have h1 : (0 : Int) ≤ a / b := Int.ediv_nonneg ha (by omega)
    have h2 : a / b ≤ a := Int.ediv_le_self _ ha
    show 0 ≤ a / b ∧ a / b < lim true
    omega
  | false =>
    obtain ⟨x, rfl⟩ := Int.eq_ofNat_of_zero_le ha
    obtain ⟨y, rfl⟩ := Int.eq_ofNat_of_zero_le (Int.le_of_lt h)
    rw [lim_f] at la ⊢
    refine ⟨Int.natCast_nonneg _, ?_⟩
    have := quoN_lt (a := x) (b := y) (k := 64) (by omega) (by omega)
    show ((quoN x y : Nat) : Int) < 2 ^ 64
    omega
/-- the numbers that the search for factors goes through stay small -/
def bezOk : Nat → Int → Int → Int → Int → Bool
  | 0, _, _, _, _ => false
  | f + 1, l, r, here, there => if r = 0 then true else decide (0 ≤ here ∧ here < 2 ^ 64 ∧ 0 ≤ there ∧ there < 2 ^ 64) && bezOk f r (remK false l r) there (subK false here (timesK false (quoK false l r) there))
theorem bezOk_step {f : Nat} {l r h t : Int} (c : r ≠ 0) (k : bezOk (f + 1) l r h t = true) : (0 ≤ h ∧ h < 2 ^ 64 ∧ 0 ≤ t ∧ t < 2 ^ 64) ∧ bezOk f r (remK false l r) t (subK false h (timesK false (quoK false l r) t)) = true := by
  unfold bezOk at k
  rw [if_neg c, Bool.and_eq_true, decide_eq_true_eq] at k
  exact k
theorem bezOk_more : ∀ (f g : Nat) (l r h t : Int), bezOk f l r h t = true → r.toNat < g → 0 ≤ r → bezOk g l r h t = true := by
  intro f
  induction f with
  | zero => intro g l r h t k; cases k
  | succ f ih =>
    intro g l r h t k hg h0
    cases g with
    | zero => omega
    | succ g =>
      by_cases c : r = 0
      · unfold bezOk; rw [if_pos c]
      · have k2 := bezOk_step c k
        unfold bezOk
        rw [if_neg c, Bool.and_eq_true, decide_eq_true_eq]
        have rr := remK_lt (hb := false) (a := l) (b := r) (by omega)
        refine ⟨k2.1, ih _ _ _ _ _ k2.2 ?_ ?_⟩
        · have : 0 ≤ remK false l r := Int.natCast_nonneg _
          by_cases q : 0 ≤ l
          · have := rr (fun _ => q); omega
          · have e : remK false l r = 0 := by
              unfold remK
              rw [show l.toNat = 0 by omega]
              show ((restN 0 r.toNat : Nat) : Int) = 0
              rw [restN_stop (by have := blen_pos (n := r.toNat) (by omega); show ¬ blen r.toNat ≤ 0; omega)]
              rfl
            omega
        · exact Int.natCast_nonneg _
theorem subK_nn {a b : Int} : 0 ≤ subK false a b := Int.natCast_nonneg _
theorem timesK_nn {a b : Int} : 0 ≤ timesK false a b := Int.natCast_nonneg _
/-! # MB -/
/-- what the meeting of two rests needs -/
structure MetOk (hb : Bool) (a b c d : Int) : Prop where
  b0 : 0 ≤ b
  b1 : b < lim hb
  d0 : 0 ≤ d
  d1 : d < lim hb
  nn : hb = false → 0 ≤ a ∧ a < 2 ^ 64 ∧ 0 ≤ c ∧ c < 2 ^ 64
  bz : hb = false → bezOk (d.toNat + 1) b d 1 0 = true
  m0 : 0 ≤ multK hb b d
  m1 : multK hb b d < lim hb
  qh : hb = true → b ≠ 0 → d ≠ 0 → -(2 ^ 64) < quoK hb (subK hb c a) (gcdK hb b d) ∧ quoK hb (subK hb c a) (gcdK hb b d) < 2 ^ 64
  qb : hb = false → b ≠ 0 → d ≠ 0 → 0 ≤ bezK hb b d ∧ bezK hb b d < 2 ^ 64
  sb : hb = false → b ≠ 0 → d ≠ 0 → timesK hb (quoK hb (subK hb c a) (gcdK hb b d)) (bezK hb b d) < 2 ^ 64 ∧ foundK hb a b c d < 2 ^ 64
theorem xorI_bd {a b : Int} {k : Nat} (ha : a < 2 ^ k) (hb : b < 2 ^ k) : 0 ≤ xorI a b ∧ xorI a b < 2 ^ k := by
  refine ⟨Int.natCast_nonneg _, ?_⟩
  have e : ((2 ^ k : Nat) : Int) = 2 ^ k := PySem.W.kbt_cast k
  have p : 0 < 2 ^ k := Nat.two_pow_pos k
  have h := Nat.xor_lt_two_pow (x := a.toNat) (y := b.toNat) (n := k) (by omega) (by omega)
  unfold xorI
  omega
theorem addK_nn {a b : Int} : 0 ≤ addK false a b := Int.natCast_nonneg _
structure Ln where
  one : Str
  other : Str
  ahead : Int
  by_ : Int
  deriving DecidableEq
abbrev lnV (l : Ln) : List V := [.str l.one, .str l.other, .int l.ahead, .int l.by_]
def turnLn (hb : Bool) (l : Ln) : Ln := ⟨l.other, l.one, restK hb (negK hb l.ahead) l.by_, l.by_⟩
def joinLn (hb : Bool) (l o : Ln) : Ln := ⟨l.one, o.other, restK hb (addK hb l.ahead o.ahead) (gcdK hb l.by_ o.by_), gcdK hb l.by_ o.by_⟩
def metLn (hb : Bool) (l o : Ln) : Ln := ⟨l.one, l.other, (metK hb l.ahead l.by_ o.ahead o.by_).1, (metK hb l.ahead l.by_ o.ahead o.by_).2⟩
def lessLn (hb : Bool) (l : Ln) (b : Int) : Ln := ⟨l.one, l.other, restK hb l.ahead b, b⟩
abbrev agreeLn (hb : Bool) (l o : Ln) : Bool := agreeK hb l.ahead l.by_ o.ahead o.by_
/-- small enough -/
structure LnB (hb : Bool) (l : Ln) : Prop where
  b0 : 0 ≤ l.by_
  b1 : l.by_ < lim hb
  nn : hb = false → 0 ≤ l.ahead ∧ l.ahead < 2 ^ 64
/-! # KW5 -/
section
variable {X : Cx} {m : Md} {σ : L2.St} {H : Hp} {Q : VK} {N : List Str} {sc : Scope} {k : Nat} {a b c e : Expr} {es : List Expr} {pos : Pos}
/-! ### a op b op c -/
theorem w_chain {op op' : CmpOp} (hm : lastMarks [op, op'] [b, c] = false) (h : WE X a σ H fun x H1 => WE X b σ H1 fun y H2 => WO X (compareOp op) x y H2 fun z H3 => ∃ k, z = .bl k ∧ if k = true then WE X c σ H3 fun w' H4 => WO X (compareOp op') y w' H4 Q else Q (.bl false) H3) :
    WE X (.Compare a [op, op'] [b, c] pos) σ H Q := ofE (pe_chain pWO pWO pWE pWE pWE hm) h
theorem wt_chain {T : Bool → Hp → Prop} {op op' : CmpOp} (hm : lastMarks [op, op'] [b, c] = false) (h : WE X a σ H fun x H1 => WE X b σ H1 fun y H2 => WO X (compareOp op) x y H2 fun z H3 => ∃ k, z = .bl k ∧ if k = true then WE X c σ H3 fun w' H4 => WO X (compareOp op') y w' H4 fun z' H5 => ∃ k', z' = .bl k' ∧ T k' H5 else ∃ k', V.bl false = .bl k' ∧ T k' H3) :
    WT X (.Compare a [op, op'] [b, c] pos) σ H T := ofT (pt_chain pWO pWO pWE pWE pWE hm) h
/-! ### not in a written dict -/
theorem op_kNotIn : OpR X (compareOp .NotIn) (fun x y H Q => ∃ z p v, x = .str z ∧ y = .ref p ∧ KDct X.K X.w p z v ∧ (p == sysModules) = false ∧ Q (.bl false) H) := by
  intro pins s σ H x y v u Q I rx ry h
  obtain ⟨z, p, r, rfl, rfl, ⟨es, n, u0, hl, hk, e, ru⟩, hd, q⟩ := h
  obtain ⟨t, rfl⟩ := rx
  obtain rfl : u = Value.ref p := ry
  have hm := PySem.W.mapOf_K (prog := X.prog) (w := X.w) I.kIn hl hk
  refine wpAny_notIn_of (strKind_is X.prog X.w z t) hd hm ?_
  rw [PySem.W.find_K hl e]
  exact ⟨.bl false, H, I.tok _, rfl, q⟩
theorem o_kNotIn (C : Ctx X m N sc k) {z : Str} {p : Addr} {v : V} (h : KDct m.K m.w p z v) (hd : (p == sysModules) = false) (q : Q (.bl false) H) : WO X (compareOp .NotIn) (.str z) (.ref p) H Q := by
  obtain rfl := C.hm
  exact ofO op_kNotIn ⟨z, p, v, rfl, rfl, h, hd, q⟩
/-! ### a dict of scalars -/
theorem w_dnew (h : ∀ p, H p = none → Q (.ref p) (upd H p (.dK []))) : WE X (.Dict [] [] pos) σ H Q := ofE pe_dnewK h
theorem op_dNotIn (hu : X.A.units + 1 < cLine) : OpR X (compareOp .NotIn) (fun x y H Q => ∃ a o, y = .ref a ∧ DGet H a x o ∧ Q (.bl (!o.isSome)) H) := by
  intro pins s σ H x y v u Q I rx ry h
  obtain ⟨a, o, rfl, g, q⟩ := h
  obtain rfl : u = Value.ref a := ry
  exact d_notIn hu I g rx fun s3 I3 => ⟨.bl (!o.isSome), H, I3, rfl, q⟩
theorem units1 (C : Ctx X m N sc k) : X.A.units + 1 < cLine := by have := C.room.units; omega
theorem o_dNotIn (C : Ctx X m N sc k) {y : Key} {p : Addr} {kvs : List (Key × V)} (h : H p = some (.dK kvs)) (q : Q (.bl (!(valV kvs y).isSome)) H) : WO X (compareOp .NotIn) (kV y) (.ref p) H Q := ofO (op_dNotIn (units1 C)) ⟨p, _, rfl, DGet.k h, q⟩
theorem ws_dput (C : Ctx X m N sc k) {D : Ends} {o i value : Expr} {pos' : Pos} (hs : swapsWith value (some (.Subscript o i pos')) pos.line X.env = pure false)
    (h : WE X value σ H fun v H1 => WE X o σ H1 fun x H2 => WE X i σ H2 fun y H3 => ∃ a H4, x = .ref a ∧ DPut H3 a y v H4 ∧ D.nx σ H4) : WS X (.Assign [.Subscript o i pos'] value pos) D σ H := ofS (ps_dput (units1 C) pWE pWE pWE hs) h
/-! ### g[i] = v -/
theorem ws_lput (C : Ctx X m N sc k) {D : Ends} {o i value : Expr} {pos' : Pos} (hs : swapsWithSole [.Subscript o i pos'] value pos.line X.env = pure false) (hw : swappedStores [.Subscript o i pos'] value (envS sc) = pure none)
    (h1 : (assignEach [.Subscript o i pos'] X.env).map (·.2) = [assign (.Subscript o i pos') X.env])
    (ha : ∀ v, assign (.Subscript o i pos') X.env v = (do
      let ov ← holding [v] (eval o X.env)
      let iv ← holding [v, ov] (eval i X.env)
      standAt pos'
      holding [v, ov, iv] (setItem ov iv v)
      release [v, ov, iv] []))
    (h : WE X value σ H fun v H1 => WE X o σ H1 fun x H2 => WE X i σ H2 fun y H3 => ∃ p xs k j, x = .ref p ∧ y = .int k ∧ H3 p = some (.lst xs) ∧ ixN xs.length k = some j ∧ D.nx σ (upd H3 p (.lst (xs.set j v)))) : WS X (.Assign [.Subscript o i pos'] value pos) D σ H :=
  ws_asg hs (by rw [sw_scope C.hsc]; exact hw) h1 (WE.mono h fun v H' q => ofG (pg_sub pWE pWE set_list ha) q)
/-! ### ** of a wide base -/
theorem op_powX : OpR X (binaryOp .Pow) (rI (fun i j => 0 ≤ j ∧ (Builtin.Int.intBits i : Int) * j ≤ 2 ^ 27) fun i j => .int (i ^ j.toNat)) := opI fun _ _ _ _ _ _ _ hc q => pow_int hc.1 hc.2 q
theorem o_pow {i j : Int} (h : 0 ≤ j ∧ (Builtin.Int.intBits i : Int) * j ≤ 2 ^ 27) (q : Q (.int (i ^ j.toNat)) H) : WO X (binaryOp .Pow) (.int i) (.int j) H Q := ofO op_powX ⟨i, j, rfl, rfl, h, q⟩
/-! ### methods by name -/
theorem w_app (C : Ctx X m N sc k) {o : Expr} {apos cpos : Pos}
    (hbase : attributeBase o "append" X.env (eval o X.env) = eval o X.env)
    (hfew : ((backTo cpos (starEach [e] X.env)).all (fun x => !x.1) && (backToKw cpos (keywordEach [] X.env)).all (fun x => x.1.isSome)
      && decide ([e].length + ([] : List Keyword).length + (if ([] : List Keyword).isEmpty then 0 else 1) < 30)) = true)
    (hline : (apos.endLine == cpos.line) = true) (hs : starEach [e] X.env = (false, eval e X.env) :: starEach [] X.env) (hplain : (backTo cpos (starEach [] X.env)).any (·.1) = false)
    (h : WE X o σ H fun x H1 => ∃ l ys, x = .ref l ∧ H1 l = some (.lst ys) ∧ WE X e σ H1 fun y H2 => ∃ xs, H2 l = some (.lst xs) ∧ xs.length < sizeLine ∧ Q .non (upd H2 l (.lst (xs ++ [y])))) : WE X (.Call (.Attribute o "append" apos) [e] [] cpos) σ H Q := by
  refine w_bm C PySem.F.plainAttrs_list slot_list_append PySem.F.type_list_append hbase hfew hline hs hplain (WE.mono h fun x H1 ⟨l, ys, ex, h1, q⟩ => ?_)
  subst ex
  refine ⟨?_, w_acons hs (WE.mono q fun y H2 ⟨xs, h2, hl, q2⟩ => w_anil ?_)⟩
  · exact .inl ⟨rfl, ys, SqL.of h1⟩
  · exact m_append h2 hl q2
theorem w_str1 (C : Ctx X m N sc k) {name : Str} {id : String} (slot : Slot "str" name id) (hty : typeOf (.builtin id) = pure (.type "method_descriptor")) {o : Expr} {apos cpos : Pos}
    (hbase : attributeBase o name X.env (eval o X.env) = eval o X.env)
    (hfew : ((backTo cpos (starEach [e] X.env)).all (fun x => !x.1) && (backToKw cpos (keywordEach [] X.env)).all (fun x => x.1.isSome)
      && decide ([e].length + ([] : List Keyword).length + (if ([] : List Keyword).isEmpty then 0 else 1) < 30)) = true)
    (hline : (apos.endLine == cpos.line) = true) (hs : starEach [e] X.env = (false, eval e X.env) :: starEach [] X.env) (hplain : (backTo cpos (starEach [] X.env)).any (·.1) = false)
    (h : WE X o σ H fun x H1 => ∃ z, x = .str z ∧ WE X e σ H1 fun y H2 => WM X id (.str z) [y] H2 Q) : WE X (.Call (.Attribute o name apos) [e] [] cpos) σ H Q := by
  refine w_bm C PySem.F.plainAttrs_str slot hty hbase hfew hline hs hplain (WE.mono h fun x H1 ⟨z, ex, q⟩ => ?_)
  subst ex
  exact ⟨rfl, w_acons hs (WE.mono q fun y H2 q2 => w_anil q2)⟩
theorem w_rstrip (C : Ctx X m N sc k) {o : Expr} {apos cpos : Pos}
    (hbase : attributeBase o "rstrip" X.env (eval o X.env) = eval o X.env)
    (hfew : ((backTo cpos (starEach [e] X.env)).all (fun x => !x.1) && (backToKw cpos (keywordEach [] X.env)).all (fun x => x.1.isSome)
      && decide ([e].length + ([] : List Keyword).length + (if ([] : List Keyword).isEmpty then 0 else 1) < 30)) = true)
    (hline : (apos.endLine == cpos.line) = true) (hs : starEach [e] X.env = (false, eval e X.env) :: starEach [] X.env) (hplain : (backTo cpos (starEach [] X.env)).any (·.1) = false)
    (h : WE X o σ H fun x H1 => ∃ z, x = .str z ∧ WE X e σ H1 fun y H2 => ∃ z2, y = .str z2 ∧ z.length ≤ sizeLine ∧ Q (.str (Txt.rstripChars z z2)) H2) : WE X (.Call (.Attribute o "rstrip" apos) [e] [] cpos) σ H Q :=
  w_str1 C PySem.F.slot_str_rstrip PySem.F.type_str_rstrip hbase hfew hline hs hplain (WE.mono h fun x H1 ⟨z, ex, q⟩ => ⟨z, ex, WE.mono q fun y H2 ⟨z2, ey, hl, q2⟩ => by subst ey; exact m_rstrip hl q2⟩)
theorem w_strip (C : Ctx X m N sc k) {o : Expr} {apos cpos : Pos}
    (hbase : attributeBase o "strip" X.env (eval o X.env) = eval o X.env)
    (hfew : ((backTo cpos (starEach [e] X.env)).all (fun x => !x.1) && (backToKw cpos (keywordEach [] X.env)).all (fun x => x.1.isSome)
      && decide ([e].length + ([] : List Keyword).length + (if ([] : List Keyword).isEmpty then 0 else 1) < 30)) = true)
    (hline : (apos.endLine == cpos.line) = true) (hs : starEach [e] X.env = (false, eval e X.env) :: starEach [] X.env) (hplain : (backTo cpos (starEach [] X.env)).any (·.1) = false)
    (h : WE X o σ H fun x H1 => ∃ z, x = .str z ∧ WE X e σ H1 fun y H2 => ∃ z2, y = .str z2 ∧ z.length ≤ sizeLine ∧ Q (.str (Txt.stripChars z z2)) H2) : WE X (.Call (.Attribute o "strip" apos) [e] [] cpos) σ H Q :=
  w_str1 C PySem.F.slot_str_strip PySem.F.type_str_strip hbase hfew hline hs hplain (WE.mono h fun x H1 ⟨z, ex, q⟩ => ⟨z, ex, WE.mono q fun y H2 ⟨z2, ey, hl, q2⟩ => by subst ey; exact m_strip hl q2⟩)
/-! ### the module's constants -/
end
structure Cs (m : Md) : Prop where
  FIGURES : Gc m "FIGURES" (.str "0123456789")
  LETTERS : Gc m "LETTERS" (.str "abcdefghijklmnopqrstuvwxyz")
  MOST_LETTERS : Gc m "MOST_LETTERS" (.int 6)
  MOST_FIGURES : Gc m "MOST_FIGURES" (.int 3)
  SIZES : ∃ q, Gc m "SIZES" (.ref q) ∧ (q == sysModules) = false ∧ KDct m.K m.w q "told" (.int 2) ∧ KDct m.K m.w q "nothing" (.int 3) ∧ KDct m.K m.w q "turned" (.int 2) ∧ KDct m.K m.w q "joined" (.int 3) ∧ KDct m.K m.w q "met" (.int 3) ∧ KDct m.K m.w q "less" (.int 3)
/-! ### names that occur -/
def nm5 : List Str := ["a", "b", "c", "d", "x"]
structure NmOk (z : Str) : Prop where
  r : Txt.rstripChars z "0123456789" = z
  l : z.length = 1
  s : Txt.stripChars z "abcdefghijklmnopqrstuvwxyz" = ""
  c : cutS z (some 1) none = ""
theorem nm5_ok {z : Str} (h : z ∈ nm5) : NmOk z := by
  simp only [nm5, List.mem_cons, List.not_mem_nil, or_false] at h
  rcases h with rfl | rfl | rfl | rfl | rfl <;> exact ⟨by decide +kernel, by decide +kernel, by decide +kernel, by decide +kernel⟩
/-! # KW6 -/
section
variable {X : Cx} {m : Md} {σ : L2.St} {H : Hp} {tg iter elt : Expr} {ifs : List Expr} {scope : Scope} {pos : Pos} {N : List Str} {sc : Scope} {k : Nat}
theorem Same.put {H H1 : Hp} {D : Addr} {o : HO} (s : Same H H1) (n : H D = none) : Same H (upd H1 D o) := fun a u e => by
  have ne : a ≠ D := fun q => by rw [q, n] at e; cases e
  rw [upd_ne ne]; exact s a u e
theorem Same.new {H H1 : Hp} {D : Addr} {o : HO} (s : Same H H1) (n : H1 D = none) : Same H (upd H1 D o) := Same.put s (Same.free s n)
/-- a turn: the name is set, the tests are asked, the element's value goes to Y -/
def TurnV (X : Cx) (tg elt : Expr) (ifs : List Expr) (scope : Scope) (vs : List Nat) (x : V) (σ : L2.St) (H : Hp) (Y : Option V → Hp → Prop) : Prop :=
  ∃ σ2, wipe σ2 vs = wipe σ vs ∧ (∀ X', Blk X X' scope → ∀ R : L2.St → Hp → Prop, R σ2 H → WG X' tg x (wipe σ vs) H R) ∧
    ∀ X', Blk X X' scope → WTs X' ifs σ2 H fun b H3 => if b = true then (∀ X3, Blk X X3 scope → WE X3 elt σ2 H3 fun y H4 => Y (some y) H4) else Y none H3
theorem turn1_of {vs : List Nat} {x : V} {D : Addr} {acc : List V} {R : Hp → List V → Prop} {Y : Option V → Hp → Prop} (h : TurnV X tg elt ifs scope vs x σ H Y) (hn : ∀ H3, Y none H3 → R H3 acc)
    (hy : ∀ y H4, Y (some y) H4 → H4 D = some (.lst acc) ∧ acc.length < sizeLine ∧ R (upd H4 D (.lst (acc ++ [y]))) (acc ++ [y])) : Turn1 X tg elt ifs scope vs x σ H D acc R := by
  obtain ⟨σ2, hw, hg, ht⟩ := h
  refine ⟨σ2, hw, hg, _, ht, fun b H3 q => ?_⟩
  cases b with
  | false => exact hn _ q
  | true => exact ⟨fun y H4 => Y (some y) H4, q, hy⟩
/-- the target a name, at the place i -/
theorem turn_nm {i : Nat} {y : Str} {p : Pos} {vs : List Nat} {x : V} {Y : Option V → Hp → Prop} (C : Ctx X m N sc k) (hw : wipe (σ.set i (some x)) vs = wipe σ vs) (hs : (wipe σ vs).set i (some x) = σ.set i (some x)) (hn : N[i]? = some y) (hv : lcB (relS scope sc) y = true)
    (h : ∀ X', Blk X X' scope → WTs X' ifs (σ.set i (some x)) H fun b H3 => if b = true then (∀ X3, Blk X X3 scope → WE X3 elt (σ.set i (some x)) H3 fun y H4 => Y (some y) H4) else Y none H3) : TurnV X (.Name y p) elt ifs scope vs x σ H Y :=
  ⟨σ.set i (some x), hw, fun X' B R r => wg_name ((B.ctx C).tgl hn hv) (by rw [hs]; exact r), h⟩
/-- flat values: P speaks of the turn and of what is made -/
theorem lcF_L (own : List (Str × Nat)) {Q : VK} (C : Ctx X m N sc k) (ok : blkC N sc scope own = true) (hs : ∀ x, foldedSetIterable iter X.env x = pure x)
    (h : WE X iter σ H fun v H1 => ∃ a xs, v = .ref a ∧ H1 a = some (.lst xs) ∧ xs.length ≤ sizeLine ∧ ∃ P : Nat → List V → Prop, P 0 [] ∧
      (∀ i x H2 acc, xs[i]? = some x → Same H1 H2 → P i acc → TurnV X tg elt ifs scope (own.map (·.2)) x σ H2 fun o H3 => Same H2 H3 ∧ P (i + 1) (acc ++ o.toList)) ∧
      ∀ D H2 acc, H1 D = none → Same H1 H2 → H2 D = some (.lst acc) → P xs.length acc → Q (.ref D) H2) : WE X (.ListComp elt [⟨tg, iter, ifs, 0⟩] scope pos) σ H Q := by
  refine w_lcL own C ok hs (WE.mono h ?_)
  rintro v H1 ⟨a, xs, rfl, ha, hl, P, p0, pt, pd⟩
  refine ⟨a, xs, rfl, SqL.of ha, fun D nD => ⟨fun i H acc => Same H1 H ∧ H D = some (.lst acc) ∧ acc.length ≤ i ∧ P i acc, ⟨sameNew nD, upd_same, Nat.le_refl _, p0⟩, fun i H acc r => SqL.of (r.1 _ _ ha), fun i x H acc hx r => ?_, fun H acc r => pd D H acc nD r.1 r.2.1 r.2.2.2⟩⟩
  have hi : i < xs.length := (List.getElem?_eq_some_iff.mp hx).1
  refine turn1_of (pt i x H acc hx r.1 r.2.2.2) (fun H3 q => ⟨Same.trans r.1 q.1, q.1 _ _ r.2.1, Nat.le_succ_of_le r.2.2.1, by have := q.2; rwa [Option.toList_none, List.append_nil] at this⟩) fun y H4 q => ?_
  exact ⟨q.1 _ _ r.2.1, by have := r.2.2.1; omega, Same.put (Same.trans r.1 q.1) nD, upd_same, by rw [List.length_append]; exact Nat.succ_le_succ r.2.2.1, q.2⟩
theorem lcF_T (own : List (Str × Nat)) {Q : VK} (C : Ctx X m N sc k) (ok : blkC N sc scope own = true) (hs : ∀ x, foldedSetIterable iter X.env x = pure x)
    (h : WE X iter σ H fun v H1 => ∃ a xs, v = .ref a ∧ H1 a = some (.tup xs) ∧ xs.length ≤ sizeLine ∧ ∃ P : Nat → List V → Prop, P 0 [] ∧
      (∀ i x H2 acc, xs[i]? = some x → Same H1 H2 → P i acc → TurnV X tg elt ifs scope (own.map (·.2)) x σ H2 fun o H3 => Same H2 H3 ∧ P (i + 1) (acc ++ o.toList)) ∧
      ∀ D H2 acc, H1 D = none → Same H1 H2 → H2 D = some (.lst acc) → P xs.length acc → Q (.ref D) H2) : WE X (.ListComp elt [⟨tg, iter, ifs, 0⟩] scope pos) σ H Q := by
  refine w_lcT own C ok hs (WE.mono h ?_)
  rintro v H1 ⟨a, xs, rfl, ha, hl, P, p0, pt, pd⟩
  refine ⟨a, xs, rfl, SqT.of ha, fun D nD => ⟨fun i H acc => Same H1 H ∧ H D = some (.lst acc) ∧ acc.length ≤ i ∧ P i acc, ⟨sameNew nD, upd_same, Nat.le_refl _, p0⟩, fun i H acc r => SqT.of (r.1 _ _ ha), fun i x H acc hx r => ?_, fun H acc r => pd D H acc nD r.1 r.2.1 r.2.2.2⟩⟩
  have hi : i < xs.length := (List.getElem?_eq_some_iff.mp hx).1
  refine turn1_of (pt i x H acc hx r.1 r.2.2.2) (fun H3 q => ⟨Same.trans r.1 q.1, q.1 _ _ r.2.1, Nat.le_succ_of_le r.2.2.1, by have := q.2; rwa [Option.toList_none, List.append_nil] at this⟩) fun y H4 q => ?_
  exact ⟨q.1 _ _ r.2.1, by have := r.2.2.1; omega, Same.put (Same.trans r.1 q.1) nD, upd_same, by rw [List.length_append]; exact Nat.succ_le_succ r.2.2.1, q.2⟩
theorem lcF_R (own : List (Str × Nat)) {Q : VK} {a : Expr} {p pos2 : Pos} (C : Ctx X m N sc k) (hg : Gl X "range") (hm : m.mg "range" = none) (hsa : starEach [a] X.env = [(false, eval a X.env)]) (ok : blkC N sc scope own = true)
    (hs : ∀ x, foldedSetIterable (.Call (.Name "range" p) [a] [] pos2) X.env x = pure x)
    (h : WE X a σ H fun v H1 => ∃ n : Nat, v = .int n ∧ n ≤ sizeLine ∧ ∃ P : Nat → List V → Prop, P 0 [] ∧
      (∀ i H2 acc, i < n → Same H1 H2 → P i acc → TurnV X tg elt ifs scope (own.map (·.2)) (.int (i : Nat)) σ H2 fun o H3 => Same H2 H3 ∧ P (i + 1) (acc ++ o.toList)) ∧
      ∀ D H2 acc, H1 D = none → Same H1 H2 → H2 D = some (.lst acc) → P n acc → Q (.ref D) H2) : WE X (.ListComp elt [⟨tg, .Call (.Name "range" p) [a] [] pos2, ifs, 0⟩] scope pos) σ H Q := by
  refine w_lcR own C hg hm hsa ok hs (WE.mono h ?_)
  rintro v H1 ⟨n, rfl, hl, P, p0, pt, pd⟩
  have hl2 : n ≤ 16777216 := hl
  refine ⟨n, rfl, by omega, by omega, fun D nD => ⟨fun i H acc => Same H1 H ∧ H D = some (.lst acc) ∧ acc.length ≤ i ∧ P i acc, ⟨sameNew nD, upd_same, Nat.le_refl _, p0⟩, fun i H acc hi r => ?_, fun H acc r => pd D H acc nD r.1 r.2.1 r.2.2.2⟩⟩
  rw [Int.toNat_natCast] at hi
  refine turn1_of (pt i H acc hi r.1 r.2.2.2) (fun H3 q => ⟨Same.trans r.1 q.1, q.1 _ _ r.2.1, Nat.le_succ_of_le r.2.2.1, by have := q.2; rwa [Option.toList_none, List.append_nil] at this⟩) fun y H4 q => ?_
  exact ⟨q.1 _ _ r.2.1, by have := r.2.2.1; omega, Same.put (Same.trans r.1 q.1) nD, upd_same, by rw [List.length_append]; exact Nat.succ_le_succ r.2.2.1, q.2⟩
/-! ### tuples of scalars -/
def Tups (H : Hp) (rs : List Nat) (ts : List (List V)) : Prop := Paired (fun r t => H r = some (.tup t)) rs ts
theorem Tups.same {H H' : Hp} {rs : List Nat} {ts : List (List V)} (h : Tups H rs ts) (s : Same H H') : Tups H' rs ts := by
  induction h with
  | nil => exact .nil
  | cons a b ih => exact .cons (s _ _ a) ih
theorem Tups.put {H : Hp} {rs : List Nat} {ts : List (List V)} {D : Addr} {ys : List V} {o : HO} (h : Tups H rs ts) (hd : H D = some (.lst ys)) : Tups (upd H D o) rs ts := by
  induction h with
  | nil => exact .nil
  | cons a b ih =>
    refine .cons ?_ ih
    rw [upd_ne (fun e => by rw [e, hd] at a; cases a)]
    exact a
theorem Tups.snoc {H : Hp} {rs : List Nat} {ts : List (List V)} {r : Nat} {t : List V} (h : Tups H rs ts) (e : H r = some (.tup t)) : Tups H (rs ++ [r]) (ts ++ [t]) := by
  induction h with
  | nil => exact .cons e .nil
  | cons a b ih => exact .cons a ih
theorem Tups.len {H : Hp} {rs : List Nat} {ts : List (List V)} (h : Tups H rs ts) : rs.length = ts.length := by
  induction h with
  | nil => rfl
  | cons a b ih => rw [List.length_cons, List.length_cons, ih]
theorem Tups.get {H : Hp} {rs : List Nat} {ts : List (List V)} (h : Tups H rs ts) : ∀ {i : Nat} {t : List V}, ts[i]? = some t → ∃ r, rs[i]? = some r ∧ H r = some (.tup t) := by
  induction h with
  | nil => intro i t e; cases e
  | cons a b ih =>
    intro i t e
    cases i with
    | zero => cases e; exact ⟨_, rfl, a⟩
    | succ i => exact ih e
theorem Tups.app {H : Hp} {rs rs2 : List Nat} {ts ts2 : List (List V)} (h : Tups H rs ts) (h2 : Tups H rs2 ts2) : Tups H (rs ++ rs2) (ts ++ ts2) := by
  induction h with
  | nil => exact h2
  | cons a b ih => exact .cons a ih
/-- a list of tuples -/
def LT (H : Hp) (p : Addr) (ts : List (List V)) : Prop := ∃ rs, H p = some (.lst (rs.map V.ref)) ∧ Tups H rs ts
theorem LT.same {H H' : Hp} {p : Addr} {ts : List (List V)} (h : LT H p ts) (s : Same H H') : LT H' p ts := by
  obtain ⟨rs, a, b⟩ := h
  exact ⟨rs, s _ _ a, b.same s⟩
theorem LT.lst {H : Hp} {p : Addr} {ts : List (List V)} (h : LT H p ts) : ∃ xs, H p = some (.lst xs) ∧ xs.length = ts.length := by
  obtain ⟨rs, a, b⟩ := h
  exact ⟨_, a, by rw [List.length_map, b.len]⟩
theorem LT.at {H : Hp} {p : Addr} {ts : List (List V)} {i : Nat} {t : List V} (h : LT H p ts) (e : ts[i]? = some t) : ∃ xs r, H p = some (.lst xs) ∧ xs.length = ts.length ∧ xs[i]? = some (.ref r) ∧ H r = some (.tup t) := by
  obtain ⟨rs, a, b⟩ := h
  obtain ⟨r, h1, h2⟩ := b.get e
  exact ⟨_, r, a, by rw [List.length_map, b.len], by rw [List.getElem?_map, h1]; rfl, h2⟩
theorem atI_nat {α : Type} {xs : List α} {i : Nat} {v : α} (h : xs[i]? = some v) : atI xs (i : Int) = some v := by
  have hi : i < xs.length := (List.getElem?_eq_some_iff.mp h).1
  unfold atI ixN
  rw [if_pos (Int.natCast_nonneg _), if_pos (by omega), Int.toNat_natCast]
  exact h
theorem atI_last {α : Type} {xs : List α} {v : α} (h : xs.getLast? = some v) : atI xs (-1) = some v := by
  rw [List.getLast?_eq_getElem?] at h
  have hi : xs.length - 1 < xs.length := (List.getElem?_eq_some_iff.mp h).1
  unfold atI ixN
  rw [if_neg (by decide), if_pos (by omega)]
  show xs[((-1 : Int) + (xs.length : Nat)).toNat]? = some v
  rw [show ((-1 : Int) + (xs.length : Nat)).toNat = xs.length - 1 by omega]
  exact h
/-- tuples made -/
theorem lcT_L (own : List (Str × Nat)) {Q : VK} (C : Ctx X m N sc k) (ok : blkC N sc scope own = true) (hs : ∀ x, foldedSetIterable iter X.env x = pure x)
    (h : WE X iter σ H fun v H1 => ∃ a xs, v = .ref a ∧ H1 a = some (.lst xs) ∧ xs.length ≤ sizeLine ∧ ∃ P : Nat → List (List V) → Prop, P 0 [] ∧
      (∀ i x H2 ts, xs[i]? = some x → Same H1 H2 → P i ts → TurnV X tg elt ifs scope (own.map (·.2)) x σ H2 fun o H3 => Same H2 H3 ∧ ∃ r t, o = some (.ref r) ∧ H3 r = some (.tup t) ∧ P (i + 1) (ts ++ [t])) ∧
      ∀ D H2 ts, H1 D = none → Same H1 H2 → LT H2 D ts → P xs.length ts → Q (.ref D) H2) : WE X (.ListComp elt [⟨tg, iter, ifs, 0⟩] scope pos) σ H Q := by
  refine w_lcL own C ok hs (WE.mono h ?_)
  rintro v H1 ⟨a, xs, rfl, ha, hl, P, p0, pt, pd⟩
  refine ⟨a, xs, rfl, SqL.of ha, fun D nD => ⟨fun i H acc => Same H1 H ∧ H D = some (.lst acc) ∧ acc.length ≤ i ∧ ∃ rs ts, acc = rs.map V.ref ∧ Tups H rs ts ∧ P i ts, ⟨sameNew nD, upd_same, Nat.le_refl _, [], [], rfl, .nil, p0⟩, fun i H acc r => SqL.of (r.1 _ _ ha), fun i x H acc hx r => ?_, fun H acc r => ?_⟩⟩
  · have hi : i < xs.length := (List.getElem?_eq_some_iff.mp hx).1
    obtain ⟨r1, r2, r3, rs, ts, rfl, tt, pp⟩ := r
    refine turn1_of (pt i x H ts hx r1 pp) (fun H3 ⟨_, _, _, e, _⟩ => nomatch e) fun y H4 ⟨q1, r, t, e, ht, p2⟩ => ?_
    cases e
    refine ⟨q1 _ _ r2, by omega, Same.put (Same.trans r1 q1) nD, upd_same, by rw [List.length_append]; exact Nat.succ_le_succ r3, rs ++ [r], ts ++ [t], by rw [List.map_append]; rfl, ?_, p2⟩
    exact ((tt.same q1).snoc ht).put (q1 _ _ r2)
  · obtain ⟨r1, r2, r3, rs, ts, rfl, tt, pp⟩ := r
    exact pd D H ts nD r1 ⟨rs, r2, tt⟩ pp
theorem lcT_R (own : List (Str × Nat)) {Q : VK} {a : Expr} {p pos2 : Pos} (C : Ctx X m N sc k) (hg : Gl X "range") (hm : m.mg "range" = none) (hsa : starEach [a] X.env = [(false, eval a X.env)]) (ok : blkC N sc scope own = true)
    (hs : ∀ x, foldedSetIterable (.Call (.Name "range" p) [a] [] pos2) X.env x = pure x)
    (h : WE X a σ H fun v H1 => ∃ n : Nat, v = .int n ∧ n ≤ sizeLine ∧ ∃ P : Nat → List (List V) → Prop, P 0 [] ∧
      (∀ i H2 ts, i < n → Same H1 H2 → P i ts → TurnV X tg elt ifs scope (own.map (·.2)) (.int (i : Nat)) σ H2 fun o H3 => Same H2 H3 ∧ ∃ r t, o = some (.ref r) ∧ H3 r = some (.tup t) ∧ P (i + 1) (ts ++ [t])) ∧
      ∀ D H2 ts, H1 D = none → Same H1 H2 → LT H2 D ts → P n ts → Q (.ref D) H2) : WE X (.ListComp elt [⟨tg, .Call (.Name "range" p) [a] [] pos2, ifs, 0⟩] scope pos) σ H Q := by
  refine w_lcR own C hg hm hsa ok hs (WE.mono h ?_)
  rintro v H1 ⟨n, rfl, hl, P, p0, pt, pd⟩
  have hl2 : n ≤ 16777216 := hl
  refine ⟨n, rfl, by omega, by omega, fun D nD => ⟨fun i H acc => Same H1 H ∧ H D = some (.lst acc) ∧ acc.length ≤ i ∧ ∃ rs ts, acc = rs.map V.ref ∧ Tups H rs ts ∧ P i ts, ⟨sameNew nD, upd_same, Nat.le_refl _, [], [], rfl, .nil, p0⟩, fun i H acc hi r => ?_, fun H acc r => ?_⟩⟩
  · rw [Int.toNat_natCast] at hi
    obtain ⟨r1, r2, r3, rs, ts, rfl, tt, pp⟩ := r
    refine turn1_of (pt i H ts hi r1 pp) (fun H3 ⟨_, _, _, e, _⟩ => nomatch e) fun y H4 ⟨q1, r, t, e, ht, p2⟩ => ?_
    cases e
    refine ⟨q1 _ _ r2, by omega, Same.put (Same.trans r1 q1) nD, upd_same, by rw [List.length_append]; exact Nat.succ_le_succ r3, rs ++ [r], ts ++ [t], by rw [List.map_append]; rfl, ?_, p2⟩
    exact ((tt.same q1).snoc ht).put (q1 _ _ r2)
  · obtain ⟨r1, r2, r3, rs, ts, rfl, tt, pp⟩ := r
    exact pd D H ts nD r1 ⟨rs, r2, tt⟩ pp
theorem lcT_E (own : List (Str × Nat)) {Q : VK} {a : Expr} {p pos2 tpos : Pos} {elts : List Expr} {kk : Nat} (C : Ctx X m N sc k) (hg : Gl X "enumerate") (hm : m.mg "enumerate" = none) (hsa : starEach [a] X.env = [(false, eval a X.env)]) (ok : blkC N sc scope own = true)
    (hs : ∀ x, foldedSetIterable (.Call (.Name "enumerate" p) [a] [] pos2) X.env x = pure x)
    (h : WE X a σ H fun v H1 => ∃ a xs, v = .ref a ∧ H1 a = some (.lst xs) ∧ xs.length ≤ sizeLine ∧ ∃ P : Nat → List (List V) → Prop, P 0 [] ∧
      (∀ i x T H2 ts, xs[i]? = some x → Same H1 H2 → H2 T = some (.tup [.int (i : Nat), x]) → P i ts → TurnV X (.Tuple elts kk tpos) elt ifs scope (own.map (·.2)) (.ref T) σ H2 fun o H3 => Same H2 H3 ∧ ∃ r t, o = some (.ref r) ∧ H3 r = some (.tup t) ∧ P (i + 1) (ts ++ [t])) ∧
      ∀ D H2 ts, H1 D = none → Same H1 H2 → LT H2 D ts → P xs.length ts → Q (.ref D) H2) :
    WE X (.ListComp elt [⟨.Tuple elts kk tpos, .Call (.Name "enumerate" p) [a] [] pos2, ifs, 0⟩] scope pos) σ H Q := by
  refine w_lcE own C hg hm hsa ok hs (WE.mono h ?_)
  rintro v H1 ⟨b, xs, rfl, ha, hl, P, p0, pt, pd⟩
  refine ⟨b, xs, rfl, SqL.of ha, fun D nD => ⟨fun i H acc => Same H1 H ∧ H D = some (.lst acc) ∧ acc.length ≤ i ∧ ∃ rs ts, acc = rs.map V.ref ∧ Tups H rs ts ∧ P i ts, ⟨sameNew nD, upd_same, Nat.le_refl _, [], [], rfl, .nil, p0⟩, fun i H acc r => SqL.of (r.1 _ _ ha), fun i x H acc T hx r nT => ?_, fun H acc r => ?_⟩⟩
  · have hi : i < xs.length := (List.getElem?_eq_some_iff.mp hx).1
    obtain ⟨r1, r2, r3, rs, ts, rfl, tt, pp⟩ := r
    have s0 : Same H (upd H T (.tup [.int (i : Nat), x])) := sameNew nT
    refine turn1_of (pt i x T _ ts hx (Same.trans r1 s0) upd_same pp) (fun H3 ⟨_, _, _, e, _⟩ => nomatch e) fun y H4 ⟨q1, r, t, e, ht, p2⟩ => ?_
    cases e
    have q2 := Same.trans s0 q1
    refine ⟨q2 _ _ r2, by omega, Same.put (Same.trans r1 q2) nD, upd_same, by rw [List.length_append]; exact Nat.succ_le_succ r3, rs ++ [r], ts ++ [t], by rw [List.map_append]; rfl, ?_, p2⟩
    exact ((tt.same q2).snoc ht).put (q2 _ _ r2)
  · obtain ⟨r1, r2, r3, rs, ts, rfl, tt, pp⟩ := r
    exact pd D H ts nD r1 ⟨rs, r2, tt⟩ pp
theorem tups_map {α : Type} {f : α → List V} {H : Hp} {x : V} : ∀ {rs : List Nat} {ls : List α}, Tups H rs (ls.map f) → ∀ {i : Nat}, (rs.map V.ref)[i]? = some x → ∃ r l, x = .ref r ∧ ls[i]? = some l ∧ H r = some (.tup (f l)) := by
  intro rs ls h
  generalize e : ls.map f = ts at h
  induction h generalizing ls with
  | nil => intro i hx; cases hx
  | cons a b ih =>
    intro i hx
    cases ls with
    | nil => cases e
    | cons l ls =>
      cases e
      cases i with
      | zero => cases hx; exact ⟨_, l, rfl, rfl, a⟩
      | succ i => exact ih rfl hx
theorem dp_nil {K : PySem.W.Frag} {H : Hp} {p : Addr} (h : H p = some (.lst [])) : Dp K H (.ref p) (.list []) := .lst (SqL.of h) .nil
theorem o_eqNil (C : Ctx X m N sc k) {p q : Addr} {Q : VK} (hp : H p = some (.lst [])) (hq : H q = some (.lst [])) (h : Q (.bl true) H) : WO X (compareOp .Eq) (.ref p) (.ref q) H Q := o_eqD C (dp_nil hp) (dp_nil hq) rfl rfl h
/-! ### == of flat lists -/
theorem dpF {K : PySem.W.Frag} {H : Hp} : ∀ {ns : List Int}, DpAll K H (ns.map V.int) (ns.map PyData.int)
  | [] => .nil
  | n :: ns => .cons (.int n) dpF
theorem dp_ints {K : PySem.W.Frag} {H : Hp} {p : Addr} {ns : List Int} (h : H p = some (.lst (ns.map V.int))) : Dp K H (.ref p) (.list (ns.map PyData.int)) := .lst (SqL.of h) dpF
end
/-! # KW7 -/
/-! ## data of three floors: scalars, tuples of scalars, lists -/
def dV : V → PyData
  | .int i => .int i
  | .str z => .str z
  | .bl b => .bool b
  | _ => .none
def okV : V → Bool
  | .int _ => true
  | .str z => PyData.strOk z
  | .bl _ => true
  | .non => true
  | _ => false
abbrev tD (t : List V) : PyData := .tuple (t.map dV)
abbrev lD (t : List V) : PyData := .list (t.map dV)
abbrev ltD (ts : List (List V)) : PyData := .list (ts.map tD)
theorem dpV {K : PySem.W.Frag} {H : Hp} : ∀ {v : V}, okV v = true → Dp K H v (dV v)
  | .int i, _ => .int i
  | .str z, _ => .str z
  | .bl b, _ => .bl b
  | .non, _ => .non
  | .ref _, h => by cases h
  | .byt _, h => by cases h
  | .ty _, h => by cases h
  | .flt _, h => by cases h
theorem dpVs {K : PySem.W.Frag} {H : Hp} : ∀ {t : List V}, t.all okV = true → DpAll K H t (t.map dV)
  | [], _ => .nil
  | v :: t, h => by
    rw [List.all_cons, Bool.and_eq_true] at h
    exact .cons (dpV h.1) (dpVs h.2)
theorem dpT {K : PySem.W.Frag} {H : Hp} {p : Addr} {t : List V} (h : H p = some (.tup t)) (o : t.all okV = true) : Dp K H (.ref p) (tD t) := .tup (SqT.of h) (dpVs o)
theorem dpL {K : PySem.W.Frag} {H : Hp} {p : Addr} {t : List V} (h : H p = some (.lst t)) (o : t.all okV = true) : Dp K H (.ref p) (lD t) := .lst (SqL.of h) (dpVs o)
def okT (ts : List (List V)) : Bool := ts.all fun t => t.all okV
theorem dpTs {K : PySem.W.Frag} {H : Hp} {rs : List Nat} {ts : List (List V)} (h : Tups H rs ts) (o : okT ts = true) : DpAll K H (rs.map V.ref) (ts.map tD) := by
  induction h with
  | nil => exact .nil
  | cons a b ih =>
    unfold okT at o
    rw [List.all_cons, Bool.and_eq_true] at o
    exact .cons (dpT a o.1) (ih o.2)
theorem dpLT {K : PySem.W.Frag} {H : Hp} {p : Addr} {ts : List (List V)} (h : LT H p ts) (o : okT ts = true) : Dp K H (.ref p) (ltD ts) := by
  obtain ⟨rs, hp, tt⟩ := h
  exact .lst (SqL.of hp) (dpTs tt o)
theorem lay_V : ∀ {v : V}, okV v = true → (dV v).canLay0 = true ∧ (dV v).depth = 0
  | .int i, _ => by simp [dV, PyData.canLay0, PyData.depth]
  | .str z, h => by simp only [dV, PyData.canLay0, PyData.depth]; exact ⟨h, trivial⟩
  | .bl b, _ => by simp [dV, PyData.canLay0, PyData.depth]
  | .non, _ => by simp [dV, PyData.canLay0, PyData.depth]
  | .ref _, h => by cases h
  | .byt _, h => by cases h
  | .ty _, h => by cases h
  | .flt _, h => by cases h
theorem lay_Vs : ∀ {t : List V}, t.all okV = true → PyData.canLayAll0 (t.map dV) = true ∧ PyData.depthAll (t.map dV) = 0
  | [], _ => by simp [PyData.canLayAll0, PyData.depthAll]
  | v :: t, h => by
    rw [List.all_cons, Bool.and_eq_true] at h
    obtain ⟨a, b⟩ := lay_V h.1
    obtain ⟨c, d⟩ := lay_Vs h.2
    rw [List.map_cons, PyData.canLayAll0, PyData.depthAll, a, b, c, d]
    exact ⟨rfl, rfl⟩
theorem lay_T {t : List V} (h : t.all okV = true) : (tD t).canLay0 = true ∧ (tD t).depth = 1 := by
  obtain ⟨c, d⟩ := lay_Vs h
  rw [tD, PyData.canLay0, PyData.depth, c, d]
  exact ⟨rfl, rfl⟩
theorem lay_L {t : List V} (h : t.all okV = true) : (lD t).canLay0 = true ∧ (lD t).depth = 1 := by
  obtain ⟨c, d⟩ := lay_Vs h
  rw [lD, PyData.canLay0, PyData.depth, c, d]
  exact ⟨rfl, rfl⟩
theorem lay_Ts : ∀ {ts : List (List V)}, okT ts = true → PyData.canLayAll0 (ts.map tD) = true ∧ PyData.depthAll (ts.map tD) ≤ 1
  | [], _ => by simp [PyData.canLayAll0, PyData.depthAll]
  | t :: ts, h => by
    unfold okT at h
    rw [List.all_cons, Bool.and_eq_true] at h
    obtain ⟨a, b⟩ := lay_T h.1
    obtain ⟨c, d⟩ := lay_Ts (ts := ts) h.2
    rw [List.map_cons, PyData.canLayAll0, PyData.depthAll, a, b, c]
    exact ⟨rfl, Nat.max_le.mpr ⟨Nat.le_refl _, d⟩⟩
theorem lay_LT {ts : List (List V)} (h : okT ts = true) : (ltD ts).canLay0 = true ∧ (ltD ts).depth ≤ 2 := by
  obtain ⟨c, d⟩ := lay_Ts h
  rw [ltD, PyData.canLay0, PyData.depth, c]
  exact ⟨rfl, Nat.succ_le_succ d⟩
theorem sh_T {t : List V} (h : t.all okV = true) : SeqAt.shaped (tD t) = true := by
  obtain ⟨c, d⟩ := lay_T h
  rw [SeqAt.shaped, c, d]; rfl
theorem sh_L {t : List V} (h : t.all okV = true) : SeqAt.shaped (lD t) = true := by
  obtain ⟨c, d⟩ := lay_L h
  rw [SeqAt.shaped, c, d]; rfl
theorem sh_LT {ts : List (List V)} (h : okT ts = true) : SeqAt.shaped (ltD ts) = true := by
  obtain ⟨c, d⟩ := lay_LT h
  rw [SeqAt.shaped, c, decide_eq_true (by omega)]; rfl
/-! ### == tells equality -/
def intStr : V → Bool
  | .int _ => true
  | .str _ => true
  | _ => false
theorem eqv_V {v w : V} (hv : intStr v = true) (hw : intStr w = true) : PyData.eqv (dV v) (dV w) = decide (v = w) := by
  cases v with
  | int i =>
    cases w with
    | int j => exact (PySem.W.Datum.eqv (α := Int) i j).trans (decide_eq_decide.mpr ⟨fun e => by rw [e], fun e => by cases e; rfl⟩)
    | str z => rw [decide_eq_false (by intro e; cases e)]; simp [dV, PyData.eqv]
    | _ => cases hw
  | str z =>
    cases w with
    | int j => rw [decide_eq_false (by intro e; cases e)]; simp [dV, PyData.eqv]
    | str y => exact (PySem.W.Datum.eqv (α := Str) z y).trans (decide_eq_decide.mpr ⟨fun e => by rw [e], fun e => by cases e; rfl⟩)
    | _ => cases hw
  | _ => cases hv
theorem eqv_Vs : ∀ {t u : List V}, t.all intStr = true → u.all intStr = true → PyData.eqvAll (t.map dV) (u.map dV) = decide (t = u)
  | [], [], _, _ => by simp [PyData.eqvAll]
  | [], _ :: _, _, _ => by simp [PyData.eqvAll]
  | _ :: _, [], _, _ => by simp [PyData.eqvAll]
  | v :: t, w :: u, h, k => by
    rw [List.all_cons, Bool.and_eq_true] at h k
    rw [List.map_cons, List.map_cons, PyData.eqvAll, eqv_V h.1 k.1, eqv_Vs h.2 k.2, ← Bool.decide_and]
    exact decide_eq_decide.mpr (by rw [List.cons.injEq])
theorem eqv_T {t u : List V} (h : t.all intStr = true) (k : u.all intStr = true) : PyData.eqv (tD t) (tD u) = decide (t = u) := by
  rw [tD, tD, PyData.eqv]; exact eqv_Vs h k
theorem eqv_L {t u : List V} (h : t.all intStr = true) (k : u.all intStr = true) : PyData.eqv (lD t) (lD u) = decide (t = u) := by
  rw [lD, lD, PyData.eqv]; exact eqv_Vs h k
def isT (ts : List (List V)) : Bool := ts.all fun t => t.all intStr
theorem eqv_Ts : ∀ {ts us : List (List V)}, isT ts = true → isT us = true → PyData.eqvAll (ts.map tD) (us.map tD) = decide (ts = us)
  | [], [], _, _ => by simp [PyData.eqvAll]
  | [], _ :: _, _, _ => by simp [PyData.eqvAll]
  | _ :: _, [], _, _ => by simp [PyData.eqvAll]
  | t :: ts, u :: us, h, k => by
    unfold isT at h k
    rw [List.all_cons, Bool.and_eq_true] at h k
    rw [List.map_cons, List.map_cons, PyData.eqvAll, eqv_T h.1 k.1, eqv_Ts h.2 k.2, ← Bool.decide_and]
    exact decide_eq_decide.mpr (by rw [List.cons.injEq])
theorem eqv_LT {ts us : List (List V)} (h : isT ts = true) (k : isT us = true) : PyData.eqv (ltD ts) (ltD us) = decide (ts = us) := by
  rw [ltD, ltD, PyData.eqv]; exact eqv_Ts h k
section
variable {X : Cx} {m : Md} {H : Hp} {N : List Str} {sc : Scope} {k : Nat} {Q : VK}
theorem o_eqT (C : Ctx X m N sc k) {p q : Addr} {t u : List V} (hp : H p = some (.tup t)) (hq : H q = some (.tup u)) (o1 : t.all okV = true) (o2 : u.all okV = true) (i1 : t.all intStr = true) (i2 : u.all intStr = true) (h : Q (.bl (decide (t = u))) H) :
    WO X (compareOp .Eq) (.ref p) (.ref q) H Q := o_eqD C (dpT hp o1) (dpT hq o2) (sh_T o1) (sh_T o2) (by rw [eqv_T i1 i2]; exact h)
theorem o_neT (C : Ctx X m N sc k) {p q : Addr} {t u : List V} (hp : H p = some (.tup t)) (hq : H q = some (.tup u)) (o1 : t.all okV = true) (o2 : u.all okV = true) (i1 : t.all intStr = true) (i2 : u.all intStr = true) (h : Q (.bl (!decide (t = u))) H) :
    WO X (compareOp .NotEq) (.ref p) (.ref q) H Q := o_neD C (dpT hp o1) (dpT hq o2) (sh_T o1) (sh_T o2) (by rw [eqv_T i1 i2]; exact h)
theorem o_eqL (C : Ctx X m N sc k) {p q : Addr} {t u : List V} (hp : H p = some (.lst t)) (hq : H q = some (.lst u)) (o1 : t.all okV = true) (o2 : u.all okV = true) (i1 : t.all intStr = true) (i2 : u.all intStr = true) (h : Q (.bl (decide (t = u))) H) :
    WO X (compareOp .Eq) (.ref p) (.ref q) H Q := o_eqD C (dpL hp o1) (dpL hq o2) (sh_L o1) (sh_L o2) (by rw [eqv_L i1 i2]; exact h)
theorem o_neL (C : Ctx X m N sc k) {p q : Addr} {t u : List V} (hp : H p = some (.lst t)) (hq : H q = some (.lst u)) (o1 : t.all okV = true) (o2 : u.all okV = true) (i1 : t.all intStr = true) (i2 : u.all intStr = true) (h : Q (.bl (!decide (t = u))) H) :
    WO X (compareOp .NotEq) (.ref p) (.ref q) H Q := o_neD C (dpL hp o1) (dpL hq o2) (sh_L o1) (sh_L o2) (by rw [eqv_L i1 i2]; exact h)
theorem o_eqLT (C : Ctx X m N sc k) {p q : Addr} {ts us : List (List V)} (hp : LT H p ts) (hq : LT H q us) (o1 : okT ts = true) (o2 : okT us = true) (i1 : isT ts = true) (i2 : isT us = true) (h : Q (.bl (decide (ts = us))) H) :
    WO X (compareOp .Eq) (.ref p) (.ref q) H Q := o_eqD C (dpLT hp o1) (dpLT hq o2) (sh_LT o1) (sh_LT o2) (by rw [eqv_LT i1 i2]; exact h)
theorem o_neLT (C : Ctx X m N sc k) {p q : Addr} {ts us : List (List V)} (hp : LT H p ts) (hq : LT H q us) (o1 : okT ts = true) (o2 : okT us = true) (i1 : isT ts = true) (i2 : isT us = true) (h : Q (.bl (!decide (ts = us))) H) :
    WO X (compareOp .NotEq) (.ref p) (.ref q) H Q := o_neD C (dpLT hp o1) (dpLT hq o2) (sh_LT o1) (sh_LT o2) (by rw [eqv_LT i1 i2]; exact h)
theorem LT.snoc {H : Hp} {p r : Addr} {ts : List (List V)} {ys : List V} {t : List V} (h : LT H p ts) (e : H p = some (.lst ys)) (hr : H r = some (.tup t)) : LT (upd H p (.lst (ys ++ [.ref r]))) p (ts ++ [t]) := by
  obtain ⟨rs, a, b⟩ := h
  have e2 : ys = rs.map V.ref := by rw [e] at a; cases a; rfl
  subst e2
  exact ⟨rs ++ [r], by rw [List.map_append]; exact upd_same, (b.snoc hr).put e⟩
theorem drop_step {α : Type} {xs : List α} {i : Nat} {x : α} (h : xs[i]? = some x) : xs.drop i = x :: xs.drop (i + 1) := by
  obtain ⟨hi, e⟩ := List.getElem?_eq_some_iff.mp h
  rw [List.drop_eq_getElem_cons hi, e]
theorem LT.last {H : Hp} {p : Addr} {ts : List (List V)} {t : List V} (h : LT H p ts) (e : ts.getLast? = some t) : ∃ xs r, H p = some (.lst xs) ∧ xs.length = ts.length ∧ xs.getLast? = some (.ref r) ∧ H r = some (.tup t) := by
  rw [List.getLast?_eq_getElem?] at e
  obtain ⟨rs, a, b⟩ := h
  obtain ⟨r, h1, h2⟩ := b.get e
  refine ⟨_, r, a, by rw [List.length_map, b.len], ?_, h2⟩
  rw [List.getLast?_eq_getElem?, List.length_map, b.len, List.getElem?_map, h1]
  rfl
theorem LT.at2 {H : Hp} {p : Addr} {ts : List (List V)} {i j : Nat} {t u : List V} (h : LT H p ts) (e : ts[i]? = some t) (e2 : ts[j]? = some u) : ∃ xs r r2, H p = some (.lst xs) ∧ xs.length = ts.length ∧ xs[i]? = some (.ref r) ∧ H r = some (.tup t) ∧ xs[j]? = some (.ref r2) ∧ H r2 = some (.tup u) := by
  obtain ⟨rs, a, b⟩ := h
  obtain ⟨r, h1, h2⟩ := b.get e
  obtain ⟨r2, h3, h4⟩ := b.get e2
  exact ⟨_, r, r2, a, by rw [List.length_map, b.len], by rw [List.getElem?_map, h1]; rfl, h2, by rw [List.getElem?_map, h3]; rfl, h4⟩
theorem LT.nil {H : Hp} {p : Addr} (h : H p = some (.lst [])) : LT H p [] := ⟨[], h, .nil⟩
theorem nm5_str {z : Str} (h : z ∈ nm5) : PyData.strOk z = true := by
  simp only [nm5, List.mem_cons, List.not_mem_nil, or_false] at h
  rcases h with rfl | rfl | rfl | rfl | rfl <;> decide +kernel
end
/-! # MC0 -/
/-- nothing, and the products of x, x, x+1, x+1, x*x+x+1 -/
def domB : List Int := [0, 1, 2, 3, 4, 5, 6, 7, 9, 10, 12, 14, 18, 20, 27, 28, 36, 54, 108]
def Dom (hb : Bool) (b : Int) : Prop := if hb then b = 0 ∨ (0 < b ∧ b ∣ 2520) else b ∈ domB
structure LnOk (hb : Bool) (l : Ln) : Prop where
  n1 : l.one ∈ nm5
  n2 : l.other ∈ nm5
  ne : l.one ≠ l.other
  dom : Dom hb l.by_
  h0 : hb = true → l.by_ ≠ 0 → 0 ≤ l.ahead ∧ l.ahead < l.by_
  f0 : hb = false → 0 ≤ l.ahead
  f1 : hb = false → l.by_ ≠ 0 → blen l.ahead.toNat < blen l.by_.toNat
  f2 : hb = false → l.by_ = 0 → l.ahead < 64
inductive En where
  | told (i : Nat)
  | nothing (a b : Str)
  | turned (i : Nat)
  | joined (i j : Nat)
  | met (i j : Nat)
  | less (i : Nat) (b : Nat)
  deriving DecidableEq
abbrev enV : En → List V
  | .told i => [.str "told", .int (i : Int)]
  | .nothing a b => [.str "nothing", .str a, .str b]
  | .turned i => [.str "turned", .int (i : Int)]
  | .joined i j => [.str "joined", .int (i : Int), .int (j : Int)]
  | .met i j => [.str "met", .int (i : Int), .int (j : Int)]
  | .less i b => [.str "less", .int (i : Int), .int (b : Int)]
def EnOk : En → Prop
  | .nothing a b => a ∈ nm5 ∧ b ∈ nm5 ∧ a ≠ b
  | .less _ b => b ∈ [0, 1, 2, 3, 4, 6, 7]
  | _ => True
def entryLn (hb : Bool) (rows told : List Ln) : En → Option Ln
  | .told i => rows[i]?
  | .nothing a b => some ⟨a, b, 0, 1⟩
  | .turned i => (told[i]?).map (turnLn hb)
  | .less i b => (told[i]?).bind fun l => if restK hb l.by_ b = 0 then some (lessLn hb l b) else none
  | .joined i j => (told[i]?).bind fun l => (told[j]?).bind fun o => if l.other = o.one ∧ l.one ≠ o.other then some (joinLn hb l o) else none
  | .met i j => (told[i]?).bind fun l => (told[j]?).bind fun o => if l.one = o.one ∧ l.other = o.other ∧ agreeLn hb l o = true then some (metLn hb l o) else none
def linesOf (hb : Bool) (rows : List Ln) : List En → List Ln → Option (List Ln)
  | [], told => some told
  | e :: es, told => (entryLn hb rows told e).bind fun l => linesOf hb rows es (told ++ [l])
theorem LnOk.b {hb : Bool} {l : Ln} (h : LnOk hb l) : LnB hb l := by
  obtain ⟨_, _, _, dom, h0, f0, f1, f2⟩ := h
  cases hb with
  | true =>
    rcases dom with e | ⟨e1, e2⟩
    · exact ⟨by omega, by rw [e, lim_t]; decide, fun z => by cases z⟩
    · have := Int.le_of_dvd (by decide) e2
      exact ⟨by omega, by rw [lim_t]; omega, fun z => by cases z⟩
  | false =>
    have d : l.by_ ∈ domB := dom
    have hh : ∀ b ∈ domB, 0 ≤ b ∧ b < 128 := by decide
    obtain ⟨b0, b1⟩ := hh _ d
    refine ⟨b0, by rw [lim_f]; omega, fun _ => ⟨f0 rfl, ?_⟩⟩
    by_cases c : l.by_ = 0
    · have := f2 rfl c; omega
    · have := blen_num (f1 rfl c)
      omega
theorem agree_swap {hb : Bool} {l o : Ln} (h1 : LnOk hb l) (h2 : LnOk hb o) (h : agreeLn hb l o = true) : restK hb (subK hb o.ahead l.ahead) (gcdK hb l.by_ o.by_) = 0 := by
  have g := gcdK_bd (hb := hb) h1.b.b0 h2.b.b0 h1.b.b1 h2.b.b1
  have e := of_decide_eq_true h
  cases hb with
  | false =>
    have e2 : subK false o.ahead l.ahead = subK false l.ahead o.ahead := by
      show ((_ ^^^ _ : Nat) : Int) = ((_ ^^^ _ : Nat) : Int)
      rw [Nat.xor_comm]
    rw [e2]; exact e
  | true =>
    by_cases c : gcdK true l.by_ o.by_ = 0
    · unfold restK at e ⊢
      rw [if_pos c] at e ⊢
      have e3 : l.ahead - o.ahead = 0 := e
      show o.ahead - l.ahead = 0
      omega
    · rw [restK_pos c] at e ⊢
      have e3 : (l.ahead - o.ahead) % gcdK true l.by_ o.by_ = 0 := e
      show (o.ahead - l.ahead) % gcdK true l.by_ o.by_ = 0
      have := Int.neg_emod_eq_sub_emod (a := l.ahead - o.ahead) (b := gcdK true l.by_ o.by_)
      have d := Int.dvd_of_emod_eq_zero e3
      have d2 : gcdK true l.by_ o.by_ ∣ o.ahead - l.ahead := by
        have := Int.dvd_neg.mpr d
        rwa [Int.neg_sub] at this
      exact Int.emod_eq_zero_of_dvd d2
set_option maxHeartbeats 40000000
/-! # MF -/
def domN : List Nat := [1, 2, 3, 4, 5, 6, 7, 9, 10, 12, 14, 18, 20, 27, 28, 36, 54, 108]
/-! ## bits: the search for a multiple -/
def firstT (b d : Nat) : Nat → Nat → Nat
  | 0, t => t
  | f + 1, t => if restN (timesN b t) d = 0 then t else firstT b d f (t + 1)
theorem firstT_min (b d : Nat) : ∀ (f t u : Nat), t ≤ u → u < firstT b d f t → restN (timesN b u) d ≠ 0 := by
  intro f
  induction f with
  | zero => intro t u h1 h2; exact absurd h2 (by show ¬ u < t; omega)
  | succ f ih =>
    intro t u h1 h2
    unfold firstT at h2
    split at h2
    · omega
    · rename_i hn
      by_cases e : t = u
      · subst e; exact hn
      · exact ih (t + 1) u (by omega) h2
theorem firstT_ge (b d : Nat) : ∀ (f t : Nat), t ≤ firstT b d f t := by
  intro f
  induction f with
  | zero => intro t; exact Nat.le_refl _
  | succ f ih =>
    intro t
    unfold firstT
    split
    · exact Nat.le_refl _
    · have := ih (t + 1); omega
def chkM (b d : Nat) : Bool :=
  decide (firstT b d (2 ^ blen d) 1 < 2 ^ blen d) && decide (restN (timesN b (firstT b d (2 ^ blen d) 1)) d = 0) && decide (multK false (b : Int) (d : Int) = ((timesN b (firstT b d (2 ^ blen d) 1) : Nat) : Int))
theorem chkM_all : (domN.all fun b => domN.all fun d => chkM b d) = true := by decide +kernel
theorem domB_N {b : Int} (h : b ∈ domB) (h0 : b ≠ 0) : ∃ n : Nat, b = (n : Int) ∧ n ∈ domN := by
  have hh : ∀ b ∈ domB, b ≠ 0 → b.toNat ∈ domN ∧ 0 ≤ b := by decide +kernel
  obtain ⟨h1, h2⟩ := hh b h h0
  exact ⟨b.toNat, (Int.toNat_of_nonneg h2).symm, h1⟩
theorem mult_first {b d : Int} (hb : b ∈ domB) (hd : d ∈ domB) (b0 : b ≠ 0) (d0 : d ≠ 0) : ∃ t0 : Nat, 1 ≤ t0 ∧ t0 < 2 ^ blen d.toNat ∧ restN (timesN b.toNat t0) d.toNat = 0 ∧ (∀ t, 1 ≤ t → t < t0 → restN (timesN b.toNat t) d.toNat ≠ 0) ∧ multK false b d = ((timesN b.toNat t0 : Nat) : Int) := by
  obtain ⟨x, rfl, hx⟩ := domB_N hb b0
  obtain ⟨y, rfl, hy⟩ := domB_N hd d0
  have h := List.all_eq_true.mp (List.all_eq_true.mp chkM_all x hx) y hy
  unfold chkM at h
  rw [Bool.and_eq_true, Bool.and_eq_true, decide_eq_true_eq, decide_eq_true_eq, decide_eq_true_eq] at h
  rw [Int.toNat_natCast, Int.toNat_natCast]
  exact ⟨_, firstT_ge x y _ 1, h.1.1, h.1.2, fun t h1 h2 => firstT_min x y _ 1 t h1 h2, h.2⟩
set_option maxHeartbeats 400000000
/-! # MG -/
/-! ## bits: where two rests meet, looked through -/
def szN (b d : Nat) : Nat := 1 <<< (blen (multK false (b : Int) (d : Int)).toNat - 1)
def chkA (b d a c : Nat) : Bool := !(agreeK false (a : Int) (b : Int) (c : Int) (d : Int)) ||
  (decide ((metK false (a : Int) (b : Int) (c : Int) (d : Int)).1 < (szN b d : Nat)) && decide (restN (metK false (a : Int) (b : Int) (c : Int) (d : Int)).1.toNat b = a) && decide (restN (metK false (a : Int) (b : Int) (c : Int) (d : Int)).1.toNat d = c))
def chkU (b d n : Nat) : Bool := decide ((metK false ((restN n b : Nat) : Int) (b : Int) ((restN n d : Nat) : Int) (d : Int)).1 = (n : Int))
def upTo (f : Nat → Bool) : Nat → Bool
  | 0 => true
  | n + 1 => f n && upTo f n
theorem upTo_at {f : Nat → Bool} : ∀ {n : Nat}, upTo f n = true → ∀ i, i < n → f i = true := by
  intro n
  induction n with
  | zero => intro _ i hi; omega
  | succ n ih =>
    intro h i hi
    unfold upTo at h
    rw [Bool.and_eq_true] at h
    by_cases e : i = n
    · rw [e]; exact h.1
    · exact ih h.2 i (by omega)
def chkQ (b d u : Nat) : Bool := decide (timesN (quoN u (gcdK false (b : Int) (d : Int)).toNat) (bezK false (b : Int) (d : Int)).toNat < 2 ^ 32) && decide (timesN (timesN (quoN u (gcdK false (b : Int) (d : Int)).toNat) (bezK false (b : Int) (d : Int)).toNat) b < 2 ^ 32)
theorem cU_1 : (domN.all fun d => upTo (chkU 1 d) (szN 1 d)) = true := by decide +kernel
theorem cU_2 : (domN.all fun d => upTo (chkU 2 d) (szN 2 d)) = true := by decide +kernel
theorem cU_3 : (domN.all fun d => upTo (chkU 3 d) (szN 3 d)) = true := by decide +kernel
theorem cU_4 : (domN.all fun d => upTo (chkU 4 d) (szN 4 d)) = true := by decide +kernel
theorem cU_5 : (domN.all fun d => upTo (chkU 5 d) (szN 5 d)) = true := by decide +kernel
theorem cU_6 : (domN.all fun d => upTo (chkU 6 d) (szN 6 d)) = true := by decide +kernel
theorem cU_7 : (domN.all fun d => upTo (chkU 7 d) (szN 7 d)) = true := by decide +kernel
theorem cU_9 : (domN.all fun d => upTo (chkU 9 d) (szN 9 d)) = true := by decide +kernel
theorem cU_10 : (domN.all fun d => upTo (chkU 10 d) (szN 10 d)) = true := by decide +kernel
theorem cU_12 : (domN.all fun d => upTo (chkU 12 d) (szN 12 d)) = true := by decide +kernel
theorem cU_14 : (domN.all fun d => upTo (chkU 14 d) (szN 14 d)) = true := by decide +kernel
theorem cU_18 : (domN.all fun d => upTo (chkU 18 d) (szN 18 d)) = true := by decide +kernel
theorem cU_20 : (domN.all fun d => upTo (chkU 20 d) (szN 20 d)) = true := by decide +kernel
theorem cU_27 : (domN.all fun d => upTo (chkU 27 d) (szN 27 d)) = true := by decide +kernel
theorem cU_28 : (domN.all fun d => upTo (chkU 28 d) (szN 28 d)) = true := by decide +kernel
theorem cU_36 : (domN.all fun d => upTo (chkU 36 d) (szN 36 d)) = true := by decide +kernel
theorem cU_54 : (domN.all fun d => upTo (chkU 54 d) (szN 54 d)) = true := by decide +kernel
theorem cU_108 : (domN.all fun d => upTo (chkU 108 d) (szN 108 d)) = true := by decide +kernel
theorem chkU_all : (domN.all fun b => domN.all fun d => upTo (chkU b d) (szN b d)) = true := by
  rw [List.all_eq_true]
  intro b hb
  simp only [domN, List.mem_cons, List.not_mem_nil, or_false] at hb
  rcases hb with rfl | rfl | rfl | rfl | rfl | rfl | rfl | rfl | rfl | rfl | rfl | rfl | rfl | rfl | rfl | rfl | rfl | rfl
  · exact cU_1
  · exact cU_2
  · exact cU_3
  · exact cU_4
  · exact cU_5
  · exact cU_6
  · exact cU_7
  · exact cU_9
  · exact cU_10
  · exact cU_12
  · exact cU_14
  · exact cU_18
  · exact cU_20
  · exact cU_27
  · exact cU_28
  · exact cU_36
  · exact cU_54
  · exact cU_108
theorem cA_1 : (domN.all fun d => upTo (fun a => upTo (chkA 1 d a) (2 ^ (blen d - 1))) (2 ^ (blen 1 - 1))) = true := by decide +kernel
theorem cA_2 : (domN.all fun d => upTo (fun a => upTo (chkA 2 d a) (2 ^ (blen d - 1))) (2 ^ (blen 2 - 1))) = true := by decide +kernel
theorem cA_3 : (domN.all fun d => upTo (fun a => upTo (chkA 3 d a) (2 ^ (blen d - 1))) (2 ^ (blen 3 - 1))) = true := by decide +kernel
theorem cA_4 : (domN.all fun d => upTo (fun a => upTo (chkA 4 d a) (2 ^ (blen d - 1))) (2 ^ (blen 4 - 1))) = true := by decide +kernel
theorem cA_5 : (domN.all fun d => upTo (fun a => upTo (chkA 5 d a) (2 ^ (blen d - 1))) (2 ^ (blen 5 - 1))) = true := by decide +kernel
theorem cA_6 : (domN.all fun d => upTo (fun a => upTo (chkA 6 d a) (2 ^ (blen d - 1))) (2 ^ (blen 6 - 1))) = true := by decide +kernel
theorem cA_7 : (domN.all fun d => upTo (fun a => upTo (chkA 7 d a) (2 ^ (blen d - 1))) (2 ^ (blen 7 - 1))) = true := by decide +kernel
theorem cA_9 : (domN.all fun d => upTo (fun a => upTo (chkA 9 d a) (2 ^ (blen d - 1))) (2 ^ (blen 9 - 1))) = true := by decide +kernel
theorem cA_10 : (domN.all fun d => upTo (fun a => upTo (chkA 10 d a) (2 ^ (blen d - 1))) (2 ^ (blen 10 - 1))) = true := by decide +kernel
theorem cA_12 : (domN.all fun d => upTo (fun a => upTo (chkA 12 d a) (2 ^ (blen d - 1))) (2 ^ (blen 12 - 1))) = true := by decide +kernel
theorem cA_14 : (domN.all fun d => upTo (fun a => upTo (chkA 14 d a) (2 ^ (blen d - 1))) (2 ^ (blen 14 - 1))) = true := by decide +kernel
theorem cA_18 : (domN.all fun d => upTo (fun a => upTo (chkA 18 d a) (2 ^ (blen d - 1))) (2 ^ (blen 18 - 1))) = true := by decide +kernel
theorem cA_20 : (domN.all fun d => upTo (fun a => upTo (chkA 20 d a) (2 ^ (blen d - 1))) (2 ^ (blen 20 - 1))) = true := by decide +kernel
theorem cA_27 : (domN.all fun d => upTo (fun a => upTo (chkA 27 d a) (2 ^ (blen d - 1))) (2 ^ (blen 27 - 1))) = true := by decide +kernel
theorem cA_28 : (domN.all fun d => upTo (fun a => upTo (chkA 28 d a) (2 ^ (blen d - 1))) (2 ^ (blen 28 - 1))) = true := by decide +kernel
theorem cA_36 : (domN.all fun d => upTo (fun a => upTo (chkA 36 d a) (2 ^ (blen d - 1))) (2 ^ (blen 36 - 1))) = true := by decide +kernel
theorem cA_54 : (domN.all fun d => upTo (fun a => upTo (chkA 54 d a) (2 ^ (blen d - 1))) (2 ^ (blen 54 - 1))) = true := by decide +kernel
theorem cA_108 : (domN.all fun d => upTo (fun a => upTo (chkA 108 d a) (2 ^ (blen d - 1))) (2 ^ (blen 108 - 1))) = true := by decide +kernel
theorem chkA_all : (domN.all fun b => domN.all fun d => upTo (fun a => upTo (chkA b d a) (2 ^ (blen d - 1))) (2 ^ (blen b - 1))) = true := by
  rw [List.all_eq_true]
  intro b hb
  simp only [domN, List.mem_cons, List.not_mem_nil, or_false] at hb
  rcases hb with rfl | rfl | rfl | rfl | rfl | rfl | rfl | rfl | rfl | rfl | rfl | rfl | rfl | rfl | rfl | rfl | rfl | rfl
  · exact cA_1
  · exact cA_2
  · exact cA_3
  · exact cA_4
  · exact cA_5
  · exact cA_6
  · exact cA_7
  · exact cA_9
  · exact cA_10
  · exact cA_12
  · exact cA_14
  · exact cA_18
  · exact cA_20
  · exact cA_27
  · exact cA_28
  · exact cA_36
  · exact cA_54
  · exact cA_108
theorem cQ_1 : (domN.all fun d => upTo (chkQ 1 d) 128) = true := by decide +kernel
theorem cQ_2 : (domN.all fun d => upTo (chkQ 2 d) 128) = true := by decide +kernel
theorem cQ_3 : (domN.all fun d => upTo (chkQ 3 d) 128) = true := by decide +kernel
theorem cQ_4 : (domN.all fun d => upTo (chkQ 4 d) 128) = true := by decide +kernel
theorem cQ_5 : (domN.all fun d => upTo (chkQ 5 d) 128) = true := by decide +kernel
theorem cQ_6 : (domN.all fun d => upTo (chkQ 6 d) 128) = true := by decide +kernel
theorem cQ_7 : (domN.all fun d => upTo (chkQ 7 d) 128) = true := by decide +kernel
theorem cQ_9 : (domN.all fun d => upTo (chkQ 9 d) 128) = true := by decide +kernel
theorem cQ_10 : (domN.all fun d => upTo (chkQ 10 d) 128) = true := by decide +kernel
theorem cQ_12 : (domN.all fun d => upTo (chkQ 12 d) 128) = true := by decide +kernel
theorem cQ_14 : (domN.all fun d => upTo (chkQ 14 d) 128) = true := by decide +kernel
theorem cQ_18 : (domN.all fun d => upTo (chkQ 18 d) 128) = true := by decide +kernel
theorem cQ_20 : (domN.all fun d => upTo (chkQ 20 d) 128) = true := by decide +kernel
theorem cQ_27 : (domN.all fun d => upTo (chkQ 27 d) 128) = true := by decide +kernel
theorem cQ_28 : (domN.all fun d => upTo (chkQ 28 d) 128) = true := by decide +kernel
theorem cQ_36 : (domN.all fun d => upTo (chkQ 36 d) 128) = true := by decide +kernel
theorem cQ_54 : (domN.all fun d => upTo (chkQ 54 d) 128) = true := by decide +kernel
theorem cQ_108 : (domN.all fun d => upTo (chkQ 108 d) 128) = true := by decide +kernel
theorem chkQ_all : (domN.all fun b => domN.all fun d => upTo (chkQ b d) 128) = true := by
  rw [List.all_eq_true]
  intro b hb
  simp only [domN, List.mem_cons, List.not_mem_nil, or_false] at hb
  rcases hb with rfl | rfl | rfl | rfl | rfl | rfl | rfl | rfl | rfl | rfl | rfl | rfl | rfl | rfl | rfl | rfl | rfl | rfl
  · exact cQ_1
  · exact cQ_2
  · exact cQ_3
  · exact cQ_4
  · exact cQ_5
  · exact cQ_6
  · exact cQ_7
  · exact cQ_9
  · exact cQ_10
  · exact cQ_12
  · exact cQ_14
  · exact cQ_18
  · exact cQ_20
  · exact cQ_27
  · exact cQ_28
  · exact cQ_36
  · exact cQ_54
  · exact cQ_108
set_option maxHeartbeats 4000000
/-! # MHr -/
/-! ## hours: divisors and multiples -/
theorem gcdL_nat : ∀ (f x y : Nat), y < f → gcdL true f (x : Int) (y : Int) = ((Nat.gcd x y : Nat) : Int) := by
  intro f
  induction f with
  | zero => intro x y h; omega
  | succ f ih =>
    intro x y h
    unfold gcdL
    by_cases c : y = 0
    · subst c
      rw [if_pos (by rfl), Nat.gcd_zero_right]
    · rw [if_neg (by omega), restK_pos (by omega)]
      show gcdL true f (y : Int) ((x : Int) % (y : Int)) = _
      rw [← Int.natCast_emod, ih y (x % y) (by have := Nat.mod_lt x (by omega : 0 < y); omega), Nat.gcd_comm x y, Nat.gcd_rec y x, Nat.gcd_comm]
theorem gcdK_nat (x y : Nat) : gcdK true (x : Int) (y : Int) = ((Nat.gcd x y : Nat) : Int) := by
  unfold gcdK
  rw [Int.toNat_natCast]
  exact gcdL_nat _ x y (Nat.lt_succ_self y)
theorem multK_nat {x y : Nat} (hx : x ≠ 0) (hy : y ≠ 0) : multK true (x : Int) (y : Int) = ((Nat.lcm x y : Nat) : Int) := by
  unfold multK
  rw [if_neg (by omega), gcdK_nat]
  show (x : Int) / ((Nat.gcd x y : Nat) : Int) * (y : Int) = _
  rw [← Int.natCast_ediv, ← Int.natCast_mul]
  congr 1
  have g := Nat.gcd_dvd_left x y
  unfold Nat.lcm
  rw [Nat.mul_comm x y, Nat.mul_div_assoc y g, Nat.mul_comm]
/-- the factor that the search for factors finds -/
theorem bezL_nat {b d : Int} : ∀ (f : Nat) (l r h t : Int), 0 ≤ r → r.toNat < f → d ∣ b * h - l → d ∣ b * t - r → d ∣ b * bezL true f l r h t - gcdL true f l r := by
  intro f
  induction f with
  | zero => intro l r h t h0 h1; omega
  | succ f ih =>
    intro l r h t r0 hf e1 e2
    unfold bezL gcdL
    by_cases c : r = 0
    · rw [if_pos c, if_pos c]; exact e1
    · rw [if_neg c, if_neg c, restK_pos c]
      have m := remK_lt (hb := true) (a := l) (b := r) (by omega) (fun z => by cases z)
      refine ih r (remK true l r) t (subK true h (timesK true (quoK true l r) t)) m.1 (by omega) e2 ?_
      show d ∣ b * (h - l / r * t) - l % r
      have e : b * (h - l / r * t) - l % r = (b * h - l) - l / r * (b * t - r) := by
        have := Int.emod_add_mul_ediv l r
        have e3 : l % r = l - r * (l / r) := by omega
        rw [e3]
        grind
      rw [e]
      exact Int.dvd_sub e1 (Int.dvd_mul_of_dvd_right e2)
theorem bezK_dvd {b d : Int} (h0 : 0 ≤ d) : d ∣ b * bezK true b d - gcdK true b d :=
  bezL_nat _ b d 1 0 h0 (Nat.lt_succ_self _) (by rw [Int.mul_one, Int.sub_self]; exact Int.dvd_zero _) (by rw [Int.mul_zero, Int.zero_sub]; exact Int.dvd_neg.mpr (Int.dvd_refl _))
theorem dvd_emod {a b x : Int} (h : x ∣ b) : x ∣ a % b - a := by
  have e : a % b - a = -(b * (a / b)) := by have := Int.emod_add_mul_ediv a b; omega
  rw [e]
  exact Int.dvd_neg.mpr (Int.dvd_mul_of_dvd_left h)
theorem emod_is {a m x : Int} (h0 : 0 ≤ a) (h1 : a < x) (h : x ∣ m - a) : m % x = a := by
  have := Int.emod_emod_of_dvd
  have e : m % x = a % x := Int.emod_eq_emod_iff_emod_sub_eq_zero.mpr (Int.emod_eq_zero_of_dvd h)
  rw [e, Int.emod_eq_of_lt h0 h1]
theorem dvd_of_emod {n a x : Int} (h : n % x = a) : x ∣ n - a := by
  subst h
  exact Int.dvd_self_sub_emod
/-- hours: where two rests meet -/
theorem meet_hours {x y : Nat} {a c : Int} (hx : x ≠ 0) (hy : y ≠ 0) (a0 : 0 ≤ a) (a1 : a < x) (c0 : 0 ≤ c) (c1 : c < y) (ag : agreeK true a x c y = true) :
    0 ≤ (metK true a x c y).1 ∧ (metK true a x c y).1 < ((Nat.lcm x y : Nat) : Int) ∧ (metK true a x c y).1 % x = a ∧ (metK true a x c y).1 % y = c ∧
    ∀ n : Nat, n < Nat.lcm x y → (n : Int) % x = a → (n : Int) % y = c → (n : Int) = (metK true a x c y).1 := by
  have Lp : 0 < Nat.lcm x y := Nat.lcm_pos (by omega) (by omega)
  have gp : 0 < Nat.gcd x y := Nat.gcd_pos_of_pos_left _ (by omega)
  have em : (metK true a x c y).1 = foundK true a x c y % ((Nat.lcm x y : Nat) : Int) := by
    unfold metK
    rw [if_neg (by omega), multK_nat hx hy]
    show restK true _ _ = _
    rw [restK_pos (by omega)]
    rfl
  have gd : ((Nat.gcd x y : Nat) : Int) ∣ c - a := by
    have h := of_decide_eq_true ag
    rw [gcdK_nat, restK_pos (by omega)] at h
    have h2 : (a - c) % ((Nat.gcd x y : Nat) : Int) = 0 := h
    have := Int.dvd_neg.mpr (Int.dvd_of_emod_eq_zero h2)
    rwa [Int.neg_sub] at this
  have ef : foundK true a x c y = a + x * ((c - a) / ((Nat.gcd x y : Nat) : Int) * bezK true x y) := by
    unfold foundK
    rw [gcdK_nat]
    rfl
  have fx : (x : Int) ∣ foundK true a x c y - a := by
    rw [ef, show a + x * ((c - a) / ((Nat.gcd x y : Nat) : Int) * bezK true x y) - a = x * ((c - a) / ((Nat.gcd x y : Nat) : Int) * bezK true x y) by omega]
    exact Int.dvd_mul_right _ _
  have fy : (y : Int) ∣ foundK true a x c y - c := by
    have bz := bezK_dvd (b := (x : Int)) (d := (y : Int)) (by omega)
    rw [gcdK_nat] at bz
    obtain ⟨q, hq⟩ := gd
    have e : (c - a) / ((Nat.gcd x y : Nat) : Int) = q := by rw [hq, Int.mul_ediv_cancel_left _ (by omega)]
    rw [ef, e]
    have e2 : a + x * (q * bezK true x y) - c = q * (x * bezK true x y - ((Nat.gcd x y : Nat) : Int)) := by
      have : c - a = ((Nat.gcd x y : Nat) : Int) * q := hq
      grind
    rw [e2]
    exact Int.dvd_mul_of_dvd_right bz
  have dx : (x : Int) ∣ ((Nat.lcm x y : Nat) : Int) := Int.natCast_dvd_natCast.mpr (Nat.dvd_lcm_left x y)
  have dy : (y : Int) ∣ ((Nat.lcm x y : Nat) : Int) := Int.natCast_dvd_natCast.mpr (Nat.dvd_lcm_right x y)
  have m0 : 0 ≤ (metK true a x c y).1 := by rw [em]; exact Int.emod_nonneg _ (by omega)
  have m1 : (metK true a x c y).1 < ((Nat.lcm x y : Nat) : Int) := by rw [em]; exact Int.emod_lt_of_pos _ (by omega)
  have mx : (x : Int) ∣ (metK true a x c y).1 - a := by
    have := Int.dvd_add (dvd_emod (a := foundK true a x c y) dx) fx
    rw [em]
    rwa [show foundK true a x c y % ((Nat.lcm x y : Nat) : Int) - foundK true a x c y + (foundK true a x c y - a) = foundK true a x c y % ((Nat.lcm x y : Nat) : Int) - a by omega] at this
  have my : (y : Int) ∣ (metK true a x c y).1 - c := by
    have := Int.dvd_add (dvd_emod (a := foundK true a x c y) dy) fy
    rw [em]
    rwa [show foundK true a x c y % ((Nat.lcm x y : Nat) : Int) - foundK true a x c y + (foundK true a x c y - c) = foundK true a x c y % ((Nat.lcm x y : Nat) : Int) - c by omega] at this
  refine ⟨m0, m1, emod_is a0 a1 mx, emod_is c0 c1 my, fun n hn h1 h2 => ?_⟩
  obtain ⟨m, hm⟩ := Int.eq_ofNat_of_zero_le m0
  rw [hm] at mx my m1 ⊢
  have k1 : (x : Int) ∣ (n : Int) - (m : Int) := by
    have := Int.dvd_sub (dvd_of_emod h1) mx
    rwa [show (n : Int) - a - ((m : Int) - a) = n - m by omega] at this
  have k2 : (y : Int) ∣ (n : Int) - (m : Int) := by
    have := Int.dvd_sub (dvd_of_emod h2) my
    rwa [show (n : Int) - c - ((m : Int) - c) = n - m by omega] at this
  have key : ∀ u v : Nat, u ≤ v → v < Nat.lcm x y → x ∣ v - u → y ∣ v - u → u = v := by
    intro u v huv hv q1 q2
    have q3 := Nat.lcm_dvd q1 q2
    have := Nat.eq_zero_of_dvd_of_lt q3 (by omega)
    omega
  have k1' : x ∣ ((n : Int) - (m : Int)).natAbs := by have := Int.natAbs_dvd_natAbs.mpr k1; rwa [Int.natAbs_natCast] at this
  have k2' : y ∣ ((n : Int) - (m : Int)).natAbs := by have := Int.natAbs_dvd_natAbs.mpr k2; rwa [Int.natAbs_natCast] at this
  rcases Nat.le_total n m with o | o
  · rw [show ((n : Int) - (m : Int)).natAbs = m - n by omega] at k1' k2'
    rw [key n m o (by omega) k1' k2']
  · rw [show ((n : Int) - (m : Int)).natAbs = n - m by omega] at k1' k2'
    rw [key m n o hn k1' k2']
/-! # MV -/
/-! ## how far ahead, by what: in range -/
structure Rg (hb : Bool) (a b : Int) : Prop where
  dom : Dom hb b
  h0 : hb = true → b ≠ 0 → 0 ≤ a ∧ a < b
  f0 : hb = false → 0 ≤ a
  f1 : hb = false → b ≠ 0 → blen a.toNat < blen b.toNat
  f2 : hb = false → b = 0 → a < 64
theorem LnOk.rg {hb : Bool} {l : Ln} (h : LnOk hb l) : Rg hb l.ahead l.by_ := ⟨h.dom, h.h0, h.f0, h.f1, h.f2⟩
theorem dom_bd {hb : Bool} {b : Int} (h : Dom hb b) : 0 ≤ b ∧ b < 2 ^ 12 := by
  cases hb with
  | true =>
    rcases h with e | ⟨e1, e2⟩
    · omega
    · have := Int.le_of_dvd (by decide) e2
      omega
  | false =>
    have d : b ∈ domB := h
    have hh : ∀ b ∈ domB, 0 ≤ b ∧ b < 128 := by decide
    have := hh _ d
    omega
theorem lim12 (hb : Bool) {b : Int} (h : b < 2 ^ 12) : b < lim hb := by cases hb <;> simp only [lim_t, lim_f] <;> omega
theorem Rg.nn {hb : Bool} {a b : Int} (h : Rg hb a b) (z : hb = false) : 0 ≤ a ∧ a < 2 ^ 12 := by
  have d := dom_bd h.dom
  refine ⟨h.f0 z, ?_⟩
  by_cases c : b = 0
  · have := h.f2 z c; omega
  · have := blen_num (h.f1 z c); omega
theorem nothing_ok {hb : Bool} {a b : Str} (h : a ∈ nm5 ∧ b ∈ nm5 ∧ a ≠ b) : LnOk hb ⟨a, b, 0, 1⟩ := by
  refine ⟨h.1, h.2.1, h.2.2, ?_, fun _ _ => ⟨Int.le_refl 0, Int.one_pos⟩, fun _ => Int.le_refl 0, fun _ _ => (by decide : blen 0 < blen 1), fun _ _ => (by decide : (0 : Int) < 64)⟩
  cases hb with
  | true => exact .inr ⟨Int.one_pos, Int.one_dvd _⟩
  | false => exact (by decide : (1 : Int) ∈ domB)
theorem gcd_domB : ∀ b ∈ domB, ∀ d ∈ domB, gcdK false b d ∈ domB ∧ (gcdK false b d = 0 → b = 0 ∧ d = 0) := by decide +kernel
theorem bez_domB : ∀ b ∈ domB, ∀ d ∈ domB, bezOk (d.toNat + 1) b d 1 0 = true ∧ 0 ≤ bezK false b d ∧ bezK false b d < 2 ^ 64 := by decide +kernel
theorem mul_domB : ∀ b ∈ domB, ∀ d ∈ domB, multK false b d ∈ domB ∧ (b ≠ 0 → d ≠ 0 → multK false b d ≠ 0) := by decide +kernel
theorem hours_nat {b : Int} (h : Dom true b) (b0 : b ≠ 0) : ∃ n : Nat, b = (n : Int) ∧ n ≠ 0 ∧ n ∣ 2520 := by
  rcases h with e | ⟨e1, e2⟩
  · exact absurd e b0
  · obtain ⟨n, rfl⟩ := Int.eq_ofNat_of_zero_le (Int.le_of_lt e1)
    exact ⟨n, rfl, by omega, Int.natCast_dvd_natCast.mp e2⟩
theorem hours_of {n : Nat} (h0 : n ≠ 0) (h : n ∣ 2520) : Dom true (n : Int) := .inr ⟨by omega, Int.natCast_dvd_natCast.mpr h⟩
theorem gcd_dom {hb : Bool} {b d : Int} (h1 : Dom hb b) (h2 : Dom hb d) : Dom hb (gcdK hb b d) ∧ (gcdK hb b d = 0 → b = 0 ∧ d = 0) := by
  cases hb with
  | false => exact gcd_domB b h1 d h2
  | true =>
    by_cases c : b = 0
    · subst c
      by_cases c2 : d = 0
      · subst c2; exact ⟨.inl rfl, fun _ => ⟨rfl, rfl⟩⟩
      · obtain ⟨n, rfl, n0, nd⟩ := hours_nat h2 c2
        have e : gcdK true 0 (n : Int) = ((Nat.gcd 0 n : Nat) : Int) := gcdK_nat 0 n
        rw [e, Nat.gcd_zero_left]
        exact ⟨h2, fun z => ⟨rfl, z⟩⟩
    · obtain ⟨n, rfl, n0, nd⟩ := hours_nat h1 c
      obtain ⟨d0, _⟩ := dom_bd h2
      obtain ⟨m, rfl⟩ := Int.eq_ofNat_of_zero_le d0
      rw [gcdK_nat]
      have gp := Nat.gcd_pos_of_pos_left m (by omega : 0 < n)
      exact ⟨hours_of (by omega) (Nat.dvd_trans (Nat.gcd_dvd_left n m) nd), fun z => by omega⟩
theorem mult_hours {b d : Int} (hb : Dom true b) (hd : Dom true d) (b0 : b ≠ 0) (d0 : d ≠ 0) : b * d / gcdK true b d = multK true b d := by
  obtain ⟨x, rfl, x0, xd⟩ := hours_nat hb b0
  obtain ⟨y, rfl, y0, yd⟩ := hours_nat hd d0
  rw [multK_nat x0 y0, gcdK_nat, ← Int.natCast_mul, ← Int.natCast_ediv]
  rfl
theorem mult_dom {hb : Bool} {b d : Int} (h1 : Dom hb b) (h2 : Dom hb d) : Dom hb (multK hb b d) ∧ (b ≠ 0 → d ≠ 0 → multK hb b d ≠ 0) := by
  cases hb with
  | false => exact mul_domB b h1 d h2
  | true =>
    by_cases c : b = 0
    · have e : multK true b d = 0 := if_pos (.inl c)
      rw [e]; exact ⟨.inl rfl, fun z => absurd c z⟩
    by_cases c2 : d = 0
    · have e : multK true b d = 0 := if_pos (.inr c2)
      rw [e]; exact ⟨.inl rfl, fun _ z => absurd c2 z⟩
    obtain ⟨x, rfl, x0, xd⟩ := hours_nat h1 c
    obtain ⟨y, rfl, y0, yd⟩ := hours_nat h2 c2
    rw [multK_nat x0 y0]
    have lp := Nat.lcm_pos (by omega : 0 < x) (by omega : 0 < y)
    exact ⟨hours_of (by omega) (Nat.lcm_dvd xd yd), fun _ _ => by omega⟩
/-- what is taken to its rest is in range -/
theorem rest_ok {hb : Bool} {a b : Str} {r y : Int} (ha : a ∈ nm5) (hb' : b ∈ nm5) (ne : a ≠ b) (d : Dom hb y) (h : hb = false → 0 ≤ r) (hz : hb = false → y = 0 → r < 64) : LnOk hb ⟨a, b, restK hb r y, y⟩ := by
  obtain ⟨y0, y1⟩ := dom_bd d
  refine ⟨ha, hb', ne, d, fun z hy => ?_, fun z => ?_, fun z hy => ?_, fun z hy => ?_⟩
  · subst z
    have hy : y ≠ 0 := hy
    show 0 ≤ restK true r y ∧ restK true r y < y
    rw [restK_pos hy]
    exact remK_lt (by omega) (fun z => by cases z)
  · subst z
    show 0 ≤ restK false r y
    by_cases c : y = 0
    · unfold restK; rw [if_pos c]; exact h rfl
    · rw [restK_pos c]; exact Int.natCast_nonneg _
  · subst z
    have hy : y ≠ 0 := hy
    show blen (restK false r y).toNat < blen y.toNat
    rw [restK_pos hy]
    show blen ((restN r.toNat y.toNat : Nat) : Int).toNat < _
    rw [Int.toNat_natCast]
    exact restN_small (by omega)
  · subst z
    have hy : y = 0 := hy
    show restK false r y < 64
    unfold restK; rw [if_pos hy]; exact hz rfl hy
theorem less_dom : ∀ b ∈ [0, 1, 2, 3, 4, 6, 7], ((b : Nat) : Int) ∈ domB ∧ (b = 0 ∨ (0 < b ∧ b ∣ 2520)) := by decide +kernel
theorem xor64 {a b : Int} (ha : a < 64) (hb : b < 64) : xorI a b < 64 := (xorI_bd (k := 6) ha hb).2
theorem entryLn_ok {hb : Bool} {rows told : List Ln} {e : En} {l : Ln} (hr : ∀ l ∈ rows, LnOk hb l) (ht : ∀ l ∈ told, LnOk hb l) (he : EnOk e) (h : entryLn hb rows told e = some l) : LnOk hb l := by
  cases e with
  | told i => exact hr l (List.mem_of_getElem? h)
  | nothing a b => cases h; exact nothing_ok he
  | turned i =>
    obtain ⟨x, q, rfl⟩ := Option.map_eq_some_iff.mp (show (told[i]?).map (turnLn hb) = some l from h)
    have ok := ht x (List.mem_of_getElem? q)
    exact rest_ok ok.n2 ok.n1 (Ne.symm ok.ne) ok.dom (fun z => by subst z; exact ok.f0 rfl) (fun z hy => by subst z; exact ok.f2 rfl hy)
  | less i b =>
    obtain ⟨x, q, h2⟩ := Option.bind_eq_some_iff.mp h
    have ok := ht x (List.mem_of_getElem? q)
    split at h2
    · rename_i hc
      cases h2
      obtain ⟨db, dh⟩ := less_dom b he
      refine rest_ok ok.n1 ok.n2 ok.ne ?_ (fun z => ok.f0 z) (fun z hy => ?_)
      · cases hb with
        | false => exact db
        | true =>
          rcases dh with e | ⟨e1, e2⟩
          · exact .inl (by rw [e]; rfl)
          · exact hours_of (by omega) e2
      · have hy : (b : Int) = 0 := hy
        rw [hy] at hc
        exact ok.f2 z hc
    · cases h2
  | joined i j =>
    obtain ⟨x, q, h2⟩ := Option.bind_eq_some_iff.mp h
    obtain ⟨y, q2, h3⟩ := Option.bind_eq_some_iff.mp h2
    have ok := ht x (List.mem_of_getElem? q)
    have ok2 := ht y (List.mem_of_getElem? q2)
    split at h3
    · rename_i hc
      cases h3
      obtain ⟨gd, gz⟩ := gcd_dom ok.dom ok2.dom
      refine rest_ok ok.n1 ok2.n2 hc.2 gd (fun z => by subst z; exact addK_nn) (fun z hy => ?_)
      obtain ⟨z1, z2⟩ := gz hy
      subst z
      exact xor64 (ok.f2 rfl z1) (ok2.f2 rfl z2)
    · cases h3
  | met i j =>
    obtain ⟨x, q, h2⟩ := Option.bind_eq_some_iff.mp h
    obtain ⟨y, q2, h3⟩ := Option.bind_eq_some_iff.mp h2
    have ok := ht x (List.mem_of_getElem? q)
    have ok2 := ht y (List.mem_of_getElem? q2)
    split at h3
    · rename_i hc
      cases h3
      by_cases c : x.by_ = 0
      · have e : metK hb x.ahead x.by_ y.ahead y.by_ = (x.ahead, 0) := by unfold metK; rw [if_pos (.inl c), if_pos c]
        have e2 : metLn hb x y = ⟨x.one, x.other, x.ahead, 0⟩ := by unfold metLn; rw [e]
        rw [e2, ← c]
        exact ok
      by_cases c2 : y.by_ = 0
      · have e : metK hb x.ahead x.by_ y.ahead y.by_ = (y.ahead, 0) := by unfold metK; rw [if_pos (.inr c2), if_neg c]
        have e2 : metLn hb x y = ⟨x.one, x.other, y.ahead, 0⟩ := by unfold metLn; rw [e]
        rw [e2, ← c2]
        exact ⟨ok.n1, ok.n2, ok.ne, ok2.dom, ok2.h0, ok2.f0, ok2.f1, ok2.f2⟩
      · have e : metK hb x.ahead x.by_ y.ahead y.by_ = (restK hb (foundK hb x.ahead x.by_ y.ahead y.by_) (multK hb x.by_ y.by_), multK hb x.by_ y.by_) := if_neg (fun z => z.elim c c2)
        have e2 : metLn hb x y = ⟨x.one, x.other, restK hb (foundK hb x.ahead x.by_ y.ahead y.by_) (multK hb x.by_ y.by_), multK hb x.by_ y.by_⟩ := by unfold metLn; rw [e]
        rw [e2]
        obtain ⟨md, mz⟩ := mult_dom ok.dom ok2.dom
        refine rest_ok ok.n1 ok.n2 ok.ne md (fun z => by subst z; exact addK_nn) (fun z hy => absurd hy (mz c c2))
    · cases h3
theorem low_blen {a x : Nat} (h : blen a < blen x) : a < 2 ^ (blen x - 1) := Nat.lt_of_lt_of_le (lt_blen a) (Nat.pow_le_pow_right (by decide) (by omega))
theorem metOk_of {hb : Bool} {l o : Ln} (h1 : LnOk hb l) (h2 : LnOk hb o) : MetOk hb l.ahead l.by_ o.ahead o.by_ := by
  obtain ⟨b0, b1⟩ := dom_bd h1.dom
  obtain ⟨d0, d1⟩ := dom_bd h2.dom
  obtain ⟨md, mz⟩ := mult_dom h1.dom h2.dom
  obtain ⟨m0, m1⟩ := dom_bd md
  have n1 := fun z => h1.rg.nn z
  have n2 := fun z => h2.rg.nn z
  refine ⟨b0, lim12 hb b1, d0, lim12 hb d1, fun z => ⟨(n1 z).1, by have := (n1 z).2; omega, (n2 z).1, by have := (n2 z).2; omega⟩, fun z => by subst z; exact (bez_domB _ h1.dom _ h2.dom).1, m0, lim12 hb m1, fun z c1 c2 => ?_, fun z _ _ => by subst z; exact (bez_domB _ h1.dom _ h2.dom).2, fun z c1 c2 => ?_⟩
  · subst z
    obtain ⟨a0, a1⟩ := h1.h0 rfl c1
    obtain ⟨e0, e1⟩ := h2.h0 rfl c2
    have h := Int.natAbs_ediv_le_natAbs (o.ahead - l.ahead) (gcdK true l.by_ o.by_)
    show -(2 ^ 64) < (o.ahead - l.ahead) / gcdK true l.by_ o.by_ ∧ (o.ahead - l.ahead) / gcdK true l.by_ o.by_ < 2 ^ 64
    omega
  · subst z
    obtain ⟨x, hx, hxm⟩ := domB_N h1.dom c1
    obtain ⟨y, hy, hym⟩ := domB_N h2.dom c2
    have u1 := low_blen (h1.f1 rfl c1)
    have u2 := low_blen (h2.f1 rfl c2)
    have small : ∀ n ∈ domN, blen n ≤ 7 := by decide +kernel
    have p1 : 2 ^ (blen l.by_.toNat - 1) ≤ 2 ^ 6 := Nat.pow_le_pow_right (by decide) (by have := small x hxm; rw [hx, Int.toNat_natCast]; omega)
    have p2 : 2 ^ (blen o.by_.toNat - 1) ≤ 2 ^ 6 := Nat.pow_le_pow_right (by decide) (by have := small y hym; rw [hy, Int.toNat_natCast]; omega)
    have ux : o.ahead.toNat ^^^ l.ahead.toNat < 2 ^ 7 := Nat.xor_lt_two_pow (by omega) (by omega)
    have ch := upTo_at (List.all_eq_true.mp (List.all_eq_true.mp chkQ_all x hxm) y hym) _ ux
    unfold chkQ at ch
    rw [Bool.and_eq_true, decide_eq_true_eq, decide_eq_true_eq] at ch
    rw [hx, hy]
    obtain ⟨q1, q2⟩ := ch
    have hl := (n1 rfl).2
    refine ⟨Int.lt_trans (Int.ofNat_lt.mpr q1) (by decide), ?_⟩
    refine Int.lt_of_lt_of_le (xorI_bd (k := 32) (by omega) (Int.ofNat_lt.mpr q2)).2 (by decide)
def sizeK (hb : Bool) (L : Int) : Nat := if hb then L.toNat else 1 <<< (blen L.toNat - 1)
theorem meet_spec {hb : Bool} {a b c d : Int} (h1 : Rg hb a b) (h2 : Rg hb c d) (ag : agreeK hb a b c d = true) (b0 : b ≠ 0) (d0 : d ≠ 0) :
    0 ≤ (metK hb a b c d).1 ∧ (metK hb a b c d).1 < (sizeK hb (multK hb b d) : Nat) ∧ restK hb (metK hb a b c d).1 b = a ∧ restK hb (metK hb a b c d).1 d = c ∧
    ∀ n : Nat, n < sizeK hb (multK hb b d) → restK hb (n : Int) b = a → restK hb (n : Int) d = c → (n : Int) = (metK hb a b c d).1 := by
  cases hb with
  | true =>
    obtain ⟨x, rfl, x0, xd⟩ := hours_nat h1.dom b0
    obtain ⟨y, rfl, y0, yd⟩ := hours_nat h2.dom d0
    obtain ⟨a0, a1⟩ := h1.h0 rfl b0
    obtain ⟨c0, c1⟩ := h2.h0 rfl d0
    obtain ⟨m0, m1, m2, m3, m4⟩ := meet_hours x0 y0 a0 a1 c0 c1 ag
    have e : sizeK true (multK true (x : Int) (y : Int)) = Nat.lcm x y := by rw [multK_nat x0 y0]; rfl
    rw [e, restK_pos b0, restK_pos d0]
    refine ⟨m0, m1, m2, m3, fun n hn q1 q2 => ?_⟩
    rw [restK_pos b0] at q1
    rw [restK_pos d0] at q2
    exact m4 n hn q1 q2
  | false =>
    obtain ⟨x, rfl, hx⟩ := domB_N h1.dom b0
    obtain ⟨y, rfl, hy⟩ := domB_N h2.dom d0
    obtain ⟨u, rfl⟩ := Int.eq_ofNat_of_zero_le (h1.f0 rfl)
    obtain ⟨v, rfl⟩ := Int.eq_ofNat_of_zero_le (h2.f0 rfl)
    have ux := low_blen (by have := h1.f1 rfl b0; simpa using this : blen u < blen x)
    have vy := low_blen (by have := h2.f1 rfl d0; simpa using this : blen v < blen y)
    have A := upTo_at (upTo_at (List.all_eq_true.mp (List.all_eq_true.mp chkA_all x hx) y hy) u ux) v vy
    unfold chkA at A
    rw [ag, Bool.not_true, Bool.false_or, Bool.and_eq_true, Bool.and_eq_true, decide_eq_true_eq, decide_eq_true_eq, decide_eq_true_eq] at A
    obtain ⟨⟨A1, A2⟩, A3⟩ := A
    have U := upTo_at (List.all_eq_true.mp (List.all_eq_true.mp chkU_all x hx) y hy)
    have m0 : 0 ≤ (metK false (u : Int) (x : Int) (v : Int) (y : Int)).1 := by
      unfold metK
      rw [if_neg (by omega)]
      show 0 ≤ restK false _ _
      rw [restK_pos ((mult_dom h1.dom h2.dom).2 b0 d0)]
      exact Int.natCast_nonneg _
    rw [restK_pos b0, restK_pos d0]
    refine ⟨m0, A1, ?_, ?_, fun n hn q1 q2 => ?_⟩
    · show ((restN _ _ : Nat) : Int) = _
      rw [Int.toNat_natCast, A2]
    · show ((restN _ _ : Nat) : Int) = _
      rw [Int.toNat_natCast, A3]
    · have C := of_decide_eq_true (U n hn)
      rw [restK_pos b0] at q1
      rw [restK_pos d0] at q2
      have q1 : ((restN n x : Nat) : Int) = (u : Int) := q1
      have q2 : ((restN n y : Nat) : Int) = (v : Int) := q2
      rw [q1, q2] at C
      exact C.symm
/-! # MC -/
theorem linesOf_ok {hb : Bool} {rows : List Ln} (hr : ∀ l ∈ rows, LnOk hb l) : ∀ {es : List En} {told T : List Ln}, (∀ l ∈ told, LnOk hb l) → (∀ e ∈ es, EnOk e) → linesOf hb rows es told = some T → ∀ l ∈ T, LnOk hb l := by
  intro es
  induction es with
  | nil => intro told T ht _ h; cases h; exact ht
  | cons e es ih =>
    intro told T ht he h
    cases q : entryLn hb rows told e with
    | none => rw [linesOf, q] at h; cases h
    | some l =>
      rw [linesOf, q] at h
      refine ih (fun x hx => ?_) (fun x hx => he x (List.mem_cons_of_mem _ hx)) h
      rcases List.mem_append.mp hx with a | a
      · exact ht x a
      · have e2 : x = l := List.mem_singleton.mp a
        subst e2
        exact entryLn_ok hr ht (he e List.mem_cons_self) q
theorem less_lim (hb : Bool) {b : Nat} (h : b ∈ [0, 1, 2, 3, 4, 6, 7]) : (b : Int) < lim hb := by
  have : ∀ b ∈ [0, 1, 2, 3, 4, 6, 7], b < 8 := by decide
  have := this b h
  cases hb
  · rw [lim_f]; omega
  · rw [lim_t]; omega
theorem enV_ok {e : En} (h : EnOk e) : (enV e).all okV = true := by
  cases e with
  | nothing a b =>
    simp only [enV, List.all_cons, okV, nm5_str h.1, nm5_str h.2.1, List.all_nil, Bool.and_true]
    decide +kernel
  | _ => simp only [enV, List.all_cons, okV, List.all_nil, Bool.and_true]; decide +kernel
/-! # MP -/
/-! ## papers, in plain Lean -/
def named : En → List Nat
  | .turned i => [i]
  | .less i _ => [i]
  | .joined i j => [i, j]
  | .met i j => [i, j]
  | _ => []
def namedAt (P : List En) (n : Nat) : List Nat := match P[n]? with
  | some e => named e
  | none => []
/-- each leans on what stands before it -/
def WfP (P : List En) : Prop := ∀ i e, P[i]? = some e → ∀ j ∈ named e, j < i
def leanF (P : List En) : Nat → List Nat → List Nat
  | 0, f => f
  | n + 1, f => leanF P n (if n ∈ f then f ++ (namedAt P n).filter (fun j => decide (j ∉ f)) else f)
/-- the members, in order -/
def sortK (n : Nat) (f : List Nat) : List Nat := (List.range n).filter fun i => decide (i ∈ f)
def leanK (P : List En) (n : Nat) : List Nat := sortK (n + 1) (leanF P (n + 1) [n])
abbrev nV (ns : List Nat) : List V := ns.map fun (i : Nat) => V.int (i : Int)
theorem named_len (e : En) : (named e).length ≤ 2 := by cases e <;> simp [named]
theorem nV_get {ns : List Nat} {i : Nat} {x : V} (h : (nV ns)[i]? = some x) : ∃ n : Nat, ns[i]? = some n ∧ x = .int (n : Int) := by
  rw [List.getElem?_map] at h
  obtain ⟨n, h1, h2⟩ := Option.map_eq_some_iff.mp h
  exact ⟨n, h1, h2.symm⟩
theorem nV_app (A B : List Nat) : nV (A ++ B) = nV A ++ nV B := List.map_append
theorem nV_snoc (A : List Nat) (j : Nat) : nV (A ++ [j]) = nV A ++ [V.int (j : Int)] := List.map_append
theorem flat_nV (ns : List Nat) : (nV ns).all flatV = true := by
  rw [List.all_eq_true]
  intro x hx
  obtain ⟨n, _, rfl⟩ := List.mem_map.mp hx
  rfl
theorem okV_nV (ns : List Nat) : (nV ns).all okV = true := by
  rw [List.all_eq_true]
  intro x hx
  obtain ⟨n, _, rfl⟩ := List.mem_map.mp hx
  rfl
theorem isV_nV (ns : List Nat) : (nV ns).all intStr = true := by
  rw [List.all_eq_true]
  intro x hx
  obtain ⟨n, _, rfl⟩ := List.mem_map.mp hx
  rfl
theorem inV_nV (a : Nat) (ns : List Nat) : inV (.int (a : Int)) (nV ns) = decide (a ∈ ns) := by
  unfold inV
  rw [Bool.eq_iff_iff, List.any_eq_true, decide_eq_true_eq]
  constructor
  · rintro ⟨x, hx, e⟩
    obtain ⟨n, hn, rfl⟩ := List.mem_map.mp hx
    have e2 : ((n : Nat) : Int) = (a : Int) := by simpa [eqV] using e
    have : n = a := by omega
    rwa [← this]
  · intro h
    exact ⟨_, List.mem_map.mpr ⟨a, h, rfl⟩, by simp [eqV]⟩
theorem take_snoc {α : Type} {xs : List α} {i : Nat} {x : α} (h : xs[i]? = some x) : xs.take (i + 1) = xs.take i ++ [x] := by
  rw [List.take_succ, h]; rfl
/-- strictly sorted lists with the same members -/
theorem sorted_eq : ∀ {a b : List Int}, a.Pairwise (· < ·) → b.Pairwise (· < ·) → (∀ k, k ∈ a ↔ k ∈ b) → a = b
  | [], [], _, _, _ => rfl
  | [], y :: b, _, _, h => absurd ((h y).mpr List.mem_cons_self) (by simp)
  | x :: a, [], _, _, h => absurd ((h x).mp List.mem_cons_self) (by simp)
  | x :: a, y :: b, pa, pb, h => by
    obtain ⟨xa, pa2⟩ := List.pairwise_cons.mp pa
    obtain ⟨yb, pb2⟩ := List.pairwise_cons.mp pb
    have e : x = y := by
      rcases List.mem_cons.mp ((h x).mp List.mem_cons_self) with q | q
      · exact q
      · rcases List.mem_cons.mp ((h y).mpr List.mem_cons_self) with r | r
        · exact r.symm
        · have := yb _ q; have := xa _ r; omega
    subst e
    refine congrArg (List.cons x) (sorted_eq pa2 pb2 fun k => ?_)
    constructor
    · intro hk
      rcases List.mem_cons.mp ((h k).mp (List.mem_cons_of_mem _ hk)) with q | q
      · have := xa _ hk; omega
      · exact q
    · intro hk
      rcases List.mem_cons.mp ((h k).mpr (List.mem_cons_of_mem _ hk)) with q | q
      · have := yb _ hk; omega
      · exact q
theorem sortK_pw (n : Nat) (f : List Nat) : (sortK n f).Pairwise (· < ·) := List.Pairwise.filter _ List.pairwise_lt_range
theorem sortK_mem {n : Nat} {f : List Nat} {i : Nat} : i ∈ sortK n f ↔ i < n ∧ i ∈ f := by
  unfold sortK
  rw [List.mem_filter, List.mem_range, decide_eq_true_eq]
theorem cast_pw {l : List Nat} (h : l.Pairwise (· < ·)) : (l.map fun (i : Nat) => (i : Int)).Pairwise (· < ·) := by
  rw [List.pairwise_map]
  exact h.imp fun h => by omega
/-- what sorted(set(..)) gives -/
theorem sorted_is {ns : List Int} {f : List Nat} {n : Nat} (hp : ns.Pairwise (· < ·)) (hm : ∀ k : Int, k ∈ ns ↔ decide (k ∈ f.map fun (i : Nat) => (i : Int)) = true) (hb : ∀ i ∈ f, i < n) : ns.map V.int = nV (sortK n f) := by
  have e : ns = (sortK n f).map fun (i : Nat) => (i : Int) := by
    refine sorted_eq hp (cast_pw (sortK_pw n f)) fun k => ?_
    rw [hm k, decide_eq_true_eq, List.mem_map, List.mem_map]
    constructor
    · rintro ⟨i, hi, rfl⟩; exact ⟨i, sortK_mem.mpr ⟨hb i hi, hi⟩, rfl⟩
    · rintro ⟨i, hi, rfl⟩; exact ⟨i, (sortK_mem.mp hi).2, rfl⟩
  rw [e, List.map_map]
  rfl
theorem nV_ints (f : List Nat) : nV f = (f.map fun (i : Nat) => (i : Int)).map V.int := by rw [List.map_map]; rfl
theorem leanF_bd {P : List En} (w : WfP P) {N : Nat} : ∀ (n : Nat) (f : List Nat), (∀ i ∈ f, i < N) → n ≤ N → ∀ i ∈ leanF P n f, i < N := by
  intro n
  induction n with
  | zero => intro f h _; exact h
  | succ n ih =>
    intro f h hn
    refine ih _ (fun i hi => ?_) (by omega)
    by_cases c : n ∈ f
    · rw [if_pos c] at hi
      rcases List.mem_append.mp hi with a | a
      · exact h i a
      · have hm := (List.mem_filter.mp a).1
        unfold namedAt at hm
        cases e : P[n]? with
        | none => rw [e] at hm; cases hm
        | some x =>
          rw [e] at hm
          have := w n x e i hm
          omega
    · rw [if_neg c] at hi; exact h i hi
/-! ### a paper that is told is well founded -/
theorem linesOf_len {hb : Bool} {rows : List Ln} : ∀ {es : List En} {told T : List Ln}, linesOf hb rows es told = some T → T.length = told.length + es.length := by
  intro es
  induction es with
  | nil => intro told T h; cases h; rfl
  | cons e es ih =>
    intro told T h
    rw [linesOf] at h
    obtain ⟨l, _, h2⟩ := Option.bind_eq_some_iff.mp h
    have := ih h2
    rw [this, List.length_append, List.length_cons]
    show told.length + 1 + es.length = told.length + (es.length + 1)
    omega
theorem entry_wf {hb : Bool} {rows told : List Ln} {e : En} {l : Ln} (h : entryLn hb rows told e = some l) : ∀ j ∈ named e, j < told.length := by
  have key : ∀ {i : Nat} {x : Ln}, told[i]? = some x → i < told.length := fun q => (List.getElem?_eq_some_iff.mp q).1
  cases e with
  | told i => intro j hj; cases hj
  | nothing a b => intro j hj; cases hj
  | turned i =>
    intro j hj
    obtain ⟨x, q, _⟩ := Option.map_eq_some_iff.mp h
    rw [List.mem_singleton.mp hj]; exact key q
  | less i b =>
    intro j hj
    obtain ⟨x, q, _⟩ := Option.bind_eq_some_iff.mp h
    rw [List.mem_singleton.mp hj]; exact key q
  | joined a b =>
    intro j hj
    obtain ⟨x, q, h2⟩ := Option.bind_eq_some_iff.mp h
    obtain ⟨y, q2, _⟩ := Option.bind_eq_some_iff.mp h2
    rcases List.mem_cons.mp hj with r | r
    · rw [r]; exact key q
    · rw [List.mem_singleton.mp r]; exact key q2
  | met a b =>
    intro j hj
    obtain ⟨x, q, h2⟩ := Option.bind_eq_some_iff.mp h
    obtain ⟨y, q2, _⟩ := Option.bind_eq_some_iff.mp h2
    rcases List.mem_cons.mp hj with r | r
    · rw [r]; exact key q
    · rw [List.mem_singleton.mp r]; exact key q2
theorem lines_wf' {hb : Bool} {rows : List Ln} : ∀ {es : List En} {told T : List Ln}, linesOf hb rows es told = some T → ∀ i e, es[i]? = some e → ∀ j ∈ named e, j < told.length + i := by
  intro es
  induction es with
  | nil => intro told T _ i e hi; cases hi
  | cons x es ih =>
    intro told T h i e hi j hj
    rw [linesOf] at h
    obtain ⟨l, h1, h2⟩ := Option.bind_eq_some_iff.mp h
    cases i with
    | zero => cases hi; exact entry_wf h1 j hj
    | succ i =>
      have := ih h2 i e hi j hj
      rw [List.length_append] at this
      have e2 : [l].length = 1 := rfl
      omega
theorem lines_wf {hb : Bool} {rows : List Ln} {P : List En} {T : List Ln} (h : linesOf hb rows P [] = some T) : WfP P := fun i e hi j hj => by
  have := lines_wf' h i e hi j hj
  simpa using this
/-! ### names anew -/
def renE (f : Nat → Nat) : En → En
  | .turned i => .turned (f i)
  | .less i b => .less (f i) b
  | .joined i j => .joined (f i) (f j)
  | .met i j => .met (f i) (f j)
  | e => e
def trimK (P : List En) (n : Nat) : List En := (leanK P n).filterMap fun i => (P[i]?).map (renE fun j => (leanK P n).idxOf j)
theorem iteIn {x : V} {xs : List V} {A B : Prop} (h : inV x xs = true) (a : A) : if inV x xs = true then A else B := by rw [if_pos h]; exact a
theorem iteNIn {x : V} {xs : List V} {A B : Prop} (h : inV x xs = false) (b : B) : if inV x xs = true then A else B := by rw [if_neg (by rw [h]; exact Bool.false_ne_true)]; exact b
theorem filt_take {ns f : List Nat} {i : Nat} {x : Nat} (h : ns[i]? = some x) : (ns.take (i + 1)).filter (fun j => decide (j ∉ f)) = (ns.take i).filter (fun j => decide (j ∉ f)) ++ (if x ∈ f then [] else [x]) := by
  rw [take_snoc h, List.filter_append]
  by_cases c : x ∈ f
  · rw [if_pos c, List.filter_cons_of_neg (by simpa using c)]; rfl
  · rw [if_neg c, List.filter_cons_of_pos (by simpa using c)]; rfl
/-! # MQ -/
section
variable {X : Cx} {m : Md} {σ : L2.St} {H : Hp} {Q : VK} {N : List Str} {sc : Scope} {k : Nat}
theorem ix_dget (hu : X.A.units + 1 < cLine) : IxR X (fun x y H Q => ∃ p v, x = .ref p ∧ DGet H p y (some v) ∧ Q v H) := by
  intro value slice pins s σ H x y v u Q I rx ry h hs
  obtain ⟨p, r, rfl, g, q⟩ := h
  obtain rfl : v = Value.ref p := rx
  exact tail_any (dict_typeIs I g) PySem.F.slot_dict_getitem.lookup (d_getItem hu I g ry fun w' s3 I3 rw' => ⟨r, H, I3, rw', q⟩) hs
theorem i_dget (C : Ctx X m N sc k) {p : Addr} {y v : V} (g : DGet H p y (some v)) (q : Q v H) : WI X (.ref p) y H Q := ofI (ix_dget (units1 C)) ⟨p, v, rfl, g, q⟩
/-- places told by a list or by a dict -/
def Plc (H : Hp) (p : Addr) (f : Nat → Nat) (js : List Nat) : Prop :=
  (∃ ns, H p = some (.lst (nV ns)) ∧ ∀ j ∈ js, ns[j]? = some (f j)) ∨ (∃ kvs, H p = some (.dK kvs) ∧ ∀ j ∈ js, valV kvs (.inl (j : Int)) = some (.int ((f j : Nat) : Int)))
theorem Plc.same {H H' : Hp} {p : Addr} {f : Nat → Nat} {js : List Nat} (h : Plc H p f js) (s : Same H H') : Plc H' p f js := by
  rcases h with ⟨ns, a, b⟩ | ⟨kvs, a, b⟩
  · exact .inl ⟨ns, s _ _ a, b⟩
  · exact .inr ⟨kvs, s _ _ a, b⟩
theorem i_plc (C : Ctx X m N sc k) {p : Addr} {f : Nat → Nat} {js : List Nat} {j : Nat} (h : Plc H p f js) (hj : j ∈ js) (q : Q (.int ((f j : Nat) : Int)) H) : WI X (.ref p) (.int (j : Int)) H Q := by
  rcases h with ⟨ns, a, b⟩ | ⟨kvs, a, b⟩
  · refine i_L C a (atI_nat ?_) q
    show (nV ns)[j]? = _
    rw [List.getElem?_map, b j hj]; rfl
  · have g := DGet.k (k := .inl (j : Int)) a
    rw [b j hj] at g
    exact i_dget C g q
end
/-! ### the dict of the places -/
def pairsV (ks : List Nat) : List (List V) := ks.zipIdx.map fun x => [V.int (x.1 : Int), V.int (x.2 : Int)]
theorem pairsV_take {ks : List Nat} {i k : Nat} (h : ks[i]? = some k) : pairsV (ks.take (i + 1)) = pairsV (ks.take i) ++ [[V.int (k : Int), V.int (i : Int)]] := by
  have hi : i < ks.length := (List.getElem?_eq_some_iff.mp h).1
  unfold pairsV
  rw [take_snoc h, List.zipIdx_append, List.map_append, List.length_take, Nat.zero_add, Nat.min_eq_left (Nat.le_of_lt hi)]
  rfl
def kvsOf (ks : List Nat) : List (Key × V) := ks.zipIdx.map fun x => (.inl (x.1 : Int), V.int (x.2 : Int))
theorem tups_paired {K : PySem.W.Frag} {H : Hp} : ∀ {rs : List Nat} {ps : List (Nat × Nat)}, Tups H rs (ps.map fun x => [V.int (x.1 : Int), V.int (x.2 : Int)]) → Paired (fun p (kv : Key × V) => SqT K H p [kV kv.1, kv.2]) rs (ps.map fun x => (.inl (x.1 : Int), V.int (x.2 : Int))) := by
  intro rs ps
  generalize e : (ps.map fun x => [V.int (x.1 : Int), V.int (x.2 : Int)]) = ts
  intro h
  induction h generalizing ps with
  | nil =>
    cases ps with
    | nil => exact .nil
    | cons _ _ => cases e
  | cons a b ih =>
    cases ps with
    | nil => cases e
    | cons p ps =>
      cases e
      exact .cons (SqT.of a) (ih rfl)
theorem val_merge : ∀ (ps : List (Nat × Nat)) (acc : List (Key × V)) (j : Nat), (ps.map (·.1)).Nodup → valV (mergeK acc (ps.map fun x => (.inl (x.1 : Int), V.int (x.2 : Int)))) (.inl (j : Int)) = match ps.find? (fun x => x.1 == j) with
    | some x => some (.int (x.2 : Int))
    | none => valV acc (.inl (j : Int)) := by
  intro ps
  induction ps with
  | nil => intro acc j _; rfl
  | cons p ps ih =>
    intro acc j nd
    rw [List.map_cons] at nd
    obtain ⟨n1, n2⟩ := List.nodup_cons.mp nd
    show valV (mergeK (putK acc (.inl (p.1 : Int)) (.int (p.2 : Int))) _) _ = _
    rw [ih _ j n2, valV_put, List.find?_cons]
    by_cases c : p.1 = j
    · have c2 : (p.1 == j) = true := by simpa using c
      rw [c2]
      have no : ps.find? (fun x => x.1 == j) = none := by
        rw [List.find?_eq_none]
        intro x hx hxj
        exact n1 (List.mem_map.mpr ⟨x, hx, by rw [c]; simpa using hxj⟩)
      rw [no]
      show (if _ then _ else _) = some _
      rw [if_pos (by rw [c])]
    · have c2 : (p.1 == j) = false := by simpa using c
      rw [c2]
      have ne : ¬ ((.inl (j : Int) : Key) = .inl (p.1 : Int)) := by
        intro e
        have e2 : (j : Int) = (p.1 : Int) := Sum.inl.inj e
        exact c (by omega)
      rw [if_neg ne]
theorem find_zip (ks : List Nat) (j : Nat) (h : j ∈ ks) : ∀ s, (ks.zipIdx s).find? (fun x => x.1 == j) = some (j, s + ks.idxOf j) := by
  induction ks with
  | nil => cases h
  | cons k ks ih =>
    intro s
    rw [List.zipIdx_cons, List.find?_cons]
    by_cases c : k = j
    · subst c
      simp
    · have c2 : (k == j) = false := by simpa using c
      have hm : j ∈ ks := by
        rcases List.mem_cons.mp h with r | r
        · exact absurd r.symm c
        · exact r
      simp only [c2]
      rw [ih hm, List.idxOf_cons, c2]
      show some (j, s + 1 + List.idxOf j ks) = some (j, s + (List.idxOf j ks + 1))
      rw [Nat.add_assoc, Nat.add_comm 1]
theorem fst_zip : ∀ (ks : List Nat) (s : Nat), ((ks.zipIdx s).map (·.1)) = ks := by
  intro ks
  induction ks with
  | nil => intro s; rfl
  | cons k ks ih => intro s; rw [List.zipIdx_cons, List.map_cons, ih]
theorem plc_dict {H : Hp} {p : Addr} {ks : List Nat} (nd : ks.Nodup) (h : H p = some (.dK (mergeK [] (kvsOf ks)))) : Plc H p (fun j => ks.idxOf j) ks := by
  refine .inr ⟨_, h, fun j hj => ?_⟩
  unfold kvsOf
  rw [val_merge _ _ j (by rw [fst_zip]; exact nd), find_zip ks j hj 0, Nat.zero_add]
theorem pw_nodup {l : List Nat} (h : l.Pairwise (· < ·)) : l.Nodup := h.imp fun a e => by omega
theorem leanK_pw (P : List En) (n : Nat) : (leanK P n).Pairwise (· < ·) := sortK_pw _ _
theorem leanK_lt {P : List En} {n i : Nat} (h : i ∈ leanK P n) : i < n + 1 := (sortK_mem.mp h).1
theorem sortK_len (n : Nat) (f : List Nat) : (sortK n f).length ≤ n := by
  have := List.length_filter_le (fun i => decide (i ∈ f)) (List.range n)
  rwa [List.length_range] at this
/-- every member is there -/
theorem leanF_grow {P : List En} : ∀ (n : Nat) (f : List Nat) (x : Nat), x ∈ f → x ∈ leanF P n f := by
  intro n
  induction n with
  | zero => intro f x h; exact h
  | succ n ih =>
    intro f x h
    refine ih _ x ?_
    by_cases c : n ∈ f
    · rw [if_pos c]; exact List.mem_append.mpr (.inl h)
    · rw [if_neg c]; exact h
/-- what leans on what: the elders of a member are members -/
theorem leanF_closed {P : List En} (w : WfP P) : ∀ (n : Nat) (f : List Nat) (a b : Nat), a < n → a ∈ leanF P n f → b ∈ namedAt P a → b ∈ leanF P n f := by
  intro n
  induction n with
  | zero => intro f a b h; omega
  | succ n ih =>
    intro f a b han ha hb
    show b ∈ leanF P n _
    have ha : a ∈ leanF P n (if n ∈ f then f ++ (namedAt P n).filter (fun j => decide (j ∉ f)) else f) := ha
    by_cases e : a = n
    · subst e
      have key : a ∈ f := by
        have low : ∀ (m : Nat) (g : List Nat), m ≤ a → a ∈ leanF P m g → a ∈ g := by
          intro m
          induction m with
          | zero => intro g _ h; exact h
          | succ m ihm =>
            intro g hm h
            have h2 := ihm _ (by omega) h
            by_cases c : m ∈ g
            · rw [if_pos c] at h2
              rcases List.mem_append.mp h2 with q | q
              · exact q
              · have hmem := (List.mem_filter.mp q).1
                unfold namedAt at hmem
                cases e2 : P[m]? with
                | none => rw [e2] at hmem; cases hmem
                | some x => rw [e2] at hmem; have := w m x e2 a hmem; omega
            · rw [if_neg c] at h2; exact h2
        have h3 := low a _ (Nat.le_refl _) ha
        by_cases c : a ∈ f
        · exact c
        · rw [if_neg c] at h3; exact absurd h3 c
      rw [if_pos key]
      refine leanF_grow _ _ _ ?_
      by_cases c : b ∈ f
      · exact List.mem_append.mpr (.inl c)
      · exact List.mem_append.mpr (.inr (List.mem_filter.mpr ⟨hb, by simpa using c⟩))
    · exact ih _ a b (by omega) ha hb
theorem leanK_closed {P : List En} (w : WfP P) {n a b : Nat} (ha : a ∈ leanK P n) (hb : b ∈ namedAt P a) : b ∈ leanK P n := by
  obtain ⟨h1, h2⟩ := sortK_mem.mp ha
  refine sortK_mem.mpr ⟨?_, leanF_closed w _ _ a b h1 h2 hb⟩
  unfold namedAt at hb
  cases e : P[a]? with
  | none => rw [e] at hb; cases hb
  | some x => rw [e] at hb; have := w a x e b hb; omega
theorem leanK_self (P : List En) (n : Nat) : n ∈ leanK P n := sortK_mem.mpr ⟨Nat.lt_succ_self n, leanF_grow _ _ _ (List.mem_singleton.mpr rfl)⟩
theorem papV_ok {P : List En} (h : ∀ e ∈ P, EnOk e) : okT (P.map enV) = true := by
  unfold okT
  rw [List.all_eq_true]
  intro t ht
  obtain ⟨e, he, rfl⟩ := List.mem_map.mp ht
  exact enV_ok (h e he)
theorem enV_is (e : En) : (enV e).all intStr = true := by cases e <;> rfl
theorem papV_is (P : List En) : isT (P.map enV) = true := by
  unfold isT
  rw [List.all_eq_true]
  intro t ht
  obtain ⟨e, he, rfl⟩ := List.mem_map.mp ht
  exact enV_is e
/-! ### the told lines that count -/
def toldAt (P : List En) (i : Nat) : Option Nat := match P[i]? with
  | some (.told j) => some j
  | _ => none
def usedK (R : Nat) (P : List En) : List Nat := match P with
  | [] => []
  | e :: es => sortK R ((leanK (e :: es) es.length).filterMap (toldAt (e :: es)))
theorem told_bd {hb : Bool} {rows : List Ln} : ∀ {es : List En} {told T : List Ln}, linesOf hb rows es told = some T → ∀ (a j : Nat), es[a]? = some (En.told j) → j < rows.length := by
  intro es
  induction es with
  | nil => intro told T _ a j h; cases h
  | cons e es ih =>
    intro told T h a j ha
    rw [linesOf] at h
    obtain ⟨l, h1, h2⟩ := Option.bind_eq_some_iff.mp h
    cases a with
    | zero => cases ha; exact (List.getElem?_eq_some_iff.mp h1).1
    | succ a => exact ih h2 a j ha
theorem told_bds {hb : Bool} {rows T : List Ln} {P : List En} (h : linesOf hb rows P [] = some T) {K : List Nat} : ∀ i ∈ K.filterMap (toldAt P), i < rows.length := by
  intro i hi
  obtain ⟨a, _, ha⟩ := List.mem_filterMap.mp hi
  unfold toldAt at ha
  split at ha
  · rename_i j hj
    cases ha
    exact told_bd h a _ hj
  · cases ha
def trimmedK (P : List En) : List En := match P with
  | [] => []
  | e :: es => trimK (e :: es) es.length
/-! # MR -/
/-! ## papers put through one another, in plain Lean -/
theorem linesOf_app {hb : Bool} {rows : List Ln} : ∀ {A B : List En} {told : List Ln}, linesOf hb rows (A ++ B) told = (linesOf hb rows A told).bind (linesOf hb rows B) := by
  intro A
  induction A with
  | nil => intro B told; rfl
  | cons e A ih =>
    intro B told
    show (entryLn hb rows told e).bind (fun l => linesOf hb rows (A ++ B) (told ++ [l])) = ((entryLn hb rows told e).bind fun l => linesOf hb rows A (told ++ [l])).bind _
    cases entryLn hb rows told e with
    | none => rfl
    | some l => exact ih
theorem linesOf_pre {hb : Bool} {rows : List Ln} : ∀ {A : List En} {told T : List Ln}, linesOf hb rows A told = some T → ∀ (j : Nat) (x : Ln), told[j]? = some x → T[j]? = some x := by
  intro A
  induction A with
  | nil => intro told T h j x hx; cases h; exact hx
  | cons e A ih =>
    intro told T h j x hx
    rw [linesOf] at h
    obtain ⟨l, _, h2⟩ := Option.bind_eq_some_iff.mp h
    refine ih h2 j x ?_
    rw [List.getElem?_append_left (List.getElem?_eq_some_iff.mp hx).1]
    exact hx
/-- an entry with its elders renamed -/
theorem entry_ren {hb : Bool} {rows rows' told told' : List Ln} {e : En} {l : Ln} {f : Nat → Nat} (h : entryLn hb rows told e = some l) (hr : ∀ i, e = .told i → rows'[i]? = rows[i]?)
    (hf : ∀ j ∈ named e, ∀ x, told[j]? = some x → told'[f j]? = some x) : entryLn hb rows' told' (renE f e) = some l := by
  cases e with
  | told i => exact (hr i rfl).trans h
  | nothing a b => exact h
  | turned i =>
    obtain ⟨x, q, h2⟩ := Option.map_eq_some_iff.mp h
    show (told'[f i]?).map _ = _
    rw [hf i List.mem_cons_self x q, Option.map_some, h2]
  | less i b =>
    obtain ⟨x, q, h2⟩ := Option.bind_eq_some_iff.mp h
    show (told'[f i]?).bind _ = _
    rw [hf i List.mem_cons_self x q]
    exact h2
  | joined i j =>
    obtain ⟨x, q, h2⟩ := Option.bind_eq_some_iff.mp h
    obtain ⟨y, q2, h3⟩ := Option.bind_eq_some_iff.mp h2
    show (told'[f i]?).bind (fun l => (told'[f j]?).bind _) = _
    rw [hf i List.mem_cons_self x q, hf j (List.mem_cons_of_mem _ List.mem_cons_self) y q2]
    exact h3
  | met i j =>
    obtain ⟨x, q, h2⟩ := Option.bind_eq_some_iff.mp h
    obtain ⟨y, q2, h3⟩ := Option.bind_eq_some_iff.mp h2
    show (told'[f i]?).bind (fun l => (told'[f j]?).bind _) = _
    rw [hf i List.mem_cons_self x q, hf j (List.mem_cons_of_mem _ List.mem_cons_self) y q2]
    exact h3
/-- a whole paper behind another -/
theorem lines_shift {hb : Bool} {rows : List Ln} {n : Nat} : ∀ {A : List En} {told T base : List Ln}, linesOf hb rows A told = some T → base.length = n → linesOf hb rows (A.map (renE fun j => n + j)) (base ++ told) = some (base ++ T) := by
  intro A
  induction A with
  | nil => intro told T base h _; cases h; rfl
  | cons e A ih =>
    intro told T base h hn
    rw [linesOf] at h
    obtain ⟨l, h1, h2⟩ := Option.bind_eq_some_iff.mp h
    show (entryLn hb rows (base ++ told) (renE _ e)).bind _ = _
    rw [entry_ren h1 (fun _ _ => rfl) (told' := base ++ told) fun j _ x hx => by
      rw [List.getElem?_append_right (by omega), show n + j - base.length = j by omega]; exact hx]
    show linesOf hb rows _ (base ++ told ++ [l]) = _
    rw [List.append_assoc]
    exact ih h2 hn
def gstep (s : List En × List Nat) (P : List En) : List En × List Nat := (s.1 ++ P.map (renE fun j => s.1.length + j), s.2 ++ [s.1.length + P.length - 1])
def gatherK (Ps : List (List En)) : List En × List Nat := Ps.foldl gstep ([], [])
def istep (Ls : List Nat) (s : List En × List Nat) (e : En) : List En × List Nat := match e with
  | .told i => (s.1, s.2 ++ [Ls.getD i 0])
  | e => (s.1 ++ [renE (fun j => s.2.getD j 0) e], s.2 ++ [s.1.length])
def innerK (Ls : List Nat) (F : List En) (P : List En) : List En × List Nat := P.foldl (istep Ls) (F, [])
def putK (Ps : List (List En)) (P : List En) : List En := match P with
  | [] => []
  | e :: es =>
    let s := innerK (gatherK Ps).2 (gatherK Ps).1 (e :: es)
    trimK s.1 (s.2.getLastD 0)
def lastOf (hb : Bool) (rows : List Ln) (P : List En) : Option Ln := (linesOf hb rows P []).bind List.getLast?
/-- where each paper's last line stands -/
theorem gather_ok {hb : Bool} {rows : List Ln} : ∀ {Ps : List (List En)} {lasts : List Ln}, Ps.map (lastOf hb rows) = lasts.map some → ∀ {F : List En} {Ls : List Nat} {TF L0 : List Ln}, linesOf hb rows F [] = some TF → (Ls.length = L0.length) → (∀ (k : Nat) (l : Ln), L0[k]? = some l → ∃ i, Ls[k]? = some i ∧ TF[i]? = some l) →
    ∃ TF', linesOf hb rows (Ps.foldl gstep (F, Ls)).1 [] = some TF' ∧ (Ps.foldl gstep (F, Ls)).2.length = L0.length + lasts.length ∧ ∀ (k : Nat) (l : Ln), (L0 ++ lasts)[k]? = some l → ∃ i, (Ps.foldl gstep (F, Ls)).2[k]? = some i ∧ TF'[i]? = some l := by
  intro Ps
  induction Ps with
  | nil =>
    intro lasts h F Ls TF L0 hF hl hk
    cases lasts with
    | nil => refine ⟨TF, hF, hl, ?_⟩; rw [List.append_nil]; exact hk
    | cons _ _ => cases h
  | cons P Ps ih =>
    intro lasts h F Ls TF L0 hF hl hk
    cases lasts with
    | nil => cases h
    | cons l lasts =>
      rw [List.map_cons, List.map_cons] at h
      obtain ⟨h1, h2⟩ := List.cons.inj h
      obtain ⟨T, hT, hlast⟩ := Option.bind_eq_some_iff.mp h1
      have lF := linesOf_len hF
      have lT := linesOf_len hT
      have lF2 : TF.length = F.length := by rw [lF]; exact Nat.zero_add _
      have lT2 : T.length = P.length := by rw [lT]; exact Nat.zero_add _
      have hs := lines_shift (base := TF) hT lF2
      rw [List.append_nil] at hs
      have hF2 : linesOf hb rows (F ++ P.map (renE fun j => F.length + j)) [] = some (TF ++ T) := by
        rw [linesOf_app, hF]; exact hs
      have tn : T.length ≠ 0 := by
        intro e
        rw [List.length_eq_zero_iff.mp e] at hlast
        cases hlast
      have := ih h2 (F := F ++ P.map (renE fun j => F.length + j)) (Ls := Ls ++ [F.length + P.length - 1]) (L0 := L0 ++ [l]) hF2 (by rw [List.length_append, List.length_append, hl]; rfl) (fun k x hx => by
        by_cases c : k < L0.length
        · rw [List.getElem?_append_left c] at hx
          obtain ⟨i, q1, q2⟩ := hk k x hx
          refine ⟨i, by rw [List.getElem?_append_left (by omega)]; exact q1, ?_⟩
          rw [List.getElem?_append_left (List.getElem?_eq_some_iff.mp q2).1]; exact q2
        · have hx2 := hx
          rw [List.getElem?_append_right (by omega)] at hx2
          have k0 : k - L0.length = 0 := by
            have := (List.getElem?_eq_some_iff.mp hx2).1
            have e1 : [l].length = 1 := rfl
            omega
          rw [k0] at hx2
          cases hx2
          refine ⟨F.length + P.length - 1, ?_, ?_⟩
          · rw [List.getElem?_append_right (by omega), show k - Ls.length = 0 by omega]; rfl
          · rw [List.getElem?_append_right (by omega), show F.length + P.length - 1 - TF.length = T.length - 1 by omega, ← List.getLast?_eq_getElem?]
            exact hlast)
      obtain ⟨TF', a, b, c⟩ := this
      refine ⟨TF', a, ?_, fun k x hx => c k x (by rw [List.append_assoc]; exact hx)⟩
      show (Ps.foldl gstep (gstep (F, Ls) P)).2.length = _
      rw [show gstep (F, Ls) P = (F ++ P.map (renE fun j => F.length + j), Ls ++ [F.length + P.length - 1]) from rfl, b, List.length_append, List.length_cons]
      show L0.length + 1 + lasts.length = L0.length + (lasts.length + 1)
      omega
theorem inner_ok {hb : Bool} {rows lasts : List Ln} {Ls : List Nat} {TL : List Ln} : ∀ {P : List En} {F : List En} {Pl : List Nat} {TF told T : List Ln}, linesOf hb lasts P told = some T → linesOf hb rows F [] = some TF → Pl.length = told.length →
    (∀ (k : Nat) (l : Ln), lasts[k]? = some l → ∃ i, Ls[k]? = some i ∧ TF[i]? = some l) → (∀ (k : Nat) (l : Ln), told[k]? = some l → ∃ i, Pl[k]? = some i ∧ TF[i]? = some l) →
    ∃ TF', linesOf hb rows (P.foldl (istep Ls) (F, Pl)).1 [] = some TF' ∧ (P.foldl (istep Ls) (F, Pl)).2.length = T.length ∧ ∀ (k : Nat) (l : Ln), T[k]? = some l → ∃ i, (P.foldl (istep Ls) (F, Pl)).2[k]? = some i ∧ TF'[i]? = some l := by
  intro P
  induction P with
  | nil => intro F Pl TF told T h hF hl hL hk; cases h; exact ⟨TF, hF, hl, hk⟩
  | cons e P ih =>
    intro F Pl TF told T h hF hl hL hk
    rw [linesOf] at h
    obtain ⟨l, h1, h2⟩ := Option.bind_eq_some_iff.mp h
    have lF := linesOf_len hF
    have lF2 : TF.length = F.length := by rw [lF]; exact Nat.zero_add _
    have put : ∀ {TF2 : List Ln} {p : Nat}, (∀ (i : Nat) (x : Ln), TF[i]? = some x → TF2[i]? = some x) → TF2[p]? = some l → ∀ (k : Nat) (x : Ln), (told ++ [l])[k]? = some x → ∃ i, (Pl ++ [p])[k]? = some i ∧ TF2[i]? = some x := by
      intro TF2 p hpre hp k x hx
      by_cases c : k < told.length
      · rw [List.getElem?_append_left c] at hx
        obtain ⟨i, q1, q2⟩ := hk k x hx
        exact ⟨i, by rw [List.getElem?_append_left (by omega)]; exact q1, hpre i x q2⟩
      · rw [List.getElem?_append_right (by omega)] at hx
        have k0 : k - told.length = 0 := by
          have := (List.getElem?_eq_some_iff.mp hx).1
          have e1 : [l].length = 1 := rfl
          omega
        rw [k0] at hx
        cases hx
        exact ⟨p, by rw [List.getElem?_append_right (by omega), show k - Pl.length = 0 by omega]; rfl, hp⟩
    have len1 : ∀ p : Nat, (Pl ++ [p]).length = (told ++ [l]).length := fun p => by rw [List.length_append, List.length_append, hl]; rfl
    have other : (∀ i, e ≠ .told i) → entryLn hb rows TF (renE (fun j => Pl.getD j 0) e) = some l := fun ne => entry_ren h1 (fun i hi => absurd hi (ne i)) fun j _ x hx => by
      obtain ⟨i, q1, q2⟩ := hk j x hx
      rw [List.getD_eq_getElem?_getD, q1]; exact q2
    have step : (∀ i, e ≠ .told i) → ∃ TF', linesOf hb rows (P.foldl (istep Ls) (F ++ [renE (fun j => Pl.getD j 0) e], Pl ++ [F.length])).1 [] = some TF' ∧ (P.foldl (istep Ls) (F ++ [renE (fun j => Pl.getD j 0) e], Pl ++ [F.length])).2.length = T.length ∧ ∀ (k : Nat) (l : Ln), T[k]? = some l → ∃ i, (P.foldl (istep Ls) (F ++ [renE (fun j => Pl.getD j 0) e], Pl ++ [F.length])).2[k]? = some i ∧ TF'[i]? = some l := by
      intro ne
      have hpre : ∀ (i : Nat) (x : Ln), TF[i]? = some x → (TF ++ [l])[i]? = some x := fun i x hx => by
        rw [List.getElem?_append_left (List.getElem?_eq_some_iff.mp hx).1]; exact hx
      refine ih (TF := TF ++ [l]) h2 ?_ (len1 _) (fun k x hx => ?_) (put hpre ?_)
      · rw [linesOf_app, hF]
        show (entryLn hb rows TF _).bind _ = _
        rw [other ne]; rfl
      · obtain ⟨i, q1, q2⟩ := hL k x hx
        exact ⟨i, q1, hpre i x q2⟩
      · rw [List.getElem?_append_right (by omega), show F.length - TF.length = 0 by omega]; rfl
    cases e with
    | told i =>
      obtain ⟨p, q1, q2⟩ := hL i l h1
      exact ih h2 hF (len1 _) hL (put (fun _ _ hx => hx) (by rw [List.getD_eq_getElem?_getD, q1]; exact q2))
    | _ => exact step (fun _ z => by cases z)
/-! # KW8 -/
theorem LT.putNe {H : Hp} {p D : Addr} {ts : List (List V)} {ys : List V} {o : HO} (h : LT H p ts) (ne : p ≠ D) (hd : H D = some (.lst ys)) : LT (upd H D o) p ts := by
  obtain ⟨rs, a, b⟩ := h
  exact ⟨rs, by rw [upd_ne ne]; exact a, b.put hd⟩
/-- a list of lists of tuples -/
def LLs (H : Hp) (rs : List Nat) (tss : List (List (List V))) : Prop := Paired (fun r ts => LT H r ts) rs tss
def LLT (H : Hp) (p : Addr) (tss : List (List (List V))) : Prop := ∃ rs, H p = some (.lst (rs.map V.ref)) ∧ LLs H rs tss
theorem LLs.same {H H' : Hp} {rs : List Nat} {tss : List (List (List V))} (h : LLs H rs tss) (s : Same H H') : LLs H' rs tss := by
  induction h with
  | nil => exact .nil
  | cons a b ih => exact .cons (a.same s) ih
theorem LLT.same {H H' : Hp} {p : Addr} {tss : List (List (List V))} (h : LLT H p tss) (s : Same H H') : LLT H' p tss := by
  obtain ⟨rs, a, b⟩ := h
  exact ⟨rs, s _ _ a, b.same s⟩
theorem LLs.len {H : Hp} {rs : List Nat} {tss : List (List (List V))} (h : LLs H rs tss) : rs.length = tss.length := by
  induction h with
  | nil => rfl
  | cons a b ih => rw [List.length_cons, List.length_cons, ih]
theorem LLs.putNe {H : Hp} {D : Addr} {rs : List Nat} {tss : List (List (List V))} {ys : List V} {o : HO} (h : LLs H rs tss) (ne : D ∉ rs) (hd : H D = some (.lst ys)) : LLs (upd H D o) rs tss := by
  induction h with
  | nil => exact .nil
  | cons a b ih => exact .cons (a.putNe (fun e => ne (by rw [e]; exact List.mem_cons_self)) hd) (ih fun z => ne (List.mem_cons_of_mem _ z))
theorem LLs.snoc {H : Hp} {rs : List Nat} {tss : List (List (List V))} {r : Nat} {ts : List (List V)} (h : LLs H rs tss) (e : LT H r ts) : LLs H (rs ++ [r]) (tss ++ [ts]) := by
  induction h with
  | nil => exact .cons e .nil
  | cons a b ih => exact .cons a ih
theorem LLs.get {H : Hp} {rs : List Nat} {tss : List (List (List V))} (h : LLs H rs tss) : ∀ {i : Nat} {x : V}, (rs.map V.ref)[i]? = some x → ∃ r ts, x = .ref r ∧ tss[i]? = some ts ∧ LT H r ts := by
  induction h with
  | nil => intro i x e; cases e
  | cons a b ih =>
    intro i x e
    cases i with
    | zero => cases e; exact ⟨_, _, rfl, rfl, a⟩
    | succ i => exact ih e
theorem LLT.nil {H : Hp} {p : Addr} (h : H p = some (.lst [])) : LLT H p [] := ⟨[], h, .nil⟩
section
variable {X : Cx} {m : Md} {σ : L2.St} {H : Hp} {tg iter elt : Expr} {ifs : List Expr} {scope : Scope} {pos : Pos} {N : List Str} {sc : Scope} {k : Nat} {Q : VK}
/-- lists made, each new -/
theorem lcLL_L (own : List (Str × Nat)) {Q : VK} (C : Ctx X m N sc k) (ok : blkC N sc scope own = true) (hs : ∀ x, foldedSetIterable iter X.env x = pure x)
    (h : WE X iter σ H fun v H1 => ∃ a xs, v = .ref a ∧ H1 a = some (.lst xs) ∧ xs.length ≤ sizeLine ∧ ∃ P : Nat → List (List (List V)) → Prop, P 0 [] ∧
      (∀ i x H2 tss, xs[i]? = some x → Same H1 H2 → P i tss → TurnV X tg elt ifs scope (own.map (·.2)) x σ H2 fun o H3 => Same H2 H3 ∧ ∃ r ts, o = some (.ref r) ∧ H2 r = none ∧ LT H3 r ts ∧ P (i + 1) (tss ++ [ts])) ∧
      ∀ D H2 tss, H1 D = none → Same H1 H2 → LLT H2 D tss → P xs.length tss → Q (.ref D) H2) : WE X (.ListComp elt [⟨tg, iter, ifs, 0⟩] scope pos) σ H Q := by
  refine w_lcL own C ok hs (WE.mono h ?_)
  rintro v H1 ⟨a, xs, rfl, ha, hl, P, p0, pt, pd⟩
  refine ⟨a, xs, rfl, SqL.of ha, fun D nD => ⟨fun i H acc => Same H1 H ∧ H D = some (.lst acc) ∧ acc.length ≤ i ∧ ∃ rs tss, acc = rs.map V.ref ∧ D ∉ rs ∧ LLs H rs tss ∧ P i tss, ⟨sameNew nD, upd_same, Nat.le_refl _, [], [], rfl, by simp, .nil, p0⟩, fun i H acc r => SqL.of (r.1 _ _ ha), fun i x H acc hx r => ?_, fun H acc r => ?_⟩⟩
  · have hi : i < xs.length := (List.getElem?_eq_some_iff.mp hx).1
    obtain ⟨r1, r2, r3, rs, tss, rfl, nd, tt, pp⟩ := r
    refine turn1_of (pt i x H tss hx r1 pp) (fun H3 ⟨_, _, _, e, _⟩ => nomatch e) fun y H4 ⟨q1, r, ts, e, nr, ht, p2⟩ => ?_
    cases e
    have hD := q1 _ _ r2
    have ne : r ≠ D := fun e => by rw [e, r2] at nr; cases nr
    refine ⟨hD, by omega, Same.put (Same.trans r1 q1) nD, upd_same, by rw [List.length_append]; exact Nat.succ_le_succ r3, rs ++ [r], tss ++ [ts], by rw [List.map_append]; rfl, ?_, ?_, p2⟩
    · intro z
      rcases List.mem_append.mp z with z | z
      · exact nd z
      · exact ne (List.mem_singleton.mp z).symm
    · exact ((tt.same q1).putNe nd hD).snoc (ht.putNe ne hD)
  · obtain ⟨r1, r2, r3, rs, tss, rfl, nd, tt, pp⟩ := r
    exact pd D H tss nD r1 ⟨rs, r2, tt⟩ pp
/-! ### what is in a list of lists -/
def okTT (tss : List (List (List V))) : Prop := ∀ ts ∈ tss, okT ts = true
abbrev lltD (tss : List (List (List V))) : PyData := .list (tss.map ltD)
theorem dpLLs {K : PySem.W.Frag} {H : Hp} {rs : List Nat} {tss : List (List (List V))} (h : LLs H rs tss) (o : okTT tss) : DpAll K H (rs.map V.ref) (tss.map ltD) := by
  induction h with
  | nil => exact .nil
  | cons a b ih => exact .cons (dpLT a (o _ List.mem_cons_self)) (ih fun ts hts => o ts (List.mem_cons_of_mem _ hts))
theorem dpLLT {K : PySem.W.Frag} {H : Hp} {p : Addr} {tss : List (List (List V))} (h : LLT H p tss) (o : okTT tss) : Dp K H (.ref p) (lltD tss) := by
  obtain ⟨rs, a, b⟩ := h
  exact .lst (SqL.of a) (dpLLs b o)
theorem lay_LLs : ∀ {tss : List (List (List V))}, okTT tss → PyData.canLayAll0 (tss.map ltD) = true ∧ PyData.depthAll (tss.map ltD) ≤ 2
  | [], _ => by simp [PyData.canLayAll0, PyData.depthAll]
  | ts :: tss, h => by
    obtain ⟨a, b⟩ := lay_LT (h ts List.mem_cons_self)
    obtain ⟨c, d⟩ := lay_LLs (tss := tss) fun x hx => h x (List.mem_cons_of_mem _ hx)
    rw [List.map_cons, PyData.canLayAll0, PyData.depthAll, a, c]
    exact ⟨rfl, Nat.max_le.mpr ⟨b, d⟩⟩
theorem sh_LLT {tss : List (List (List V))} (h : okTT tss) : SeqAt.shaped (lltD tss) = true := by
  obtain ⟨c, d⟩ := lay_LLs h
  rw [SeqAt.shaped, lltD, PyData.canLay0, PyData.depth, c, decide_eq_true (by omega)]; rfl
theorem o_inNone (C : Ctx X m N sc k) {p : Addr} {tss : List (List (List V))} (h : LLT H p tss) (o : okTT tss) (q : Q (.bl false) H) : WO X (compareOp .In) .non (.ref p) H Q := by
  obtain rfl := C.hm
  refine ofO (op_inD (by have := C.room.un; omega)) ⟨.none, tss.map ltD, .non, dpLLT h o, rfl, sh_LLT o, ?_⟩
  have e : ((tss.map ltD).any fun z => PyData.eqv z .none) = false := by
    rw [List.any_eq_false]
    intro z hz
    obtain ⟨ts, _, rfl⟩ := List.mem_map.mp hz
    simp [ltD, PyData.eqv]
  rw [e]; exact q
theorem o_inNil (C : Ctx X m N sc k) {p r : Addr} {tss : List (List (List V))} (h : LLT H p tss) (hr : H r = some (.lst [])) (o : okTT tss) (ne : ∀ ts ∈ tss, ts ≠ []) (q : Q (.bl false) H) : WO X (compareOp .In) (.ref r) (.ref p) H Q := by
  obtain rfl := C.hm
  refine ofO (op_inD (by have := C.room.un; omega)) ⟨.list [], tss.map ltD, dp_nil hr, dpLLT h o, rfl, sh_LLT o, ?_⟩
  have e : ((tss.map ltD).any fun z => PyData.eqv z (.list [])) = false := by
    rw [List.any_eq_false]
    intro z hz
    obtain ⟨ts, hts, rfl⟩ := List.mem_map.mp hz
    cases ts with
    | nil => exact absurd rfl (ne _ hts)
    | cons t ts => simp [ltD, PyData.eqv, PyData.eqvAll]
  rw [e]; exact q
end
theorem lnV_ok {hb : Bool} {l : Ln} (h : LnOk hb l) : (lnV l).all okV = true := by
  simp only [lnV, List.all_cons, okV, nm5_str h.n1, nm5_str h.n2, List.all_nil, Bool.and_true]
theorem lnVs_ok {hb : Bool} {T : List Ln} (h : ∀ l ∈ T, LnOk hb l) : okT (T.map lnV) = true := by
  unfold okT
  rw [List.all_eq_true]
  intro t ht
  obtain ⟨l, hl, rfl⟩ := List.mem_map.mp ht
  exact lnV_ok (h l hl)
theorem lnV_is (l : Ln) : (lnV l).all intStr = true := rfl
theorem lnVs_is (T : List Ln) : isT (T.map lnV) = true := by
  unfold isT
  rw [List.all_eq_true]
  intro t ht
  obtain ⟨l, hl, rfl⟩ := List.mem_map.mp ht
  rfl
/-! # KW9 -/
section
variable {X : Cx} {m : Md} {σ : L2.St} {H : Hp} {tg iter elt : Expr} {ifs : List Expr} {scope : Scope} {pos : Pos} {N : List Str} {sc : Scope} {k : Nat}
theorem ws_lcL (own : List (Str × Nat)) (C : Ctx X m N sc k) {DE : Ends} {ix : Nat} {y : Str} {py spos : Pos} (hy : N[ix]? = some y) (hyl : lcB sc y = true) (hsw : (py.line == pos.line) = true) (hany : (scope.names.any fun (n, k) => n == y && (k == .local || k == .cell)) = false) (hkind : sc.kind = .function) (ok : blkC N sc scope own = true) (hs : ∀ x, foldedSetIterable iter X.env x = pure x)
    (h : WE X iter σ H fun v H1 => ∃ a xs, v = .ref a ∧ SqL m.K H1 a xs ∧ ∀ D, H1 D = none → ∃ R : Nat → Hp → List V → Prop, R 0 (upd H1 D (.lst [])) [] ∧ (∀ i H acc, R i H acc → SqL m.K H a xs) ∧
      (∀ i x H acc, xs[i]? = some x → R i H acc → Turn1 X tg elt ifs scope (own.map (·.2)) x σ H D acc (R (i + 1))) ∧ ∀ H acc, R xs.length H acc → DE.nx (σ.set ix (some (.ref D))) H) : WS X (.Assign [.Name y py] (.ListComp elt [⟨tg, iter, ifs, 0⟩] scope pos) spos) DE σ H := by
  obtain rfl := C.hm
  refine ofS (ps_lc C hy hyl hsw hany hkind (pi_list pWE) ok hs) (WE.mono h ?_)
  rintro v H1 ⟨a, xs, rfl, hq, hD⟩
  refine ⟨a, rfl, ⟨xs, hq⟩, fun D nD => ?_⟩
  obtain ⟨R, r0, rl, rs, rd⟩ := hD D nD
  exact lc_list (K := X.K) (a := a) (xs := xs) (g := gB X tg scope) (tt := tB X ifs scope) (te := eB X elt scope) (vs := own.map (·.2)) (σ := σ) (fun i H => ∃ acc, R i H acc) ⟨[], r0⟩ (fun i H _ ⟨acc, r⟩ => rl i H acc r) (fun i x H hx ⟨acc, r⟩ => turn_go (Pn := fun H => ∃ acc, R (i + 1) H acc) (rs i x H acc hx r) fun H' ys q => ⟨ys, q⟩) (fun H ⟨acc, r⟩ => rd H acc r)
theorem ws_lcR (own : List (Str × Nat)) {a : Expr} {p pos2 : Pos} (C : Ctx X m N sc k) {DE : Ends} {ix : Nat} {y : Str} {py spos : Pos} (hy : N[ix]? = some y) (hyl : lcB sc y = true) (hsw : (py.line == pos.line) = true) (hany : (scope.names.any fun (n, k) => n == y && (k == .local || k == .cell)) = false) (hkind : sc.kind = .function) (hg : Gl X "range") (hm : m.mg "range" = none) (hsa : starEach [a] X.env = [(false, eval a X.env)]) (ok : blkC N sc scope own = true)
    (hs : ∀ x, foldedSetIterable (.Call (.Name "range" p) [a] [] pos2) X.env x = pure x)
    (h : WE X a σ H fun v H1 => ∃ n : Int, v = .int n ∧ -(2 ^ 62) ≤ n ∧ n < 2 ^ 62 ∧ ∀ D, H1 D = none → ∃ R : Nat → Hp → List V → Prop, R 0 (upd H1 D (.lst [])) [] ∧
      (∀ i H acc, i < n.toNat → R i H acc → Turn1 X tg elt ifs scope (own.map (·.2)) (.int (i : Nat)) σ H D acc (R (i + 1))) ∧ ∀ H acc, R n.toNat H acc → DE.nx (σ.set ix (some (.ref D))) H) : WS X (.Assign [.Name y py] (.ListComp elt [⟨tg, .Call (.Name "range" p) [a] [] pos2, ifs, 0⟩] scope pos) spos) DE σ H := by
  obtain rfl := C.hm
  refine ofS (ps_lc C hy hyl hsw hany hkind (pi_range1 hg hm pWA hsa) ok hs) ?_
  show WA X [a] σ H _
  refine w_acons (by rw [hsa]; rfl) (WE.mono h ?_)
  rintro v H1 ⟨n, rfl, b1, b2, hD⟩
  refine w_anil ⟨n, rfl, b1, b2, fun D nD => ?_⟩
  obtain ⟨R, r0, rs, rd⟩ := hD D nD
  refine lc_range (lo := 0) (n := n.toNat) (g := gB X tg scope) (tt := tB X ifs scope) (te := eB X elt scope) (vs := own.map (·.2)) (σ := σ) (fun i H => ∃ acc, R i H acc) ⟨[], r0⟩ (fun i H hi ⟨acc, r⟩ => ?_) (fun H ⟨acc, r⟩ => rd H acc r)
  rw [Int.zero_add]
  exact turn_go (Pn := fun H => ∃ acc, R (i + 1) H acc) (rs i H acc hi r) fun H' ys q => ⟨ys, q⟩
theorem slcF_L (own : List (Str × Nat)) (C : Ctx X m N sc k) {DE : Ends} {ix : Nat} {y : Str} {py spos : Pos} (hy : N[ix]? = some y) (hyl : lcB sc y = true) (hsw : (py.line == pos.line) = true) (hany : (scope.names.any fun (n, k) => n == y && (k == .local || k == .cell)) = false) (hkind : sc.kind = .function) (ok : blkC N sc scope own = true) (hs : ∀ x, foldedSetIterable iter X.env x = pure x)
    (h : WE X iter σ H fun v H1 => ∃ a xs, v = .ref a ∧ H1 a = some (.lst xs) ∧ xs.length ≤ sizeLine ∧ ∃ P : Nat → List V → Prop, P 0 [] ∧
      (∀ i x H2 acc, xs[i]? = some x → Same H1 H2 → P i acc → TurnV X tg elt ifs scope (own.map (·.2)) x σ H2 fun o H3 => Same H2 H3 ∧ P (i + 1) (acc ++ o.toList)) ∧
      ∀ D H2 acc, H1 D = none → Same H1 H2 → H2 D = some (.lst acc) → P xs.length acc → DE.nx (σ.set ix (some (.ref D))) H2) : WS X (.Assign [.Name y py] (.ListComp elt [⟨tg, iter, ifs, 0⟩] scope pos) spos) DE σ H := by
  refine ws_lcL own C hy hyl hsw hany hkind ok hs (WE.mono h ?_)
  rintro v H1 ⟨a, xs, rfl, ha, hl, P, p0, pt, pd⟩
  refine ⟨a, xs, rfl, SqL.of ha, fun D nD => ⟨fun i H acc => Same H1 H ∧ H D = some (.lst acc) ∧ acc.length ≤ i ∧ P i acc, ⟨sameNew nD, upd_same, Nat.le_refl _, p0⟩, fun i H acc r => SqL.of (r.1 _ _ ha), fun i x H acc hx r => ?_, fun H acc r => pd D H acc nD r.1 r.2.1 r.2.2.2⟩⟩
  have hi : i < xs.length := (List.getElem?_eq_some_iff.mp hx).1
  refine turn1_of (pt i x H acc hx r.1 r.2.2.2) (fun H3 q => ⟨Same.trans r.1 q.1, q.1 _ _ r.2.1, Nat.le_succ_of_le r.2.2.1, by have := q.2; rwa [Option.toList_none, List.append_nil] at this⟩) fun y H4 q => ?_
  exact ⟨q.1 _ _ r.2.1, by have := r.2.2.1; omega, Same.put (Same.trans r.1 q.1) nD, upd_same, by rw [List.length_append]; exact Nat.succ_le_succ r.2.2.1, q.2⟩
theorem slcF_R (own : List (Str × Nat)) {a : Expr} {p pos2 : Pos} (C : Ctx X m N sc k) {DE : Ends} {ix : Nat} {y : Str} {py spos : Pos} (hy : N[ix]? = some y) (hyl : lcB sc y = true) (hsw : (py.line == pos.line) = true) (hany : (scope.names.any fun (n, k) => n == y && (k == .local || k == .cell)) = false) (hkind : sc.kind = .function) (hg : Gl X "range") (hm : m.mg "range" = none) (hsa : starEach [a] X.env = [(false, eval a X.env)]) (ok : blkC N sc scope own = true)
    (hs : ∀ x, foldedSetIterable (.Call (.Name "range" p) [a] [] pos2) X.env x = pure x)
    (h : WE X a σ H fun v H1 => ∃ n : Nat, v = .int n ∧ n ≤ sizeLine ∧ ∃ P : Nat → List V → Prop, P 0 [] ∧
      (∀ i H2 acc, i < n → Same H1 H2 → P i acc → TurnV X tg elt ifs scope (own.map (·.2)) (.int (i : Nat)) σ H2 fun o H3 => Same H2 H3 ∧ P (i + 1) (acc ++ o.toList)) ∧
      ∀ D H2 acc, H1 D = none → Same H1 H2 → H2 D = some (.lst acc) → P n acc → DE.nx (σ.set ix (some (.ref D))) H2) : WS X (.Assign [.Name y py] (.ListComp elt [⟨tg, .Call (.Name "range" p) [a] [] pos2, ifs, 0⟩] scope pos) spos) DE σ H := by
  refine ws_lcR own C hy hyl hsw hany hkind hg hm hsa ok hs (WE.mono h ?_)
  rintro v H1 ⟨n, rfl, hl, P, p0, pt, pd⟩
  have hl2 : n ≤ 16777216 := hl
  refine ⟨n, rfl, by omega, by omega, fun D nD => ⟨fun i H acc => Same H1 H ∧ H D = some (.lst acc) ∧ acc.length ≤ i ∧ P i acc, ⟨sameNew nD, upd_same, Nat.le_refl _, p0⟩, fun i H acc hi r => ?_, fun H acc r => pd D H acc nD r.1 r.2.1 r.2.2.2⟩⟩
  rw [Int.toNat_natCast] at hi
  refine turn1_of (pt i H acc hi r.1 r.2.2.2) (fun H3 q => ⟨Same.trans r.1 q.1, q.1 _ _ r.2.1, Nat.le_succ_of_le r.2.2.1, by have := q.2; rwa [Option.toList_none, List.append_nil] at this⟩) fun y H4 q => ?_
  exact ⟨q.1 _ _ r.2.1, by have := r.2.2.1; omega, Same.put (Same.trans r.1 q.1) nD, upd_same, by rw [List.length_append]; exact Nat.succ_le_succ r.2.2.1, q.2⟩
theorem slcLL_L (own : List (Str × Nat)) (C : Ctx X m N sc k) {DE : Ends} {ix : Nat} {y : Str} {py spos : Pos} (hy : N[ix]? = some y) (hyl : lcB sc y = true) (hsw : (py.line == pos.line) = true) (hany : (scope.names.any fun (n, k) => n == y && (k == .local || k == .cell)) = false) (hkind : sc.kind = .function) (ok : blkC N sc scope own = true) (hs : ∀ x, foldedSetIterable iter X.env x = pure x)
    (h : WE X iter σ H fun v H1 => ∃ a xs, v = .ref a ∧ H1 a = some (.lst xs) ∧ xs.length ≤ sizeLine ∧ ∃ P : Nat → List (List (List V)) → Prop, P 0 [] ∧
      (∀ i x H2 tss, xs[i]? = some x → Same H1 H2 → P i tss → TurnV X tg elt ifs scope (own.map (·.2)) x σ H2 fun o H3 => Same H2 H3 ∧ ∃ r ts, o = some (.ref r) ∧ H2 r = none ∧ LT H3 r ts ∧ P (i + 1) (tss ++ [ts])) ∧
      ∀ D H2 tss, H1 D = none → Same H1 H2 → LLT H2 D tss → P xs.length tss → DE.nx (σ.set ix (some (.ref D))) H2) : WS X (.Assign [.Name y py] (.ListComp elt [⟨tg, iter, ifs, 0⟩] scope pos) spos) DE σ H := by
  refine ws_lcL own C hy hyl hsw hany hkind ok hs (WE.mono h ?_)
  rintro v H1 ⟨a, xs, rfl, ha, hl, P, p0, pt, pd⟩
  refine ⟨a, xs, rfl, SqL.of ha, fun D nD => ⟨fun i H acc => Same H1 H ∧ H D = some (.lst acc) ∧ acc.length ≤ i ∧ ∃ rs tss, acc = rs.map V.ref ∧ D ∉ rs ∧ LLs H rs tss ∧ P i tss, ⟨sameNew nD, upd_same, Nat.le_refl _, [], [], rfl, by simp, .nil, p0⟩, fun i H acc r => SqL.of (r.1 _ _ ha), fun i x H acc hx r => ?_, fun H acc r => ?_⟩⟩
  · have hi : i < xs.length := (List.getElem?_eq_some_iff.mp hx).1
    obtain ⟨r1, r2, r3, rs, tss, rfl, nd, tt, pp⟩ := r
    refine turn1_of (pt i x H tss hx r1 pp) (fun H3 ⟨_, _, _, e, _⟩ => nomatch e) fun y H4 ⟨q1, r, ts, e, nr, ht, p2⟩ => ?_
    cases e
    have hD := q1 _ _ r2
    have ne : r ≠ D := fun e => by rw [e, r2] at nr; cases nr
    refine ⟨hD, by omega, Same.put (Same.trans r1 q1) nD, upd_same, by rw [List.length_append]; exact Nat.succ_le_succ r3, rs ++ [r], tss ++ [ts], by rw [List.map_append]; rfl, ?_, ?_, p2⟩
    · intro z
      rcases List.mem_append.mp z with z | z
      · exact nd z
      · exact ne (List.mem_singleton.mp z).symm
    · exact ((tt.same q1).putNe nd hD).snoc (ht.putNe ne hD)
  · obtain ⟨r1, r2, r3, rs, tss, rfl, nd, tt, pp⟩ := r
    exact pd D H tss nD r1 ⟨rs, r2, tt⟩ pp
/-- a cell takes what a comprehension makes -/
theorem ws_setC {gs : List Comprehension} {i : Nat} {y : Str} {py spos : Pos} {DE : Ends} (C : Ctx X m N sc k) (t : Tg X y i) (hc : (sc.names.lookup y == some NameKind.local) = false)
    (h : WE X (.ListComp elt gs scope pos) σ H fun v H1 => DE.nx (σ.set i (some v)) H1) : WS X (.Assign [.Name y py] (.ListComp elt gs scope pos) spos) DE σ H := by
  refine ws_set t ?_ h
  have ky : (X.env.kindOf y == some NameKind.local) = false := by
    show (X.env.scope.names.lookup y == some NameKind.local) = false
    rw [C.hsc]; exact hc
  unfold swapsWith
  simp only [ky, Bool.and_false, Bool.false_and]
theorem w_neg {a : Expr} {Q : VK} (h : WE X a σ H fun x H1 => ∃ i, x = .int i ∧ Q (.int (-i)) H1) : WE X (.UnaryOp .USub a pos) σ H Q := ofE (pe_un un_neg pWE) (WE.mono h fun x H1 ⟨i, e, q⟩ => ⟨i, e, q⟩)
end
/-! # MS -/
theorem LT.app {H : Hp} {p q r : Addr} {ts us : List (List V)} {xs ys : List V} (h : LT H p ts) (h2 : LT H q us) (e : H p = some (.lst xs)) (e2 : H q = some (.lst ys)) (er : H r = some (.lst (xs ++ ys))) : LT H r (ts ++ us) := by
  obtain ⟨rs, a, b⟩ := h
  obtain ⟨rs2, a2, b2⟩ := h2
  have q1 : xs = rs.map V.ref := by rw [e] at a; cases a; rfl
  have q2 : ys = rs2.map V.ref := by rw [e2] at a2; cases a2; rfl
  subst q1 q2
  exact ⟨rs ++ rs2, by rw [List.map_append]; exact er, b.app b2⟩
theorem gather_len : ∀ (Ps : List (List En)) (s : List En × List Nat), (Ps.foldl gstep s).1.length = s.1.length + (Ps.map List.length).sum := by
  intro Ps
  induction Ps with
  | nil => intro s; rfl
  | cons P Ps ih =>
    intro s
    rw [List.foldl_cons, ih, List.map_cons, List.sum_cons]
    show (s.1 ++ P.map _).length + _ = _
    rw [List.length_append, List.length_map]
    omega
theorem inner_len (Ls : List Nat) : ∀ (P : List En) (s : List En × List Nat), (P.foldl (istep Ls) s).1.length ≤ s.1.length + P.length ∧ (P.foldl (istep Ls) s).2.length = s.2.length + P.length := by
  intro P
  induction P with
  | nil => intro s; exact ⟨Nat.le_refl _, rfl⟩
  | cons e P ih =>
    intro s
    rw [List.foldl_cons]
    obtain ⟨h1, h2⟩ := ih (istep Ls s e)
    have k : (istep Ls s e).1.length ≤ s.1.length + 1 ∧ (istep Ls s e).2.length = s.2.length + 1 := by
      cases e <;> simp [istep]
    rw [List.length_cons]
    omega
theorem take_fold {α β : Type} {f : β → α → β} {xs : List α} {i : Nat} {x : α} {s : β} (h : xs[i]? = some x) : (xs.take (i + 1)).foldl f s = f ((xs.take i).foldl f s) x := by
  rw [take_snoc h, List.foldl_append]; rfl
theorem last_maps {hb : Bool} {R : List Ln} {Ps : List (List En)} {Ts : List (List Ln)} {Ls : List Ln} (h : Ps.map (fun P => linesOf hb R P []) = Ts.map some) (h2 : Ts.map List.getLast? = Ls.map some) : Ps.map (lastOf hb R) = Ls.map some := by
  have e : Ps.map (lastOf hb R) = (Ps.map (fun P => linesOf hb R P [])).map (fun o => o.bind List.getLast?) := by rw [List.map_map]; rfl
  rw [e, h, List.map_map, ← h2]
  rfl
theorem len_sum {α : Type} {P : List α} : ∀ {Ps : List (List α)}, P ∈ Ps → P.length ≤ (Ps.map List.length).sum := by
  intro Ps
  induction Ps with
  | nil => intro h; cases h
  | cons Q Ps ih =>
    intro h
    rw [List.map_cons, List.sum_cons]
    rcases List.mem_cons.mp h with r | r
    · subst r; omega
    · have := ih r; omega
theorem sum_take {α : Type} {P : List α} : ∀ {Ps : List (List α)} {i : Nat}, Ps[i]? = some P → ((Ps.take i).map List.length).sum + P.length ≤ (Ps.map List.length).sum := by
  intro Ps
  induction Ps with
  | nil => intro i h; cases h
  | cons Q Ps ih =>
    intro i h
    rw [List.map_cons, List.sum_cons]
    cases i with
    | zero => cases h; simp
    | succ i =>
      have := ih (i := i) h
      rw [List.take_succ_cons, List.map_cons, List.sum_cons]
      omega
theorem told_some {hb : Bool} {R : List Ln} {Ps : List (List En)} {Ts : List (List Ln)} (h : Ps.map (fun P => linesOf hb R P []) = Ts.map some) {P : List En} (hm : P ∈ Ps) : ∃ T, linesOf hb R P [] = some T := by
  have : linesOf hb R P [] ∈ Ts.map some := h ▸ List.mem_map.mpr ⟨P, hm, rfl⟩
  obtain ⟨T, _, e⟩ := List.mem_map.mp this
  exact ⟨T, e.symm⟩
theorem last_some {hb : Bool} {R : List Ln} {Ps : List (List En)} {Ts : List (List Ln)} {Ls : List Ln} (h : Ps.map (fun P => linesOf hb R P []) = Ts.map some) (h2 : Ts.map List.getLast? = Ls.map some) {P : List En} (hm : P ∈ Ps) : ∃ T l, linesOf hb R P [] = some T ∧ T.getLast? = some l := by
  have : linesOf hb R P [] ∈ Ts.map some := h ▸ List.mem_map.mpr ⟨P, hm, rfl⟩
  obtain ⟨T, tm, e⟩ := List.mem_map.mp this
  have : T.getLast? ∈ Ls.map some := h2 ▸ List.mem_map.mpr ⟨T, tm, rfl⟩
  obtain ⟨l, _, e2⟩ := List.mem_map.mp this
  exact ⟨T, l, e.symm, e2.symm⟩
theorem last_ne {hb : Bool} {R : List Ln} {Ps : List (List En)} {Ts : List (List Ln)} {Ls : List Ln} (h : Ps.map (fun P => linesOf hb R P []) = Ts.map some) (h2 : Ts.map List.getLast? = Ls.map some) {P : List En} (hm : P ∈ Ps) : P.length ≠ 0 := by
  obtain ⟨T, l, a, b⟩ := last_some h h2 hm
  intro e
  rw [List.length_eq_zero_iff.mp e] at a
  cases a
  cases b
theorem lasts_ok {hb : Bool} {R : List Ln} {Ps : List (List En)} {Ts : List (List Ln)} {Ls : List Ln} (okr : ∀ l ∈ R, LnOk hb l) (okp : ∀ P ∈ Ps, ∀ e ∈ P, EnOk e) (h : Ps.map (fun P => linesOf hb R P []) = Ts.map some) (h2 : Ts.map List.getLast? = Ls.map some) : ∀ l ∈ Ls, LnOk hb l := by
  intro l hl
  have : some l ∈ Ts.map List.getLast? := h2 ▸ List.mem_map.mpr ⟨l, hl, rfl⟩
  obtain ⟨T, tm, e⟩ := List.mem_map.mp this
  have : some T ∈ Ps.map (fun P => linesOf hb R P []) := h ▸ List.mem_map.mpr ⟨T, tm, rfl⟩
  obtain ⟨P, pm, e2⟩ := List.mem_map.mp this
  exact linesOf_ok okr (fun _ h => by cases h) (okp P pm) e2 l (List.mem_of_getLast? e)
theorem ns_shift {n m j : Nat} (h : j < m) : ((List.range m).map (fun i => n + i))[j]? = some (n + j) := by
  rw [List.getElem?_map, List.getElem?_range h]; rfl
/-! # ME -/
theorem sizeK_lt {hb : Bool} {L : Int} (h0 : 0 ≤ L) (h : L < 2 ^ 12) : (sizeK hb L : Int) < 2 ^ 13 := by
  cases hb with
  | true =>
    have e : (sizeK true L : Int) = L := Int.toNat_of_nonneg h0
    omega
  | false =>
    have e : sizeK false L = 2 ^ (blen L.toNat - 1) := by show 1 <<< _ = _; rw [Nat.shiftLeft_eq, Nat.one_mul]
    have l : blen L.toNat ≤ 12 := blen_le (by omega)
    have p : 2 ^ (blen L.toNat - 1) ≤ 2 ^ 12 := Nat.pow_le_pow_right (by decide) (by omega)
    omega
/-! ### what an entry makes of its lines -/
def isRel : En → Bool
  | .told _ => false
  | .nothing _ _ => false
  | _ => true
def isPair : En → Bool
  | .joined _ _ => true
  | .met _ _ => true
  | _ => false
def madeLn (hb : Bool) (e : En) (l o : Ln) : Option Ln := match e with
  | .turned _ => some (turnLn hb l)
  | .less _ b => if restK hb l.by_ b = 0 then some (lessLn hb l b) else none
  | .joined _ _ => if l.other = o.one ∧ l.one ≠ o.other then some (joinLn hb l o) else none
  | .met _ _ => if l.one = o.one ∧ l.other = o.other ∧ agreeLn hb l o = true then some (metLn hb l o) else none
  | _ => none
def Outc (o : Option Ln) (v : V) (H : Hp) : Prop := match o with
  | some l => ∃ r, v = .ref r ∧ H r = some (.tup (lnV l))
  | none => v = .non
theorem blen_small {n : Nat} (h : n < 2 ^ 12) : blen n ≤ 12 := blen_le h
theorem timesF_lt {a k : Nat} : ∀ {n : Nat} {b : Nat}, a < 2 ^ k → timesF a b n < 2 ^ (k + n) := by
  intro n
  induction n with
  | zero => intro b h; exact Nat.two_pow_pos _
  | succ n ih =>
    intro b h
    unfold timesF
    have h1 := ih (b := b) h
    have h2 : timesF a b n < 2 ^ (k + (n + 1)) := Nat.lt_of_lt_of_le h1 (Nat.pow_le_pow_right (by decide) (by omega))
    split
    · refine Nat.xor_lt_two_pow h2 ?_
      rw [Nat.shiftLeft_eq, Nat.pow_add]
      exact Nat.mul_lt_mul_of_lt_of_le h (Nat.pow_le_pow_right (by decide) (Nat.le_succ n)) (Nat.two_pow_pos _)
    · exact h2
/-! # KX -/
/-! ## a heap without one of its objects -/
def Off (H : Hp) (g : Addr) : Hp := fun p => if p = g then none else H p
theorem Off.at (H : Hp) (g : Addr) : Off H g g = none := if_pos rfl
theorem Off.ne {H : Hp} {g p : Addr} (h : p ≠ g) : Off H g p = H p := if_neg h
theorem Off.get {H : Hp} {g p : Addr} {o : HO} (h : p ≠ g) (e : H p = some o) : Off H g p = some o := (if_neg h).trans e
theorem Off.le (H : Hp) (g : Addr) : Same (Off H g) H := fun a o e => by
  by_cases c : a = g
  · rw [c, Off.at] at e; cases e
  · rwa [Off.ne c] at e
theorem Off.of {H H1 : Hp} {g : Addr} (s : Same H H1) (n : H g = none) : Same H (Off H1 g) := fun a o e => Off.get (fun c => by rw [c, n] at e; cases e) (s a o e)
theorem Off.put {H H1 : Hp} {g : Addr} {o : HO} (s : Same (Off H g) H1) : Same (Off H g) (upd H1 g o) := Same.put s (Off.at H g)
theorem Off.up {H H1 : Hp} {g : Addr} (s : Same H H1) : Same (Off H g) (Off H1 g) := fun a o e => by
  by_cases c : a = g
  · rw [c, Off.at] at e; cases e
  · rw [Off.ne c] at e ⊢; exact s a o e
theorem Off.on {H H1 : Hp} {g : Addr} (s : Same (Off H g) H1) : Same (Off H g) (Off H1 g) := Off.of s (Off.at H g)
theorem ne_tup {H : Hp} {p g : Addr} {t u : List V} (h : H p = some (.tup t)) (h2 : H g = some (.lst u)) : p ≠ g := fun e => by rw [e, h2] at h; cases h
theorem ne_dict {H : Hp} {p g : Addr} {t : List V} {k : List (Key × V)} (h : H p = some (.tup t)) (h2 : H g = some (.dK k)) : p ≠ g := fun e => by rw [e, h2] at h; cases h
theorem ne_ld {H : Hp} {p g : Addr} {t : List V} {k : List (Key × V)} (h : H p = some (.lst t)) (h2 : H g = some (.dK k)) : p ≠ g := fun e => by rw [e, h2] at h; cases h
theorem ne_new {H : Hp} {p g : Addr} {o : HO} (h : H p = none) (h2 : H g = some o) : p ≠ g := fun e => by rw [e, h2] at h; cases h
theorem atI_0 {α : Type} {x : α} {xs : List α} : atI (x :: xs) 0 = some x := atI_nat (i := 0) rfl
/-! ### words and their sizes -/
def kvW : List (Key × V) := [(.inr "told", .int 2), (.inr "nothing", .int 3), (.inr "turned", .int 2), (.inr "joined", .int 3), (.inr "met", .int 3), (.inr "less", .int 3)]
theorem putW : ∀ (i : Nat) (kv : Key × V), kvW[i]? = some kv → L2.putK (kvW.take i) kv.1 kv.2 = kvW.take (i + 1)
  | 0, _, h => by cases h; rfl
  | 1, _, h => by cases h; rfl
  | 2, _, h => by cases h; rfl
  | 3, _, h => by cases h; rfl
  | 4, _, h => by cases h; rfl
  | 5, _, h => by cases h; rfl
  | n + 6, _, h => by cases h
def wordE : En → Str
  | .told _ => "told"
  | .nothing _ _ => "nothing"
  | .turned _ => "turned"
  | .joined _ _ => "joined"
  | .met _ _ => "met"
  | .less _ _ => "less"
def tailE : En → List V
  | .told i => [.int (i : Int)]
  | .nothing a b => [.str a, .str b]
  | .turned i => [.int (i : Int)]
  | .joined i j => [.int (i : Int), .int (j : Int)]
  | .met i j => [.int (i : Int), .int (j : Int)]
  | .less i b => [.int (i : Int), .int (b : Int)]
theorem enV_cons (e : En) : enV e = .str (wordE e) :: tailE e := by cases e <;> rfl
theorem valW (e : En) : valV kvW (.inr (wordE e)) = some (.int ((V.str (wordE e) :: tailE e).length : Nat)) := by cases e <;> rfl
theorem tail_ints {e : En} (h : ¬ wordE e = "nothing") : ∀ x ∈ tailE e, ∃ n : Nat, x = .int (n : Int) := by
  cases e with
  | nothing a b => exact absurd rfl h
  | told i => intro x hx; exact ⟨i, List.mem_singleton.mp hx⟩
  | turned i => intro x hx; exact ⟨i, List.mem_singleton.mp hx⟩
  | joined i j => intro x hx; rcases List.mem_cons.mp hx with r | r; exact ⟨i, r⟩; exact ⟨j, List.mem_singleton.mp r⟩
  | met i j => intro x hx; rcases List.mem_cons.mp hx with r | r; exact ⟨i, r⟩; exact ⟨j, List.mem_singleton.mp r⟩
  | less i b => intro x hx; rcases List.mem_cons.mp hx with r | r; exact ⟨i, r⟩; exact ⟨b, List.mem_singleton.mp r⟩
theorem cut_tail (e : En) : cutV (V.str (wordE e) :: tailE e) (some 1) none = tailE e := by cases e <;> rfl
theorem tail_len (e : En) : (tailE e).length ≤ 2 := by cases e <;> simp [tailE]
theorem isi_nb {X : Cx} {m : Md} {H : Hp} {N : List Str} {sc : Scope} {k : Nat} {Q : VK} (C : Ctx X m N sc k) {i : Int} (q : Q (.bl false) H) : WC X (.builtin "isinstance") [.int i, .ty "bool"] H Q := isi_ib C q
/-! # MH -/
def rstep (P : List En) (g : List Nat) (a : Nat) : List Nat := g ++ (namedAt P a).filter fun j => decide (j ∉ g)
def roundK (P : List En) (f : List Nat) : List Nat := f.foldl (rstep P) f
def roundsK (P : List En) : Nat → List Nat → List Nat
  | 0, f => f
  | n + 1, f => roundK P (roundsK P n f)
theorem rstep_mem {P : List En} {g : List Nat} {a x : Nat} : x ∈ rstep P g a ↔ x ∈ g ∨ x ∈ namedAt P a := by
  unfold rstep
  rw [List.mem_append, List.mem_filter, decide_eq_true_eq]
  constructor
  · rintro (h | h)
    · exact .inl h
    · exact .inr h.1
  · rintro (h | h)
    · exact .inl h
    · by_cases c : x ∈ g
      · exact .inl c
      · exact .inr ⟨h, c⟩
theorem fold_mem {P : List En} {x : Nat} : ∀ {l g : List Nat}, x ∈ l.foldl (rstep P) g ↔ x ∈ g ∨ ∃ a ∈ l, x ∈ namedAt P a := by
  intro l
  induction l with
  | nil => intro g; simp
  | cons a l ih =>
    intro g
    rw [List.foldl_cons, ih, rstep_mem]
    constructor
    · rintro ((h | h) | ⟨b, hb, h⟩)
      · exact .inl h
      · exact .inr ⟨a, List.mem_cons_self, h⟩
      · exact .inr ⟨b, List.mem_cons_of_mem _ hb, h⟩
    · rintro (h | ⟨b, hb, h⟩)
      · exact .inl (.inl h)
      · rcases List.mem_cons.mp hb with r | r
        · subst r; exact .inl (.inr h)
        · exact .inr ⟨b, r, h⟩
theorem round_mem {P : List En} {f : List Nat} {x : Nat} : x ∈ roundK P f ↔ x ∈ f ∨ ∃ a ∈ f, x ∈ namedAt P a := fold_mem
theorem fold_len {P : List En} : ∀ (l g : List Nat), (l.foldl (rstep P) g).length ≤ g.length + 2 * l.length := by
  intro l
  induction l with
  | nil => intro g; exact Nat.le_refl _
  | cons a l ih =>
    intro g
    rw [List.foldl_cons]
    have h := ih (rstep P g a)
    have h2 : (rstep P g a).length ≤ g.length + 2 := by
      unfold rstep
      rw [List.length_append]
      have := List.length_filter_le (fun j => decide (j ∉ g)) (namedAt P a)
      have h3 : (namedAt P a).length ≤ 2 := by
        unfold namedAt
        cases P[a]? with
        | none => exact Nat.zero_le _
        | some e => exact named_len e
      omega
    rw [List.length_cons]
    omega
theorem rounds_len {P : List En} {n : Nat} : ∀ k, (roundsK P k [n]).length ≤ 3 ^ k := by
  intro k
  induction k with
  | zero => exact Nat.le_refl _
  | succ k ih =>
    show (roundK P (roundsK P k [n])).length ≤ _
    have := fold_len (P := P) (roundsK P k [n]) (roundsK P k [n])
    show ((roundsK P k [n]).foldl (rstep P) (roundsK P k [n])).length ≤ _
    rw [Nat.pow_succ]
    omega
theorem named_lt {P : List En} (w : WfP P) {a b : Nat} (h : b ∈ namedAt P a) : b < a := by
  unfold namedAt at h
  cases e : P[a]? with
  | none => rw [e] at h; cases h
  | some x => rw [e] at h; exact w a x e b h
theorem rounds_closed {P : List En} (w : WfP P) {n : Nat} : ∀ k a b, a ∈ roundsK P k [n] → n < a + k → b ∈ namedAt P a → b ∈ roundsK P k [n] := by
  intro k
  induction k with
  | zero =>
    intro a b ha hn _
    have : a = n := List.mem_singleton.mp ha
    omega
  | succ k ih =>
    intro a b ha hn hb
    by_cases c : a ∈ roundsK P k [n]
    · exact round_mem.mpr (.inr ⟨a, c, hb⟩)
    · rcases round_mem.mp ha with h | ⟨y, hy, h⟩
      · exact absurd h c
      · have := named_lt w h
        exact absurd (ih y a hy (by omega) h) c
theorem leanF_sub {P : List En} {S : Nat → Prop} (cl : ∀ a b, S a → b ∈ namedAt P a → S b) : ∀ (m : Nat) (f : List Nat), (∀ x ∈ f, S x) → ∀ x ∈ leanF P m f, S x := by
  intro m
  induction m with
  | zero => intro f h; exact h
  | succ m ih =>
    intro f h
    refine ih _ fun x hx => ?_
    by_cases c : m ∈ f
    · rw [if_pos c] at hx
      rcases List.mem_append.mp hx with q | q
      · exact h x q
      · exact cl m x (h m c) (List.mem_filter.mp q).1
    · rw [if_neg c] at hx; exact h x hx
theorem rounds_sub {P : List En} {S : Nat → Prop} (cl : ∀ a b, S a → b ∈ namedAt P a → S b) {f : List Nat} (h : ∀ x ∈ f, S x) : ∀ k, ∀ x ∈ roundsK P k f, S x := by
  intro k
  induction k with
  | zero => exact h
  | succ k ih =>
    intro x hx
    rcases round_mem.mp hx with q | ⟨a, ha, q⟩
    · exact ih x q
    · exact cl a x (ih a ha) q
theorem rounds_grow {P : List En} {f : List Nat} : ∀ k, ∀ x ∈ f, x ∈ roundsK P k f := by
  intro k
  induction k with
  | zero => intro x h; exact h
  | succ k ih => intro x h; exact round_mem.mpr (.inl (ih x h))
/-- both ways of finding what the last entry leans on find the same -/
theorem leans_eq {P : List En} (w : WfP P) (n : Nat) : sortK (n + 1) (roundsK P (n + 1) [n]) = leanK P n := by
  have e : ∀ x, x ∈ roundsK P (n + 1) [n] ↔ x ∈ leanF P (n + 1) [n] := by
    intro x
    have lt : ∀ x ∈ leanF P (n + 1) [n], x < n + 1 := leanF_bd w (n + 1) [n] (fun i hi => by rw [List.mem_singleton.mp hi]; omega) (Nat.le_refl _)
    constructor
    · exact rounds_sub (S := fun x => x ∈ leanF P (n + 1) [n]) (fun a b ha hb => leanF_closed w (n + 1) [n] a b (lt a ha) ha hb) (fun x hx => by rw [List.mem_singleton.mp hx]; exact leanF_grow _ _ _ (List.mem_singleton.mpr rfl)) (n + 1) x
    · exact leanF_sub (S := fun x => x ∈ roundsK P (n + 1) [n]) (fun a b ha hb => rounds_closed w (n + 1) a b ha (by omega) hb) (n + 1) [n] (fun x hx => by rw [List.mem_singleton.mp hx]; exact rounds_grow _ _ (List.mem_singleton.mpr rfl)) x
  unfold leanK sortK
  refine List.filter_congr fun i _ => ?_
  exact decide_eq_decide.mpr (e i)
theorem rounds_bd {P : List En} (w : WfP P) (n k : Nat) : ∀ x ∈ roundsK P k [n], x < n + 1 :=
  rounds_sub (S := fun x => x < n + 1) (fun a b ha hb => by have := named_lt w hb; omega) (fun x hx => by rw [List.mem_singleton.mp hx]; omega) k
def leansK (P : List En) : List Nat := match P with
  | [] => []
  | e :: es => leanK (e :: es) es.length
/-! # KY -/
section
variable {X : Cx} {m : Md} {σ : L2.St} {H : Hp} {Q : VK} {N : List Str} {sc : Scope} {k : Nat} {e : Expr}
theorem idx_get {K : List Nat} {x : Nat} (h : x ∈ K) : K[K.idxOf x]? = some x := by
  have hl := List.idxOf_lt_length_of_mem h
  rw [List.getElem?_eq_getElem hl, List.getElem_idxOf hl]
theorem idx_no {x y : Nat} : ∀ {K : List Nat} {m : Nat}, m < K.idxOf x → K[m]? = some y → y ≠ x := by
  intro K
  induction K with
  | nil => intro m h e; cases e
  | cons k K ih =>
    intro m h e
    rw [List.idxOf_cons] at h
    by_cases c : k = x
    · have c2 : (k == x) = true := by simpa using c
      rw [c2] at h
      exact absurd h (by simp)
    · have c2 : (k == x) = false := by simpa using c
      rw [c2] at h
      cases m with
      | zero => cases e; exact c
      | succ m =>
        have h2 : m + 1 < List.idxOf x K + 1 := h
        exact ih (by omega) e
/-- kept.index(x) -/
theorem w_idx (C : Ctx X m N sc k) {o : Expr} {apos cpos : Pos}
    (hbase : attributeBase o "index" X.env (eval o X.env) = eval o X.env)
    (hfew : ((backTo cpos (starEach [e] X.env)).all (fun x => !x.1) && (backToKw cpos (keywordEach [] X.env)).all (fun x => x.1.isSome)
      && decide ([e].length + ([] : List Keyword).length + (if ([] : List Keyword).isEmpty then 0 else 1) < 30)) = true)
    (hline : (apos.endLine == cpos.line) = true) (hs : starEach [e] X.env = (false, eval e X.env) :: starEach [] X.env) (hplain : (backTo cpos (starEach [] X.env)).any (·.1) = false)
    (h : WE X o σ H fun x H1 => ∃ l K, x = .ref l ∧ H1 l = some (.lst (nV K)) ∧ WE X e σ H1 fun y H2 => ∃ j : Nat, y = .int (j : Int) ∧ H2 l = some (.lst (nV K)) ∧ j ∈ K ∧ Q (.int ((K.idxOf j : Nat) : Int)) H2) : WE X (.Call (.Attribute o "index" apos) [e] [] cpos) σ H Q := by
  refine w_bm C PySem.F.plainAttrs_list PySem.F.slot_list_index PySem.F.type_list_index hbase hfew hline hs hplain (WE.mono h fun x H1 ⟨l, K, ex, h1, q⟩ => ?_)
  subst ex
  refine ⟨.inl ⟨rfl, _, SqL.of h1⟩, w_acons hs (WE.mono q fun y H2 ⟨j, ey, h2, hj, q2⟩ => w_anil ?_)⟩
  subst ey
  refine m_index C (SqL.of h2) rfl (flat_nV K) (j := K.idxOf j) (z := .int (j : Int)) ?_ (by simp [eqV]) (fun m z' hm hz => ?_) q2
  · show (nV K)[_]? = _
    rw [List.getElem?_map, idx_get hj]; rfl
  · obtain ⟨y, hy, rfl⟩ := nV_get hz
    have := idx_no hm hy
    simp only [eqV, beq_eq_false_iff_ne]
    omega
end
/-! # KZ -/
/-- what draws: its third cell is z -/
def Gen (H : Hp) (g : Addr) (z : Int) : Prop := ∃ x y : Int, H g = some (.lst [.int x, .int y, .int z])
theorem Gen.has {H : Hp} {g : Addr} {z : Int} (h : Gen H g z) : ∃ xs, H g = some (.lst xs) := by
  obtain ⟨x, y, e⟩ := h; exact ⟨_, e⟩
theorem Gen.same {H H2 : Hp} {g : Addr} {z : Int} (h : Gen H g z) (s : Same H H2) : Gen H2 g z := by
  obtain ⟨x, y, e⟩ := h; exact ⟨x, y, s _ _ e⟩
theorem Gen.neT {H : Hp} {g p : Addr} {z : Int} {t : List V} (h : Gen H g z) (e : H p = some (.tup t)) : p ≠ g := by
  obtain ⟨x, y, e2⟩ := h; exact ne_tup e e2
theorem Gen.neN {H : Hp} {g p : Addr} {z : Int} (h : Gen H g z) (e : H p = none) : p ≠ g := by
  obtain ⟨x, y, e2⟩ := h; exact ne_new e e2
/-- what a draw keeps -/
def Kept (g : Addr) (H H2 : Hp) : Prop := Same (Off H g) H2
theorem Kept.refl (g : Addr) (H : Hp) : Kept g H H := Off.le H g
theorem Kept.of {g : Addr} {H H2 : Hp} (s : Same H H2) : Kept g H H2 := Same.trans (Off.le H g) s
theorem Kept.trans {g : Addr} {H H1 H2 : Hp} (a : Kept g H H1) (b : Kept g H1 H2) : Kept g H H2 := Same.trans (Off.on a) b
theorem Kept.then_ {g : Addr} {H H1 H2 : Hp} (a : Kept g H H1) (b : Same H1 H2) : Kept g H H2 := Same.trans a b
theorem Kept.get {g p : Addr} {H H2 : Hp} {o : HO} (a : Kept g H H2) (ne : p ≠ g) (h : H p = some o) : H2 p = some o := a _ _ (Off.get ne h)
theorem Kept.tup {g p : Addr} {H H2 : Hp} {z : Int} {t : List V} (a : Kept g H H2) (G : Gen H g z) (h : H p = some (.tup t)) : H2 p = some (.tup t) := a.get (G.neT h) h
theorem Kept.free {g p : Addr} {H H2 : Hp} (a : Kept g H H2) (ne : p ≠ g) (h : H2 p = none) : H p = none := by
  have := Same.free a h
  rwa [Off.ne ne] at this
theorem Kept.put {g : Addr} {H H2 : Hp} {o : HO} (a : Kept g H H2) : Kept g H (upd H2 g o) := Off.put a
theorem Tups.kept {g : Addr} {H H2 : Hp} {z : Int} {rs : List Nat} {ts : List (List V)} (h : Tups H rs ts) (a : Kept g H H2) (G : Gen H g z) : Tups H2 rs ts := by
  induction h with
  | nil => exact .nil
  | cons x y ih => exact .cons (a.tup G x) ih
theorem LT.kept {g p : Addr} {H H2 : Hp} {z : Int} {ts : List (List V)} (h : LT H p ts) (a : Kept g H H2) (ne : p ≠ g) (G : Gen H g z) : LT H2 p ts := by
  obtain ⟨rs, x, y⟩ := h
  exact ⟨rs, a.get ne x, y.kept a G⟩
theorem LT.one {H : Hp} {p r : Addr} {t : List V} (h : H p = some (.lst [.ref r])) (hr : H r = some (.tup t)) : LT H p [t] := ⟨[r], h, .cons hr .nil⟩
theorem base_kept {g : Addr} {B H H2 : Hp} (s : Same B H) (n : B g = none) (k : Kept g H H2) : Same B H2 := Same.trans (Off.of s n) k
theorem Off.ng {H : Hp} {g p : Addr} (h : H g = none) : Off H p g = none := by
  by_cases c : g = p
  · rw [c]; exact Off.at _ _
  · rw [Off.ne c]; exact h
def hoursBy : List Int := [0, 1, 2, 3, 4, 6, 8, 9, 12, 10, 15, 18]
def bitsBy : List Int := [0, 1, 2, 3, 4, 5, 6, 7, 10, 14, 9]
theorem Tups.off {g d : Addr} {H : Hp} {z : Int} {rs : List Nat} {ts : List (List V)} {ys : List V} (h : Tups H rs ts) (G : Gen H g z) (hd : H d = some (.lst ys)) : Tups (Off (Off H g) d) rs ts := by
  induction h with
  | nil => exact .nil
  | cons x y ih => exact .cons (Off.get (ne_tup x hd) (Off.get (G.neT x) x)) ih
/-- who stands with whom, by what -/
def trio : List (Nat × Nat × Nat) := [(0, 1, 0), (1, 2, 1), (0, 2, 2)]
theorem trio_ok : ∀ t ∈ trio, t.1 < 3 ∧ t.2.1 < 3 ∧ t.2.2 < 3 ∧ t.1 ≠ t.2.1 := by decide
def hoursTrio : List (List Int) := [[6, 10, 15], [12, 18, 8], [15, 6, 10]]
def bitsTrio : List (List Int) := [[6, 14, 9], [6, 9, 14], [10, 6, 14]]
theorem trioH : ∀ l ∈ hoursTrio, l.length = 3 ∧ ∀ b ∈ l, b ∈ hoursBy := by decide
theorem trioB : ∀ l ∈ bitsTrio, l.length = 3 ∧ ∀ b ∈ l, b ∈ bitsBy := by decide
theorem map_erase {α β : Type} (f : α → β) : ∀ (xs : List α) (j : Nat), (xs.map f).eraseIdx j = (xs.eraseIdx j).map f
  | [], _ => rfl
  | _ :: _, 0 => rfl
  | x :: xs, j + 1 => by
    show f x :: (xs.map f).eraseIdx j = f x :: (xs.eraseIdx j).map f
    rw [map_erase f xs j]
theorem pick_int (L : List Int) {j : Nat} (h : j < L.length) : ∃ b ∈ L, (L.map V.int)[j]? = some (.int b) :=
  ⟨L[j], List.getElem_mem h, by rw [List.getElem?_map, List.getElem?_eq_getElem h]; rfl⟩
theorem pick_str (L : List Str) {j : Nat} (h : j < L.length) : ∃ b ∈ L, (L.map V.str)[j]? = some (.str b) ∧ L[j]? = some b :=
  ⟨L[j], List.getElem_mem h, by rw [List.getElem?_map, List.getElem?_eq_getElem h]; rfl, List.getElem?_eq_getElem h⟩
theorem erase_ne {xs : List Str} {j i : Nat} {a b : Str} (nd : xs.Nodup) (ha : xs[j]? = some a) (hb : (xs.eraseIdx j)[i]? = some b) : a ≠ b ∧ b ∈ xs := by
  rw [List.getElem?_eraseIdx] at hb
  have key : ∀ k, xs[k]? = some b → k ≠ j → a ≠ b := by
    intro k hk ne e
    subst e
    obtain ⟨h1, e1⟩ := List.getElem?_eq_some_iff.mp ha
    obtain ⟨h2, e2⟩ := List.getElem?_eq_some_iff.mp hk
    have pw := List.pairwise_iff_getElem.mp nd
    rcases Nat.lt_or_ge k j with q | q
    · exact pw k j h2 h1 q (e2.trans e1.symm)
    · exact pw j k h1 h2 (by omega) (e1.trans e2.symm)
  split at hb
  · exact ⟨key i hb (by omega), List.mem_of_getElem? hb⟩
  · exact ⟨key (i + 1) hb (by omega), List.mem_of_getElem? hb⟩
theorem hours_dom : ∀ b ∈ hoursBy, Dom true b := by
  intro b hb
  simp only [hoursBy, List.mem_cons, List.not_mem_nil, or_false] at hb
  rcases hb with rfl | rfl | rfl | rfl | rfl | rfl | rfl | rfl | rfl | rfl | rfl | rfl
  · exact .inl rfl
  all_goals exact .inr ⟨by decide, by decide⟩
theorem bits_dom : ∀ b ∈ bitsBy, Dom false b := by
  intro b hb
  have : ∀ b ∈ bitsBy, b ∈ domB := by decide
  exact this b hb
/-- a line anew: its rest is in range -/
theorem line_ok {hb : Bool} {a b : Str} {r y : Int} (ha : a ∈ nm5) (hb' : b ∈ nm5) (ne : a ≠ b) (d : Dom hb y) (h : hb = false → 0 ≤ r ∧ r < 64) : LnOk hb ⟨a, b, restK hb r y, y⟩ := by
  obtain ⟨y0, y1⟩ := dom_bd d
  refine ⟨ha, hb', ne, d, fun z hy => ?_, fun z => ?_, fun z hy => ?_, fun z hy => ?_⟩
  · subst z
    have hy : y ≠ 0 := hy
    show 0 ≤ restK true r y ∧ restK true r y < y
    rw [restK_pos hy]
    exact remK_lt (by omega) (fun z => by cases z)
  · subst z
    show 0 ≤ restK false r y
    by_cases c : y = 0
    · unfold restK; rw [if_pos c]; exact (h rfl).1
    · rw [restK_pos c]; exact Int.natCast_nonneg _
  · subst z
    have hy : y ≠ 0 := hy
    show blen (restK false r y).toNat < blen y.toNat
    rw [restK_pos hy]
    show blen ((restN r.toNat y.toNat : Nat) : Int).toNat < _
    rw [Int.toNat_natCast]
    exact restN_small (by omega)
  · subst z
    have hy : y = 0 := hy
    show restK false r y < 64
    unfold restK; rw [if_pos hy]; exact (h rfl).2
theorem line_bd {hb : Bool} {r y : Int} (d : Dom hb y) (h : -2520 ≤ r ∧ r ≤ 2520) (hn : hb = false → 0 ≤ r) : -2520 ≤ restK hb r y ∧ restK hb r y ≤ 2520 := by
  obtain ⟨y0, y1⟩ := dom_bd d
  by_cases c : y = 0
  · unfold restK; rw [if_pos c]; exact h
  · rw [restK_pos c]
    have := remK_lt (hb := hb) (a := r) (b := y) (by omega) hn
    have y2 : y ≤ 2520 := by
      cases hb with
      | true =>
        rcases d with e | ⟨e1, e2⟩
        · omega
        · exact Int.le_of_dvd (by decide) e2
      | false =>
        have hh : ∀ b ∈ domB, b < 128 := by decide
        have := hh _ d
        omega
    omega
def BdL (M : Int) (l : Ln) : Prop := -M ≤ l.ahead ∧ l.ahead ≤ M
section
variable {X : Cx} {m : Md} {σ : L2.St} {H : Hp} {Q : VK} {N : List Str} {sc : Scope} {k : Nat} {e : Expr}
theorem w_pop (C : Ctx X m N sc k) {o : Expr} {apos cpos : Pos}
    (hbase : attributeBase o "pop" X.env (eval o X.env) = eval o X.env)
    (hfew : ((backTo cpos (starEach [e] X.env)).all (fun x => !x.1) && (backToKw cpos (keywordEach [] X.env)).all (fun x => x.1.isSome)
      && decide ([e].length + ([] : List Keyword).length + (if ([] : List Keyword).isEmpty then 0 else 1) < 30)) = true)
    (hline : (apos.endLine == cpos.line) = true) (hs : starEach [e] X.env = (false, eval e X.env) :: starEach [] X.env) (hplain : (backTo cpos (starEach [] X.env)).any (·.1) = false)
    (h : WE X o σ H fun x H1 => ∃ l ys, x = .ref l ∧ H1 l = some (.lst ys) ∧ WE X e σ H1 fun y H2 => ∃ (j : Nat) (xs : List V) (v : V), y = .int (j : Int) ∧ H2 l = some (.lst xs) ∧ j < 2 ^ 30 ∧ xs[j]? = some v ∧ Q v (upd H2 l (.lst (xs.eraseIdx j)))) : WE X (.Call (.Attribute o "pop" apos) [e] [] cpos) σ H Q := by
  refine w_bm C PySem.F.plainAttrs_list PySem.F.slot_list_pop PySem.F.type_list_pop hbase hfew hline hs hplain (WE.mono h fun x H1 ⟨l, ys, ex, h1, q⟩ => ?_)
  subst ex
  refine ⟨.inl ⟨rfl, _, SqL.of h1⟩, w_acons hs (WE.mono q fun y H2 ⟨j, xs, v, ey, h2, hj, hv, q2⟩ => w_anil ?_)⟩
  subst ey
  have hl : j < xs.length := (List.getElem?_eq_some_iff.mp hv).1
  refine m_popAt h2 (by omega) (by omega) (j := j) ?_ hv q2
  have : ixN xs.length (j : Int) = some j := by
    unfold ixN
    rw [if_pos (Int.natCast_nonneg _), if_pos (by omega), Int.toNat_natCast]
  exact (ixN_seq this).1
end
/-! # KQ -/
section
variable {X : Cx} {m : Md} {σ : L2.St} {H : Hp} {tg iter elt : Expr} {ifs : List Expr} {scope : Scope} {pos : Pos} {N : List Str} {sc : Scope} {k : Nat}
/-- lines drawn, one a turn -/
theorem lcG_R (own : List (Str × Nat)) {Q : VK} {g : Addr} {Ok : Ln → Prop} {a : Expr} {p pos2 : Pos} (C : Ctx X m N sc k) (hg : Gl X "range") (hm : m.mg "range" = none) (hsa : starEach [a] X.env = [(false, eval a X.env)]) (ok : blkC N sc scope own = true)
    (hs : ∀ x, foldedSetIterable (.Call (.Name "range" p) [a] [] pos2) X.env x = pure x)
    (h : WE X a σ H fun v H1 => ∃ n : Nat, v = .int n ∧ n ≤ 1000 ∧ ∃ z0 : Int, Gen H1 g z0 ∧
      (∀ i H2 (z : Int), i < n → Kept g H1 H2 → Gen H2 g z → z0 ≤ z → z ≤ z0 + 4 * i → TurnV X tg elt ifs scope (own.map (·.2)) (.int (i : Nat)) σ H2 fun o H3 => ∃ t l z', o = some (.ref t) ∧ Kept g H2 H3 ∧ Gen H3 g z' ∧ z ≤ z' ∧ z' ≤ z + 4 ∧ H3 t = some (.tup (lnV l)) ∧ Ok l) ∧
      ∀ D H2 (z : Int) (ls : List Ln), D ≠ g → Kept g H1 H2 → Gen H2 g z → z0 ≤ z → z ≤ z0 + 4 * n → LT H2 D (ls.map lnV) → (∀ l ∈ ls, Ok l) → ls.length = n → Q (.ref D) H2) : WE X (.ListComp elt [⟨tg, .Call (.Name "range" p) [a] [] pos2, ifs, 0⟩] scope pos) σ H Q := by
  refine w_lcR own C hg hm hsa ok hs (WE.mono h ?_)
  rintro v H1 ⟨n, rfl, hl, z0, G0, pt, pd⟩
  refine ⟨n, rfl, by omega, by omega, fun D nD => ?_⟩
  have nDg : D ≠ g := G0.neN nD
  have up : ∀ {H2 : Hp} {z : Int} {o : HO}, Gen H2 g z → Gen (upd H2 D o) g z := fun ⟨x, y, e⟩ => ⟨x, y, by rw [upd_ne (Ne.symm nDg)]; exact e⟩
  have kp : ∀ {H2 : Hp} {o : HO}, Kept g H1 H2 → Kept g H1 (upd H2 D o) := fun s => Same.put s (by rw [Off.ne nDg]; exact nD)
  refine ⟨fun i H2 acc => ∃ (z : Int) (rs : List Nat) (ls : List Ln), Kept g H1 H2 ∧ Gen H2 g z ∧ z0 ≤ z ∧ z ≤ z0 + 4 * i ∧ H2 D = some (.lst acc) ∧ acc = rs.map V.ref ∧ Tups H2 rs (ls.map lnV) ∧ (∀ l ∈ ls, Ok l) ∧ ls.length = i, ⟨z0, [], [], kp (Kept.refl g H1), up G0, Int.le_refl _, by omega, upd_same, rfl, .nil, fun _ h => (by cases h), rfl⟩, fun i H2 acc hi r => ?_, fun H2 acc r => ?_⟩
  · rw [Int.toNat_natCast] at hi
    obtain ⟨z, rs, ls, k1, G1, a1, a2, hD, rfl, tt, okl, ll⟩ := r
    refine turn1_of (pt i H2 z hi k1 G1 a1 a2) (fun H3 ⟨_, _, _, e, _⟩ => nomatch e) fun y H3 ⟨t, l, z', e, k2, G2, b1, b2, ht, okL⟩ => ?_
    cases e
    have hD3 := k2.get nDg hD
    have tl := tt.len
    rw [List.length_map] at tl
    refine ⟨hD3, Nat.lt_of_lt_of_le (by rw [List.length_map, tl, ll]; omega : (rs.map V.ref).length < 2000) (Nat.le_of_ble_eq_true rfl), z', rs ++ [t], ls ++ [l], kp (Kept.trans k1 k2), up G2, by omega, by omega, upd_same, by rw [List.map_append]; rfl, ?_, fun x hx => ?_, by rw [List.length_append, ll]; rfl⟩
    · rw [List.map_append]
      exact ((tt.kept k2 G1).snoc ht).put hD3
    · rcases List.mem_append.mp hx with o | o
      · exact okl x o
      · rw [List.mem_singleton.mp o]; exact okL
  · rw [Int.toNat_natCast] at r
    obtain ⟨z, rs, ls, k1, G1, a1, a2, hD, rfl, tt, okl, ll⟩ := r
    exact pd D H2 z ls nDg k1 G1 a1 a2 ⟨rs, hD, tt⟩ okl ll
end
/-! # MI -/
/-! ## a trimmed paper tells the same last line -/
theorem lines_at' {hb : Bool} {R : List Ln} : ∀ {P : List En} {told T : List Ln}, linesOf hb R P told = some T → ∀ (k : Nat) (e : En), P[k]? = some e → ∃ l, T[told.length + k]? = some l ∧ entryLn hb R (T.take (told.length + k)) e = some l := by
  intro P
  induction P with
  | nil => intro told T _ k e h; cases h
  | cons x P ih =>
    intro told T h k e he
    rw [linesOf] at h
    obtain ⟨l, h1, h2⟩ := Option.bind_eq_some_iff.mp h
    cases k with
    | zero =>
      cases he
      have pre := linesOf_pre h2
      have e1 : T[told.length]? = some l := pre told.length l (by rw [List.getElem?_append_right (Nat.le_refl _), Nat.sub_self]; rfl)
      refine ⟨l, e1, ?_⟩
      have e2 : T.take told.length = told := by
        apply List.ext_getElem?
        intro i
        by_cases c : i < told.length
        · rw [List.getElem?_take_of_lt c]
          have := pre i told[i] (by rw [List.getElem?_append_left c, List.getElem?_eq_getElem c])
          rw [this, List.getElem?_eq_getElem c]
        · rw [List.getElem?_eq_none (by rw [List.length_take]; omega), List.getElem?_eq_none (by omega)]
      rw [Nat.add_zero, e2]
      exact h1
    | succ k =>
      obtain ⟨l2, a, b⟩ := ih h2 k e he
      rw [List.length_append] at a b
      have e3 : told.length + [l].length + k = told.length + (k + 1) := by show told.length + 1 + k = _; omega
      rw [e3] at a b
      exact ⟨l2, a, b⟩
theorem lines_at {hb : Bool} {R : List Ln} {P : List En} {T : List Ln} (h : linesOf hb R P [] = some T) {k : Nat} {e : En} (he : P[k]? = some e) : ∃ l, T[k]? = some l ∧ entryLn hb R (T.take k) e = some l := by
  have := lines_at' h k e he
  simpa using this
def keepK (P : List En) (K L : List Nat) : List En := L.filterMap fun i => (P[i]?).map (renE fun j => K.idxOf j)
/-- the kept entries tell the kept lines -/
theorem keep_lines {hb : Bool} {R : List Ln} {P : List En} {T : List Ln} (h : linesOf hb R P [] = some T) {K : List Nat} (pw : K.Pairwise (· < ·)) (lt : ∀ k ∈ K, k < P.length) (cl : ∀ a ∈ K, ∀ b ∈ namedAt P a, b ∈ K) :
    ∀ (L1 L2 : List Nat), K = L1 ++ L2 → linesOf hb R (keepK P K L2) (L1.filterMap fun i => T[i]?) = some (K.filterMap fun i => T[i]?) := by
  intro L1 L2
  induction L2 generalizing L1 with
  | nil => intro e; rw [List.append_nil] at e; rw [e]; rfl
  | cons k L2 ih =>
    intro e
    have km : k ∈ K := by rw [e]; exact List.mem_append.mpr (.inr List.mem_cons_self)
    obtain ⟨en, e1⟩ : ∃ en, P[k]? = some en := ⟨_, List.getElem?_eq_getElem (lt k km)⟩
    obtain ⟨l, hl, hen⟩ := lines_at h e1
    have all : ∀ (L : List Nat), (∀ i ∈ L, i < P.length) → (L.filterMap fun i => T[i]?).length = L.length ∧ ∀ (n i : Nat), L[n]? = some i → (L.filterMap fun i => T[i]?)[n]? = T[i]? := by
      have lT : T.length = P.length := by have := linesOf_len h; simpa using this
      intro L
      induction L with
      | nil => intro _; exact ⟨rfl, fun n i h => by cases h⟩
      | cons a L ihL =>
        intro hL
        obtain ⟨q1, q2⟩ := ihL fun i hi => hL i (List.mem_cons_of_mem _ hi)
        obtain ⟨ta, ea⟩ : ∃ ta, T[a]? = some ta := ⟨_, List.getElem?_eq_getElem (by have := hL a List.mem_cons_self; omega)⟩
        rw [List.filterMap_cons, ea]
        refine ⟨by show _ + 1 = _ + 1; rw [q1], fun n i hn => ?_⟩
        cases n with
        | zero => cases hn; exact ea.symm
        | succ n => exact q2 n i hn
    have lt1 : ∀ i ∈ L1, i < P.length := fun i hi => lt i (by rw [e]; exact List.mem_append.mpr (.inl hi))
    obtain ⟨a1, a2⟩ := all L1 lt1
    have hw := lines_wf h
    have step : entryLn hb R (L1.filterMap fun i => T[i]?) (renE (fun j => K.idxOf j) en) = some l := by
      refine entry_ren hen (fun _ _ => rfl) fun j hj x hx => ?_
      have jk : j ∈ K := cl k km j (by unfold namedAt; rw [e1]; exact hj)
      have jlt : j < k := hw k _ e1 j hj
      have j1 : j ∈ L1 := by
        rw [e] at jk
        rcases List.mem_append.mp jk with o | o
        · exact o
        · rcases List.mem_cons.mp o with r | r
          · omega
          · rw [e] at pw
            have p2 := (List.pairwise_append.mp pw).2.1
            have := (List.pairwise_cons.mp p2).1 j r
            omega
      have ix : K.idxOf j = L1.idxOf j := by rw [e, List.idxOf_append, if_pos j1]
      have g : L1[L1.idxOf j]? = some j := by
        have hlt := List.idxOf_lt_length_of_mem j1
        rw [List.getElem?_eq_getElem hlt, List.getElem_idxOf hlt]
      rw [ix, a2 _ _ g]
      rw [List.getElem?_take_of_lt jlt] at hx
      exact hx
    show linesOf hb R (keepK P K (k :: L2)) _ = _
    unfold keepK
    rw [List.filterMap_cons, e1]
    show (entryLn hb R _ (renE _ en)).bind _ = _
    rw [step]
    show linesOf hb R (keepK P K L2) ((L1.filterMap fun i => T[i]?) ++ [l]) = _
    have := ih (L1 ++ [k]) (by rw [List.append_assoc]; exact e)
    rw [List.filterMap_append, List.filterMap_cons, hl] at this
    exact this
theorem sortK_last {n : Nat} {f : List Nat} (h : n ∈ f) : ∃ L, sortK (n + 1) f = L ++ [n] := by
  refine ⟨(List.range n).filter fun i => decide (i ∈ f), ?_⟩
  unfold sortK
  rw [List.range_succ, List.filter_append, List.filter_cons_of_pos (by simpa using h)]
  rfl
theorem leanK_last {P : List En} {n : Nat} : ∃ L, leanK P n = L ++ [n] := sortK_last (leanF_grow _ _ _ (List.mem_singleton.mpr rfl))
theorem trimK_keep (P : List En) (n : Nat) : trimK P n = keepK P (leanK P n) (leanK P n) := rfl
theorem trimK_lines {hb : Bool} {R : List Ln} {P : List En} {T : List Ln} (h : linesOf hb R P [] = some T) {n : Nat} (hn : n < P.length) : ∃ T', linesOf hb R (trimK P n) [] = some T' ∧ T'.getLast? = T[n]? := by
  have w := lines_wf h
  refine ⟨_, keep_lines h (leanK_pw P n) (fun k hk => by have := leanK_lt hk; omega) (fun a ha b hb => leanK_closed w ha hb) [] (leanK P n) rfl, ?_⟩
  obtain ⟨L, e⟩ := leanK_last (P := P) (n := n)
  have lT : T.length = P.length := by have := linesOf_len h; simpa using this
  obtain ⟨l, hl⟩ : ∃ l, T[n]? = some l := ⟨_, List.getElem?_eq_getElem (by omega)⟩
  rw [e, List.filterMap_append, List.filterMap_cons, hl]
  show (_ ++ [l]).getLast? = some l
  rw [List.getLast?_append]
  rfl
theorem renE_ok {f : Nat → Nat} {e : En} (h : EnOk e) : EnOk (renE f e) := by cases e <;> exact h
theorem keep_ok {P : List En} {K L : List Nat} (h : ∀ e ∈ P, EnOk e) : ∀ e ∈ keepK P K L, EnOk e := by
  intro e he
  obtain ⟨i, _, hi⟩ := List.mem_filterMap.mp he
  obtain ⟨x, hx, rfl⟩ := Option.map_eq_some_iff.mp hi
  exact renE_ok (h x (List.mem_of_getElem? hx))
theorem trimK_ok {P : List En} {n : Nat} (h : ∀ e ∈ P, EnOk e) : ∀ e ∈ trimK P n, EnOk e := keep_ok h
theorem trimK_len (P : List En) (n : Nat) : (trimK P n).length ≤ n + 1 := Nat.le_trans (List.length_filterMap_le _ _) (sortK_len _ _)
theorem keep_len {P : List En} {K : List Nat} : ∀ {L : List Nat}, (∀ i ∈ L, i < P.length) → (keepK P K L).length = L.length ∧ ∀ (n i : Nat), L[n]? = some i → (keepK P K L)[n]? = (P[i]?).map (renE fun j => K.idxOf j) := by
  intro L
  induction L with
  | nil => intro _; exact ⟨rfl, fun n i h => by cases h⟩
  | cons a L ih =>
    intro hL
    obtain ⟨q1, q2⟩ := ih fun i hi => hL i (List.mem_cons_of_mem _ hi)
    obtain ⟨x, hx⟩ : ∃ x, P[a]? = some x := ⟨_, List.getElem?_eq_getElem (hL a List.mem_cons_self)⟩
    have e : keepK P K (a :: L) = renE (fun j => K.idxOf j) x :: keepK P K L := by
      unfold keepK
      rw [List.filterMap_cons, hx]
      rfl
    rw [e]
    refine ⟨by show _ + 1 = _ + 1; rw [q1], fun n i hn => ?_⟩
    cases n with
    | zero => cases hn; rw [hx]; rfl
    | succ n => exact q2 n i hn
theorem renE_named (f : Nat → Nat) (e : En) : named (renE f e) = (named e).map f := by cases e <;> rfl
theorem renE_id {f : Nat → Nat} {e : En} (h : ∀ j ∈ named e, f j = j) : renE f e = e := by
  cases e with
  | told i => rfl
  | nothing a b => rfl
  | turned i => show En.turned (f i) = _; rw [h i List.mem_cons_self]
  | less i b => show En.less (f i) b = _; rw [h i List.mem_cons_self]
  | joined i j => show En.joined (f i) (f j) = _; rw [h i List.mem_cons_self, h j (List.mem_cons_of_mem _ List.mem_cons_self)]
  | met i j => show En.met (f i) (f j) = _; rw [h i List.mem_cons_self, h j (List.mem_cons_of_mem _ List.mem_cons_self)]
/-- what is trimmed is trimmed -/
theorem trim_again {hb : Bool} {R : List Ln} {P : List En} {T : List Ln} (h : linesOf hb R P [] = some T) {n : Nat} (hn : n < P.length) : trimmedK (trimK P n) = trimK P n := by
  have w := lines_wf h
  obtain ⟨T', hT', _⟩ := trimK_lines h hn
  have w' := lines_wf hT'
  have lt : ∀ k ∈ leanK P n, k < P.length := fun k hk => by have := leanK_lt hk; omega
  obtain ⟨kl, kg⟩ := keep_len (K := leanK P n) lt
  rw [← trimK_keep] at kl kg
  obtain ⟨L, eL⟩ := leanK_last (P := P) (n := n)
  have nd := pw_nodup (leanK_pw P n)
  have len : (leanK P n).length = L.length + 1 := by rw [eL, List.length_append]; rfl
  have lP' : (trimK P n).length = L.length + 1 := kl.trans len
  have gx : ∀ a ∈ leanK P n, (leanK P n)[(leanK P n).idxOf a]? = some a := fun a ha => by
    have hlt := List.idxOf_lt_length_of_mem ha
    rw [List.getElem?_eq_getElem hlt, List.getElem_idxOf hlt]
  have reach : ∀ a ∈ leanF P (n + 1) [n], a ∈ leanK P n ∧ (leanK P n).idxOf a ∈ leanK (trimK P n) L.length := by
    refine leanF_sub (S := fun a => a ∈ leanK P n ∧ (leanK P n).idxOf a ∈ leanK (trimK P n) L.length) ?_ (n + 1) [n] ?_
    · rintro a b ⟨ha, hi⟩ hb
      refine ⟨leanK_closed w ha hb, ?_⟩
      refine leanK_closed w' hi ?_
      obtain ⟨x, hx⟩ : ∃ x, P[a]? = some x := ⟨_, List.getElem?_eq_getElem (lt a ha)⟩
      have e := kg _ _ (gx a ha)
      rw [hx] at e
      unfold namedAt
      rw [e]
      show _ ∈ named (renE _ x)
      rw [renE_named]
      unfold namedAt at hb
      rw [hx] at hb
      exact List.mem_map.mpr ⟨b, hb, rfl⟩
    · intro x hx
      rw [List.mem_singleton.mp hx]
      refine ⟨leanK_self P n, ?_⟩
      have e : (leanK P n).idxOf n = L.length := by
        rw [eL] at nd ⊢
        have nL : n ∉ L := fun hm => (List.nodup_append.mp nd).2.2 n hm n (List.mem_singleton.mpr rfl) rfl
        rw [List.idxOf_append, if_neg nL]
        simp
      rw [e]
      exact leanK_self _ _
  have full : leanK (trimK P n) L.length = List.range (L.length + 1) := by
    unfold leanK sortK
    refine List.filter_eq_self.mpr fun i hi => ?_
    rw [decide_eq_true_eq]
    have hi2 : i < (leanK P n).length := by rw [len]; exact List.mem_range.mp hi
    obtain ⟨a, ha⟩ : ∃ a, (leanK P n)[i]? = some a := ⟨_, List.getElem?_eq_getElem hi2⟩
    have am := List.mem_of_getElem? ha
    have r := (reach a (sortK_mem.mp am).2).2
    have e : (leanK P n).idxOf a = i := by
      have g := gx a am
      obtain ⟨h1, e1⟩ := List.getElem?_eq_some_iff.mp g
      obtain ⟨h2, e2⟩ := List.getElem?_eq_some_iff.mp ha
      have pw := List.pairwise_iff_getElem.mp nd
      rcases Nat.lt_trichotomy ((leanK P n).idxOf a) i with o | o | o
      · exact absurd (e1.trans e2.symm) (pw _ _ h1 h2 o)
      · exact o
      · exact absurd (e2.trans e1.symm) (pw _ _ h2 h1 o)
    rw [e] at r
    exact (sortK_mem.mp r).2
  have e0 : trimmedK (trimK P n) = trimK (trimK P n) L.length := by
    cases q : trimK P n with
    | nil => rw [q] at lP'; cases lP'
    | cons x xs =>
      have : xs.length = L.length := by rw [q] at lP'; simpa using lP'
      show trimK (x :: xs) xs.length = trimK (x :: xs) L.length
      rw [this]
  rw [e0, trimK_keep (trimK P n), full]
  generalize trimK P n = P' at *
  have lt' : ∀ k ∈ List.range (L.length + 1), k < P'.length := fun k hk => by have := List.mem_range.mp hk; omega
  obtain ⟨k1, k2⟩ := keep_len (P := P') (K := List.range (L.length + 1)) lt'
  apply List.ext_getElem?
  intro i
  by_cases c : i < L.length + 1
  · rw [k2 i i (List.getElem?_range c)]
    obtain ⟨x, hx⟩ : ∃ x, P'[i]? = some x := ⟨_, List.getElem?_eq_getElem (by omega)⟩
    rw [hx]
    show some (renE _ x) = some x
    rw [renE_id]
    intro j hj
    have hjlt := w' i x hx j hj
    have jm : j ∈ List.range (L.length + 1) := List.mem_range.mpr (by omega)
    have hlt := List.idxOf_lt_length_of_mem jm
    have g := List.getElem_idxOf hlt
    rw [List.getElem_range] at g
    exact g
  · rw [List.getElem?_eq_none (by rw [k1, List.length_range]; omega), List.getElem?_eq_none (by omega)]
theorem lines_len0 {hb : Bool} {R : List Ln} {P : List En} {T : List Ln} (h : linesOf hb R P [] = some T) : T.length = P.length := by have := linesOf_len h; simpa using this
theorem trimmed_lines {hb : Bool} {R : List Ln} {P : List En} {T : List Ln} (h : linesOf hb R P [] = some T) : ∃ T', linesOf hb R (trimmedK P) [] = some T' ∧ T'.getLast? = T.getLast? := by
  cases P with
  | nil => cases h; exact ⟨[], rfl, rfl⟩
  | cons e es =>
    obtain ⟨T', a, b⟩ := trimK_lines h (n := es.length) (Nat.lt_succ_self _)
    have lT := lines_len0 h
    refine ⟨T', a, ?_⟩
    rw [b, List.getLast?_eq_getElem?, lT]
    rfl
theorem trimmed_again {hb : Bool} {R : List Ln} {P : List En} {T : List Ln} (h : linesOf hb R P [] = some T) : trimmedK (trimmedK P) = trimmedK P := by
  cases P with
  | nil => rfl
  | cons e es => exact trim_again h (Nat.lt_succ_self _)
theorem trimmedK_ok {P : List En} (h : ∀ e ∈ P, EnOk e) : ∀ e ∈ trimmedK P, EnOk e := by
  cases P with
  | nil => intro e he; cases he
  | cons x es => exact trimK_ok h
theorem trimmedK_len (P : List En) : (trimmedK P).length ≤ P.length := by
  cases P with
  | nil => exact Nat.le_refl _
  | cons e es => exact trimK_len _ _
/-! ### papers put through -/
theorem gather_en {R : Prop} : ∀ {Ps : List (List En)} {s : List En × List Nat}, (∀ P ∈ Ps, ∀ e ∈ P, EnOk e) → (∀ e ∈ s.1, EnOk e) → ∀ e ∈ (Ps.foldl gstep s).1, EnOk e := by
  intro Ps
  induction Ps with
  | nil => intro s _ h; exact h
  | cons P Ps ih =>
    intro s hP hs
    refine ih (fun Q hQ => hP Q (List.mem_cons_of_mem _ hQ)) fun e he => ?_
    rcases List.mem_append.mp he with o | o
    · exact hs e o
    · obtain ⟨x, hx, rfl⟩ := List.mem_map.mp o
      exact renE_ok (hP P List.mem_cons_self x hx)
theorem inner_en {Ls : List Nat} : ∀ {P : List En} {s : List En × List Nat}, (∀ e ∈ P, EnOk e) → (∀ e ∈ s.1, EnOk e) → ∀ e ∈ (P.foldl (istep Ls) s).1, EnOk e := by
  intro P
  induction P with
  | nil => intro s _ h; exact h
  | cons x P ih =>
    intro s hP hs
    refine ih (fun e he => hP e (List.mem_cons_of_mem _ he)) fun e he => ?_
    have hx := hP x List.mem_cons_self
    have key : ∀ e ∈ s.1 ++ [renE (fun j => s.2.getD j 0) x], EnOk e := fun e he => by
      rcases List.mem_append.mp he with o | o
      · exact hs e o
      · rw [List.mem_singleton.mp o]; exact renE_ok hx
    cases x with
    | told i => exact hs e he
    | _ => exact key e he
theorem putK_ok {Ps : List (List En)} {P : List En} (h1 : ∀ P ∈ Ps, ∀ e ∈ P, EnOk e) (h2 : ∀ e ∈ P, EnOk e) : ∀ e ∈ putK Ps P, EnOk e := by
  cases P with
  | nil => intro e he; cases he
  | cons e es => exact trimK_ok (inner_en h2 (gather_en (R := True) h1 fun _ h => by cases h))
/-- what is put through tells the inner paper's last line -/
theorem putK_lines {hb : Bool} {R : List Ln} {Ps : List (List En)} {Ts : List (List Ln)} {Ls : List Ln} {P : List En} {TP : List Ln} (hT : Ps.map (fun P => linesOf hb R P []) = Ts.map some) (hL : Ts.map List.getLast? = Ls.map some) (hTP : linesOf hb Ls P [] = some TP) :
    ∃ T', linesOf hb R (putK Ps P) [] = some T' ∧ T'.getLast? = TP.getLast? ∧ (putK Ps P).length ≤ (Ps.map List.length).sum + P.length := by
  cases P with
  | nil => cases hTP; exact ⟨[], rfl, rfl, Nat.zero_le _⟩
  | cons e es =>
    obtain ⟨TF0, g1, g2, g3⟩ := gather_ok (last_maps hT hL) (F := []) (Ls := []) (TF := []) (L0 := []) (rows := R) (hb := hb) rfl rfl (fun k l h => by cases h)
    obtain ⟨TF1, i1, i2, i3⟩ := inner_ok (Pl := []) (TL := []) hTP g1 rfl (fun k l h => g3 k l (by rw [List.nil_append]; exact h)) (fun k l h => by cases h)
    rw [show Ps.foldl gstep ([], []) = gatherK Ps from rfl] at g1 g2 g3 i1 i2 i3
    have lTP := lines_len0 hTP
    rw [List.length_cons] at lTP
    have h2 := (inner_len (gatherK Ps).2 (e :: es) ((gatherK Ps).1, [])).1
    have pe : putK Ps (e :: es) = trimK ((e :: es).foldl (istep (gatherK Ps).2) ((gatherK Ps).1, [])).1 (((e :: es).foldl (istep (gatherK Ps).2) ((gatherK Ps).1, [])).2.getLastD 0) := rfl
    have h3 := gather_len Ps ([], [])
    have h4 : (gatherK Ps).1.length = 0 + (Ps.map List.length).sum := h3
    have h2 : ((e :: es).foldl (istep (gatherK Ps).2) ((gatherK Ps).1, [])).1.length ≤ (gatherK Ps).1.length + (e :: es).length := h2
    generalize (e :: es).foldl (istep (gatherK Ps).2) ((gatherK Ps).1, []) = S at *
    obtain ⟨l, hl⟩ : ∃ l, TP[es.length]? = some l := ⟨_, List.getElem?_eq_getElem (by omega)⟩
    obtain ⟨n, p1, p2⟩ := i3 es.length l hl
    have lP := i2.trans lTP
    have gd : S.2.getLastD 0 = n := by
      rw [List.getLastD_eq_getLast?, List.getLast?_eq_getElem?, lP]
      show (S.2[es.length]?).getD 0 = n
      rw [p1]
      rfl
    have lF1 := lines_len0 i1
    have nlt : n < S.1.length := by
      have h1 := (List.getElem?_eq_some_iff.mp p2).1
      omega
    rw [pe, gd]
    obtain ⟨T', a, b⟩ := trimK_lines i1 nlt
    refine ⟨T', a, ?_, ?_⟩
    · rw [b, p2, List.getLast?_eq_getElem?, lTP]
      exact hl.symm
    · have h1 := trimK_len S.1 n
      omega
/-! # KV -/
/-! ## what is shown is short -/
structure Shw (d : PyData) (W D : Nat) : Prop where
  s : d.showable = true
  n : d.hasDict = false
  dp : d.depth ≤ D
  l : d.leavesShort 13 = true
  w : d.weight ≤ W
theorem Shw.mono {d : PyData} {W D W' D' : Nat} (h : Shw d W D) (hW : W ≤ W') (hD : D ≤ D') : Shw d W' D' := ⟨h.s, h.n, Nat.le_trans h.dp hD, h.l, Nat.le_trans h.w hW⟩
def smV : V → Bool
  | .int i => decide (i.natAbs < 10 ^ 12)
  | .str z => PyData.strOk z && decide (z.cps.size ≤ 40)
  | .bl _ => true
  | .non => true
  | _ => false
theorem shw_V : ∀ {v : V}, smV v = true → Shw (dV v) 40 0
  | .int i, h => by
    have hi : i.natAbs < 10 ^ 12 := of_decide_eq_true h
    have hl : i.natAbs.log2 < 40 := by
      by_cases c : i.natAbs = 0
      · rw [c]; decide
      · exact (Nat.log2_lt c).mpr (by omega)
    refine ⟨?_, ?_, ?_, ?_, ?_⟩
    · simp only [dV, PyData.showable]; exact decide_eq_true (by omega)
    · simp only [dV, PyData.hasDict]
    · simp only [dV, PyData.depth]; exact Nat.le_refl _
    · simp only [dV, PyData.leavesShort]; exact decide_eq_true (PyData.shown_int_le hi)
    · simp only [dV, PyData.weight]
      split
      · omega
      · omega
  | .str z, h => by
    have h2 : PyData.strOk z = true ∧ z.cps.size ≤ 40 := by
      have := h
      simp only [smV, Bool.and_eq_true, decide_eq_true_eq] at this
      exact this
    refine ⟨?_, ?_, ?_, ?_, ?_⟩
    · simp only [dV, PyData.showable]
    · simp only [dV, PyData.hasDict]
    · simp only [dV, PyData.depth]; exact Nat.le_refl _
    · exact PyData.leavesShort_of_canLay0 13 _ (by simp only [dV, PyData.canLay0]; exact h2.1) (by simp only [dV, PyData.intsShort])
    · simp only [dV, PyData.weight]; exact h2.2
  | .bl b, _ => ⟨by simp only [dV, PyData.showable], by simp only [dV, PyData.hasDict], by simp only [dV, PyData.depth]; exact Nat.le_refl _, by simp only [dV, PyData.leavesShort], by simp only [dV, PyData.weight]; omega⟩
  | .non, _ => ⟨by simp only [dV, PyData.showable], by simp only [dV, PyData.hasDict], by simp only [dV, PyData.depth]; exact Nat.le_refl _, by simp only [dV, PyData.leavesShort], by simp only [dV, PyData.weight]; omega⟩
  | .ref _, h => by cases h
  | .byt _, h => by cases h
  | .ty _, h => by cases h
  | .flt _, h => by cases h
theorem shw_all {W D : Nat} : ∀ {xs : List PyData}, (∀ x ∈ xs, Shw x W D) → PyData.showableAll xs = true ∧ PyData.hasDictAll xs = false ∧ PyData.depthAll xs ≤ D ∧ PyData.leavesShortAll 13 xs = true ∧ PyData.weightAll xs ≤ xs.length * (W + 1)
  | [], _ => ⟨by simp only [PyData.showableAll], by simp only [PyData.hasDictAll], by simp only [PyData.depthAll]; exact Nat.zero_le _, by simp only [PyData.leavesShortAll], by simp only [PyData.weightAll]; exact Nat.zero_le _⟩
  | x :: xs, h => by
    obtain ⟨a, b, c, d, e⟩ := shw_all (xs := xs) fun y hy => h y (List.mem_cons_of_mem _ hy)
    have o := h x List.mem_cons_self
    refine ⟨?_, ?_, ?_, ?_, ?_⟩
    · simp only [PyData.showableAll, o.s, a, Bool.and_true]
    · simp only [PyData.hasDictAll, o.n, b, Bool.or_false]
    · simp only [PyData.depthAll]; exact Nat.max_le.mpr ⟨o.dp, c⟩
    · simp only [PyData.leavesShortAll, o.l, d, Bool.and_true]
    · simp only [PyData.weightAll, List.length_cons]
      have := o.w
      rw [Nat.add_mul, Nat.one_mul]
      omega
theorem shw_list {W D n : Nat} {xs : List PyData} (h : ∀ x ∈ xs, Shw x W D) (hn : xs.length ≤ n) : Shw (.list xs) (n * (W + 1)) (D + 1) := by
  obtain ⟨a, b, c, d, e⟩ := shw_all h
  have hm : xs.length * (W + 1) ≤ n * (W + 1) := Nat.mul_le_mul_right _ hn
  exact ⟨by simp only [PyData.showable]; exact a, by simp only [PyData.hasDict]; exact b, by simp only [PyData.depth]; omega, by simp only [PyData.leavesShort]; exact d, by simp only [PyData.weight]; omega⟩
theorem shw_tup {W D n : Nat} {xs : List PyData} (h : ∀ x ∈ xs, Shw x W D) (hn : xs.length ≤ n) : Shw (.tuple xs) (n * (W + 1)) (D + 1) := by
  obtain ⟨a, b, c, d, e⟩ := shw_all h
  have hm : xs.length * (W + 1) ≤ n * (W + 1) := Nat.mul_le_mul_right _ hn
  exact ⟨by simp only [PyData.showable]; exact a, by simp only [PyData.hasDict]; exact b, by simp only [PyData.depth]; omega, by simp only [PyData.leavesShort]; exact d, by simp only [PyData.weight]; omega⟩
/-- short tuples of short scalars -/
def smT (t : List V) : Prop := t.all smV = true ∧ t.length ≤ 4
theorem shw_map {t : List V} (h : t.all smV = true) : ∀ x ∈ t.map dV, Shw x 40 0 := fun x hx => by
  obtain ⟨v, hv, rfl⟩ := List.mem_map.mp hx
  exact shw_V (List.all_eq_true.mp h v hv)
theorem shw_T {t : List V} (h : smT t) : Shw (tD t) 164 1 := shw_tup (n := 4) (shw_map h.1) (by rw [List.length_map]; exact h.2)
theorem shw_L {t : List V} {n : Nat} (h : t.all smV = true) (hn : t.length ≤ n) : Shw (lD t) (n * 41) 1 := shw_list (shw_map h) (by rw [List.length_map]; exact hn)
theorem shw_LT {ts : List (List V)} {n : Nat} (h : ∀ t ∈ ts, smT t) (hn : ts.length ≤ n) : Shw (ltD ts) (n * 165) 2 := shw_list (fun x hx => by
  obtain ⟨t, ht, rfl⟩ := List.mem_map.mp hx
  exact shw_T (h t ht)) (by rw [List.length_map]; exact hn)
theorem shw_LLT {tss : List (List (List V))} {n m : Nat} (h : ∀ ts ∈ tss, (∀ t ∈ ts, smT t) ∧ ts.length ≤ m) (hn : tss.length ≤ n) : Shw (lltD tss) (n * (m * 165 + 1)) 3 := shw_list (fun x hx => by
  obtain ⟨t, ht, rfl⟩ := List.mem_map.mp hx
  exact shw_LT (h t ht).1 (h t ht).2) (by rw [List.length_map]; exact hn)
theorem shw_two {d e : PyData} {W D : Nat} (h1 : Shw d W D) (h2 : Shw e W D) : Shw (.list [d, e]) (2 * (W + 1)) (D + 1) := shw_list (n := 2) (fun x hx => by
  rcases List.mem_cons.mp hx with r | r
  · rw [r]; exact h1
  · rw [List.mem_singleton.mp r]; exact h2) (Nat.le_refl _)
section
variable {X : Cx} {m : Md} {σ : L2.St} {H : Hp} {Q : VK} {N : List Str} {sc : Scope} {k : Nat}
theorem c_reprS (C : Ctx X m N sc k) {a : Addr} {d : PyData} {W D : Nat} (hd : Dp m.K H (.ref a) d) (S : Shw d W D) (hD : D ≤ 60) (hW : W ≤ 1000000) (q : Q (.str d.shown) H) : WC X (.builtin "repr") [.ref a] H Q :=
  c_repr C hd S.s S.n (Nat.le_trans S.dp hD) (PyData.shown_fits (B := 13) (by decide) (by decide) S.l (Nat.le_trans S.w (Nat.le_trans hW (by decide)))) q
/-- a, b = a list -/
theorem wg_L (C : Ctx X m N sc k) {es : List Expr} {pos : Pos} {kk : Nat} {p : Addr} {vs : List V} {Q : L2.St → Hp → Prop} (hst : (assignEach es X.env).findIdx? (·.1) = none)
    (hp : H p = some (.lst vs)) (hl : vs.length = (assignEach es X.env).length) (h : WGs X es vs σ H Q) : WG X (.Tuple es kk pos) (.ref p) σ H Q := by
  obtain rfl := C.hm
  exact ofG (pg_unl C.calm pWGs rfl hst) ⟨p, vs, rfl, SqL.of hp, hl, h⟩
end
/-! ### calls by keywords -/
theorem kwBind {m : Md} {x : Str} {st : Stmt} {ps ks : List Str} {j : Nat} {sp : SpG} (hs : ∃ f fd, Has m x st ps f fd)
    (h : ∀ (kV doc pm : Value) (an : Option Addr) (cdv ct : Value) (ws : List Value), ws.length = ks.length → bindArgs (PySem.W.fnOf x x (defArgs st) (defBody st) (defScope st) .none kV doc pm an cdv ct) ⟨[], ks.zip ws⟩ = pure (ps.zip ws.reverse)) :
    ∀ f fd, DefOk m x ps j sp f fd → ∀ (s : Shared) (ws : List Value), ws.length = ks.length → BindsTo s fd ⟨[], ks.zip ws⟩ (ps.zip ws.reverse) := by
  intro f fd D s ws hl
  obtain ⟨f2, fd2, F, hm, hb⟩ := hs
  have e : f2 = f := by have q := hm.symm.trans D.mg; cases q; rfl
  subst e
  obtain ⟨oc, od, kV, doc, pm, an, cdv, ct, osl, efd, lk, hcd⟩ := F.ex
  obtain ⟨oc', od', osl', lk'⟩ := D.lk
  have e2 : fd2 = fd := by
    have q := lk.symm.trans lk'
    cases q; rfl
  subst e2
  subst efd
  exact .of_eq (h kV doc pm an cdv ct ws hl)
theorem vals_rev {vs : List V} {us : List Value} (h : Vals vs us) : Vals vs.reverse us.reverse := by
  induction h with
  | nil => exact .nil
  | cons a b ih => rw [List.reverse_cons, List.reverse_cons]; exact ih.append (.cons a .nil)
section
variable {X : Cx} {m : Md} {σ : L2.St} {H : Hp} {Q : VK} {N : List Str} {sc : Scope} {k j : Nat} {x : Str} {ps : List Str} {sp : SpG} {p pos : Pos}
theorem w_callK2 {a b : Expr} {n1 n2 : Str} {k1 k2 : Pos} (C : Ctx X m N sc k) (D : Def m x ps j sp) (hj : j ≤ k) (hg : Gl X x) (hdb : (x == ("__debug__" : Str)) = false)
    (hall : (backToKw pos (keywordEach [⟨some n1, a, k1⟩, ⟨some n2, b, k2⟩] X.env)).all (·.1.isSome) = true) (hks : (backToKw pos (keywordEach [⟨some n1, a, k1⟩, ⟨some n2, b, k2⟩] X.env)).filterMap (·.1) = [n1, n2])
    (hpl : ((backTo pos (starEach [] X.env)).any (·.1) || (backToKw pos (keywordEach [⟨some n1, a, k1⟩, ⟨some n2, b, k2⟩] X.env)).any (·.1.isNone)) = false)
    (hbd : ∀ f fd, DefOk m x ps j sp f fd → ∀ (s : Shared) (ws : List Value), ws.length = [n1, n2].length → BindsTo s fd ⟨[], [n1, n2].zip ws⟩ (ps.zip ws.reverse))
    (h : WE X a σ H fun v1 H1 => WE X b σ H1 fun v2 H2 => sp [v2, v1] H2 Q) : WE X (.Call (.Name x p) [] [⟨some n1, a, k1⟩, ⟨some n2, b, k2⟩] pos) σ H Q :=
  w_callK (ks := [n1, n2]) (g := fun l => l.reverse) C D hj hg hdb hall hks hpl hbd vals_rev _ (pk_cons pWE (pk_cons pWE pk_nil)) (WE.mono h fun v1 H1 h1 => WE.mono h1 fun v2 H2 h2 => ⟨rfl, h2⟩)
theorem w_callK3 {a b c : Expr} {n1 n2 n3 : Str} {k1 k2 k3 : Pos} (C : Ctx X m N sc k) (D : Def m x ps j sp) (hj : j ≤ k) (hg : Gl X x) (hdb : (x == ("__debug__" : Str)) = false)
    (hall : (backToKw pos (keywordEach [⟨some n1, a, k1⟩, ⟨some n2, b, k2⟩, ⟨some n3, c, k3⟩] X.env)).all (·.1.isSome) = true) (hks : (backToKw pos (keywordEach [⟨some n1, a, k1⟩, ⟨some n2, b, k2⟩, ⟨some n3, c, k3⟩] X.env)).filterMap (·.1) = [n1, n2, n3])
    (hpl : ((backTo pos (starEach [] X.env)).any (·.1) || (backToKw pos (keywordEach [⟨some n1, a, k1⟩, ⟨some n2, b, k2⟩, ⟨some n3, c, k3⟩] X.env)).any (·.1.isNone)) = false)
    (hbd : ∀ f fd, DefOk m x ps j sp f fd → ∀ (s : Shared) (ws : List Value), ws.length = [n1, n2, n3].length → BindsTo s fd ⟨[], [n1, n2, n3].zip ws⟩ (ps.zip ws.reverse))
    (h : WE X a σ H fun v1 H1 => WE X b σ H1 fun v2 H2 => WE X c σ H2 fun v3 H3 => sp [v3, v2, v1] H3 Q) : WE X (.Call (.Name x p) [] [⟨some n1, a, k1⟩, ⟨some n2, b, k2⟩, ⟨some n3, c, k3⟩] pos) σ H Q :=
  w_callK (ks := [n1, n2, n3]) (g := fun l => l.reverse) C D hj hg hdb hall hks hpl hbd vals_rev _ (pk_cons pWE (pk_cons pWE (pk_cons pWE pk_nil))) (WE.mono h fun v1 H1 h1 => WE.mono h1 fun v2 H2 h2 => WE.mono h2 fun v3 H3 h3 => ⟨rfl, h3⟩)
end
/-! ### how far numbers go -/
theorem line_bdM {hb : Bool} {r y M : Int} (hM : 2520 ≤ M) (d : Dom hb y) (h : -M ≤ r ∧ r ≤ M) (hn : hb = false → 0 ≤ r) : -M ≤ restK hb r y ∧ restK hb r y ≤ M := by
  obtain ⟨y0, y1⟩ := dom_bd d
  by_cases c : y = 0
  · unfold restK; rw [if_pos c]; exact h
  · rw [restK_pos c]
    have := remK_lt (hb := hb) (a := r) (b := y) (by omega) hn
    have y2 : y ≤ 2520 := by
      cases hb with
      | true =>
        rcases d with e | ⟨e1, e2⟩
        · omega
        · exact Int.le_of_dvd (by decide) e2
      | false =>
        have hh : ∀ b ∈ domB, b < 128 := by decide
        have := hh _ d
        omega
    omega
theorem BdL.mono {M M' : Int} {l : Ln} (h : BdL M l) (hm : M ≤ M') : BdL M' l := ⟨by have := h.1; omega, by have := h.2; omega⟩
theorem entry_bd {hb : Bool} {rows told : List Ln} {e : En} {l : Ln} {M : Int} (hM : 2520 ≤ M) (hr : ∀ l ∈ rows, LnOk hb l) (br : ∀ l ∈ rows, BdL M l) (ht : ∀ l ∈ told, LnOk hb l) (bt : ∀ l ∈ told, BdL M l) (he : EnOk e) (h : entryLn hb rows told e = some l) : BdL (2 * M) l := by
  have up : ∀ {l : Ln}, BdL M l → BdL (2 * M) l := fun h => h.mono (by omega)
  have low : ∀ {x : Ln}, LnOk hb x → hb = false → 0 ≤ x.ahead ∧ x.ahead < 2 ^ 12 := fun ok z => ok.rg.nn z
  cases e with
  | told i => exact up (br l (List.mem_of_getElem? h))
  | nothing a b => cases h; exact ⟨by show -(2 * M) ≤ 0; omega, by show (0 : Int) ≤ 2 * M; omega⟩
  | turned i =>
    obtain ⟨x, q, rfl⟩ := Option.map_eq_some_iff.mp (show (told[i]?).map (turnLn hb) = some l from h)
    have ok := ht x (List.mem_of_getElem? q)
    have b := bt x (List.mem_of_getElem? q)
    refine up (line_bdM hM ok.dom ?_ fun z => ?_)
    · cases hb with
      | true => show -M ≤ 0 - x.ahead ∧ 0 - x.ahead ≤ M; have := b.1; have := b.2; omega
      | false => exact b
    · subst z; exact ok.f0 rfl
  | less i b =>
    obtain ⟨x, q, h2⟩ := Option.bind_eq_some_iff.mp h
    have ok := ht x (List.mem_of_getElem? q)
    have bx := bt x (List.mem_of_getElem? q)
    split at h2
    · cases h2
      obtain ⟨db, dh⟩ := less_dom b he
      refine up (line_bdM hM ?_ bx fun z => ok.f0 z)
      cases hb with
      | false => exact db
      | true =>
        rcases dh with e | ⟨e1, e2⟩
        · exact .inl (by rw [e]; rfl)
        · exact hours_of (by omega) e2
    · cases h2
  | joined i j =>
    obtain ⟨x, q, h2⟩ := Option.bind_eq_some_iff.mp h
    obtain ⟨y, q2, h3⟩ := Option.bind_eq_some_iff.mp h2
    have ok := ht x (List.mem_of_getElem? q)
    have ok2 := ht y (List.mem_of_getElem? q2)
    have bx := bt x (List.mem_of_getElem? q)
    have bz := bt y (List.mem_of_getElem? q2)
    split at h3
    · cases h3
      obtain ⟨gd, gz⟩ := gcd_dom ok.dom ok2.dom
      refine line_bdM (by omega) gd ?_ (fun z => by subst z; exact addK_nn)
      cases hb with
      | true => show -(2 * M) ≤ x.ahead + y.ahead ∧ x.ahead + y.ahead ≤ 2 * M; have := bx.1; have := bx.2; have := bz.1; have := bz.2; omega
      | false =>
        have := xorI_bd (k := 12) (low ok rfl).2 (low ok2 rfl).2
        show -(2 * M) ≤ xorI x.ahead y.ahead ∧ xorI x.ahead y.ahead ≤ 2 * M
        omega
    · cases h3
  | met i j =>
    obtain ⟨x, q, h2⟩ := Option.bind_eq_some_iff.mp h
    obtain ⟨y, q2, h3⟩ := Option.bind_eq_some_iff.mp h2
    have ok := ht x (List.mem_of_getElem? q)
    have ok2 := ht y (List.mem_of_getElem? q2)
    have bx := bt x (List.mem_of_getElem? q)
    have bz := bt y (List.mem_of_getElem? q2)
    split at h3
    · cases h3
      show BdL (2 * M) (metLn hb x y)
      unfold metLn BdL
      show -(2 * M) ≤ (metK hb x.ahead x.by_ y.ahead y.by_).1 ∧ (metK hb x.ahead x.by_ y.ahead y.by_).1 ≤ 2 * M
      obtain ⟨md, mz⟩ := mult_dom ok.dom ok2.dom
      unfold metK
      by_cases c : x.by_ = 0 ∨ y.by_ = 0
      · rw [if_pos c]
        show -(2 * M) ≤ (if x.by_ = 0 then x.ahead else y.ahead) ∧ (if x.by_ = 0 then x.ahead else y.ahead) ≤ 2 * M
        have := bx.1; have := bx.2; have := bz.1; have := bz.2
        split <;> omega
      · rw [if_neg c]
        have nz : multK hb x.by_ y.by_ ≠ 0 := mz (fun z => c (.inl z)) (fun z => c (.inr z))
        have m2 : multK hb x.by_ y.by_ ≤ 4096 := by have := (dom_bd md).2; omega
        have m0 := (dom_bd md).1
        have r := remK_lt (hb := hb) (a := foundK hb x.ahead x.by_ y.ahead y.by_) (b := multK hb x.by_ y.by_) (by omega) (fun z => by subst z; exact addK_nn)
        show -(2 * M) ≤ restK hb _ _ ∧ restK hb _ _ ≤ 2 * M
        rw [restK_pos nz]
        omega
    · cases h3
theorem lines_bd {hb : Bool} {rows : List Ln} (hr : ∀ l ∈ rows, LnOk hb l) : ∀ {es : List En} {told T : List Ln} {M : Int}, 2520 ≤ M → (∀ l ∈ rows, BdL M l) → (∀ l ∈ told, LnOk hb l) → (∀ l ∈ told, BdL M l) → (∀ e ∈ es, EnOk e) → linesOf hb rows es told = some T → ∀ l ∈ T, BdL (M * 2 ^ es.length) l := by
  intro es
  induction es with
  | nil =>
    intro told T M hM br ht bt he h
    cases h
    intro l hl
    have := bt l hl
    rw [show M * 2 ^ ([] : List En).length = M by simp]
    exact this
  | cons e es ih =>
    intro told T M hM br ht bt he h
    rw [linesOf] at h
    obtain ⟨x, h1, h2⟩ := Option.bind_eq_some_iff.mp h
    have xo := entryLn_ok hr ht (he e List.mem_cons_self) h1
    have xb := entry_bd hM hr br ht bt (he e List.mem_cons_self) h1
    have := ih (M := 2 * M) (by omega) (fun l hl => (br l hl).mono (by omega)) (fun l hl => by
      rcases List.mem_append.mp hl with a | a
      · exact ht l a
      · rw [List.mem_singleton.mp a]; exact xo) (fun l hl => by
      rcases List.mem_append.mp hl with a | a
      · exact (bt l a).mono (by omega)
      · rw [List.mem_singleton.mp a]; exact xb) (fun x hx => he x (List.mem_cons_of_mem _ hx)) h2
    intro l hl
    have q := this l hl
    rw [show M * 2 ^ (e :: es).length = 2 * M * 2 ^ es.length by rw [List.length_cons, Int.pow_succ, Int.mul_comm 2 M, Int.mul_assoc, Int.mul_comm 2]]
    exact q
/-! ### lines and entries are short -/
theorem nm5_len {z : Str} (h : z ∈ nm5) : z.cps.size ≤ 40 := by
  simp only [nm5, List.mem_cons, List.not_mem_nil, or_false] at h
  rcases h with rfl | rfl | rfl | rfl | rfl <;> decide +kernel
theorem smV_nm {z : Str} (h : z ∈ nm5) : smV (.str z) = true := by
  simp only [smV, nm5_str h, decide_eq_true (nm5_len h), Bool.and_self]
theorem smV_int {i : Int} (h : -(10 ^ 11) ≤ i ∧ i ≤ 10 ^ 11) : smV (.int i) = true := decide_eq_true (by omega)
theorem smT_ln {hb : Bool} {l : Ln} (h : LnOk hb l) (b : BdL (10 ^ 11) l) : smT (lnV l) := by
  obtain ⟨y0, y1⟩ := dom_bd h.dom
  refine ⟨?_, Nat.le_refl _⟩
  simp only [lnV, List.all_cons, List.all_nil, Bool.and_true, smV_nm h.n1, smV_nm h.n2, smV_int b, smV_int (i := l.by_) ⟨by omega, by omega⟩]
theorem smT_lns {hb : Bool} {T : List Ln} (h : ∀ l ∈ T, LnOk hb l) (b : ∀ l ∈ T, BdL (10 ^ 11) l) : ∀ t ∈ T.map lnV, smT t := fun t ht => by
  obtain ⟨l, hl, rfl⟩ := List.mem_map.mp ht
  exact smT_ln (h l hl) (b l hl)
theorem smV_word (e : En) : smV (.str (wordE e)) = true := by
  cases e with
  | told i => exact (by decide +kernel : smV (.str "told") = true)
  | nothing a b => exact (by decide +kernel : smV (.str "nothing") = true)
  | turned i => exact (by decide +kernel : smV (.str "turned") = true)
  | joined i j => exact (by decide +kernel : smV (.str "joined") = true)
  | met i j => exact (by decide +kernel : smV (.str "met") = true)
  | less i b => exact (by decide +kernel : smV (.str "less") = true)
theorem smT_en {e : En} (h : EnOk e) (hn : ∀ j ∈ named e, j < 100000) (ht : ∀ j, e = .told j → j < 100000) : smT (enV e) := by
  have nat : ∀ {n : Nat}, n < 100000 → smV (.int (n : Int)) = true := fun h => smV_int ⟨by omega, by omega⟩
  rw [enV_cons]
  refine ⟨?_, ?_⟩
  · rw [List.all_cons, smV_word, Bool.true_and]
    cases e with
    | told j => simp only [tailE, List.all_cons, List.all_nil, nat (ht j rfl), Bool.and_true]
    | nothing a b => simp only [tailE, List.all_cons, List.all_nil, smV_nm h.1, smV_nm h.2.1, Bool.and_true]
    | turned i => simp only [tailE, List.all_cons, List.all_nil, nat (hn i List.mem_cons_self), Bool.and_true]
    | joined i j => simp only [tailE, List.all_cons, List.all_nil, nat (hn i List.mem_cons_self), nat (hn j (List.mem_cons_of_mem _ List.mem_cons_self)), Bool.and_true]
    | met i j => simp only [tailE, List.all_cons, List.all_nil, nat (hn i List.mem_cons_self), nat (hn j (List.mem_cons_of_mem _ List.mem_cons_self)), Bool.and_true]
    | less i b =>
      have hb : b < 8 := by
        have : ∀ b ∈ [0, 1, 2, 3, 4, 6, 7], b < 8 := by decide
        exact this b h
      simp only [tailE, List.all_cons, List.all_nil, nat (hn i List.mem_cons_self), nat (n := b) (by omega), Bool.and_true]
  · have := tail_len e
    rw [List.length_cons]; omega
theorem smT_pap {hb : Bool} {R : List Ln} {P : List En} {T : List Ln} (hT : linesOf hb R P [] = some T) (oke : ∀ e ∈ P, EnOk e) (hp : P.length ≤ 2000) (hr : R.length ≤ 2000) : ∀ t ∈ P.map enV, smT t := fun t ht => by
  obtain ⟨e, he, rfl⟩ := List.mem_map.mp ht
  obtain ⟨i, hi⟩ := List.mem_iff_getElem?.mp he
  have il : i < P.length := (List.getElem?_eq_some_iff.mp hi).1
  refine smT_en (oke e he) (fun j hj => ?_) (fun j hj => ?_)
  · have := lines_wf hT i e hi j hj; omega
  · subst hj
    have := told_bd hT i j hi; omega
theorem smV_nV {ns : List Nat} (h : ∀ n ∈ ns, n < 100000) : (nV ns).all smV = true := by
  rw [List.all_eq_true]
  intro x hx
  obtain ⟨n, hn, rfl⟩ := List.mem_map.mp hx
  have := h n hn
  exact smV_int ⟨by omega, by omega⟩
theorem usedK_bd {R : Nat} {P : List En} : (∀ n ∈ usedK R P, n < R) ∧ (usedK R P).length ≤ R := by
  cases P with
  | nil => exact ⟨fun _ h => (by cases h), Nat.zero_le _⟩
  | cons e es => exact ⟨fun n h => (sortK_mem.mp h).1, sortK_len _ _⟩
theorem LT.off {H : Hp} {g p : Addr} {z : Int} {ts : List (List V)} (h : LT H p ts) (ne : p ≠ g) (G : Gen H g z) : LT (Off H g) p ts := h.kept (Same.refl _) ne G
/-! # KU -/
theorem shw_book {hb : Bool} {R : List Ln} (ok : ∀ l ∈ R, LnOk hb l) (bd : ∀ l ∈ R, BdL 2520 l) (hl : R.length ≤ 6) : Shw (.tuple [.str (ks hb), ltD (R.map lnV)]) 3000 3 := by
  have h1 : Shw (.str (ks hb)) 1000 2 := (shw_V (v := .str (ks hb)) (by cases hb <;> decide +kernel)).mono (by decide) (by decide)
  have h2 : Shw (ltD (R.map lnV)) 1000 2 := (shw_LT (n := 6) (smT_lns ok fun l h => (bd l h).mono (by decide)) (by rw [List.length_map]; exact hl)).mono (by decide) (by decide)
  refine (shw_tup (n := 2) (W := 1000) (D := 2) (fun x hx => ?_) (Nat.le_refl _)).mono (by decide) (by decide)
  rcases List.mem_cons.mp hx with r | r
  · rw [r]; exact h1
  · rw [List.mem_singleton.mp r]; exact h2
theorem dp_book {K : PySem.W.Frag} {H : Hp} {t pr : Addr} {hb : Bool} {R : List Ln} (ht : H t = some (.tup [.str (ks hb), .ref pr])) (h : LT H pr (R.map lnV)) (ok : ∀ l ∈ R, LnOk hb l) : Dp K H (.ref t) (.tuple [.str (ks hb), ltD (R.map lnV)]) :=
  .tup (SqT.of ht) (.cons (.str _) (.cons (dpLT h (lnVs_ok ok)) .nil))
theorem dp_two {K : PySem.W.Frag} {H : Hp} {t a b : Addr} {d e : PyData} (ht : H t = some (.lst [.ref a, .ref b])) (h1 : Dp K H (.ref a) d) (h2 : Dp K H (.ref b) e) : Dp K H (.ref t) (.list [d, e]) := .lst (SqL.of ht) (.cons h1 (.cons h2 .nil))
theorem usedK_eq (R : Nat) (P : List En) : sortK R ((leansK P).filterMap (toldAt P)) = usedK R P := by
  cases P with
  | nil =>
    show sortK R [] = []
    unfold sortK
    exact List.filter_eq_nil_iff.mpr fun a _ => by simp
  | cons e es => rfl
theorem leansK_bd (P : List En) : (leansK P).length ≤ P.length ∧ ∀ a ∈ leansK P, a < P.length := by
  cases P with
  | nil => exact ⟨Nat.le_refl _, fun a h => (by cases h)⟩
  | cons e es => exact ⟨sortK_len _ _, fun a h => leanK_lt h⟩
theorem LLT.snoc {H : Hp} {p q r : Addr} {tss : List (List (List V))} {ts : List (List V)} {xs : List V} (h : LLT H p tss) (e : H p = some (.lst xs)) (hr : LT H r ts) (eq : H q = some (.lst (xs ++ [.ref r]))) : LLT H q (tss ++ [ts]) := by
  obtain ⟨rs, a, b⟩ := h
  have e2 : xs = rs.map V.ref := by rw [e] at a; cases a; rfl
  subst e2
  exact ⟨rs ++ [r], by rw [List.map_append]; exact eq, b.snoc hr⟩
theorem LLT.lst {H : Hp} {p : Addr} {tss : List (List (List V))} (h : LLT H p tss) : ∃ xs, H p = some (.lst xs) ∧ xs.length = tss.length := by
  obtain ⟨rs, a, b⟩ := h
  exact ⟨_, a, by rw [List.length_map, b.len]⟩
theorem sum_le {α : Type} {m : Nat} : ∀ {Ps : List (List α)}, (∀ P ∈ Ps, P.length ≤ m) → (Ps.map List.length).sum ≤ m * Ps.length
  | [], _ => Nat.zero_le _
  | P :: Ps, h => by
    have h1 := h P List.mem_cons_self
    have h2 := sum_le (Ps := Ps) fun Q hQ => h Q (List.mem_cons_of_mem _ hQ)
    rw [List.map_cons, List.sum_cons, List.length_cons, Nat.mul_succ]
    omega
theorem same_str (x : Str) : decide (x = x) = true := decide_eq_true rfl
theorem Off.ne_of {H : Hp} {g p : Addr} {o : HO} (h : Off H g p = some o) : p ≠ g := fun e => by rw [e, Off.at] at h; cases h
theorem Gen.upd {H : Hp} {g p : Addr} {z : Int} {o : HO} (G : Gen H g z) (ne : p ≠ g) : Gen (upd H p o) g z := by
  obtain ⟨x, y, e⟩ := G
  exact ⟨x, y, by rw [upd_ne (Ne.symm ne)]; exact e⟩
theorem shw_pap {hb : Bool} {R : List Ln} {P : List En} {T : List Ln} {n : Nat} (hT : linesOf hb R P [] = some T) (oke : ∀ e ∈ P, EnOk e) (hp : P.length ≤ n) (hn : n ≤ 2000) (hr : R.length ≤ 2000) : Shw (ltD (P.map enV)) (n * 165) 2 :=
  shw_LT (smT_pap hT oke (Nat.le_trans hp hn) hr) (by rw [List.length_map]; exact hp)
theorem shw_nV {ns : List Nat} {n : Nat} (h : ∀ x ∈ ns, x < 100000) (hn : ns.length ≤ n) : Shw (lD (nV ns)) (n * 41) 1 := shw_L (smV_nV h) (by rw [List.length_map]; exact hn)
theorem papers_ok {Ps : List (List En)} (h : ∀ P ∈ Ps, ∀ e ∈ P, EnOk e) : okTT (Ps.map (·.map enV)) := by
  intro ts hts
  obtain ⟨P, hP, rfl⟩ := List.mem_map.mp hts
  exact papV_ok (h P hP)
theorem shw_papers {hb : Bool} {R : List Ln} {Ps : List (List En)} {Ts : List (List Ln)} {n m : Nat} (hT : Ps.map (fun P => linesOf hb R P []) = Ts.map some) (oke : ∀ P ∈ Ps, (∀ e ∈ P, EnOk e) ∧ P.length ≤ m) (hp : Ps.length ≤ n) (hm : m ≤ 2000) (hr : R.length ≤ 2000) : Shw (lltD (Ps.map (·.map enV))) (n * (m * 165 + 1)) 3 := by
  refine shw_LLT (fun ts hts => ?_) (by rw [List.length_map]; exact hp)
  obtain ⟨P, hP, rfl⟩ := List.mem_map.mp hts
  obtain ⟨T, hTP⟩ := told_some hT hP
  have h := oke P hP
  exact ⟨smT_pap hTP h.1 (by omega) hr, by rw [List.length_map]; exact h.2⟩
theorem lt_get {H : Hp} {p : Addr} {T : List Ln} {l : Ln} (h : LT H p (T.map lnV)) (e : T.getLast? = some l) : ∃ xs r, H p = some (.lst xs) ∧ xs.getLast? = some (.ref r) ∧ H r = some (.tup (lnV l)) := by
  obtain ⟨xs, r, a, _, b, c⟩ := h.last (t := lnV l) (by rw [List.getLast?_map, e]; rfl)
  exact ⟨xs, r, a, b, c⟩
theorem last_of_ne {α : Type} {T : List α} (h : T ≠ []) : ∃ l, T.getLast? = some l := ⟨T.getLast h, List.getLast?_eq_some_getLast h⟩
/-! # KC -/
/-! ## a paper in which each leans on the one ahead of it -/
theorem lean_full {P : List En} (w : WfP P) {n : Nat} (h : ∀ k, k < n → k ∈ namedAt P (k + 1)) : leanK P n = List.range (n + 1) := by
  have key : ∀ j, j ≤ n → n - j ∈ leanK P n := by
    intro j
    induction j with
    | zero => intro _; exact leanK_self P n
    | succ j ih =>
      intro hj
      have h1 := ih (by omega)
      have h2 := h (n - (j + 1)) (by omega)
      rw [show n - (j + 1) + 1 = n - j by omega] at h2
      exact leanK_closed w h1 h2
  unfold leanK sortK
  refine List.filter_eq_self.mpr fun i hi => ?_
  rw [decide_eq_true_eq]
  have hi2 : i < n + 1 := List.mem_range.mp hi
  have := key (n - i) (by omega)
  rw [show n - (n - i) = i by omega] at this
  exact (sortK_mem.mp this).2
theorem trim_full {P : List En} (w : WfP P) {n : Nat} (hl : P.length = n + 1) (full : leanK P n = List.range (n + 1)) : trimK P n = P := by
  rw [trimK_keep P, full]
  have lt' : ∀ k ∈ List.range (n + 1), k < P.length := fun k hk => by have := List.mem_range.mp hk; omega
  obtain ⟨k1, k2⟩ := keep_len (P := P) (K := List.range (n + 1)) lt'
  apply List.ext_getElem?
  intro i
  by_cases c : i < n + 1
  · rw [k2 i i (List.getElem?_range c)]
    obtain ⟨x, hx⟩ : ∃ x, P[i]? = some x := ⟨_, List.getElem?_eq_getElem (by omega)⟩
    rw [hx]
    show some (renE _ x) = some x
    rw [renE_id]
    intro j hj
    have hjlt := w i x hx j hj
    have jm : j ∈ List.range (n + 1) := List.mem_range.mpr (by omega)
    have hlt := List.idxOf_lt_length_of_mem jm
    have g := List.getElem_idxOf hlt
    rw [List.getElem_range] at g
    exact g
  · rw [List.getElem?_eq_none (by rw [k1, List.length_range]; omega), List.getElem?_eq_none (by omega)]
def chainP (f : Nat → En) (n : Nat) : List En := En.told 0 :: (List.range n).map f
theorem chain_succ (f : Nat → En) (n : Nat) : chainP f (n + 1) = chainP f n ++ [f n] := by
  unfold chainP
  rw [List.range_succ, List.map_append]
  rfl
theorem chain_len (f : Nat → En) (n : Nat) : (chainP f n).length = n + 1 := by
  unfold chainP
  rw [List.length_cons, List.length_map, List.length_range]
theorem chain_lines {hb : Bool} {R : List Ln} {f : Nat → En} {L : Nat → Ln} (h0 : R[0]? = some (L 0)) (hs : ∀ k told, told[k]? = some (L k) → entryLn hb R told (f k) = some (L (k + 1))) : ∀ n, linesOf hb R (chainP f n) [] = some ((List.range (n + 1)).map L) := by
  intro n
  induction n with
  | zero =>
    show (R[0]?).bind _ = _
    rw [h0]
    rfl
  | succ n ih =>
    rw [chain_succ, linesOf_app, ih]
    show (entryLn hb R ((List.range (n + 1)).map L) (f n)).bind _ = _
    rw [hs n _ (by rw [List.getElem?_map, List.getElem?_range (Nat.lt_succ_self n)]; rfl)]
    show some _ = some _
    rw [List.range_succ (n := n + 1), List.map_append]
    rfl
theorem chain_at (f : Nat → En) {n k : Nat} (h : k < n) : (chainP f n)[k + 1]? = some (f k) := by
  unfold chainP
  rw [List.getElem?_cons_succ, List.getElem?_map, List.getElem?_range h]
  rfl
theorem chain_lean {f : Nat → En} {n : Nat} (w : WfP (chainP f n)) (hf : ∀ k, k ∈ named (f k)) : leanK (chainP f n) n = List.range (n + 1) :=
  lean_full w fun k hk => by
    unfold namedAt
    rw [chain_at f hk]
    exact hf k
theorem chain_trim {f : Nat → En} {n : Nat} (w : WfP (chainP f n)) (hf : ∀ k, k ∈ named (f k)) : trimmedK (chainP f n) = chainP f n := by
  have e : trimmedK (chainP f n) = trimK (chainP f n) n := by
    show trimK _ ((List.range n).map f).length = _
    rw [List.length_map, List.length_range]
    rfl
  rw [e, trim_full w (chain_len f n) (chain_lean w hf)]
theorem chain_used {f : Nat → En} {n : Nat} (w : WfP (chainP f n)) (hf : ∀ k, k ∈ named (f k)) (ht : ∀ k j, f k ≠ .told j) : usedK 3 (chainP f n) = [0] := by
  have e : usedK 3 (chainP f n) = sortK 3 ((leanK (chainP f n) n).filterMap (toldAt (chainP f n))) := by
    show sortK 3 ((leanK _ ((List.range n).map f).length).filterMap _) = _
    rw [List.length_map, List.length_range]
    rfl
  rw [e, chain_lean w hf]
  have mem : ∀ x, x ∈ (List.range (n + 1)).filterMap (toldAt (chainP f n)) ↔ x = 0 := by
    intro x
    rw [List.mem_filterMap]
    constructor
    · rintro ⟨a, ha, h⟩
      have ha2 := List.mem_range.mp ha
      cases a with
      | zero => cases h; rfl
      | succ a =>
        unfold toldAt at h
        rw [chain_at f (by omega)] at h
        cases hfa : f a with
        | told j => exact absurd hfa (ht a j)
        | _ => rw [hfa] at h; cases h
    · rintro rfl
      exact ⟨0, List.mem_range.mpr (by omega), rfl⟩
  unfold sortK
  have ef : (fun i => decide (i ∈ (List.range (n + 1)).filterMap (toldAt (chainP f n)))) = fun i => decide (i = 0) := by
    funext i
    exact decide_eq_decide.mpr (mem i)
  rw [ef]
  decide
/-! ## the clock -/
def l0 : Ln := ⟨"a", "b", 7, 12⟩
def l1 : Ln := ⟨"b", "a", 5, 12⟩
def clockR : List Ln := [l0, ⟨"b", "c", 3, 8⟩, ⟨"a", "c", 1, 3⟩]
theorem ln_hours {a b : Str} {x y : Int} (h : a ∈ nm5 ∧ b ∈ nm5 ∧ a ≠ b) (hy : 0 < y ∧ y ∣ 2520) (hx : 0 ≤ x ∧ x < y) : LnOk true ⟨a, b, x, y⟩ :=
  ⟨h.1, h.2.1, h.2.2, .inr hy, fun _ _ => hx, fun z => (by cases z), fun z => (by cases z), fun z => (by cases z)⟩
theorem l0_ok : LnOk true l0 := ln_hours (by decide +kernel) (by decide) (by decide)
theorem l1_ok : LnOk true l1 := ln_hours (by decide +kernel) (by decide) (by decide)
theorem clock_ok : ∀ l ∈ clockR, LnOk true l := by
  intro l hl
  simp only [clockR, List.mem_cons, List.not_mem_nil, or_false] at hl
  rcases hl with rfl | rfl | rfl
  · exact l0_ok
  · exact ln_hours (by decide +kernel) (by decide) (by decide)
  · exact ln_hours (by decide +kernel) (by decide) (by decide)
theorem met00 : metLn true l0 l0 = l0 := by decide +kernel
theorem agr00 : agreeLn true l0 l0 = true := by decide +kernel
theorem trn01 : turnLn true l0 = l1 := by decide +kernel
theorem trn10 : turnLn true l1 = l0 := by decide +kernel
abbrev wholeP (n : Nat) : List En := chainP (fun i => .met i i) n
abbrev longP (n : Nat) : List En := chainP .turned n
def altL (k : Nat) : Ln := if k % 2 = 0 then l0 else l1
theorem whole_lines {R : List Ln} (h : R[0]? = some l0) (n : Nat) : linesOf true R (wholeP n) [] = some ((List.range (n + 1)).map fun _ => l0) :=
  chain_lines (L := fun _ => l0) h (fun k told hk => by
    show (told[k]?).bind (fun l => (told[k]?).bind fun o => _) = _
    rw [hk]
    show (if l0.one = l0.one ∧ l0.other = l0.other ∧ agreeLn true l0 l0 = true then some (metLn true l0 l0) else none) = _
    rw [if_pos ⟨rfl, rfl, agr00⟩, met00]) n
theorem long_lines {R : List Ln} (h : R[0]? = some l0) (n : Nat) : linesOf true R (longP n) [] = some ((List.range (n + 1)).map altL) :=
  chain_lines (L := altL) h (fun k told hk => by
    show (told[k]?).map (turnLn true) = _
    rw [hk]
    show some (turnLn true (altL k)) = some (altL (k + 1))
    unfold altL
    by_cases c : k % 2 = 0
    · rw [if_pos c, if_neg (by omega), trn01]
    · rw [if_neg c, if_pos (by omega), trn10]) n
theorem last_range {α : Type} (L : Nat → α) (n : Nat) : ((List.range (n + 1)).map L).getLast? = some (L n) := by
  rw [List.range_succ, List.map_append, List.getLast?_append]
  rfl
theorem whole_ok (n : Nat) : ∀ e ∈ wholeP n, EnOk e := by
  intro e he
  rcases List.mem_cons.mp he with r | r
  · rw [r]; trivial
  · obtain ⟨i, _, rfl⟩ := List.mem_map.mp r; trivial
theorem long_ok (n : Nat) : ∀ e ∈ longP n, EnOk e := by
  intro e he
  rcases List.mem_cons.mp he with r | r
  · rw [r]; trivial
  · obtain ⟨i, _, rfl⟩ := List.mem_map.mp r; trivial
theorem whole_facts {R : List Ln} (h : R[0]? = some l0) (n : Nat) : WfP (wholeP n) ∧ trimmedK (wholeP n) = wholeP n ∧ usedK 3 (wholeP n) = [0] := by
  have w := lines_wf (whole_lines h n)
  exact ⟨w, chain_trim w fun k => List.mem_cons_self, chain_used w (fun k => List.mem_cons_self) fun k j => by simp⟩
theorem long_facts {R : List Ln} (h : R[0]? = some l0) (n : Nat) : WfP (longP n) ∧ trimmedK (longP n) = longP n ∧ usedK 3 (longP n) = [0] := by
  have w := lines_wf (long_lines h n)
  exact ⟨w, chain_trim w fun k => List.mem_cons_self, chain_used w (fun k => List.mem_cons_self) fun k j => by simp⟩
theorem put_ne {hb : Bool} {R : List Ln} {Ps : List (List En)} {P : List En} {T : List Ln} {l : Ln} (h : linesOf hb R (putK Ps P) [] = some T) (hl : T.getLast? = some l) : putK Ps P ≠ [] := by
  intro e
  rw [e] at h
  cases h
  cases hl
/-! ## written data -/
def conV : Expr → Option V
  | .Constant (.int i) _ _ => some (.int i)
  | .Constant (.str z) _ _ => some (.str z)
  | _ => none
def conVs : List Expr → Option (List V)
  | [] => some []
  | e :: es => match conV e, conVs es with
    | some v, some vs => some (v :: vs)
    | _, _ => none
def conT : Expr → Option (List V)
  | .Tuple es _ _ => conVs es
  | _ => none
def conTs : List Expr → Option (List (List V))
  | [] => some []
  | e :: es => match conT e, conTs es with
    | some v, some vs => some (v :: vs)
    | _, _ => none
def conL : Expr → Option (List (List V))
  | .List es _ => conTs es
  | _ => none
def conLs : List Expr → Option (List (List (List V)))
  | [] => some []
  | e :: es => match conL e, conLs es with
    | some v, some vs => some (v :: vs)
    | _, _ => none
section
variable {X : Cx} {m : Md} {σ : L2.St}
theorem wa_conVs : ∀ {es : List Expr} {vs : List V}, conVs es = some vs → ∀ {H : Hp} {Q : List V → Hp → Prop}, Q vs H → WA X es σ H Q := by
  intro es
  induction es with
  | nil => intro vs h H Q q; cases h; exact w_anil q
  | cons e es ih =>
    intro vs h H Q q
    unfold conVs at h
    split at h
    · rename_i v vs' h1 h2
      cases h
      unfold conV at h1
      split at h1
      · cases h1
        exact w_acons rfl (w_int (ih h2 q))
      · cases h1
        exact w_acons rfl (w_str (ih h2 q))
      · cases h1
    · cases h
theorem w_conT {e : Expr} {t : List V} {H : Hp} {Q : VK} (h : conT e = some t) (hl : t.length ≤ 100) (q : ∀ p H2, H p = none → Same H H2 → H2 p = some (.tup t) → Q (.ref p) H2) : WE X e σ H Q := by
  unfold conT at h
  split at h
  · exact w_tup (wa_conVs h ⟨Nat.le_trans hl (Nat.le_of_ble_eq_true rfl), q⟩)
  · cases h
theorem star_conT {e : Expr} {es : List Expr} {t : List V} (h : conT e = some t) (env : Env) : starEach (e :: es) env = (false, eval e env) :: starEach es env := by
  unfold conT at h
  split at h
  · rfl
  · cases h
theorem star_conL {e : Expr} {es : List Expr} {t : List (List V)} (h : conL e = some t) (env : Env) : starEach (e :: es) env = (false, eval e env) :: starEach es env := by
  unfold conL at h
  split at h
  · rfl
  · cases h
theorem wa_conTs : ∀ {es : List Expr} {ts : List (List V)}, conTs es = some ts → (∀ t ∈ ts, t.length ≤ 100) → ∀ {H : Hp} {Q : List V → Hp → Prop}, (∀ rs H2, Same H H2 → Tups H2 rs ts → Q (rs.map V.ref) H2) → WA X es σ H Q := by
  intro es
  induction es with
  | nil => intro ts h _ H Q q; cases h; exact w_anil (q [] H (Same.refl H) .nil)
  | cons e es ih =>
    intro ts h hl H Q q
    unfold conTs at h
    split at h
    · rename_i t ts' h1 h2
      cases h
      refine w_acons (star_conT h1 _) (w_conT h1 (hl t List.mem_cons_self) fun p H2 np s2 hp => ?_)
      refine ih h2 (fun t ht => hl t (List.mem_cons_of_mem _ ht)) fun rs H3 s3 tt => ?_
      exact q (p :: rs) H3 (Same.trans s2 s3) (.cons (s3 _ _ hp) tt)
    · cases h
def small (ts : List (List V)) : Bool := ts.all (fun t => decide (t.length ≤ 100)) && decide (ts.length ≤ 100)
theorem w_conLT {es : List Expr} {pos : Pos} {ts : List (List V)} {H : Hp} {Q : VK} (h : conTs es = some ts) (hl : small ts = true) (q : ∀ p H2, H p = none → Same H H2 → LT H2 p ts → Q (.ref p) H2) : WE X (.List es pos) σ H Q := by
  unfold small at hl
  rw [Bool.and_eq_true, decide_eq_true_eq, List.all_eq_true] at hl
  refine w_lst (wa_conTs h (fun t ht => of_decide_eq_true (hl.1 t ht)) fun rs H2 s2 tt => ⟨?_, fun p H3 np s3 hp => ?_⟩)
  · rw [List.length_map, tt.len]
    exact Nat.le_trans hl.2 (Nat.le_of_ble_eq_true rfl)
  · exact q p H3 (Same.free s2 np) (Same.trans s2 s3) ⟨rs, hp, tt.same s3⟩
theorem wa_conLs : ∀ {es : List Expr} {tss : List (List (List V))}, conLs es = some tss → (∀ ts ∈ tss, small ts = true) → ∀ {H : Hp} {Q : List V → Hp → Prop}, (∀ rs H2, Same H H2 → LLs H2 rs tss → Q (rs.map V.ref) H2) → WA X es σ H Q := by
  intro es
  induction es with
  | nil => intro ts h _ H Q q; cases h; exact w_anil (q [] H (Same.refl H) .nil)
  | cons e es ih =>
    intro ts h hl H Q q
    unfold conLs at h
    split at h
    · rename_i t ts' h1 h2
      cases h
      refine w_acons (star_conL h1 _) ?_
      have sm := hl t List.mem_cons_self
      unfold conL at h1
      split at h1
      · refine w_conLT h1 sm fun p H2 np s2 hp => ?_
        refine ih h2 (fun t ht => hl t (List.mem_cons_of_mem _ ht)) fun rs H3 s3 tt => ?_
        exact q (p :: rs) H3 (Same.trans s2 s3) (.cons (hp.same s3) tt)
      · cases h1
    · cases h
theorem w_conLLT {es : List Expr} {pos : Pos} {tss : List (List (List V))} {H : Hp} {Q : VK} (h : conLs es = some tss) (hl : (tss.all small && decide (tss.length ≤ 100)) = true) (q : ∀ p H2, H p = none → Same H H2 → LLT H2 p tss → Q (.ref p) H2) : WE X (.List es pos) σ H Q := by
  rw [Bool.and_eq_true, decide_eq_true_eq, List.all_eq_true] at hl
  refine w_lst (wa_conLs h (fun t ht => hl.1 t ht) fun rs H2 s2 tt => ⟨?_, fun p H3 np s3 hp => ?_⟩)
  · rw [List.length_map, tt.len]
    exact Nat.le_trans hl.2 (Nat.le_of_ble_eq_true rfl)
  · exact q p H3 (Same.free s2 np) (Same.trans s2 s3) ⟨rs, hp, tt.same s3⟩
end
/-! # KD -/
/-! ## the fixed papers -/
def okB : En → Bool
  | .nothing a b => decide (a ∈ nm5 ∧ b ∈ nm5 ∧ a ≠ b)
  | .less _ b => decide (b ∈ [0, 1, 2, 3, 4, 6, 7])
  | _ => true
theorem okB_ok {e : En} (h : okB e = true) : EnOk e := by
  cases e with
  | nothing a b =>
    have h2 : a ∈ nm5 ∧ b ∈ nm5 ∧ a ≠ b := of_decide_eq_true h
    exact h2
  | less i b =>
    have h2 : b ∈ [0, 1, 2, 3, 4, 6, 7] := of_decide_eq_true h
    exact h2
  | _ => trivial
theorem oks {P : List En} (h : P.all okB = true) : ∀ e ∈ P, EnOk e := fun e he => okB_ok (List.all_eq_true.mp h e he)
abbrev P7 : List En := [.told 0, .told 1, .joined 0 1, .told 2, .met 2 3, .turned 4, .less 5 6]
abbrev P3 : List En := [.told 1, .told 0, .turned 1]
abbrev P2 : List En := [.told 0, .turned 0]
abbrev PN : List En := [.nothing "x" "a", .turned 0]
abbrev PA : List En := [.told 0, .turned 0, .told 0]
abbrev PJ : List En := [.told 1, .told 0, .joined 0 1]
theorem ok7 : ∀ e ∈ P7, EnOk e := oks (by decide +kernel)
theorem ok3 : ∀ e ∈ P3, EnOk e := oks (by decide +kernel)
theorem ok2 : ∀ e ∈ P2, EnOk e := oks (by decide +kernel)
theorem okN : ∀ e ∈ PN, EnOk e := oks (by decide +kernel)
theorem okA : ∀ e ∈ PA, EnOk e := oks (by decide +kernel)
theorem okJ : ∀ e ∈ PJ, EnOk e := oks (by decide +kernel)
theorem ok1 (i : Nat) : ∀ e ∈ [En.told i], EnOk e := fun e he => by rw [List.mem_singleton.mp he]; trivial
theorem ok0 : ∀ e ∈ ([] : List En), EnOk e := fun _ h => by cases h
theorem some_of {α : Type} {o : Option α} (h : o.isSome = true) : ∃ x, o = some x := Option.isSome_iff_exists.mp h
theorem lines7 : ∃ T, linesOf true clockR P7 [] = some T := some_of (by decide +kernel)
theorem last7 : ∃ T l, linesOf true clockR P7 [] = some T ∧ T.getLast? = some l := by
  have h : ((linesOf true clockR P7 []).bind List.getLast?).isSome = true := by decide +kernel
  obtain ⟨l, hl⟩ := some_of h
  obtain ⟨T, h1, h2⟩ := Option.bind_eq_some_iff.mp hl
  exact ⟨T, l, h1, h2⟩
theorem lines3 : ∃ T, linesOf true clockR P3 [] = some T := some_of (by decide +kernel)
theorem used7 : usedK 3 P7 = [0, 1, 2] := by decide +kernel
theorem trim7 : trimmedK P7 = P7 := by decide +kernel
theorem trim3 : trimmedK P3 = P2 := by decide +kernel
def PutF (Ps : List (List En)) (P : List En) (l : Ln) : Prop := ∃ (Ts : List (List Ln)) (Ls TP : List Ln), Ps.map (fun P => linesOf true clockR P []) = Ts.map some ∧ Ts.map List.getLast? = Ls.map some ∧ linesOf true Ls P [] = some TP ∧ TP.getLast? = some l
theorem putN : PutF [] PN ⟨"a", "x", 0, 1⟩ := ⟨[], [], [⟨"x", "a", 0, 1⟩, ⟨"a", "x", 0, 1⟩], rfl, rfl, by decide +kernel, rfl⟩
theorem put2 : PutF [P2] P2 l0 := ⟨[[l0, l1]], [l1], [l1, l0], by decide +kernel, rfl, by decide +kernel, rfl⟩
theorem putA : PutF [[.told 0]] PA l0 := ⟨[[l0]], [l0], [l0, l1, l0], by decide +kernel, rfl, by decide +kernel, rfl⟩
theorem putJ : PutF [[.told 1], [.told 0]] PJ ⟨"a", "c", 2, 4⟩ := ⟨[[⟨"b", "c", 3, 8⟩], [l0]], [⟨"b", "c", 3, 8⟩, l0], [l0, ⟨"b", "c", 3, 8⟩, ⟨"a", "c", 2, 4⟩], by decide +kernel, rfl, by decide +kernel, rfl⟩
theorem putWh (n : Nat) : PutF [[.told 0]] (wholeP n) l0 := ⟨[[l0]], [l0], _, by decide +kernel, rfl, whole_lines rfl n, last_range _ n⟩
theorem putLo (n : Nat) : PutF [[.told 0]] (longP n) (altL n) := ⟨[[l0]], [l0], _, by decide +kernel, rfl, long_lines rfl n, last_range _ n⟩
theorem PutF.lines {Ps : List (List En)} {P : List En} {l : Ln} (h : PutF Ps P l) : ∃ T', linesOf true clockR (putK Ps P) [] = some T' ∧ T'.getLast? = some l ∧ (putK Ps P).length ≤ (Ps.map List.length).sum + P.length := by
  obtain ⟨Ts, Ls, TP, a, b, c, d⟩ := h
  obtain ⟨T', x, y, z⟩ := putK_lines a b c
  exact ⟨T', x, y.trans d, z⟩
theorem ln2_ok : LnOk true ⟨"a", "c", 2, 4⟩ := ln_hours (by decide +kernel) (by decide) (by decide)
theorem lnx_ok : LnOk true ⟨"a", "x", 0, 1⟩ := ln_hours (by decide +kernel) (by decide) (by decide)
theorem okps {Ps : List (List En)} (h : Ps.all (fun P => P.all okB) = true) : ∀ P ∈ Ps, ∀ e ∈ P, EnOk e := fun P hP => oks (List.all_eq_true.mp h P hP)
theorem chain_V (f : Nat → En) (n : Nat) : (chainP f n).map enV = [enV (.told 0)] ++ (List.range n).map (fun k => enV (f k)) := by
  unfold chainP
  rw [List.map_cons, List.map_map]
  rfl
theorem row0 : clockR[0]? = some l0 := rfl
def D5 : PyData := .list [lD (nV [0, 1, 2]), ltD (P2.map enV), .list [], .list [], .bool true]
theorem shw_5 : Shw D5 5000 3 := by
  have h1 : Shw (lD (nV [0, 1, 2])) 900 2 := (shw_nV (n := 3) (by decide) (by decide)).mono (by decide) (by decide)
  have h2 : Shw (ltD (P2.map enV)) 900 2 := (shw_LT (n := 2) (fun t ht => by
    obtain ⟨e, he, rfl⟩ := List.mem_map.mp ht
    refine smT_en (ok2 e he) (fun j hj => ?_) (fun j hj => ?_)
    · rcases List.mem_cons.mp he with r | r
      · subst r; cases hj
      · rw [List.mem_singleton.mp r] at hj
        rw [List.mem_singleton.mp hj]; decide
    · rcases List.mem_cons.mp he with r | r
      · rw [hj] at r; cases r; decide
      · have := List.mem_singleton.mp r; rw [hj] at this; cases this) (by decide)).mono (by decide) (by decide)
  have h3 : Shw (.list []) 900 2 := (shw_list (xs := []) (W := 1) (D := 0) (n := 1) (fun _ h => by cases h) (by decide)).mono (by decide) (by decide)
  have h4 : Shw (.bool true) 900 2 := (shw_V (v := .bl true) rfl).mono (by decide) (by decide)
  refine (shw_list (n := 5) (W := 900) (D := 2) (fun x hx => ?_) (by decide)).mono (by decide) (by decide)
  simp only [List.mem_cons, List.not_mem_nil, or_false] at hx
  rcases hx with rfl | rfl | rfl | rfl | rfl
  · exact h1
  · exact h2
  · exact h3
  · exact h3
  · exact h4
theorem dp_5 {K : PySem.W.Frag} {H : Hp} {t a b c d : Addr} (ht : H t = some (.lst [.ref a, .ref b, .ref c, .ref d, .bl true])) (h1 : H a = some (.lst (nV [0, 1, 2]))) (h2 : LT H b (P2.map enV)) (h3 : H c = some (.lst [])) (h4 : H d = some (.lst [])) : Dp K H (.ref t) D5 :=
  .lst (SqL.of ht) (.cons (dpL h1 (okV_nV _)) (.cons (dpLT h2 (papV_ok ok2)) (.cons (dp_nil h3) (.cons (dp_nil h4) (.cons (.bl true) .nil)))))
theorem LT.nil_at {H : Hp} {p : Addr} (h : LT H p []) : H p = some (.lst []) := by
  obtain ⟨rs, a, b⟩ := h
  cases b
  exact a
structure LawP (P : List En) (n : Nat) : Prop where
  ok : ∀ e ∈ P, EnOk e
  len : P.length = n
  tell : ∃ T, linesOf true clockR P [] = some T
  trm : trimmedK P = P
  usd : usedK 3 P = [0]
  put : PutF [[.told 0]] P l0
theorem whole_P : LawP (wholeP 40) 41 := ⟨whole_ok 40, chain_len _ _, ⟨_, whole_lines row0 40⟩, (whole_facts row0 40).2.1, (whole_facts row0 40).2.2, putWh 40⟩
theorem alt1200 : altL 1200 = l0 := if_pos (by decide)
theorem long_P : LawP (longP 1200) 1201 := ⟨long_ok 1200, chain_len _ _, ⟨_, long_lines row0 1200⟩, (long_facts row0 1200).2.1, (long_facts row0 1200).2.2, by have := putLo 1200; rwa [alt1200] at this⟩
theorem LLT.one {H : Hp} {p q : Addr} {ts : List (List V)} (h : H p = some (.lst [.ref q])) (hq : LT H q ts) : LLT H p [ts] := ⟨[q], h, .cons hq .nil⟩
/-! # D1 -/
local macro_rules | `(tactic| k_memK) => `(tactic| first | assumption | exact Same.refl _ | (apply Same.get; assumption; k_memK) | (apply Off.get; assumption; k_memK) | (refine' Same.trans ?_ ?_; rotate_left; assumption; k_memK))
local macro_rules | `(tactic| k_intsEnd) => `(tactic| repeat (first
  | ((with_reducible show WE _ _ _ _ _); (first
    | (apply w_name; (with_reducible assumption); rfl)
    | refine w_int ?_
    | refine w_str ?_
    | refine w_bl ?_
    | refine w_non ?_
    | refine w_op ?_
    | (refine w_cmp ?_ ?_; rfl)
    | (apply w_call; assumption; (with_reducible assumption); decide; (with_reducible assumption); decide; rfl; rfl)
    | (apply w_callB; assumption; (with_reducible assumption); (with_reducible assumption); rfl; rfl)
    | (apply w_callTy; assumption; (with_reducible assumption); (with_reducible assumption); rfl; rfl)
    | (apply w_nmTy; assumption; (with_reducible assumption); (with_reducible assumption))
    | (apply w_const; assumption; (with_reducible assumption); (with_reducible assumption))
    | (apply w_app; assumption; rfl; rfl; rfl; rfl; rfl)
    | (apply w_idx; assumption; rfl; rfl; rfl; rfl; rfl)
    | (apply w_pop; assumption; rfl; rfl; rfl; rfl; rfl)
    | (apply w_rstrip; assumption; rfl; rfl; rfl; rfl; rfl)
    | (apply w_strip; assumption; rfl; rfl; rfl; rfl; rfl)
    | (refine w_chain ?_ ?_; rfl)
    | (refine w_dnew ?_; intro _ _)
    | refine w_slice ?_
    | (refine w_sub ?_ ?_; exact fun _ _ => rfl)
    | refine w_ifx ?_
    | refine w_not ?_
    | refine w_neg ?_
    | refine w_one ?_
    | refine w_and ?_
    | refine w_or ?_
    | (refine w_bits ?_ ?_ ?_; rfl; rfl)
    | refine w_tup ?_
    | refine w_lst ?_))
  | ((with_reducible show WA _ _ _ _ _); (first
    | refine w_anil ?_
    | (refine w_acons ?_ ?_; rfl)))
  | ((with_reducible show WO _ _ _ _ _ _); (first
    | with_reducible refine o_add ?_
    | with_reducible refine o_sub ?_
    | with_reducible refine o_xorN ?_
    | with_reducible refine o_xor ?_
    | with_reducible refine o_eqI ?_
    | with_reducible refine o_eqS ?_
    | with_reducible refine o_neI ?_
    | with_reducible refine o_neS ?_
    | with_reducible refine o_lt ?_
    | with_reducible refine o_le ?_
    | with_reducible refine o_gt ?_
    | with_reducible refine o_ge ?_
    | with_reducible refine o_isN ?_
    | with_reducible refine o_notN ?_
    | with_reducible refine o_orN ?_
    | with_reducible refine o_or ?_
    | with_reducible refine o_and ?_
    | ((with_reducible apply in_L); assumption; k_memK; rfl; rfl)
    | (refine o_shr ?_ ?_; omega)
    | ((with_reducible apply o_kNotIn); assumption; (with_reducible assumption); assumption)
    | ((with_reducible apply cat_T); assumption; k_memK; k_memK; exact Nat.le_of_ble_eq_true rfl; intro _ _ _ _)))
  | ((with_reducible show WC _ _ _ _ _); (first
    | with_reducible refine c_int ?_
    | ((with_reducible apply c_max); assumption)
    | ((with_reducible apply isi_ii); assumption)
    | ((with_reducible apply isi_ib); assumption)
    | ((with_reducible apply isi_ss); assumption)
    | ((with_reducible apply isi_tt); assumption; k_memK)
    | ((with_reducible apply isi_ll); assumption; k_memK)
    | ((with_reducible apply len_L); assumption; k_memK)
    | ((with_reducible apply len_T); assumption; k_memK)))
  | ((with_reducible show WT _ _ _ _ _); (first
    | (refine wt_chain ?_ ?_; rfl)
    | (refine wt_cmp ?_ ?_; rfl)
    | refine wt_not ?_
    | refine wt_bool ?_
    | (refine wt_val ?_ ?_; exact fun _ => rfl)))
  | ((with_reducible show WS _ _ _ _ _); (first
    | refine ws_ret ?_
    | refine ws_if ?_
    | (refine ws_expr ?_ ?_; rfl)
    | (apply ws_set; (with_reducible assumption); rfl)
    | (apply ws_par2; assumption; (with_reducible assumption); (with_reducible assumption); decide; decide +kernel; decide +kernel; rfl; rfl)
    | (apply ws_par3; assumption; (with_reducible assumption); (with_reducible assumption); (with_reducible assumption); decide; decide; decide; decide +kernel; decide +kernel; decide +kernel; rfl; rfl)
    | (apply ws_tupA; assumption; rfl; rfl; rfl)))
  | ((with_reducible show WB _ _ _ _ _); (first
    | refine ws_last ?_
    | refine ws_cons ?_
    | refine ws_nil ?_))
  | ((with_reducible show WI _ _ _ _ _); (first
    | ((with_reducible apply i_T); assumption; k_memK; (first | (with_reducible exact atI_nat (by assumption)) | (with_reducible exact atI_0) | rfl))
    | ((with_reducible apply i_L); assumption; k_memK; (first | (with_reducible exact atI_nat (by assumption)) | (with_reducible exact atI_0) | rfl))
    | ((with_reducible apply i_kdict); assumption; (with_reducible assumption))))
  | ((with_reducible show WG _ _ _ _ _ _); (first
    | (apply wg_name; (with_reducible assumption))
    | (apply wg_T; assumption; rfl; k_memK; rfl)))
  | ((with_reducible show WGs _ _ _ _ _ _); (first
    | (refine wgs_cons ?_ ?_; rfl)
    | refine wgs_nil ?_))
  | ((with_reducible show WW _ _ _ _ _); (first
    | refine ww_and1 ?_
    | refine ww_or1 ?_
    | refine ww_and ?_
    | refine ww_or ?_))
  | ((with_reducible show WL _ _ _ _ _ _); (first
    | ((with_reducible apply sl_T); assumption; k_memK; intro _ _ _ _)))
  | ((with_reducible show WP _ _ _ _ _); (first
    | refine wp_no ?_
    | refine wp_yes ?_))
  | with_reducible refine Exists.intro _ (And.intro rfl ?_)
  | with_reducible refine Exists.intro _ (Exists.intro _ (And.intro rfl ?_))
  | with_reducible refine Exists.intro _ (Exists.intro _ (Exists.intro _ (And.intro rfl ?_)))
  | with_reducible refine iteT ?_
  | with_reducible refine iteF ?_
  | with_reducible refine iteBT ?_
  | with_reducible refine iteBF ?_
  | ((with_reducible refine iteP ?_ ?_); (first | (with_reducible assumption) | decide +kernel | omega))
  | ((with_reducible refine iteN ?_ ?_); (first | (with_reducible assumption) | decide +kernel | omega))
  | ((with_reducible refine iteNP ?_ ?_); (first | (with_reducible assumption) | decide +kernel | omega))
  | ((with_reducible refine iteNN ?_ ?_); (first | (with_reducible assumption) | decide +kernel | omega))
  | ((with_reducible refine iteIn ?_ ?_); decide +kernel)
  | ((with_reducible refine iteNIn ?_ ?_); decide +kernel)
  | ((fail_if_success (with_reducible show (@ite _ _ _ _ _))); (first
    | (refine andI ?_ ?_; exact Nat.le_of_ble_eq_true rfl; intro _ _ _ _ _)
    | (with_reducible assumption)))))
local macro_rules | `(tactic| k_allIn) => `(tactic| repeat (first
  | ((with_reducible show WE _ _ _ _ _); (first
    | (apply w_name; (with_reducible assumption); rfl)
    | refine w_int ?_
    | refine w_str ?_
    | refine w_bl ?_
    | refine w_non ?_
    | refine w_op ?_
    | (refine w_cmp ?_ ?_; rfl)
    | (apply w_call; assumption; (with_reducible assumption); decide; (with_reducible assumption); decide; rfl; rfl)
    | (apply w_callB; assumption; (with_reducible assumption); (with_reducible assumption); rfl; rfl)
    | (apply w_callTy; assumption; (with_reducible assumption); (with_reducible assumption); rfl; rfl)
    | (apply w_nmTy; assumption; (with_reducible assumption); (with_reducible assumption))
    | (apply w_const; assumption; (with_reducible assumption); (with_reducible assumption))
    | (apply w_app; assumption; rfl; rfl; rfl; rfl; rfl)
    | (apply w_idx; assumption; rfl; rfl; rfl; rfl; rfl)
    | (apply w_pop; assumption; rfl; rfl; rfl; rfl; rfl)
    | (apply w_rstrip; assumption; rfl; rfl; rfl; rfl; rfl)
    | (apply w_strip; assumption; rfl; rfl; rfl; rfl; rfl)
    | (refine w_chain ?_ ?_; rfl)
    | (refine w_dnew ?_; intro _ _)
    | refine w_slice ?_
    | (refine w_sub ?_ ?_; exact fun _ _ => rfl)
    | refine w_ifx ?_
    | refine w_not ?_
    | refine w_neg ?_
    | refine w_one ?_
    | refine w_and ?_
    | refine w_or ?_
    | (refine w_bits ?_ ?_ ?_; rfl; rfl)
    | refine w_tup ?_))
  | ((with_reducible show WA _ _ _ _ _); (first
    | refine w_anil ?_
    | (refine w_acons ?_ ?_; rfl)))
  | ((with_reducible show WO _ _ _ _ _ _); (first
    | with_reducible refine o_add ?_
    | with_reducible refine o_sub ?_
    | with_reducible refine o_xorN ?_
    | with_reducible refine o_xor ?_
    | with_reducible refine o_eqI ?_
    | with_reducible refine o_eqS ?_
    | with_reducible refine o_neI ?_
    | with_reducible refine o_neS ?_
    | with_reducible refine o_lt ?_
    | with_reducible refine o_le ?_
    | with_reducible refine o_gt ?_
    | with_reducible refine o_ge ?_
    | with_reducible refine o_isN ?_
    | with_reducible refine o_notN ?_
    | with_reducible refine o_orN ?_
    | with_reducible refine o_or ?_
    | with_reducible refine o_and ?_
    | ((with_reducible apply in_L); assumption; k_memK; rfl; rfl)
    | (refine o_shr ?_ ?_; omega)
    | ((with_reducible apply o_kNotIn); assumption; (with_reducible assumption); assumption)
    | ((with_reducible apply cat_T); assumption; k_memK; k_memK; exact Nat.le_of_ble_eq_true rfl; intro _ _ _ _)))
  | ((with_reducible show WC _ _ _ _ _); (first
    | with_reducible refine c_int ?_
    | ((with_reducible apply c_max); assumption)
    | ((with_reducible apply isi_ii); assumption)
    | ((with_reducible apply isi_ib); assumption)
    | ((with_reducible apply isi_ss); assumption)
    | ((with_reducible apply isi_tt); assumption; k_memK)
    | ((with_reducible apply isi_ll); assumption; k_memK)
    | ((with_reducible apply len_L); assumption; k_memK)
    | ((with_reducible apply len_T); assumption; k_memK)))
  | ((with_reducible show WT _ _ _ _ _); (first
    | (refine wt_chain ?_ ?_; rfl)
    | (refine wt_cmp ?_ ?_; rfl)
    | refine wt_not ?_
    | refine wt_bool ?_
    | (refine wt_val ?_ ?_; exact fun _ => rfl)))
  | ((with_reducible show WS _ _ _ _ _); (first
    | refine ws_ret ?_
    | refine ws_if ?_
    | (refine ws_expr ?_ ?_; rfl)
    | (apply ws_set; (with_reducible assumption); rfl)
    | (apply ws_par2; assumption; (with_reducible assumption); (with_reducible assumption); decide; decide +kernel; decide +kernel; rfl; rfl)
    | (apply ws_par3; assumption; (with_reducible assumption); (with_reducible assumption); (with_reducible assumption); decide; decide; decide; decide +kernel; decide +kernel; decide +kernel; rfl; rfl)
    | (apply ws_tupA; assumption; rfl; rfl; rfl)))
  | ((with_reducible show WB _ _ _ _ _); (first
    | refine ws_last ?_
    | refine ws_cons ?_
    | refine ws_nil ?_))
  | ((with_reducible show WI _ _ _ _ _); (first
    | ((with_reducible apply i_T); assumption; k_memK; (first | (with_reducible exact atI_nat (by assumption)) | (with_reducible exact atI_0) | rfl))
    | ((with_reducible apply i_L); assumption; k_memK; (first | (with_reducible exact atI_nat (by assumption)) | (with_reducible exact atI_0) | rfl))
    | ((with_reducible apply i_kdict); assumption; (with_reducible assumption))))
  | ((with_reducible show WG _ _ _ _ _ _); (first
    | (apply wg_name; (with_reducible assumption))
    | (apply wg_T; assumption; rfl; k_memK; rfl)))
  | ((with_reducible show WGs _ _ _ _ _ _); (first
    | (refine wgs_cons ?_ ?_; rfl)
    | refine wgs_nil ?_))
  | ((with_reducible show WW _ _ _ _ _); (first
    | refine ww_and1 ?_
    | refine ww_or1 ?_
    | refine ww_and ?_
    | refine ww_or ?_))
  | ((with_reducible show WL _ _ _ _ _ _); (first
    | ((with_reducible apply sl_T); assumption; k_memK; intro _ _ _ _)))
  | ((with_reducible show WP _ _ _ _ _); (first
    | refine wp_no ?_
    | refine wp_yes ?_))
  | with_reducible refine Exists.intro _ (And.intro rfl ?_)
  | with_reducible refine Exists.intro _ (Exists.intro _ (And.intro rfl ?_))
  | with_reducible refine Exists.intro _ (Exists.intro _ (Exists.intro _ (And.intro rfl ?_)))
  | with_reducible refine iteT ?_
  | with_reducible refine iteF ?_
  | with_reducible refine iteBT ?_
  | with_reducible refine iteBF ?_
  | ((with_reducible refine iteP ?_ ?_); (first | (with_reducible assumption) | decide +kernel | omega))
  | ((with_reducible refine iteN ?_ ?_); (first | (with_reducible assumption) | decide +kernel | omega))
  | ((with_reducible refine iteNP ?_ ?_); (first | (with_reducible assumption) | decide +kernel | omega))
  | ((with_reducible refine iteNN ?_ ?_); (first | (with_reducible assumption) | decide +kernel | omega))
  | ((with_reducible refine iteIn ?_ ?_); decide +kernel)
  | ((with_reducible refine iteNIn ?_ ?_); decide +kernel)
  | ((fail_if_success (with_reducible show (@ite _ _ _ _ _))); (first
    | (refine andI ?_ ?_; exact Nat.le_of_ble_eq_true rfl; intro _ _ _ _ _)
    | (with_reducible assumption)))))
abbrev s_is_whole : Stmt := top 9
theorem sc_is_whole : FnScope ["value"] ["value"] (defScope s_is_whole) := sc_by (by decide +kernel)
abbrev sp_is_whole : SpG := fun vs H Q => ∃ i, vs = [.int i] ∧ Q (.bl true) H
theorem d_is_whole {m : Md} (hs : ∃ f fd, Has m "is_whole" s_is_whole ["value"] f fd) (B : Bis m) : Def m "is_whole" ["value"] 1 sp_is_whole := by
  refine def_of hs sc_is_whole (fun vs H Q h => ?_) fun X C fn vs H Q h => ?_
  · obtain ⟨i, rfl, q⟩ := h
    rfl
  obtain ⟨i, rfl, q⟩ := h
  have n_value : Nm X "value" 0 := C.nm rfl (by decide +kernel)
  have g_isinstance : Gl X "isinstance" := C.gl (by decide +kernel)
  have b_isinstance := B.isinstance
  have g_int : Gl X "int" := C.gl (by decide +kernel)
  have b_int := B.int
  have g_bool : Gl X "bool" := C.gl (by decide +kernel)
  have b_bool := B.bool

  k_intsEnd
  exact q
abbrev s_is_count : Stmt := top 10
theorem sc_is_count : FnScope ["value"] ["value"] (defScope s_is_count) := sc_by (by decide +kernel)
abbrev sp_is_count : SpG := fun vs H Q => ∃ i, vs = [.int i] ∧ Q (.bl (decide (0 ≤ i))) H
theorem d_is_count {m : Md} (hs : ∃ f fd, Has m "is_count" s_is_count ["value"] f fd) (B : Bis m) (D_is_whole : Def m "is_whole" ["value"] 1 sp_is_whole) : Def m "is_count" ["value"] 2 sp_is_count := by
  refine def_of hs sc_is_count (fun vs H Q h => ?_) fun X C fn vs H Q h => ?_
  · obtain ⟨i, rfl, q⟩ := h
    rfl
  obtain ⟨i, rfl, q⟩ := h
  have n_value : Nm X "value" 0 := C.nm rfl (by decide +kernel)
  have g_is_whole : Gl X "is_whole" := C.gl (by decide +kernel)

  k_intsEnd
abbrev s_is_kind : Stmt := top 11
theorem sc_is_kind : FnScope ["value"] ["value"] (defScope s_is_kind) := sc_by (by decide +kernel)
abbrev sp_is_kind : SpG := fun vs H Q => ∃ hb, vs = [.str (ks hb)] ∧ ∀ H2, Same H H2 → Q (.bl true) H2
theorem d_is_kind {m : Md} (hs : ∃ f fd, Has m "is_kind" s_is_kind ["value"] f fd) (B : Bis m) : Def m "is_kind" ["value"] 1 sp_is_kind := by
  refine def_of hs sc_is_kind (fun vs H Q h => ?_) fun X C fn vs H Q h => ?_
  · obtain ⟨hb, rfl, q⟩ := h
    rfl
  obtain ⟨hb, rfl, q⟩ := h
  have n_value : Nm X "value" 0 := C.nm rfl (by decide +kernel)
  have g_isinstance : Gl X "isinstance" := C.gl (by decide +kernel)
  have b_isinstance := B.isinstance
  have g_str : Gl X "str" := C.gl (by decide +kernel)
  have b_str := B.str

  cases hb <;> k_intsEnd <;> exact q _ (by assumption)
abbrev s_is_number_of : Stmt := top 12
theorem sc_is_number_of : FnScope ["kind", "value"] ["kind", "value"] (defScope s_is_number_of) := sc_by (by decide +kernel)
abbrev sp_is_number_of : SpG := fun vs H Q => ∃ hb i, vs = [.str (ks hb), .int i] ∧ (hb = false → 0 ≤ i) ∧ Q (.bl true) H
theorem d_is_number_of {m : Md} (hs : ∃ f fd, Has m "is_number_of" s_is_number_of ["kind", "value"] f fd) (B : Bis m) (D_is_whole : Def m "is_whole" ["value"] 1 sp_is_whole) (D_is_count : Def m "is_count" ["value"] 2 sp_is_count) : Def m "is_number_of" ["kind", "value"] 3 sp_is_number_of := by
  refine def_of hs sc_is_number_of (fun vs H Q h => ?_) fun X C fn vs H Q h => ?_
  · obtain ⟨hb, i, rfl, hi, q⟩ := h
    rfl
  obtain ⟨hb, i, rfl, hi, q⟩ := h
  have n_kind : Nm X "kind" 0 := C.nm rfl (by decide +kernel)
  have n_value : Nm X "value" 1 := C.nm rfl (by decide +kernel)
  have g_is_whole : Gl X "is_whole" := C.gl (by decide +kernel)
  have g_is_count : Gl X "is_count" := C.gl (by decide +kernel)

  cases hb <;> k_intsEnd
  rw [decide_eq_true (hi rfl)]
  exact q
abbrev s_add_in : Stmt := top 18
theorem sc_add_in : FnScope ["kind", "one", "other"] ["kind", "one", "other"] (defScope s_add_in) := sc_by (by decide +kernel)
abbrev sp_add_in : SpG := fun vs H Q => ∃ hb i j, vs = [.str (ks hb), .int i, .int j] ∧ (hb = false → 0 ≤ i ∧ 0 ≤ j) ∧ Q (.int (addK hb i j)) H
theorem d_add_in {m : Md} (hs : ∃ f fd, Has m "add_in" s_add_in ["kind", "one", "other"] f fd) (B : Bis m) : Def m "add_in" ["kind", "one", "other"] 1 sp_add_in := by
  refine def_of hs sc_add_in (fun vs H Q h => ?_) fun X C fn vs H Q h => ?_
  · obtain ⟨hb, i, j, rfl, hd, q⟩ := h
    rfl
  obtain ⟨hb, i, j, rfl, hd, q⟩ := h
  have n_kind : Nm X "kind" 0 := C.nm rfl (by decide +kernel)
  have n_one : Nm X "one" 1 := C.nm rfl (by decide +kernel)
  have n_other : Nm X "other" 2 := C.nm rfl (by decide +kernel)

  cases hb <;> k_intsEnd
  · rw [xor_nn (hd rfl).1 (hd rfl).2]
    exact q
  · exact q
abbrev s_less_in : Stmt := top 19
theorem sc_less_in : FnScope ["kind", "one", "other"] ["kind", "one", "other"] (defScope s_less_in) := sc_by (by decide +kernel)
abbrev sp_less_in : SpG := fun vs H Q => ∃ hb i j, vs = [.str (ks hb), .int i, .int j] ∧ (hb = false → 0 ≤ i ∧ 0 ≤ j) ∧ Q (.int (subK hb i j)) H
theorem d_less_in {m : Md} (hs : ∃ f fd, Has m "less_in" s_less_in ["kind", "one", "other"] f fd) (B : Bis m) : Def m "less_in" ["kind", "one", "other"] 1 sp_less_in := by
  refine def_of hs sc_less_in (fun vs H Q h => ?_) fun X C fn vs H Q h => ?_
  · obtain ⟨hb, i, j, rfl, hd, q⟩ := h
    rfl
  obtain ⟨hb, i, j, rfl, hd, q⟩ := h
  have n_kind : Nm X "kind" 0 := C.nm rfl (by decide +kernel)
  have n_one : Nm X "one" 1 := C.nm rfl (by decide +kernel)
  have n_other : Nm X "other" 2 := C.nm rfl (by decide +kernel)

  cases hb <;> k_intsEnd
  · rw [xor_nn (hd rfl).1 (hd rfl).2]
    exact q
  · exact q
abbrev s_turned_in : Stmt := top 20
theorem sc_turned_in : FnScope ["kind", "number"] ["kind", "number"] (defScope s_turned_in) := sc_by (by decide +kernel)
abbrev sp_turned_in : SpG := fun vs H Q => ∃ hb i, vs = [.str (ks hb), .int i] ∧ Q (.int (negK hb i)) H
theorem d_turned_in {m : Md} (hs : ∃ f fd, Has m "turned_in" s_turned_in ["kind", "number"] f fd) (B : Bis m) : Def m "turned_in" ["kind", "number"] 1 sp_turned_in := by
  refine def_of hs sc_turned_in (fun vs H Q h => ?_) fun X C fn vs H Q h => ?_
  · obtain ⟨hb, i, rfl, q⟩ := h
    rfl
  obtain ⟨hb, i, rfl, q⟩ := h
  have n_kind : Nm X "kind" 0 := C.nm rfl (by decide +kernel)
  have n_number : Nm X "number" 1 := C.nm rfl (by decide +kernel)

  cases hb <;> k_intsEnd <;> exact q
abbrev s_times_in : Stmt := top 21
theorem sc_times_in : FnScope ["kind", "one", "other", "found", "place"] ["kind", "one", "other"] (defScope s_times_in) := sc_by (by decide +kernel)
abbrev sp_times_in : SpG := fun vs H Q => ∃ hb i j, vs = [.str (ks hb), .int i, .int j] ∧ (hb = true → CMul i j) ∧ (hb = false → 0 ≤ i ∧ i < 2 ^ 64 ∧ 0 ≤ j ∧ j < 2 ^ 64) ∧ Q (.int (timesK hb i j)) H
theorem d_times_in {m : Md} (hs : ∃ f fd, Has m "times_in" s_times_in ["kind", "one", "other"] f fd) (B : Bis m) : Def m "times_in" ["kind", "one", "other"] 1 sp_times_in := by
  refine def_of hs sc_times_in (fun vs H Q h => ?_) fun X C fn vs H Q h => ?_
  · obtain ⟨hb, i, j, rfl, hd, hd2, q⟩ := h
    rfl
  obtain ⟨hb, i, j, rfl, hd, hd2, q⟩ := h
  have n_kind : Nm X "kind" 0 := C.nm rfl (by decide +kernel)
  have n_one : Nm X "one" 1 := C.nm rfl (by decide +kernel)
  have n_other : Nm X "other" 2 := C.nm rfl (by decide +kernel)
  have n_found : Nm X "found" 3 := C.nm rfl (by decide +kernel)
  have t_found : Tg X "found" 3 := C.tg fn rfl (by decide +kernel)
  have n_place : Nm X "place" 4 := C.nm rfl (by decide +kernel)
  have t_place : Tg X "place" 4 := C.tg fn rfl (by decide +kernel)
  have g_range : Gl X "range" := C.gl (by decide +kernel)
  have b_range := B.range

  cases hb
  · obtain ⟨a1, a2, a3, a4⟩ := hd2 rfl
    obtain ⟨a, rfl⟩ := Int.eq_ofNat_of_zero_le a1
    obtain ⟨b, rfl⟩ := Int.eq_ofNat_of_zero_le a3
    have lb : blen b ≤ 64 := blen_le (by omega)
    k_intsEnd
    refine ws_forR C g_range b_range.free ?_ (fun _ => rfl) ?_
    · rfl
    k_intsEnd
    refine ⟨by omega, by rw [intBits_nat]; omega, fun n σ H1 => H1 = H ∧ ∃ p, σ = [some (.str (ks false)), some (.int a), some (.int b), some (.int (timesF a b n : Nat)), p], ⟨rfl, _, rfl⟩, ?_, ?_⟩
    · rintro n σ H1 hn ⟨rfl, p, rfl⟩
      rw [intBits_nat, Int.toNat_natCast] at hn
      k_intsEnd
      rw [bit_at]
      by_cases hbit : b / 2 ^ n % 2 = 1
      · refine iteP (by omega) ?_
        k_intsEnd
        refine o_shlN (by omega) (by omega) ?_
        k_intsEnd
        exact ⟨rfl, _, by rw [timesF_yes hbit]; rfl⟩
      · refine iteN (by omega) ?_
        k_intsEnd
        exact ⟨rfl, _, by rw [timesF_no hbit]; rfl⟩
    · rintro σ H1 ⟨rfl, p, rfl⟩
      rw [intBits_nat, Int.toNat_natCast]
      k_intsEnd
      exact q
  · k_intsEnd
    exact o_mul (hd rfl) q
abbrev s_divided_in : Stmt := top 22
theorem sc_divided_in : FnScope ["kind", "number", "by", "often", "rest", "place"] ["kind", "number", "by"] (defScope s_divided_in) := sc_by (by decide +kernel)
abbrev sp_divided_in : SpG := fun vs H Q => ∃ hb i j, vs = [.str (ks hb), .int i, .int j] ∧ 0 < j ∧ (hb = true → j < 2 ^ 30) ∧ (hb = false → 0 ≤ i ∧ i < 2 ^ 64 ∧ j < 2 ^ 64) ∧ ∀ p H2, Same H H2 → H2 p = some (.tup [.int (quoK hb i j), .int (remK hb i j)]) → Q (.ref p) H2
theorem d_divided_in {m : Md} (hs : ∃ f fd, Has m "divided_in" s_divided_in ["kind", "number", "by"] f fd) (B : Bis m) : Def m "divided_in" ["kind", "number", "by"] 1 sp_divided_in := by
  refine def_of hs sc_divided_in (fun vs H Q h => ?_) fun X C fn vs H Q h => ?_
  · obtain ⟨hb, i, j, rfl, j0, hd, hd2, q⟩ := h
    rfl
  obtain ⟨hb, i, j, rfl, j0, hd, hd2, q⟩ := h
  have n_kind : Nm X "kind" 0 := C.nm rfl (by decide +kernel)
  have n_number : Nm X "number" 1 := C.nm rfl (by decide +kernel)
  have n_by : Nm X "by" 2 := C.nm rfl (by decide +kernel)
  have n_often : Nm X "often" 3 := C.nm rfl (by decide +kernel)
  have t_often : Tg X "often" 3 := C.tg fn rfl (by decide +kernel)
  have n_rest : Nm X "rest" 4 := C.nm rfl (by decide +kernel)
  have t_rest : Tg X "rest" 4 := C.tg fn rfl (by decide +kernel)
  have n_place : Nm X "place" 5 := C.nm rfl (by decide +kernel)
  have t_place : Tg X "place" 5 := C.tg fn rfl (by decide +kernel)

  cases hb
  · obtain ⟨a1, a2, a4⟩ := hd2 rfl
    obtain ⟨a, rfl⟩ := Int.eq_ofNat_of_zero_le a1
    obtain ⟨b, rfl⟩ := Int.eq_ofNat_of_zero_le (Int.le_of_lt j0)
    have lb : blen b ≤ 64 := blen_le (by omega)
    have b0 : b ≠ 0 := by omega
    k_intsEnd
    refine ws_while C.own (fun n σ H1 => H1 = H ∧ ∃ (o r : Nat) (p : Option V), n = blen r ∧ r < 2 ^ 64 ∧ σ = [some (.str (ks false)), some (.int a), some (.int b), some (.int o), some (.int r), p] ∧ quoF b (blen r) o r = quoN a b ∧ restN r b = restN a b) (blen a) ⟨rfl, 0, a, none, rfl, by omega, rfl, rfl, rfl⟩ ?_
    rintro n σ H1 ⟨rfl, o, r, p, rfl, hr, rfl, e1, e2⟩
    have lr : blen r ≤ 64 := blen_le hr
    k_intsEnd
    rw [intBits_nat, intBits_nat]
    by_cases c : blen b ≤ blen r
    · refine iteP (by omega) ?_
      have l := step_lt b0 c
      k_intsEnd
      rw [intBits_nat, intBits_nat, show ((blen r : Nat) : Int) - ((blen b : Nat) : Int) = ((blen r - blen b : Nat) : Int) by omega]
      k_intsEnd
      refine o_shl1 (by omega) ?_
      k_intsEnd
      refine o_shlN (by omega) (by omega) ?_
      k_intsEnd
      refine ⟨_, l, rfl, o ||| 1 <<< (blen r - blen b), r ^^^ b <<< (blen r - blen b), _, rfl, ?_, rfl, ?_, ?_⟩
      · exact Nat.lt_of_lt_of_le (blen_mono (Nat.le_refl _)) (Nat.pow_le_pow_right (by decide) (by omega))
      · rw [← e1]
        obtain ⟨k, hk⟩ : ∃ k, blen r = k + 1 := ⟨blen r - 1, by omega⟩
        rw [hk] at l ⊢
        show _ = if blen b ≤ blen r then _ else _
        rw [if_pos c, hk]
        exact quoF_more b0 _ _ _ _ (Nat.le_refl _) (by omega)
      · rw [← e2]
        exact (restN_step b0 c).symm
    · refine iteN (by omega) ?_
      k_intsEnd
      have e3 : quoN a b = o := by
        rw [← e1]
        cases e : blen r with
        | zero => rfl
        | succ k => exact if_neg c
      have e4 : restN a b = r := by rw [← e2]; exact restN_stop c
      refine q _ _ (by k_memK) ?_
      show _ = some (HO.tup [V.int ((quoN a b : Nat) : Int), V.int ((restN a b : Nat) : Int)])
      rw [e3, e4]
      assumption
  · k_intsEnd
    refine o_fdiv ⟨j0, hd rfl⟩ ?_
    k_intsEnd
    refine o_mod j0 ?_
    k_intsEnd
    exact q _ _ (by assumption) (by assumption)
/-! # D2 -/
abbrev s_rest_in : Stmt := top 23
theorem sc_rest_in : FnScope ["kind", "number", "by"] ["kind", "number", "by"] (defScope s_rest_in) := sc_by (by decide +kernel)
abbrev sp_rest_in : SpG := fun vs H Q => ∃ hb i j, vs = [.str (ks hb), .int i, .int j] ∧ 0 ≤ j ∧ j < lim hb ∧ (hb = false → 0 ≤ i ∧ i < 2 ^ 64) ∧ ∀ H2, Same H H2 → Q (.int (restK hb i j)) H2
theorem d_rest_in {m : Md} (hs : ∃ f fd, Has m "rest_in" s_rest_in ["kind", "number", "by"] f fd) (B : Bis m) (D_divided_in : Def m "divided_in" ["kind", "number", "by"] 1 sp_divided_in) : Def m "rest_in" ["kind", "number", "by"] 2 sp_rest_in := by
  refine def_of hs sc_rest_in (fun vs H Q h => ?_) fun X C fn vs H Q h => ?_
  · obtain ⟨hb, i, j, rfl, j0, hd, hd2, q⟩ := h
    rfl
  obtain ⟨hb, i, j, rfl, j0, hd, hd2, q⟩ := h
  have n_kind : Nm X "kind" 0 := C.nm rfl (by decide +kernel)
  have n_number : Nm X "number" 1 := C.nm rfl (by decide +kernel)
  have n_by : Nm X "by" 2 := C.nm rfl (by decide +kernel)
  have g_divided_in : Gl X "divided_in" := C.gl (by decide +kernel)

  k_intsEnd
  by_cases c : j = 0
  · refine iteP c ?_
    k_intsEnd
    have e : restK hb i j = i := if_pos c
    rw [e] at q
    exact q _ (by k_memK)
  · refine iteN c ?_
    k_intsEnd
    refine ⟨by omega, fun e => by subst e; exact hd, fun e => by subst e; exact ⟨(hd2 rfl).1, (hd2 rfl).2, hd⟩, fun p H2 s1 h1 => ?_⟩
    k_intsEnd
    rw [restK_pos c] at q
    exact q _ (by k_memK)
abbrev s_over_in : Stmt := top 24
theorem sc_over_in : FnScope ["kind", "number", "by"] ["kind", "number", "by"] (defScope s_over_in) := sc_by (by decide +kernel)
abbrev sp_over_in : SpG := fun vs H Q => ∃ hb i j, vs = [.str (ks hb), .int i, .int j] ∧ 0 < j ∧ j < lim hb ∧ (hb = false → 0 ≤ i ∧ i < 2 ^ 64) ∧ ∀ H2, Same H H2 → Q (.int (quoK hb i j)) H2
theorem d_over_in {m : Md} (hs : ∃ f fd, Has m "over_in" s_over_in ["kind", "number", "by"] f fd) (B : Bis m) (D_divided_in : Def m "divided_in" ["kind", "number", "by"] 1 sp_divided_in) : Def m "over_in" ["kind", "number", "by"] 2 sp_over_in := by
  refine def_of hs sc_over_in (fun vs H Q h => ?_) fun X C fn vs H Q h => ?_
  · obtain ⟨hb, i, j, rfl, j0, hd, hd2, q⟩ := h
    rfl
  obtain ⟨hb, i, j, rfl, j0, hd, hd2, q⟩ := h
  have n_kind : Nm X "kind" 0 := C.nm rfl (by decide +kernel)
  have n_number : Nm X "number" 1 := C.nm rfl (by decide +kernel)
  have n_by : Nm X "by" 2 := C.nm rfl (by decide +kernel)
  have g_divided_in : Gl X "divided_in" := C.gl (by decide +kernel)

  k_intsEnd
  refine ⟨j0, fun e => by subst e; exact hd, fun e => by subst e; exact ⟨(hd2 rfl).1, (hd2 rfl).2, hd⟩, fun p H2 s1 h1 => ?_⟩
  k_intsEnd
  exact q _ (by k_memK)
abbrev s_is_multiple_in : Stmt := top 25
theorem sc_is_multiple_in : FnScope ["kind", "number", "by"] ["kind", "number", "by"] (defScope s_is_multiple_in) := sc_by (by decide +kernel)
abbrev sp_is_multiple_in : SpG := fun vs H Q => ∃ hb i j, vs = [.str (ks hb), .int i, .int j] ∧ 0 ≤ j ∧ j < lim hb ∧ (hb = false → 0 ≤ i ∧ i < 2 ^ 64) ∧ ∀ H2, Same H H2 → Q (.bl (decide (restK hb i j = 0))) H2
theorem d_is_multiple_in {m : Md} (hs : ∃ f fd, Has m "is_multiple_in" s_is_multiple_in ["kind", "number", "by"] f fd) (B : Bis m) (D_rest_in : Def m "rest_in" ["kind", "number", "by"] 2 sp_rest_in) : Def m "is_multiple_in" ["kind", "number", "by"] 3 sp_is_multiple_in := by
  refine def_of hs sc_is_multiple_in (fun vs H Q h => ?_) fun X C fn vs H Q h => ?_
  · obtain ⟨hb, i, j, rfl, j0, hd, hd2, q⟩ := h
    rfl
  obtain ⟨hb, i, j, rfl, j0, hd, hd2, q⟩ := h
  have n_kind : Nm X "kind" 0 := C.nm rfl (by decide +kernel)
  have n_number : Nm X "number" 1 := C.nm rfl (by decide +kernel)
  have n_by : Nm X "by" 2 := C.nm rfl (by decide +kernel)
  have g_rest_in : Gl X "rest_in" := C.gl (by decide +kernel)

  k_intsEnd
  refine ⟨j0, hd, hd2, fun H2 s1 => ?_⟩
  k_intsEnd
  exact q _ (by k_memK)
abbrev s_divisor_in : Stmt := top 26
theorem sc_divisor_in : FnScope ["kind", "one", "other"] ["kind", "one", "other"] (defScope s_divisor_in) := sc_by (by decide +kernel)
abbrev sp_divisor_in : SpG := fun vs H Q => ∃ hb i j, vs = [.str (ks hb), .int i, .int j] ∧ 0 ≤ i ∧ i < lim hb ∧ 0 ≤ j ∧ j < lim hb ∧ ∀ H2, Same H H2 → Q (.int (gcdK hb i j)) H2
theorem d_divisor_in {m : Md} (hs : ∃ f fd, Has m "divisor_in" s_divisor_in ["kind", "one", "other"] f fd) (B : Bis m) (D_rest_in : Def m "rest_in" ["kind", "number", "by"] 2 sp_rest_in) : Def m "divisor_in" ["kind", "one", "other"] 3 sp_divisor_in := by
  refine def_of hs sc_divisor_in (fun vs H Q h => ?_) fun X C fn vs H Q h => ?_
  · obtain ⟨hb, i, j, rfl, i0, i1, j0, j1, q⟩ := h
    rfl
  obtain ⟨hb, i, j, rfl, i0, i1, j0, j1, q⟩ := h
  have n_kind : Nm X "kind" 0 := C.nm rfl (by decide +kernel)
  have n_one : Nm X "one" 1 := C.nm rfl (by decide +kernel)
  have t_one : Tg X "one" 1 := C.tg fn rfl (by decide +kernel)
  have n_other : Nm X "other" 2 := C.nm rfl (by decide +kernel)
  have t_other : Tg X "other" 2 := C.tg fn rfl (by decide +kernel)
  have g_rest_in : Gl X "rest_in" := C.gl (by decide +kernel)

  k_intsEnd
  refine ws_while C.own (fun n σ H1 => Same H H1 ∧ ∃ x y : Int, n = y.toNat ∧ 0 ≤ x ∧ x < lim hb ∧ 0 ≤ y ∧ y < lim hb ∧ σ = [some (.str (ks hb)), some (.int x), some (.int y)] ∧ gcdK hb x y = gcdK hb i j) j.toNat ⟨Same.refl H, i, j, rfl, i0, i1, j0, j1, rfl, rfl⟩ ?_
  rintro n σ H1 ⟨s1, x, y, rfl, x0, x1, y0, y1, rfl, e⟩
  k_intsEnd
  by_cases c : y = 0
  · refine iteNN c ?_
    k_intsEnd
    subst c
    rw [gcdK_zero] at e
    rw [e]
    exact q _ (by k_memK)
  · refine iteNP c ?_
    k_intsEnd
    have l64 := lim_le hb
    refine ⟨y0, y1, fun _ => ⟨x0, by omega⟩, fun H2 s2 => ?_⟩
    k_intsEnd
    have r := remK_lt (hb := hb) (a := x) (b := y) (by omega) (fun _ => x0)
    rw [restK_pos c]
    refine ⟨_, ?_, Same.trans s1 s2, y, remK hb x y, rfl, y0, y1, r.1, by omega, rfl, ?_⟩
    · omega
    · rw [← e, gcdK_step (a := x) (b := y) (by omega) (fun _ => x0), restK_pos c]
abbrev s_multiple_in : Stmt := top 27
theorem sc_multiple_in : FnScope ["kind", "one", "other"] ["kind", "one", "other"] (defScope s_multiple_in) := sc_by (by decide +kernel)
abbrev sp_multiple_in : SpG := fun vs H Q => ∃ hb i j, vs = [.str (ks hb), .int i, .int j] ∧ 0 ≤ i ∧ i < lim hb ∧ 0 ≤ j ∧ j < lim hb ∧ ∀ H2, Same H H2 → Q (.int (multK hb i j)) H2
theorem d_multiple_in {m : Md} (hs : ∃ f fd, Has m "multiple_in" s_multiple_in ["kind", "one", "other"] f fd) (B : Bis m) (D_times_in : Def m "times_in" ["kind", "one", "other"] 1 sp_times_in) (D_over_in : Def m "over_in" ["kind", "number", "by"] 2 sp_over_in) (D_divisor_in : Def m "divisor_in" ["kind", "one", "other"] 3 sp_divisor_in) : Def m "multiple_in" ["kind", "one", "other"] 4 sp_multiple_in := by
  refine def_of hs sc_multiple_in (fun vs H Q h => ?_) fun X C fn vs H Q h => ?_
  · obtain ⟨hb, i, j, rfl, i0, i1, j0, j1, q⟩ := h
    rfl
  obtain ⟨hb, i, j, rfl, i0, i1, j0, j1, q⟩ := h
  have n_kind : Nm X "kind" 0 := C.nm rfl (by decide +kernel)
  have n_one : Nm X "one" 1 := C.nm rfl (by decide +kernel)
  have n_other : Nm X "other" 2 := C.nm rfl (by decide +kernel)
  have g_times_in : Gl X "times_in" := C.gl (by decide +kernel)
  have g_over_in : Gl X "over_in" := C.gl (by decide +kernel)
  have g_divisor_in : Gl X "divisor_in" := C.gl (by decide +kernel)

  have l64 := lim_le hb
  k_intsEnd
  by_cases c : i = 0
  · refine iteP c ?_
    k_intsEnd
    have e : multK hb i j = 0 := if_pos (.inl c)
    rw [e] at q
    exact q _ (by k_memK)
  refine iteN c ?_
  k_intsEnd
  by_cases c2 : j = 0
  · refine iteP c2 ?_
    k_intsEnd
    have e : multK hb i j = 0 := if_pos (.inr c2)
    rw [e] at q
    exact q _ (by k_memK)
  refine iteN c2 ?_
  have e : multK hb i j = timesK hb (quoK hb i (gcdK hb i j)) j := if_neg (fun z => z.elim c c2)
  rw [e] at q
  have g := gcdK_bd (hb := hb) i0 j0 i1 j1
  have gp := gcdK_pos (hb := hb) i0 j0 (.inl (by omega))
  have qb := quoK_bd (hb := hb) i0 i1 gp
  k_intsEnd
  refine ⟨i0, i1, j0, j1, fun H2 s1 => ?_⟩
  k_intsEnd
  refine ⟨gp, g.2, fun _ => ⟨i0, by omega⟩, fun H3 s2 => ?_⟩
  k_intsEnd
  refine ⟨fun _ => .inl ⟨by omega, by omega⟩, fun _ => ⟨qb.1, by omega, j0, by omega⟩, ?_⟩
  exact q _ (by k_memK)
abbrev s_bezout_in : Stmt := top 28
theorem sc_bezout_in : FnScope ["kind", "one", "other", "left", "right", "here", "there", "often", "rest"] ["kind", "one", "other"] (defScope s_bezout_in) := sc_by (by decide +kernel)
abbrev sp_bezout_in : SpG := fun vs H Q => ∃ hb i j, vs = [.str (ks hb), .int i, .int j] ∧ 0 ≤ i ∧ i < lim hb ∧ 0 ≤ j ∧ j < lim hb ∧ (hb = false → bezOk (j.toNat + 1) i j 1 0 = true) ∧ ∀ H2, Same H H2 → Q (.int (bezK hb i j)) H2
theorem d_bezout_in {m : Md} (hs : ∃ f fd, Has m "bezout_in" s_bezout_in ["kind", "one", "other"] f fd) (B : Bis m) (D_divided_in : Def m "divided_in" ["kind", "number", "by"] 1 sp_divided_in) (D_less_in : Def m "less_in" ["kind", "one", "other"] 1 sp_less_in) (D_times_in : Def m "times_in" ["kind", "one", "other"] 1 sp_times_in) : Def m "bezout_in" ["kind", "one", "other"] 2 sp_bezout_in := by
  refine def_of hs sc_bezout_in (fun vs H Q h => ?_) fun X C fn vs H Q h => ?_
  · obtain ⟨hb, i, j, rfl, i0, i1, j0, j1, ok, q⟩ := h
    rfl
  obtain ⟨hb, i, j, rfl, i0, i1, j0, j1, ok, q⟩ := h
  have n_kind : Nm X "kind" 0 := C.nm rfl (by decide +kernel)
  have n_one : Nm X "one" 1 := C.nm rfl (by decide +kernel)
  have n_other : Nm X "other" 2 := C.nm rfl (by decide +kernel)
  have n_left : Nm X "left" 3 := C.nm rfl (by decide +kernel)
  have t_left : Tg X "left" 3 := C.tg fn rfl (by decide +kernel)
  have n_right : Nm X "right" 4 := C.nm rfl (by decide +kernel)
  have t_right : Tg X "right" 4 := C.tg fn rfl (by decide +kernel)
  have n_here : Nm X "here" 5 := C.nm rfl (by decide +kernel)
  have t_here : Tg X "here" 5 := C.tg fn rfl (by decide +kernel)
  have n_there : Nm X "there" 6 := C.nm rfl (by decide +kernel)
  have t_there : Tg X "there" 6 := C.tg fn rfl (by decide +kernel)
  have n_often : Nm X "often" 7 := C.nm rfl (by decide +kernel)
  have t_often : Tg X "often" 7 := C.tg fn rfl (by decide +kernel)
  have n_rest : Nm X "rest" 8 := C.nm rfl (by decide +kernel)
  have t_rest : Tg X "rest" 8 := C.tg fn rfl (by decide +kernel)
  have g_divided_in : Gl X "divided_in" := C.gl (by decide +kernel)
  have g_less_in : Gl X "less_in" := C.gl (by decide +kernel)
  have g_times_in : Gl X "times_in" := C.gl (by decide +kernel)

  have l64 := lim_le hb
  k_intsEnd
  refine ws_while C.own (fun n σ H1 => Same H H1 ∧ ∃ (x y h t : Int) (o r : Option V), n = y.toNat ∧ 0 ≤ x ∧ x < lim hb ∧ 0 ≤ y ∧ y < lim hb ∧ σ = [some (.str (ks hb)), some (.int i), some (.int j), some (.int x), some (.int y), some (.int h), some (.int t), o, r] ∧ bezL hb (y.toNat + 1) x y h t = bezK hb i j ∧ (hb = false → bezOk (y.toNat + 1) x y h t = true)) j.toNat ⟨by assumption, i, j, 1, 0, none, none, rfl, i0, i1, j0, j1, rfl, rfl, ok⟩ ?_
  rintro n σ H1 ⟨s1, x, y, h, t, o, r, rfl, x0, x1, y0, y1, rfl, e, ok2⟩
  k_intsEnd
  by_cases c : y = 0
  · refine iteNN c ?_
    k_intsEnd
    subst c
    have e2 : h = bezK hb i j := e
    rw [e2]
    exact q _ (by k_memK)
  · refine iteNP c ?_
    have qb := quoK_bd (hb := hb) (a := x) (b := y) x0 x1 (by omega)
    k_intsEnd
    refine ⟨by omega, fun e => by subst e; exact y1, fun e => by subst e; exact ⟨x0, x1, y1⟩, fun p H2 s2 h2 => ?_⟩
    k_intsEnd
    have k2 := fun z : hb = false => bezOk_step c (by subst z; exact ok2 rfl)
    refine ⟨fun _ => .inl ⟨by omega, by omega⟩, fun z => ⟨qb.1, by omega, (k2 z).1.2.2.1, (k2 z).1.2.2.2⟩, ?_⟩
    k_intsEnd
    refine ⟨fun z => ⟨(k2 z).1.1, by subst z; exact timesK_nn⟩, ?_⟩
    k_intsEnd
    have r := remK_lt (hb := hb) (a := x) (b := y) (by omega) (fun _ => x0)
    refine ⟨(remK hb x y).toNat, by omega, by k_memK, y, remK hb x y, _, _, _, _, rfl, y0, y1, r.1, by omega, rfl, ?_, fun z => ?_⟩
    · rw [← e]
      exact (bez_step (by omega) (fun _ => x0)).symm
    · subst z
      have k3 := bezOk_step c (ok2 rfl)
      obtain ⟨f, hf⟩ : ∃ f, y.toNat = f + 1 := ⟨y.toNat - 1, by omega⟩
      exact bezOk_more _ _ _ _ _ _ k3.2 (by omega) r.1
/-! # D3 -/
abbrev s_met_in : Stmt := top 29
theorem sc_met_in : FnScope ["kind", "one", "by", "other", "more", "both", "apart", "together", "steps", "found"] ["kind", "one", "by", "other", "more"] (defScope s_met_in) := sc_by (by decide +kernel)
abbrev sp_met_in : SpG := fun vs H Q => ∃ hb a b c d, vs = [.str (ks hb), .int a, .int b, .int c, .int d] ∧ MetOk hb a b c d ∧ restK hb (subK hb c a) (gcdK hb b d) = 0 ∧ ∀ p H2, Same H H2 → H2 p = some (.tup [.int (metK hb a b c d).1, .int (metK hb a b c d).2]) → Q (.ref p) H2
theorem d_met_in {m : Md} (hs : ∃ f fd, Has m "met_in" s_met_in ["kind", "one", "by", "other", "more"] f fd) (B : Bis m) (D_divisor_in : Def m "divisor_in" ["kind", "one", "other"] 3 sp_divisor_in) (D_less_in : Def m "less_in" ["kind", "one", "other"] 1 sp_less_in) (D_multiple_in : Def m "multiple_in" ["kind", "one", "other"] 4 sp_multiple_in) (D_times_in : Def m "times_in" ["kind", "one", "other"] 1 sp_times_in) (D_add_in : Def m "add_in" ["kind", "one", "other"] 1 sp_add_in) (D_is_multiple_in : Def m "is_multiple_in" ["kind", "number", "by"] 3 sp_is_multiple_in) (D_over_in : Def m "over_in" ["kind", "number", "by"] 2 sp_over_in) (D_bezout_in : Def m "bezout_in" ["kind", "one", "other"] 2 sp_bezout_in) (D_rest_in : Def m "rest_in" ["kind", "number", "by"] 2 sp_rest_in) : Def m "met_in" ["kind", "one", "by", "other", "more"] 5 sp_met_in := by
  refine def_of hs sc_met_in (fun vs H Q h => ?_) fun X C fn vs H Q h => ?_
  · obtain ⟨hb, a, b, c, d, rfl, ok, ag, q⟩ := h
    rfl
  obtain ⟨hb, a, b, c, d, rfl, ok, ag, q⟩ := h
  have n_kind : Nm X "kind" 0 := C.nm rfl (by decide +kernel)
  have n_one : Nm X "one" 1 := C.nm rfl (by decide +kernel)
  have n_by : Nm X "by" 2 := C.nm rfl (by decide +kernel)
  have n_other : Nm X "other" 3 := C.nm rfl (by decide +kernel)
  have n_more : Nm X "more" 4 := C.nm rfl (by decide +kernel)
  have n_both : Nm X "both" 5 := C.nm rfl (by decide +kernel)
  have t_both : Tg X "both" 5 := C.tg fn rfl (by decide +kernel)
  have n_apart : Nm X "apart" 6 := C.nm rfl (by decide +kernel)
  have t_apart : Tg X "apart" 6 := C.tg fn rfl (by decide +kernel)
  have n_together : Nm X "together" 7 := C.nm rfl (by decide +kernel)
  have t_together : Tg X "together" 7 := C.tg fn rfl (by decide +kernel)
  have n_steps : Nm X "steps" 8 := C.nm rfl (by decide +kernel)
  have t_steps : Tg X "steps" 8 := C.tg fn rfl (by decide +kernel)
  have n_found : Nm X "found" 9 := C.nm rfl (by decide +kernel)
  have t_found : Tg X "found" 9 := C.tg fn rfl (by decide +kernel)
  have g_divisor_in : Gl X "divisor_in" := C.gl (by decide +kernel)
  have g_less_in : Gl X "less_in" := C.gl (by decide +kernel)
  have g_is_multiple_in : Gl X "is_multiple_in" := C.gl (by decide +kernel)
  have g_multiple_in : Gl X "multiple_in" := C.gl (by decide +kernel)
  have g_times_in : Gl X "times_in" := C.gl (by decide +kernel)
  have g_over_in : Gl X "over_in" := C.gl (by decide +kernel)
  have g_bezout_in : Gl X "bezout_in" := C.gl (by decide +kernel)
  have g_add_in : Gl X "add_in" := C.gl (by decide +kernel)
  have g_rest_in : Gl X "rest_in" := C.gl (by decide +kernel)

  have l64 := lim_le hb
  have g := gcdK_bd (hb := hb) ok.b0 ok.d0 ok.b1 ok.d1
  have ap : hb = false → 0 ≤ subK hb c a ∧ subK hb c a < 2 ^ 64 := fun e => by subst e; exact xorI_bd (k := 64) (ok.nn rfl).2.2.2 (ok.nn rfl).2.1
  k_intsEnd
  refine ⟨ok.b0, ok.b1, ok.d0, ok.d1, fun H2 s1 => ?_⟩
  k_intsEnd
  refine ⟨fun e => ⟨(ok.nn e).2.2.1, (ok.nn e).1⟩, ?_⟩
  k_intsEnd
  refine ⟨g.1, g.2, ap, fun H3 s2 => ?_⟩
  rw [decide_eq_true ag]
  k_intsEnd
  refine ⟨ok.b0, ok.b1, ok.d0, ok.d1, fun H4 s3 => ?_⟩
  k_intsEnd
  by_cases c1 : b = 0
  · refine iteP c1 ?_
    have e : metK hb a b c d = (a, 0) := by unfold metK; rw [if_pos (.inl c1), if_pos c1]
    rw [e] at q
    k_intsEnd
    exact q _ _ (by k_memK) (by assumption)
  refine iteN c1 ?_
  k_intsEnd
  by_cases c2 : d = 0
  · refine iteP c2 ?_
    have e : metK hb a b c d = (c, 0) := by unfold metK; rw [if_pos (.inr c2), if_neg c1]
    rw [e] at q
    k_intsEnd
    exact q _ _ (by k_memK) (by assumption)
  refine iteN c2 ?_
  have e : metK hb a b c d = (restK hb (foundK hb a b c d) (multK hb b d), multK hb b d) := if_neg (fun z => z.elim c1 c2)
  rw [e] at q
  have gp := gcdK_pos (hb := hb) ok.b0 ok.d0 (.inl (by have := ok.b0; omega))
  have qn : hb = false → 0 ≤ quoK hb (subK hb c a) (gcdK hb b d) ∧ quoK hb (subK hb c a) (gcdK hb b d) < 2 ^ 64 := fun z => by subst z; exact quoK_bd (ap rfl).1 (ap rfl).2 gp
  k_intsEnd
  refine ⟨gp, g.2, ap, fun H5 s4 => ?_⟩
  k_intsEnd
  refine ⟨ok.b0, ok.b1, ok.d0, ok.d1, ok.bz, fun H6 s5 => ?_⟩
  k_intsEnd
  refine ⟨fun z => .inl (ok.qh z c1 c2), fun z => ⟨(qn z).1, (qn z).2, ok.qb z c1 c2⟩, ?_⟩
  have b64 : b < 2 ^ 64 := by have := ok.b1; omega
  cases hb
  · k_intsEnd
    refine ⟨fun z => (by cases z), fun _ => ⟨timesK_nn, (ok.sb rfl c1 c2).1, ok.b0, b64⟩, ?_⟩
    k_intsEnd
    refine ⟨fun z => ⟨(ok.nn rfl).1, timesK_nn⟩, ?_⟩
    k_intsEnd
    refine ⟨ok.m0, ok.m1, fun _ => ⟨addK_nn, (ok.sb rfl c1 c2).2⟩, fun H7 s6 => ?_⟩
    k_intsEnd
    exact q _ _ (by k_memK) (by assumption)
  · k_intsEnd
    refine ⟨fun _ => .inl ⟨by have := ok.b0; omega, b64⟩, fun z => (by cases z), ?_⟩
    k_intsEnd
    refine ⟨fun z => (by cases z), ?_⟩
    k_intsEnd
    refine ⟨ok.m0, ok.m1, fun z => (by cases z), fun H7 s6 => ?_⟩
    k_intsEnd
    exact q _ _ (by k_memK) (by assumption)
abbrev s_agrees_in : Stmt := top 32
theorem sc_agrees_in : FnScope ["kind", "line", "other", "apart"] ["kind", "line", "other"] (defScope s_agrees_in) := sc_by (by decide +kernel)
abbrev sp_agrees_in : SpG := fun vs H Q => ∃ hb p l r o, vs = [.str (ks hb), .ref p, .ref r] ∧ H p = some (.tup (lnV l)) ∧ H r = some (.tup (lnV o)) ∧ LnB hb l ∧ LnB hb o ∧ ∀ H2, Same H H2 → Q (.bl (agreeLn hb l o)) H2
theorem d_agrees_in {m : Md} (hs : ∃ f fd, Has m "agrees_in" s_agrees_in ["kind", "line", "other"] f fd) (B : Bis m) (D_less_in : Def m "less_in" ["kind", "one", "other"] 1 sp_less_in) (D_is_multiple_in : Def m "is_multiple_in" ["kind", "number", "by"] 3 sp_is_multiple_in) (D_divisor_in : Def m "divisor_in" ["kind", "one", "other"] 3 sp_divisor_in) : Def m "agrees_in" ["kind", "line", "other"] 4 sp_agrees_in := by
  refine def_of hs sc_agrees_in (fun vs H Q h => ?_) fun X C fn vs H Q h => ?_
  · obtain ⟨hb, p, l, r, o, rfl, hp, hr, lb, ob, q⟩ := h
    rfl
  obtain ⟨hb, p, l, r, o, rfl, hp, hr, lb, ob, q⟩ := h
  have n_kind : Nm X "kind" 0 := C.nm rfl (by decide +kernel)
  have n_line : Nm X "line" 1 := C.nm rfl (by decide +kernel)
  have n_other : Nm X "other" 2 := C.nm rfl (by decide +kernel)
  have n_apart : Nm X "apart" 3 := C.nm rfl (by decide +kernel)
  have t_apart : Tg X "apart" 3 := C.tg fn rfl (by decide +kernel)
  have g_less_in : Gl X "less_in" := C.gl (by decide +kernel)
  have g_is_multiple_in : Gl X "is_multiple_in" := C.gl (by decide +kernel)
  have g_divisor_in : Gl X "divisor_in" := C.gl (by decide +kernel)

  have g := gcdK_bd (hb := hb) lb.b0 ob.b0 lb.b1 ob.b1
  k_intsEnd
  refine ⟨fun z => ⟨(lb.nn z).1, (ob.nn z).1⟩, ?_⟩
  k_intsEnd
  refine ⟨lb.b0, lb.b1, ob.b0, ob.b1, fun H2 s1 => ?_⟩
  k_intsEnd
  refine ⟨g.1, g.2, fun z => by subst z; exact xorI_bd (k := 64) (lb.nn rfl).2 (ob.nn rfl).2, fun H3 s2 => ?_⟩
  exact q _ (by k_memK)
abbrev s_turned_line : Stmt := top 33
theorem sc_turned_line : FnScope ["kind", "line", "one", "other", "ahead", "by"] ["kind", "line"] (defScope s_turned_line) := sc_by (by decide +kernel)
abbrev sp_turned_line : SpG := fun vs H Q => ∃ hb p l, vs = [.str (ks hb), .ref p] ∧ H p = some (.tup (lnV l)) ∧ LnB hb l ∧ ∀ t H2, Same H H2 → H2 t = some (.tup (lnV (turnLn hb l))) → Q (.ref t) H2
theorem d_turned_line {m : Md} (hs : ∃ f fd, Has m "turned_line" s_turned_line ["kind", "line"] f fd) (B : Bis m) (D_rest_in : Def m "rest_in" ["kind", "number", "by"] 2 sp_rest_in) (D_turned_in : Def m "turned_in" ["kind", "number"] 1 sp_turned_in) : Def m "turned_line" ["kind", "line"] 3 sp_turned_line := by
  refine def_of hs sc_turned_line (fun vs H Q h => ?_) fun X C fn vs H Q h => ?_
  · obtain ⟨hb, p, l, rfl, hp, lb, q⟩ := h
    rfl
  obtain ⟨hb, p, l, rfl, hp, lb, q⟩ := h
  have n_kind : Nm X "kind" 0 := C.nm rfl (by decide +kernel)
  have n_line : Nm X "line" 1 := C.nm rfl (by decide +kernel)
  have n_one : Nm X "one" 2 := C.nm rfl (by decide +kernel)
  have t_one : Tg X "one" 2 := C.tg fn rfl (by decide +kernel)
  have n_other : Nm X "other" 3 := C.nm rfl (by decide +kernel)
  have t_other : Tg X "other" 3 := C.tg fn rfl (by decide +kernel)
  have n_ahead : Nm X "ahead" 4 := C.nm rfl (by decide +kernel)
  have t_ahead : Tg X "ahead" 4 := C.tg fn rfl (by decide +kernel)
  have n_by : Nm X "by" 5 := C.nm rfl (by decide +kernel)
  have t_by : Tg X "by" 5 := C.tg fn rfl (by decide +kernel)
  have g_rest_in : Gl X "rest_in" := C.gl (by decide +kernel)
  have g_turned_in : Gl X "turned_in" := C.gl (by decide +kernel)

  k_intsEnd
  refine ⟨lb.b0, lb.b1, fun z => by subst z; exact lb.nn rfl, fun H2 s1 => ?_⟩
  k_intsEnd
  exact q _ _ (by k_memK) (by assumption)
abbrev s_joined_line : Stmt := top 34
theorem sc_joined_line : FnScope ["kind", "line", "other", "by"] ["kind", "line", "other"] (defScope s_joined_line) := sc_by (by decide +kernel)
abbrev sp_joined_line : SpG := fun vs H Q => ∃ hb p l r o, vs = [.str (ks hb), .ref p, .ref r] ∧ H p = some (.tup (lnV l)) ∧ H r = some (.tup (lnV o)) ∧ LnB hb l ∧ LnB hb o ∧ ∀ t H2, Same H H2 → H2 t = some (.tup (lnV (joinLn hb l o))) → Q (.ref t) H2
theorem d_joined_line {m : Md} (hs : ∃ f fd, Has m "joined_line" s_joined_line ["kind", "line", "other"] f fd) (B : Bis m) (D_divisor_in : Def m "divisor_in" ["kind", "one", "other"] 3 sp_divisor_in) (D_rest_in : Def m "rest_in" ["kind", "number", "by"] 2 sp_rest_in) (D_add_in : Def m "add_in" ["kind", "one", "other"] 1 sp_add_in) : Def m "joined_line" ["kind", "line", "other"] 4 sp_joined_line := by
  refine def_of hs sc_joined_line (fun vs H Q h => ?_) fun X C fn vs H Q h => ?_
  · obtain ⟨hb, p, l, r, o, rfl, hp, hr, lb, ob, q⟩ := h
    rfl
  obtain ⟨hb, p, l, r, o, rfl, hp, hr, lb, ob, q⟩ := h
  have n_kind : Nm X "kind" 0 := C.nm rfl (by decide +kernel)
  have n_line : Nm X "line" 1 := C.nm rfl (by decide +kernel)
  have n_other : Nm X "other" 2 := C.nm rfl (by decide +kernel)
  have n_by : Nm X "by" 3 := C.nm rfl (by decide +kernel)
  have t_by : Tg X "by" 3 := C.tg fn rfl (by decide +kernel)
  have g_divisor_in : Gl X "divisor_in" := C.gl (by decide +kernel)
  have g_rest_in : Gl X "rest_in" := C.gl (by decide +kernel)
  have g_add_in : Gl X "add_in" := C.gl (by decide +kernel)

  have g := gcdK_bd (hb := hb) lb.b0 ob.b0 lb.b1 ob.b1
  k_intsEnd
  refine ⟨lb.b0, lb.b1, ob.b0, ob.b1, fun H2 s1 => ?_⟩
  k_intsEnd
  refine ⟨fun z => ⟨(lb.nn z).1, (ob.nn z).1⟩, ?_⟩
  k_intsEnd
  refine ⟨g.1, g.2, fun z => by subst z; exact xorI_bd (k := 64) (lb.nn rfl).2 (ob.nn rfl).2, fun H3 s2 => ?_⟩
  k_intsEnd
  exact q _ _ (by k_memK) (by assumption)
abbrev s_met_line : Stmt := top 35
theorem sc_met_line : FnScope ["kind", "line", "other", "ahead", "by"] ["kind", "line", "other"] (defScope s_met_line) := sc_by (by decide +kernel)
abbrev sp_met_line : SpG := fun vs H Q => ∃ hb p l r o, vs = [.str (ks hb), .ref p, .ref r] ∧ H p = some (.tup (lnV l)) ∧ H r = some (.tup (lnV o)) ∧ MetOk hb l.ahead l.by_ o.ahead o.by_ ∧ restK hb (subK hb o.ahead l.ahead) (gcdK hb l.by_ o.by_) = 0 ∧ ∀ t H2, Same H H2 → H2 t = some (.tup (lnV (metLn hb l o))) → Q (.ref t) H2
theorem d_met_line {m : Md} (hs : ∃ f fd, Has m "met_line" s_met_line ["kind", "line", "other"] f fd) (B : Bis m) (D_met_in : Def m "met_in" ["kind", "one", "by", "other", "more"] 5 sp_met_in) : Def m "met_line" ["kind", "line", "other"] 6 sp_met_line := by
  refine def_of hs sc_met_line (fun vs H Q h => ?_) fun X C fn vs H Q h => ?_
  · obtain ⟨hb, p, l, r, o, rfl, hp, hr, ok, ag, q⟩ := h
    rfl
  obtain ⟨hb, p, l, r, o, rfl, hp, hr, ok, ag, q⟩ := h
  have n_kind : Nm X "kind" 0 := C.nm rfl (by decide +kernel)
  have n_line : Nm X "line" 1 := C.nm rfl (by decide +kernel)
  have n_other : Nm X "other" 2 := C.nm rfl (by decide +kernel)
  have n_ahead : Nm X "ahead" 3 := C.nm rfl (by decide +kernel)
  have t_ahead : Tg X "ahead" 3 := C.tg fn rfl (by decide +kernel)
  have n_by : Nm X "by" 4 := C.nm rfl (by decide +kernel)
  have t_by : Tg X "by" 4 := C.tg fn rfl (by decide +kernel)
  have g_met_in : Gl X "met_in" := C.gl (by decide +kernel)

  k_intsEnd
  refine ⟨hb, _, _, _, _, rfl, ok, ag, fun t H2 s1 h1 => ?_⟩
  k_intsEnd
  exact q _ _ (by k_memK) (by assumption)
abbrev s_less_line : Stmt := top 36
theorem sc_less_line : FnScope ["kind", "line", "by"] ["kind", "line", "by"] (defScope s_less_line) := sc_by (by decide +kernel)
abbrev sp_less_line : SpG := fun vs H Q => ∃ hb p l b, vs = [.str (ks hb), .ref p, .int b] ∧ H p = some (.tup (lnV l)) ∧ LnB hb l ∧ 0 ≤ b ∧ b < lim hb ∧ ∀ t H2, Same H H2 → H2 t = some (.tup (lnV (lessLn hb l b))) → Q (.ref t) H2
theorem d_less_line {m : Md} (hs : ∃ f fd, Has m "less_line" s_less_line ["kind", "line", "by"] f fd) (B : Bis m) (D_rest_in : Def m "rest_in" ["kind", "number", "by"] 2 sp_rest_in) : Def m "less_line" ["kind", "line", "by"] 3 sp_less_line := by
  refine def_of hs sc_less_line (fun vs H Q h => ?_) fun X C fn vs H Q h => ?_
  · obtain ⟨hb, p, l, b, rfl, hp, lb, b0, b1, q⟩ := h
    rfl
  obtain ⟨hb, p, l, b, rfl, hp, lb, b0, b1, q⟩ := h
  have n_kind : Nm X "kind" 0 := C.nm rfl (by decide +kernel)
  have n_line : Nm X "line" 1 := C.nm rfl (by decide +kernel)
  have n_by : Nm X "by" 2 := C.nm rfl (by decide +kernel)
  have g_rest_in : Gl X "rest_in" := C.gl (by decide +kernel)

  k_intsEnd
  refine ⟨b0, b1, lb.nn, fun H2 s1 => ?_⟩
  k_intsEnd
  exact q _ _ (by k_memK) (by assumption)
/-! # D4 -/
abbrev s_name_fits : Stmt := top 13
theorem sc_name_fits : FnScope ["value", "head", "tail"] ["value"] (defScope s_name_fits) := sc_by (by decide +kernel)
abbrev sp_name_fits : SpG := fun vs H Q => ∃ z, vs = [.str z] ∧ z ∈ nm5 ∧ ∀ H2, Same H H2 → Q (.bl true) H2
theorem d_name_fits {m : Md} (hs : ∃ f fd, Has m "name_fits" s_name_fits ["value"] f fd) (B : Bis m) (S : Cs m) : Def m "name_fits" ["value"] 1 sp_name_fits := by
  refine def_of hs sc_name_fits (fun vs H Q h => ?_) fun X C fn vs H Q h => ?_
  · obtain ⟨z, rfl, hz, q⟩ := h
    rfl
  obtain ⟨z, rfl, hz, q⟩ := h
  have n_value : Nm X "value" 0 := C.nm rfl (by decide +kernel)
  have n_head : Nm X "head" 1 := C.nm rfl (by decide +kernel)
  have t_head : Tg X "head" 1 := C.tg fn rfl (by decide +kernel)
  have n_tail : Nm X "tail" 2 := C.nm rfl (by decide +kernel)
  have t_tail : Tg X "tail" 2 := C.tg fn rfl (by decide +kernel)
  have g_isinstance : Gl X "isinstance" := C.gl (by decide +kernel)
  have b_isinstance := B.isinstance
  have g_str : Gl X "str" := C.gl (by decide +kernel)
  have b_str := B.str
  have g_FIGURES : Gl X "FIGURES" := C.gl (by decide +kernel)
  have c_FIGURES := S.FIGURES
  have g_len : Gl X "len" := C.gl (by decide +kernel)
  have b_len := B.len
  have g_MOST_LETTERS : Gl X "MOST_LETTERS" := C.gl (by decide +kernel)
  have c_MOST_LETTERS := S.MOST_LETTERS
  have g_LETTERS : Gl X "LETTERS" := C.gl (by decide +kernel)
  have c_LETTERS := S.LETTERS
  have g_MOST_FIGURES : Gl X "MOST_FIGURES" := C.gl (by decide +kernel)
  have c_MOST_FIGURES := S.MOST_FIGURES

  have ok := nm5_ok hz
  have hl : z.length ≤ sizeLine := by rw [ok.l]; exact Nat.le_of_ble_eq_true rfl
  k_intsEnd
  refine ⟨hl, ?_⟩
  rw [ok.r]
  k_intsEnd
  refine c_lenS hl ?_
  rw [ok.l]
  k_intsEnd
  refine l_str hl ?_
  rw [show cutS z (some ((1 : Nat) : Int)) none = "" from ok.c]
  k_intsEnd
  refine c_lenS hl ?_
  rw [ok.l]
  k_intsEnd
  refine ⟨hl, ?_⟩
  rw [ok.s]
  k_intsEnd
  refine c_lenS (Nat.zero_le _) ?_
  k_intsEnd
  exact q _ (by k_memK)
abbrev s_line_fits : Stmt := top 14
theorem sc_line_fits : FnScope ["kind", "value", "one", "other", "ahead", "by"] ["kind", "value"] (defScope s_line_fits) := sc_by (by decide +kernel)
abbrev sp_line_fits : SpG := fun vs H Q => ∃ hb p l, vs = [.str (ks hb), .ref p] ∧ H p = some (.tup (lnV l)) ∧ LnOk hb l ∧ ∀ H2, Same H H2 → Q (.bl true) H2
theorem d_line_fits {m : Md} (hs : ∃ f fd, Has m "line_fits" s_line_fits ["kind", "value"] f fd) (B : Bis m) (D_name_fits : Def m "name_fits" ["value"] 1 sp_name_fits) (D_is_number_of : Def m "is_number_of" ["kind", "value"] 3 sp_is_number_of) (D_is_count : Def m "is_count" ["value"] 2 sp_is_count) : Def m "line_fits" ["kind", "value"] 4 sp_line_fits := by
  refine def_of hs sc_line_fits (fun vs H Q h => ?_) fun X C fn vs H Q h => ?_
  · obtain ⟨hb, p, l, rfl, hp, ok, q⟩ := h
    rfl
  obtain ⟨hb, p, l, rfl, hp, ok, q⟩ := h
  have n_kind : Nm X "kind" 0 := C.nm rfl (by decide +kernel)
  have n_value : Nm X "value" 1 := C.nm rfl (by decide +kernel)
  have n_one : Nm X "one" 2 := C.nm rfl (by decide +kernel)
  have t_one : Tg X "one" 2 := C.tg fn rfl (by decide +kernel)
  have n_other : Nm X "other" 3 := C.nm rfl (by decide +kernel)
  have t_other : Tg X "other" 3 := C.tg fn rfl (by decide +kernel)
  have n_ahead : Nm X "ahead" 4 := C.nm rfl (by decide +kernel)
  have t_ahead : Tg X "ahead" 4 := C.tg fn rfl (by decide +kernel)
  have n_by : Nm X "by" 5 := C.nm rfl (by decide +kernel)
  have t_by : Tg X "by" 5 := C.tg fn rfl (by decide +kernel)
  have g_isinstance : Gl X "isinstance" := C.gl (by decide +kernel)
  have b_isinstance := B.isinstance
  have g_tuple : Gl X "tuple" := C.gl (by decide +kernel)
  have b_tuple := B.tuple
  have g_len : Gl X "len" := C.gl (by decide +kernel)
  have b_len := B.len
  have g_name_fits : Gl X "name_fits" := C.gl (by decide +kernel)
  have g_is_number_of : Gl X "is_number_of" := C.gl (by decide +kernel)
  have g_is_count : Gl X "is_count" := C.gl (by decide +kernel)

  k_intsEnd
  refine iteNN rfl ?_
  k_intsEnd
  refine ⟨ok.n1, fun H2 s1 => ?_⟩
  k_intsEnd
  refine ⟨ok.n2, fun H3 s2 => ?_⟩
  k_intsEnd
  refine iteN ok.ne ?_
  k_intsEnd
  refine ⟨ok.f0, ?_⟩
  k_intsEnd
  have b0 := ok.b.b0
  refine iteNN b0 ?_
  cases hb
  · k_intsEnd
    by_cases c : l.by_ = 0
    · refine iteP c ?_
      exact q _ (by k_memK)
    · refine iteN c ?_
      k_intsEnd
      rw [intBits_nn (ok.f0 rfl), intBits_nn b0, decide_eq_true (Int.ofNat_lt.mpr (ok.f1 rfl c))]
      exact q _ (by k_memK)
  · k_intsEnd
    by_cases c : l.by_ = 0
    · refine iteP c ?_
      exact q _ (by k_memK)
    · refine iteN c ?_
      k_intsEnd
      refine iteP (ok.h0 rfl c).1 ?_
      k_intsEnd
      rw [decide_eq_true (ok.h0 rfl c).2]
      exact q _ (by k_memK)
abbrev s_lines_fit : Stmt := top 15
theorem sc_lines_fit : FnScope ["kind", "value", "item"] ["kind", "value"] (defScope s_lines_fit) := sc_by (by decide +kernel)
abbrev sp_lines_fit : SpG := fun vs H Q => ∃ hb p, ∃ ls : List Ln, vs = [.str (ks hb), .ref p] ∧ LT H p (ls.map lnV) ∧ (∀ l ∈ ls, LnOk hb l) ∧ ls.length ≤ sizeLine ∧ ∀ H2, Same H H2 → Q (.bl true) H2
theorem d_lines_fit {m : Md} (hs : ∃ f fd, Has m "lines_fit" s_lines_fit ["kind", "value"] f fd) (B : Bis m) (D_line_fits : Def m "line_fits" ["kind", "value"] 4 sp_line_fits) : Def m "lines_fit" ["kind", "value"] 5 sp_lines_fit := by
  refine def_of hs sc_lines_fit (fun vs H Q h => ?_) fun X C fn vs H Q h => ?_
  · obtain ⟨hb, p, ls, rfl, ⟨rs, hp, tt⟩, ok, hl, q⟩ := h
    rfl
  obtain ⟨hb, p, ls, rfl, ⟨rs, hp, tt⟩, ok, hl, q⟩ := h
  have n_kind : Nm X "kind" 0 := C.nm rfl (by decide +kernel)
  have n_value : Nm X "value" 1 := C.nm rfl (by decide +kernel)
  have g_isinstance : Gl X "isinstance" := C.gl (by decide +kernel)
  have b_isinstance := B.isinstance
  have g_list : Gl X "list" := C.gl (by decide +kernel)
  have b_list := B.list

  k_intsEnd
  apply lcF_L [("item", 2)] C (by decide +kernel) (fun _ => rfl)
  k_intsEnd
  refine ⟨p, _, rfl, hp, by rw [List.length_map, tt.len, List.length_map]; exact hl, fun i acc => acc = [], rfl, fun i x H2 acc hx s1 e => ?_, fun D H2 acc nD s1 hD e => ?_⟩
  · subst e
    obtain ⟨r, l, rfl, hl2, hr⟩ := tups_map tt hx
    refine turn_nm (i := 2) C rfl rfl rfl (by decide +kernel) fun X' B' => wts_one ?_
    have C' := B'.ctx C
    have n_item_Xp : Nm X' "item" 2 := C'.nm rfl (by decide +kernel)
    have n_kind_Xp : Nm X' "kind" 0 := C'.nm rfl (by decide +kernel)
    have g_line_fits_Xp : Gl X' "line_fits" := C'.gl (by decide +kernel)
    k_intsEnd
    refine ⟨hb, _, l, rfl, s1 _ _ hr, ok l (List.mem_of_getElem? hl2), fun H3 s2 => ?_⟩
    k_intsEnd
    exact ⟨s2, rfl⟩
  · subst e
    k_intsEnd
    refine o_eqNil C (by k_memK) (by assumption) ?_
    exact q _ (by k_memK)
abbrev s_book_fits : Stmt := top 16
theorem sc_book_fits : FnScope ["value"] ["value"] (defScope s_book_fits) := sc_by (by decide +kernel)
abbrev sp_book_fits : SpG := fun vs H Q => ∃ hb p r, ∃ ls : List Ln, vs = [.ref p] ∧ H p = some (.tup [.str (ks hb), .ref r]) ∧ LT H r (ls.map lnV) ∧ (∀ l ∈ ls, LnOk hb l) ∧ ls.length ≤ sizeLine ∧ ∀ H2, Same H H2 → Q (.bl true) H2
theorem d_book_fits {m : Md} (hs : ∃ f fd, Has m "book_fits" s_book_fits ["value"] f fd) (B : Bis m) (D_is_kind : Def m "is_kind" ["value"] 1 sp_is_kind) (D_lines_fit : Def m "lines_fit" ["kind", "value"] 5 sp_lines_fit) : Def m "book_fits" ["value"] 6 sp_book_fits := by
  refine def_of hs sc_book_fits (fun vs H Q h => ?_) fun X C fn vs H Q h => ?_
  · obtain ⟨hb, p, r, ls, rfl, hp, lt, ok, hl, q⟩ := h
    rfl
  obtain ⟨hb, p, r, ls, rfl, hp, lt, ok, hl, q⟩ := h
  have n_value : Nm X "value" 0 := C.nm rfl (by decide +kernel)
  have g_isinstance : Gl X "isinstance" := C.gl (by decide +kernel)
  have b_isinstance := B.isinstance
  have g_tuple : Gl X "tuple" := C.gl (by decide +kernel)
  have b_tuple := B.tuple
  have g_len : Gl X "len" := C.gl (by decide +kernel)
  have b_len := B.len
  have g_is_kind : Gl X "is_kind" := C.gl (by decide +kernel)
  have g_lines_fit : Gl X "lines_fit" := C.gl (by decide +kernel)

  k_intsEnd
  refine iteT ?_
  k_intsEnd
  intro H2 s1
  k_intsEnd
  refine ⟨hb, _, _, rfl, lt.same (by assumption), ok, hl, fun H3 s2 => ?_⟩
  exact q _ (by k_memK)
abbrev s_check_book : Stmt := top 17
theorem sc_check_book : FnScope ["book"] ["book"] (defScope s_check_book) := sc_by (by decide +kernel)
abbrev sp_check_book : SpG := fun vs H Q => ∃ hb p r, ∃ ls : List Ln, vs = [.ref p] ∧ H p = some (.tup [.str (ks hb), .ref r]) ∧ LT H r (ls.map lnV) ∧ (∀ l ∈ ls, LnOk hb l) ∧ ls.length ≤ sizeLine ∧ ∀ H2, Same H H2 → Q .non H2
theorem d_check_book {m : Md} (hs : ∃ f fd, Has m "check_book" s_check_book ["book"] f fd) (B : Bis m) (D_book_fits : Def m "book_fits" ["value"] 6 sp_book_fits) : Def m "check_book" ["book"] 7 sp_check_book := by
  refine def_of hs sc_check_book (fun vs H Q h => ?_) fun X C fn vs H Q h => ?_
  · obtain ⟨hb, p, r, ls, rfl, hp, lt, ok, hl, q⟩ := h
    rfl
  obtain ⟨hb, p, r, ls, rfl, hp, lt, ok, hl, q⟩ := h
  have n_book : Nm X "book" 0 := C.nm rfl (by decide +kernel)
  have g_book_fits : Gl X "book_fits" := C.gl (by decide +kernel)
  have g_InvalidBook : Gl X "InvalidBook" := C.gl (by decide +kernel)

  k_intsEnd
  refine ⟨hb, _, _, _, rfl, hp, lt, ok, hl, fun H2 s1 => ?_⟩
  k_intsEnd
  exact q _ (by k_memK)
/-! # D5 -/
abbrev s_is_elder : Stmt := top 37
theorem sc_is_elder : FnScope ["told", "value"] ["told", "value"] (defScope s_is_elder) := sc_by (by decide +kernel)
abbrev sp_is_elder : SpG := fun vs H Q => ∃ p, ∃ T : List Ln, ∃ i : Nat, vs = [.ref p, .int (i : Int)] ∧ LT H p (T.map lnV) ∧ i < T.length ∧ Q (.bl true) H
theorem d_is_elder {m : Md} (hs : ∃ f fd, Has m "is_elder" s_is_elder ["told", "value"] f fd) (B : Bis m) (D_is_count : Def m "is_count" ["value"] 2 sp_is_count) : Def m "is_elder" ["told", "value"] 3 sp_is_elder := by
  refine def_of hs sc_is_elder (fun vs H Q h => ?_) fun X C fn vs H Q h => ?_
  · obtain ⟨p, T, i, rfl, lt, hi, q⟩ := h
    rfl
  obtain ⟨p, T, i, rfl, lt, hi, q⟩ := h
  have n_told : Nm X "told" 0 := C.nm rfl (by decide +kernel)
  have n_value : Nm X "value" 1 := C.nm rfl (by decide +kernel)
  have g_is_count : Gl X "is_count" := C.gl (by decide +kernel)
  have g_len : Gl X "len" := C.gl (by decide +kernel)
  have b_len := B.len

  obtain ⟨xs, hp, hl⟩ := lt.lst
  rw [List.length_map] at hl
  k_intsEnd
  rw [decide_eq_true (by omega : ((i : Nat) : Int) < (xs.length : Nat))]
  exact q
abbrev s_pair_line : Stmt := top 38
theorem sc_pair_line : FnScope ["kind", "word", "line", "other"] ["kind", "word", "line", "other"] (defScope s_pair_line) := sc_by (by decide +kernel)
abbrev sp_pair_line : SpG := fun vs H Q => ∃ hb, ∃ w : Bool, ∃ p l r o, vs = [.str (ks hb), .str (if w then "joined" else "met"), .ref p, .ref r] ∧ H p = some (.tup (lnV l)) ∧ H r = some (.tup (lnV o)) ∧ LnOk hb l ∧ LnOk hb o ∧ (w = true → l.other = o.one ∧ l.one ≠ o.other) ∧ (w = false → l.one = o.one ∧ l.other = o.other ∧ agreeLn hb l o = true) ∧ ∀ t H2, Same H H2 → H2 t = some (.tup (lnV (if w then joinLn hb l o else metLn hb l o))) → Q (.ref t) H2
theorem d_pair_line {m : Md} (hs : ∃ f fd, Has m "pair_line" s_pair_line ["kind", "word", "line", "other"] f fd) (B : Bis m) (D_met_line : Def m "met_line" ["kind", "line", "other"] 6 sp_met_line) (D_joined_line : Def m "joined_line" ["kind", "line", "other"] 4 sp_joined_line) (D_agrees_in : Def m "agrees_in" ["kind", "line", "other"] 4 sp_agrees_in) : Def m "pair_line" ["kind", "word", "line", "other"] 7 sp_pair_line := by
  refine def_of hs sc_pair_line (fun vs H Q h => ?_) fun X C fn vs H Q h => ?_
  · obtain ⟨hb, w, p, l, r, o, rfl, hp, hr, ok, ok2, hw, hm, q⟩ := h
    rfl
  obtain ⟨hb, w, p, l, r, o, rfl, hp, hr, ok, ok2, hw, hm, q⟩ := h
  have n_kind : Nm X "kind" 0 := C.nm rfl (by decide +kernel)
  have n_word : Nm X "word" 1 := C.nm rfl (by decide +kernel)
  have n_line : Nm X "line" 2 := C.nm rfl (by decide +kernel)
  have n_other : Nm X "other" 3 := C.nm rfl (by decide +kernel)
  have g_joined_line : Gl X "joined_line" := C.gl (by decide +kernel)
  have g_agrees_in : Gl X "agrees_in" := C.gl (by decide +kernel)
  have g_met_line : Gl X "met_line" := C.gl (by decide +kernel)

  cases w
  · obtain ⟨e1, e2, ag⟩ := hm rfl
    k_intsEnd
    refine o_neT C (by k_memK) (by k_memK) (t := [.str l.one, .str l.other]) (u := [.str o.one, .str o.other]) ?_ ?_ rfl rfl ?_
    · simp only [List.all_cons, okV, nm5_str ok.n1, nm5_str ok.n2, List.all_nil, Bool.and_true]
    · simp only [List.all_cons, okV, nm5_str ok2.n1, nm5_str ok2.n2, List.all_nil, Bool.and_true]
    rw [decide_eq_true (by rw [e1, e2])]
    k_intsEnd
    refine ⟨hb, _, l, _, o, rfl, by k_memK, by k_memK, ok.b, ok2.b, fun H2 s1 => ?_⟩
    rw [ag]
    k_intsEnd
    refine ⟨hb, _, l, _, o, rfl, by k_memK, by k_memK, metOk_of ok ok2, agree_swap ok ok2 ag, fun t H3 s2 ht => ?_⟩
    k_intsEnd
    exact q _ _ (by k_memK) ht
  · obtain ⟨e1, e2⟩ := hw rfl
    k_intsEnd
    refine ⟨hb, _, l, _, o, rfl, by k_memK, by k_memK, ok.b, ok2.b, fun t H2 s1 ht => ?_⟩
    k_intsEnd
    exact q _ _ (by k_memK) ht
abbrev s_entry_line : Stmt := top 39
theorem sc_entry_line : FnScope ["book", "told", "value", "kind", "lines", "line", "fits"] ["book", "told", "value"] (defScope s_entry_line) := sc_by (by decide +kernel)
abbrev sp_entry_line : SpG := fun vs H Q => ∃ hb pb pr pt pe, ∃ (R T : List Ln) (e : En) (l : Ln), vs = [.ref pb, .ref pt, .ref pe] ∧ H pb = some (.tup [.str (ks hb), .ref pr]) ∧ LT H pr (R.map lnV) ∧ LT H pt (T.map lnV) ∧ H pe = some (.tup (enV e)) ∧ (∀ l ∈ R, LnOk hb l) ∧ (∀ l ∈ T, LnOk hb l) ∧ EnOk e ∧ entryLn hb R T e = some l ∧ ∀ t H2, Same H H2 → H2 t = some (.tup (lnV (l))) → Q (.ref t) H2
theorem d_entry_line {m : Md} (hs : ∃ f fd, Has m "entry_line" s_entry_line ["book", "told", "value"] f fd) (B : Bis m) (S : Cs m) (D_line_fits : Def m "line_fits" ["kind", "value"] 4 sp_line_fits) (D_is_elder : Def m "is_elder" ["told", "value"] 3 sp_is_elder) (D_turned_line : Def m "turned_line" ["kind", "line"] 3 sp_turned_line) (D_pair_line : Def m "pair_line" ["kind", "word", "line", "other"] 7 sp_pair_line) (D_is_count : Def m "is_count" ["value"] 2 sp_is_count) (D_is_multiple_in : Def m "is_multiple_in" ["kind", "number", "by"] 3 sp_is_multiple_in) (D_less_line : Def m "less_line" ["kind", "line", "by"] 3 sp_less_line) : Def m "entry_line" ["book", "told", "value"] 8 sp_entry_line := by
  refine def_of hs sc_entry_line (fun vs H Q h => ?_) fun X C fn vs H Q h => ?_
  · obtain ⟨hb, pb, pr, pt, pe, R, T, e, l, rfl, hpb, ltr, ltt, hpe, okr, okt, oke, hl, q⟩ := h
    rfl
  obtain ⟨hb, pb, pr, pt, pe, R, T, e, l, rfl, hpb, ltr, ltt, hpe, okr, okt, oke, hl, q⟩ := h
  have n_book : Nm X "book" 0 := C.nm rfl (by decide +kernel)
  have n_told : Nm X "told" 1 := C.nm rfl (by decide +kernel)
  have n_value : Nm X "value" 2 := C.nm rfl (by decide +kernel)
  have n_kind : Nm X "kind" 3 := C.nm rfl (by decide +kernel)
  have t_kind : Tg X "kind" 3 := C.tg fn rfl (by decide +kernel)
  have n_lines : Nm X "lines" 4 := C.nm rfl (by decide +kernel)
  have t_lines : Tg X "lines" 4 := C.tg fn rfl (by decide +kernel)
  have n_line : Nm X "line" 5 := C.nm rfl (by decide +kernel)
  have t_line : Tg X "line" 5 := C.tg fn rfl (by decide +kernel)
  have n_fits : Nm X "fits" 6 := C.nm rfl (by decide +kernel)
  have t_fits : Tg X "fits" 6 := C.tg fn rfl (by decide +kernel)
  have g_isinstance : Gl X "isinstance" := C.gl (by decide +kernel)
  have b_isinstance := B.isinstance
  have g_tuple : Gl X "tuple" := C.gl (by decide +kernel)
  have b_tuple := B.tuple
  have g_str : Gl X "str" := C.gl (by decide +kernel)
  have b_str := B.str
  have g_SIZES : Gl X "SIZES" := C.gl (by decide +kernel)
  have g_len : Gl X "len" := C.gl (by decide +kernel)
  have b_len := B.len
  have g_is_count : Gl X "is_count" := C.gl (by decide +kernel)
  have g_line_fits : Gl X "line_fits" := C.gl (by decide +kernel)
  have g_is_elder : Gl X "is_elder" := C.gl (by decide +kernel)
  have g_turned_line : Gl X "turned_line" := C.gl (by decide +kernel)
  have g_is_multiple_in : Gl X "is_multiple_in" := C.gl (by decide +kernel)
  have g_less_line : Gl X "less_line" := C.gl (by decide +kernel)
  have g_pair_line : Gl X "pair_line" := C.gl (by decide +kernel)

  obtain ⟨qz, gz, hz, z1, z2, z3, z4, z5, z6⟩ := S.SIZES
  have ov := enV_ok oke
  cases e with
  | told i =>
    k_intsEnd
    refine o_eqT C (by k_memK) (by assumption) ov rfl rfl rfl ?_
    k_intsEnd
    refine iteN (List.cons_ne_nil _ _) ?_
    k_intsEnd
    refine iteNN rfl ?_
    k_intsEnd
    have e1 : (R.map lnV)[i]? = some (lnV l) := by rw [List.getElem?_map, show R[i]? = some l from hl]; rfl
    obtain ⟨xs, r, hx, hn, hi, hr⟩ := ltr.at e1
    have li : i < xs.length := (List.getElem?_eq_some_iff.mp hi).1
    k_intsEnd
    exact q _ _ (by k_memK) (by k_memK)
  | nothing a b =>
    k_intsEnd
    refine o_eqT C (by k_memK) (by assumption) ov rfl rfl rfl ?_
    k_intsEnd
    refine iteN (List.cons_ne_nil _ _) ?_
    k_intsEnd
    refine iteNN rfl ?_
    k_intsEnd
    cases hl
    refine ⟨hb, _, ⟨a, b, 0, 1⟩, rfl, by assumption, nothing_ok oke, fun H2 s1 => ?_⟩
    k_intsEnd
    exact q _ _ (by k_memK) (by assumption)
  | turned i =>
    k_intsEnd
    refine o_eqT C (by k_memK) (by assumption) ov rfl rfl rfl ?_
    k_intsEnd
    refine iteN (List.cons_ne_nil _ _) ?_
    k_intsEnd
    refine iteNN rfl ?_
    k_intsEnd
    obtain ⟨l0, h0, e0⟩ := Option.map_eq_some_iff.mp (show (T[i]?).map (turnLn hb) = some l from hl)
    have e1 : (T.map lnV)[i]? = some (lnV l0) := by rw [List.getElem?_map, h0]; rfl
    obtain ⟨xs, r, hx, hn, hi, hr⟩ := ltt.at e1
    have ok0 := okt l0 (List.mem_of_getElem? h0)
    subst e0
    refine ⟨_, T, i, rfl, ltt.same (by k_memK), (List.getElem?_eq_some_iff.mp h0).1, ?_⟩
    k_intsEnd
    refine ⟨hb, _, l0, rfl, by k_memK, ok0.b, fun t H2 s1 ht => ?_⟩
    k_intsEnd
    exact q _ _ (by k_memK) (by k_memK)
  | joined i j =>
    k_intsEnd
    refine o_eqT C (by k_memK) (by assumption) ov rfl rfl rfl ?_
    k_intsEnd
    refine iteN (List.cons_ne_nil _ _) ?_
    k_intsEnd
    refine iteNN rfl ?_
    k_intsEnd
    obtain ⟨l0, h0, e0⟩ := Option.bind_eq_some_iff.mp hl
    obtain ⟨o0, g0, e2⟩ := Option.bind_eq_some_iff.mp e0
    have e1 : (T.map lnV)[i]? = some (lnV l0) := by rw [List.getElem?_map, h0]; rfl
    have e3 : (T.map lnV)[j]? = some (lnV o0) := by rw [List.getElem?_map, g0]; rfl
    obtain ⟨xs, r, r2, hx, hn, hi, hr, hi2, hr2⟩ := ltt.at2 e1 e3
    have ok0 := okt l0 (List.mem_of_getElem? h0)
    have ok2 := okt o0 (List.mem_of_getElem? g0)
    split at e2
    · rename_i hc
      cases e2
      refine ⟨_, T, i, rfl, ltt.same (by k_memK), (List.getElem?_eq_some_iff.mp h0).1, ?_⟩
      k_intsEnd
      refine ⟨_, T, j, rfl, ltt.same (by k_memK), (List.getElem?_eq_some_iff.mp g0).1, ?_⟩
      k_intsEnd
      refine ⟨hb, true, _, l0, _, o0, rfl, by k_memK, by k_memK, ok0, ok2, fun _ => hc, fun z => (by cases z), fun t H2 s1 ht => ?_⟩
      k_intsEnd
      exact q _ _ (by k_memK) ht
    · cases e2
  | met i j =>
    k_intsEnd
    refine o_eqT C (by k_memK) (by assumption) ov rfl rfl rfl ?_
    k_intsEnd
    refine iteN (List.cons_ne_nil _ _) ?_
    k_intsEnd
    refine iteNN rfl ?_
    k_intsEnd
    obtain ⟨l0, h0, e0⟩ := Option.bind_eq_some_iff.mp hl
    obtain ⟨o0, g0, e2⟩ := Option.bind_eq_some_iff.mp e0
    have e1 : (T.map lnV)[i]? = some (lnV l0) := by rw [List.getElem?_map, h0]; rfl
    have e3 : (T.map lnV)[j]? = some (lnV o0) := by rw [List.getElem?_map, g0]; rfl
    obtain ⟨xs, r, r2, hx, hn, hi, hr, hi2, hr2⟩ := ltt.at2 e1 e3
    have ok0 := okt l0 (List.mem_of_getElem? h0)
    have ok2 := okt o0 (List.mem_of_getElem? g0)
    split at e2
    · rename_i hc
      cases e2
      refine ⟨_, T, i, rfl, ltt.same (by k_memK), (List.getElem?_eq_some_iff.mp h0).1, ?_⟩
      k_intsEnd
      refine ⟨_, T, j, rfl, ltt.same (by k_memK), (List.getElem?_eq_some_iff.mp g0).1, ?_⟩
      k_intsEnd
      refine ⟨hb, false, _, l0, _, o0, rfl, by k_memK, by k_memK, ok0, ok2, fun z => (by cases z), fun _ => hc, fun t H2 s1 ht => ?_⟩
      k_intsEnd
      exact q _ _ (by k_memK) ht
    · cases e2
  | less i b =>
    k_intsEnd
    refine o_eqT C (by k_memK) (by assumption) ov rfl rfl rfl ?_
    k_intsEnd
    refine iteN (List.cons_ne_nil _ _) ?_
    k_intsEnd
    refine iteNN rfl ?_
    k_intsEnd
    obtain ⟨l0, h0, e0⟩ := Option.bind_eq_some_iff.mp hl
    have e1 : (T.map lnV)[i]? = some (lnV l0) := by rw [List.getElem?_map, h0]; rfl
    obtain ⟨xs, r, hx, hn, hi, hr⟩ := ltt.at e1
    have ok0 := okt l0 (List.mem_of_getElem? h0)
    have bl := less_lim hb oke
    split at e0
    · rename_i hc
      cases e0
      refine ⟨_, T, i, rfl, ltt.same (by k_memK), (List.getElem?_eq_some_iff.mp h0).1, ?_⟩
      k_intsEnd
      refine ⟨Int.natCast_nonneg _, bl, fun _ => ⟨ok0.b.b0, by have := ok0.b.b1; have := lim_le hb; omega⟩, fun H2 s1 => ?_⟩
      rw [decide_eq_true hc]
      k_intsEnd
      refine ⟨hb, _, l0, _, rfl, by k_memK, ok0.b, Int.natCast_nonneg _, bl, fun t H3 s2 ht => ?_⟩
      exact q _ _ (by k_memK) ht
    · cases e0
abbrev s_lines_in : Stmt := top 40
theorem sc_lines_in : FnScope ["book", "value", "told", "entry", "line"] ["book", "value"] (defScope s_lines_in) := sc_by (by decide +kernel)
abbrev sp_lines_in : SpG := fun vs H Q => ∃ hb pb pr pp, ∃ (R : List Ln) (P : List En) (T : List Ln), vs = [.ref pb, .ref pp] ∧ H pb = some (.tup [.str (ks hb), .ref pr]) ∧ LT H pr (R.map lnV) ∧ LT H pp (P.map enV) ∧ (∀ l ∈ R, LnOk hb l) ∧ (∀ e ∈ P, EnOk e) ∧ P.length ≤ sizeLine ∧ linesOf hb R P [] = some T ∧ ∀ t H2, H t = none → Same H H2 → LT H2 t (T.map lnV) → Q (.ref t) H2
theorem d_lines_in {m : Md} (hs : ∃ f fd, Has m "lines_in" s_lines_in ["book", "value"] f fd) (B : Bis m) (D_entry_line : Def m "entry_line" ["book", "told", "value"] 8 sp_entry_line) : Def m "lines_in" ["book", "value"] 9 sp_lines_in := by
  refine def_of hs sc_lines_in (fun vs H Q h => ?_) fun X C fn vs H Q h => ?_
  · obtain ⟨hb, pb, pr, pp, R, P, T, rfl, hpb, ltr, ⟨rs, hpp, tp⟩, okr, oke, hl, hT, q⟩ := h
    rfl
  obtain ⟨hb, pb, pr, pp, R, P, T, rfl, hpb, ltr, ⟨rs, hpp, tp⟩, okr, oke, hl, hT, q⟩ := h
  have n_book : Nm X "book" 0 := C.nm rfl (by decide +kernel)
  have n_value : Nm X "value" 1 := C.nm rfl (by decide +kernel)
  have n_told : Nm X "told" 2 := C.nm rfl (by decide +kernel)
  have t_told : Tg X "told" 2 := C.tg fn rfl (by decide +kernel)
  have n_entry : Nm X "entry" 3 := C.nm rfl (by decide +kernel)
  have t_entry : Tg X "entry" 3 := C.tg fn rfl (by decide +kernel)
  have n_line : Nm X "line" 4 := C.nm rfl (by decide +kernel)
  have t_line : Tg X "line" 4 := C.tg fn rfl (by decide +kernel)
  have g_isinstance : Gl X "isinstance" := C.gl (by decide +kernel)
  have b_isinstance := B.isinstance
  have g_list : Gl X "list" := C.gl (by decide +kernel)
  have b_list := B.list
  have g_entry_line : Gl X "entry_line" := C.gl (by decide +kernel)

  k_intsEnd
  rename_i D H1 nD sD hD
  refine ws_forL C (fun _ => rfl) ?_
  k_intsEnd
  refine ⟨_, _, rfl, SqL.of (sD _ _ hpp), fun i σ H' => Same H H' ∧ ∃ (Tk : List Ln) (u v : Option V), Tk.length = i ∧ LT H' D (Tk.map lnV) ∧ (∀ l ∈ Tk, LnOk hb l) ∧ linesOf hb R (P.drop i) Tk = some T ∧ σ = [some (.ref pb), some (.ref pp), some (.ref D), u, v], ⟨by assumption, [], none, none, rfl, LT.nil hD, fun _ h => (by cases h), hT, rfl⟩, fun i σ H' p => SqL.of (p.1 _ _ hpp), ?_, ?_⟩
  · rintro i x σ H' hx ⟨s1, Tk, u, v, hn, lt, okT, hTk, rfl⟩
    obtain ⟨r, e, rfl, he, hr⟩ := tups_map tp hx
    have li : i < P.length := (List.getElem?_eq_some_iff.mp he).1
    rw [drop_step he] at hTk
    obtain ⟨l, hl2, hTk⟩ := Option.bind_eq_some_iff.mp hTk
    k_intsEnd
    have lr := ltr.same s1
    refine ⟨hb, pb, pr, D, r, R, Tk, e, l, rfl, s1 _ _ hpb, lr, lt, s1 _ _ hr, okr, okT, oke e (List.mem_of_getElem? he), hl2, fun t H2 s2 ht => ?_⟩
    k_intsEnd
    refine iteF ?_
    k_intsEnd
    obtain ⟨ys, hys, hlen⟩ := (lt.same s2).lst
    rw [List.length_map] at hlen
    refine ⟨_, ys, rfl, hys, ?_⟩
    k_intsEnd
    refine ⟨ys, hys, by omega, ?_⟩
    k_intsEnd
    refine ⟨Same.put (Same.trans s1 s2) nD, Tk ++ [l], _, _, by rw [List.length_append, hn]; rfl, ?_, fun x hx => ?_, hTk, rfl⟩
    · rw [List.map_append]
      exact LT.snoc (lt.same s2) hys ht
    · rcases List.mem_append.mp hx with a | a
      · exact okT x a
      · rw [List.mem_singleton.mp a]
        exact entryLn_ok okr okT (oke e (List.mem_of_getElem? he)) hl2
  · rintro σ H' ⟨s1, Tk, u, v, hn, lt, okT, hTk, rfl⟩
    rw [List.length_map, tp.len, List.length_map, List.drop_length] at hTk
    cases hTk
    k_intsEnd
    exact q _ _ nD s1 lt
abbrev s_check_paper : Stmt := top 41
theorem sc_check_paper : FnScope ["book", "paper", "told"] ["book", "paper"] (defScope s_check_paper) := sc_by (by decide +kernel)
abbrev sp_check_paper : SpG := fun vs H Q => ∃ hb pb pr pp, ∃ (R : List Ln) (P : List En) (T : List Ln), vs = [.ref pb, .ref pp] ∧ H pb = some (.tup [.str (ks hb), .ref pr]) ∧ LT H pr (R.map lnV) ∧ LT H pp (P.map enV) ∧ (∀ l ∈ R, LnOk hb l) ∧ (∀ e ∈ P, EnOk e) ∧ P.length ≤ sizeLine ∧ linesOf hb R P [] = some T ∧ ∀ t H2, H t = none → Same H H2 → LT H2 t (T.map lnV) → Q (.ref t) H2
theorem d_check_paper {m : Md} (hs : ∃ f fd, Has m "check_paper" s_check_paper ["book", "paper"] f fd) (B : Bis m) (D_lines_in : Def m "lines_in" ["book", "value"] 9 sp_lines_in) : Def m "check_paper" ["book", "paper"] 10 sp_check_paper := by
  refine def_of hs sc_check_paper (fun vs H Q h => ?_) fun X C fn vs H Q h => ?_
  · obtain ⟨hb, pb, pr, pp, R, P, T, rfl, hpb, ltr, ltp, okr, oke, hl, hT, q⟩ := h
    rfl
  obtain ⟨hb, pb, pr, pp, R, P, T, rfl, hpb, ltr, ltp, okr, oke, hl, hT, q⟩ := h
  have n_book : Nm X "book" 0 := C.nm rfl (by decide +kernel)
  have n_paper : Nm X "paper" 1 := C.nm rfl (by decide +kernel)
  have n_told : Nm X "told" 2 := C.nm rfl (by decide +kernel)
  have t_told : Tg X "told" 2 := C.tg fn rfl (by decide +kernel)
  have g_lines_in : Gl X "lines_in" := C.gl (by decide +kernel)
  have g_InvalidPaper : Gl X "InvalidPaper" := C.gl (by decide +kernel)

  k_intsEnd
  refine ⟨hb, pb, pr, pp, R, P, T, rfl, hpb, ltr, ltp, okr, oke, hl, hT, fun t H2 nt s1 lt => ?_⟩
  k_intsEnd
  refine iteF ?_
  k_intsEnd
  exact q _ _ nt s1 lt
/-! # D6 -/
abbrev s_leaning : Stmt := top 42
theorem sc_leaning : FnScope ["paper", "number", "found", "at", "named", "elder"] ["paper", "number"] (defScope s_leaning) := sc_by (by decide +kernel)
abbrev sp_leaning : SpG := fun vs H Q => ∃ pp, ∃ (P : List En) (n : Nat), vs = [.ref pp, .int (n : Int)] ∧ LT H pp (P.map enV) ∧ n < P.length ∧ WfP P ∧ P.length ≤ 2000 ∧ ∀ t H2, H t = none → Same H H2 → H2 t = some (.lst (nV (leanK P n))) → Q (.ref t) H2
theorem d_leaning {m : Md} (hs : ∃ f fd, Has m "leaning" s_leaning ["paper", "number"] f fd) (B : Bis m) : Def m "leaning" ["paper", "number"] 1 sp_leaning := by
  refine def_of hs sc_leaning (fun vs H Q h => ?_) fun X C fn vs H Q h => ?_
  · obtain ⟨pp, P, n, rfl, ltp, hn, wf, few, q⟩ := h
    rfl
  obtain ⟨pp, P, n, rfl, ltp, hn, wf, few, q⟩ := h
  have n_paper : Nm X "paper" 0 := C.nm rfl (by decide +kernel)
  have n_number : Nm X "number" 1 := C.nm rfl (by decide +kernel)
  have n_found : Nm X "found" 2 := C.nm rfl (by decide +kernel)
  have t_found : Tg X "found" 2 := C.tg fn rfl (by decide +kernel)
  have n_at : Nm X "at" 3 := C.nm rfl (by decide +kernel)
  have t_at : Tg X "at" 3 := C.tg fn rfl (by decide +kernel)
  have n_named : Nm X "named" 4 := C.nm rfl (by decide +kernel)
  have t_named : Tg X "named" 4 := C.tg fn rfl (by decide +kernel)
  have g_reversed : Gl X "reversed" := C.gl (by decide +kernel)
  have b_reversed := B.reversed
  have g_range : Gl X "range" := C.gl (by decide +kernel)
  have b_range := B.range
  have g_sorted : Gl X "sorted" := C.gl (by decide +kernel)
  have b_sorted := B.sorted
  have g_set : Gl X "set" := C.gl (by decide +kernel)
  have b_set := B.set

  k_intsEnd
  rename_i fr0 H1 nf0 s0 hf0
  refine ws_forRev C (by assumption) b_range.free (by assumption) b_reversed.free rfl rfl (fun _ => rfl) ?_
  k_intsEnd
  refine ⟨show ((n + 1 : Nat) : Int) < 2 ^ 62 by omega, fun i σ H' => Same H H' ∧ ∃ (f : List Nat) (fr : Addr) (u v : Option V), H' fr = some (.lst (nV f)) ∧ f.length ≤ 1 + 2 * i ∧ (∀ j ∈ f, j < n + 1) ∧ leanF P (n + 1 - i) f = leanF P (n + 1) [n] ∧ σ = [some (.ref pp), some (.int (n : Int)), some (.ref fr), u, v, none], ⟨s0, [n], fr0, none, none, hf0, Nat.le_refl _, fun j hj => by rw [List.mem_singleton.mp hj]; omega, rfl, rfl⟩, ?_, ?_⟩
  · rintro i σ H' hi ⟨s1, f, fr, u, v, hf, fl, fb, fe, rfl⟩
    have hi : i < n + 1 := hi
    have ha : n + 1 - 1 - i < P.length := by omega
    generalize e0 : n + 1 - 1 - i = a at *
    have e0 : n + 1 - 1 - i = a := e0
    have fe2 : leanF P a (if a ∈ f then f ++ (namedAt P a).filter (fun j => decide (j ∉ f)) else f) = leanF P (n + 1) [n] := by
      rw [← fe, show n + 1 - i = a + 1 by omega]; rfl
    have e1 : P[a]? = some P[a] := List.getElem?_eq_getElem ha
    have e2 : (P.map enV)[a]? = some (enV P[a]) := by rw [List.getElem?_map, e1]; rfl
    have wa := wf a _ e1
    obtain ⟨xs, r, hx, hxn, hi2, hr⟩ := (ltp.same s1).at e2
    have nA : namedAt P a = named P[a] := by unfold namedAt; rw [e1]
    rw [nA] at fe2
    generalize P[a] = e at *
    have lf : f.length + 2 ≤ sizeLine := Nat.le_trans (by omega : f.length + 2 ≤ 10000) (Nat.le_of_ble_eq_true rfl)
    k_intsEnd
    refine in_L C hf rfl (flat_nV f) ?_
    k_intsEnd
    rw [inV_nV]
    by_cases c : a ∈ f
    · rw [if_pos c] at fe2
      refine iteP c ?_
      cases e with
      | turned j1 =>
        k_intsEnd
        refine lcF_T [("elder", 5)] C (by decide +kernel) (fun _ => rfl) ?_
        k_intsEnd
        refine ⟨_, _, rfl, by assumption, Nat.le_of_ble_eq_true rfl, fun t acc => acc = nV ((([j1] : List Nat).take t).filter fun j => decide (j ∉ f)), rfl, fun t x H2 acc ht s2 ea => ?_, fun D H2 acc nD s2 hD ea => ?_⟩
        · subst ea
          obtain ⟨jj, hj, rfl⟩ := nV_get (ns := [j1]) ht
          refine turn_nm (i := 5) C rfl rfl rfl (by decide +kernel) fun X' B' => wts_one ?_
          have C' := B'.ctx C
          have n_elder_Xp : Nm X' "elder" 5 := C'.nm rfl (by decide +kernel)
          have n_found_Xp : Nm X' "found" 2 := C'.nm rfl (by decide +kernel)
          k_intsEnd
          refine nin_L C' (by k_memK) rfl (flat_nV f) ?_
          rw [inV_nV]
          k_intsEnd
          by_cases c2 : jj ∈ f
          · refine iteNN c2 ?_
            refine ⟨Same.refl _, ?_⟩
            show nV _ ++ [] = nV ((([j1] : List Nat).take (t + 1)).filter fun j => decide (j ∉ f))
            rw [filt_take hj, if_pos c2, List.append_nil, List.append_nil]
          · refine iteNP c2 ?_
            intro X3 B3
            have C3 := B3.ctx C
            have n_elder_X3 : Nm X3 "elder" 5 := C3.nm rfl (by decide +kernel)
            k_intsEnd
            refine ⟨Same.refl _, ?_⟩
            show nV _ ++ [V.int (jj : Int)] = nV ((([j1] : List Nat).take (t + 1)).filter fun j => decide (j ∉ f))
            rw [filt_take hj, if_neg c2, nV_snoc]
        · subst ea
          have hD : H2 D = some (.lst (nV (([j1] : List Nat).filter fun j => decide (j ∉ f)))) := hD
          have l2 := List.length_filter_le (fun j => decide (j ∉ f)) ([j1] : List Nat)
          have l3 : ([j1] : List Nat).length ≤ 2 := by simp
          k_intsEnd
          refine o_cat (p := fr) (xs := nV f) (by k_memK) hD (by rw [List.length_map, List.length_map]; omega) fun r2 H3 nr2 s3 h3 => ?_
          k_intsEnd
          refine ⟨by k_memK, f ++ ([j1] : List Nat).filter (fun j => decide (j ∉ f)), r2, _, _, by rw [nV_app]; exact h3, by rw [List.length_append]; omega, fun y hy => ?_, ?_, rfl⟩
          · rcases List.mem_append.mp hy with hh | hh
            · exact fb y hh
            · have := wa y (List.mem_filter.mp hh).1
              omega
          · rw [← fe2, show n + 1 - (i + 1) = a by omega]
            rfl
      | joined j1 j2 =>
        k_intsEnd
        refine lcF_T [("elder", 5)] C (by decide +kernel) (fun _ => rfl) ?_
        k_intsEnd
        refine ⟨_, _, rfl, by assumption, Nat.le_of_ble_eq_true rfl, fun t acc => acc = nV ((([j1, j2] : List Nat).take t).filter fun j => decide (j ∉ f)), rfl, fun t x H2 acc ht s2 ea => ?_, fun D H2 acc nD s2 hD ea => ?_⟩
        · subst ea
          obtain ⟨jj, hj, rfl⟩ := nV_get (ns := [j1, j2]) ht
          refine turn_nm (i := 5) C rfl rfl rfl (by decide +kernel) fun X' B' => wts_one ?_
          have C' := B'.ctx C
          have n_elder_Xp : Nm X' "elder" 5 := C'.nm rfl (by decide +kernel)
          have n_found_Xp : Nm X' "found" 2 := C'.nm rfl (by decide +kernel)
          k_intsEnd
          refine nin_L C' (by k_memK) rfl (flat_nV f) ?_
          rw [inV_nV]
          k_intsEnd
          by_cases c2 : jj ∈ f
          · refine iteNN c2 ?_
            refine ⟨Same.refl _, ?_⟩
            show nV _ ++ [] = nV ((([j1, j2] : List Nat).take (t + 1)).filter fun j => decide (j ∉ f))
            rw [filt_take hj, if_pos c2, List.append_nil, List.append_nil]
          · refine iteNP c2 ?_
            intro X3 B3
            have C3 := B3.ctx C
            have n_elder_X3 : Nm X3 "elder" 5 := C3.nm rfl (by decide +kernel)
            k_intsEnd
            refine ⟨Same.refl _, ?_⟩
            show nV _ ++ [V.int (jj : Int)] = nV ((([j1, j2] : List Nat).take (t + 1)).filter fun j => decide (j ∉ f))
            rw [filt_take hj, if_neg c2, nV_snoc]
        · subst ea
          have hD : H2 D = some (.lst (nV (([j1, j2] : List Nat).filter fun j => decide (j ∉ f)))) := hD
          have l2 := List.length_filter_le (fun j => decide (j ∉ f)) ([j1, j2] : List Nat)
          have l3 : ([j1, j2] : List Nat).length ≤ 2 := by simp
          k_intsEnd
          refine o_cat (p := fr) (xs := nV f) (by k_memK) hD (by rw [List.length_map, List.length_map]; omega) fun r2 H3 nr2 s3 h3 => ?_
          k_intsEnd
          refine ⟨by k_memK, f ++ ([j1, j2] : List Nat).filter (fun j => decide (j ∉ f)), r2, _, _, by rw [nV_app]; exact h3, by rw [List.length_append]; omega, fun y hy => ?_, ?_, rfl⟩
          · rcases List.mem_append.mp hy with hh | hh
            · exact fb y hh
            · have := wa y (List.mem_filter.mp hh).1
              omega
          · rw [← fe2, show n + 1 - (i + 1) = a by omega]
            rfl
      | met j1 j2 =>
        k_intsEnd
        refine lcF_T [("elder", 5)] C (by decide +kernel) (fun _ => rfl) ?_
        k_intsEnd
        refine ⟨_, _, rfl, by assumption, Nat.le_of_ble_eq_true rfl, fun t acc => acc = nV ((([j1, j2] : List Nat).take t).filter fun j => decide (j ∉ f)), rfl, fun t x H2 acc ht s2 ea => ?_, fun D H2 acc nD s2 hD ea => ?_⟩
        · subst ea
          obtain ⟨jj, hj, rfl⟩ := nV_get (ns := [j1, j2]) ht
          refine turn_nm (i := 5) C rfl rfl rfl (by decide +kernel) fun X' B' => wts_one ?_
          have C' := B'.ctx C
          have n_elder_Xp : Nm X' "elder" 5 := C'.nm rfl (by decide +kernel)
          have n_found_Xp : Nm X' "found" 2 := C'.nm rfl (by decide +kernel)
          k_intsEnd
          refine nin_L C' (by k_memK) rfl (flat_nV f) ?_
          rw [inV_nV]
          k_intsEnd
          by_cases c2 : jj ∈ f
          · refine iteNN c2 ?_
            refine ⟨Same.refl _, ?_⟩
            show nV _ ++ [] = nV ((([j1, j2] : List Nat).take (t + 1)).filter fun j => decide (j ∉ f))
            rw [filt_take hj, if_pos c2, List.append_nil, List.append_nil]
          · refine iteNP c2 ?_
            intro X3 B3
            have C3 := B3.ctx C
            have n_elder_X3 : Nm X3 "elder" 5 := C3.nm rfl (by decide +kernel)
            k_intsEnd
            refine ⟨Same.refl _, ?_⟩
            show nV _ ++ [V.int (jj : Int)] = nV ((([j1, j2] : List Nat).take (t + 1)).filter fun j => decide (j ∉ f))
            rw [filt_take hj, if_neg c2, nV_snoc]
        · subst ea
          have hD : H2 D = some (.lst (nV (([j1, j2] : List Nat).filter fun j => decide (j ∉ f)))) := hD
          have l2 := List.length_filter_le (fun j => decide (j ∉ f)) ([j1, j2] : List Nat)
          have l3 : ([j1, j2] : List Nat).length ≤ 2 := by simp
          k_intsEnd
          refine o_cat (p := fr) (xs := nV f) (by k_memK) hD (by rw [List.length_map, List.length_map]; omega) fun r2 H3 nr2 s3 h3 => ?_
          k_intsEnd
          refine ⟨by k_memK, f ++ ([j1, j2] : List Nat).filter (fun j => decide (j ∉ f)), r2, _, _, by rw [nV_app]; exact h3, by rw [List.length_append]; omega, fun y hy => ?_, ?_, rfl⟩
          · rcases List.mem_append.mp hy with hh | hh
            · exact fb y hh
            · have := wa y (List.mem_filter.mp hh).1
              omega
          · rw [← fe2, show n + 1 - (i + 1) = a by omega]
            rfl
      | less j1 bb =>
        k_intsEnd
        refine lcF_T [("elder", 5)] C (by decide +kernel) (fun _ => rfl) ?_
        k_intsEnd
        refine ⟨_, _, rfl, by assumption, Nat.le_of_ble_eq_true rfl, fun t acc => acc = nV ((([j1] : List Nat).take t).filter fun j => decide (j ∉ f)), rfl, fun t x H2 acc ht s2 ea => ?_, fun D H2 acc nD s2 hD ea => ?_⟩
        · subst ea
          obtain ⟨jj, hj, rfl⟩ := nV_get (ns := [j1]) ht
          refine turn_nm (i := 5) C rfl rfl rfl (by decide +kernel) fun X' B' => wts_one ?_
          have C' := B'.ctx C
          have n_elder_Xp : Nm X' "elder" 5 := C'.nm rfl (by decide +kernel)
          have n_found_Xp : Nm X' "found" 2 := C'.nm rfl (by decide +kernel)
          k_intsEnd
          refine nin_L C' (by k_memK) rfl (flat_nV f) ?_
          rw [inV_nV]
          k_intsEnd
          by_cases c2 : jj ∈ f
          · refine iteNN c2 ?_
            refine ⟨Same.refl _, ?_⟩
            show nV _ ++ [] = nV ((([j1] : List Nat).take (t + 1)).filter fun j => decide (j ∉ f))
            rw [filt_take hj, if_pos c2, List.append_nil, List.append_nil]
          · refine iteNP c2 ?_
            intro X3 B3
            have C3 := B3.ctx C
            have n_elder_X3 : Nm X3 "elder" 5 := C3.nm rfl (by decide +kernel)
            k_intsEnd
            refine ⟨Same.refl _, ?_⟩
            show nV _ ++ [V.int (jj : Int)] = nV ((([j1] : List Nat).take (t + 1)).filter fun j => decide (j ∉ f))
            rw [filt_take hj, if_neg c2, nV_snoc]
        · subst ea
          have hD : H2 D = some (.lst (nV (([j1] : List Nat).filter fun j => decide (j ∉ f)))) := hD
          have l2 := List.length_filter_le (fun j => decide (j ∉ f)) ([j1] : List Nat)
          have l3 : ([j1] : List Nat).length ≤ 2 := by simp
          k_intsEnd
          refine o_cat (p := fr) (xs := nV f) (by k_memK) hD (by rw [List.length_map, List.length_map]; omega) fun r2 H3 nr2 s3 h3 => ?_
          k_intsEnd
          refine ⟨by k_memK, f ++ ([j1] : List Nat).filter (fun j => decide (j ∉ f)), r2, _, _, by rw [nV_app]; exact h3, by rw [List.length_append]; omega, fun y hy => ?_, ?_, rfl⟩
          · rcases List.mem_append.mp hy with hh | hh
            · exact fb y hh
            · have := wa y (List.mem_filter.mp hh).1
              omega
          · rw [← fe2, show n + 1 - (i + 1) = a by omega]
            rfl
      | _ =>
        k_intsEnd
        refine ⟨by k_memK, f, fr, _, _, by k_memK, by omega, fb, ?_, rfl⟩
        rw [← fe2, show n + 1 - (i + 1) = a by omega]
        exact congrArg (leanF P a) (List.append_nil f).symm
    · rw [if_neg c] at fe2
      refine iteN c ?_
      k_intsEnd
      refine ⟨s1, f, fr, _, _, hf, by omega, fb, ?_, rfl⟩
      rw [← fe2, show n + 1 - (i + 1) = a by omega]
  · rintro σ H' ⟨s1, f, fr, u, v, hf, fl, fb, fe, rfl⟩
    have fl : f.length ≤ 1 + 2 * (n + 1) := fl
    have fe : f = leanF P (n + 1) [n] := by rw [← fe]; show _ = leanF P (n + 1 - (n + 1)) f; rw [Nat.sub_self]; rfl
    rw [nV_ints] at hf
    k_intsEnd
    refine c_set C (SqL.of hf) (by rw [List.length_map]; omega) fun r1 H1 c1 nr1 s2 h1 => ?_
    k_intsEnd
    refine c_sortedSet C h1 fun r2 H2 ns nr2 s3 h2 pw mem => ?_
    rw [sorted_is pw mem fb] at h2
    rw [fe] at h2
    exact q _ _ (Same.free (Same.trans s1 s2) nr2) (by k_memK) h2
/-! # D7 -/
abbrev s_renamed : Stmt := top 43
theorem sc_renamed : FnScope ["entry", "places"] ["entry", "places"] (defScope s_renamed) := sc_by (by decide +kernel)
abbrev sp_renamed : SpG := fun vs H Q => ∃ pe pl, ∃ (e : En) (f : Nat → Nat), vs = [.ref pe, .ref pl] ∧ H pe = some (.tup (enV e)) ∧ Plc H pl f (named e) ∧ ∀ t H2, Same H H2 → H2 t = some (.tup (enV (renE f e))) → Q (.ref t) H2
theorem d_renamed {m : Md} (hs : ∃ f fd, Has m "renamed" s_renamed ["entry", "places"] f fd) (B : Bis m) : Def m "renamed" ["entry", "places"] 1 sp_renamed := by
  refine def_of hs sc_renamed (fun vs H Q h => ?_) fun X C fn vs H Q h => ?_
  · obtain ⟨pe, pl, e, f, rfl, hpe, pc, q⟩ := h
    rfl
  obtain ⟨pe, pl, e, f, rfl, hpe, pc, q⟩ := h
  have n_entry : Nm X "entry" 0 := C.nm rfl (by decide +kernel)
  have n_places : Nm X "places" 1 := C.nm rfl (by decide +kernel)

  cases e with
  | told i =>
    k_intsEnd
    exact q _ _ (by k_memK) (by k_memK)
  | nothing a b =>
    k_intsEnd
    exact q _ _ (by k_memK) (by k_memK)
  | turned j =>
    k_intsEnd
    refine i_plc C (pc.same (by k_memK)) List.mem_cons_self ?_
    k_intsEnd
    exact q _ _ (by k_memK) (by assumption)
  | less j b =>
    k_intsEnd
    refine i_plc C (pc.same (by k_memK)) List.mem_cons_self ?_
    k_intsEnd
    exact q _ _ (by k_memK) (by assumption)
  | joined i j =>
    k_intsEnd
    refine i_plc C (pc.same (by k_memK)) List.mem_cons_self ?_
    k_intsEnd
    refine i_plc C (pc.same (by k_memK)) (List.mem_cons_of_mem _ List.mem_cons_self) ?_
    k_intsEnd
    exact q _ _ (by k_memK) (by assumption)
  | met i j =>
    k_intsEnd
    refine i_plc C (pc.same (by k_memK)) List.mem_cons_self ?_
    k_intsEnd
    refine i_plc C (pc.same (by k_memK)) (List.mem_cons_of_mem _ List.mem_cons_self) ?_
    k_intsEnd
    exact q _ _ (by k_memK) (by assumption)
abbrev s_trimmed_at : Stmt := top 44
theorem sc_trimmed_at : FnScope ["paper", "number", "kept", "places", "elder", "place"] ["paper", "number"] (defScope s_trimmed_at) := sc_by (by decide +kernel)
abbrev sp_trimmed_at : SpG := fun vs H Q => ∃ pp, ∃ (P : List En) (n : Nat), vs = [.ref pp, .int (n : Int)] ∧ LT H pp (P.map enV) ∧ n < P.length ∧ WfP P ∧ P.length ≤ 2000 ∧ ∀ t H2, H t = none → Same H H2 → LT H2 t ((trimK P n).map enV) → Q (.ref t) H2
theorem d_trimmed_at {m : Md} (hs : ∃ f fd, Has m "trimmed_at" s_trimmed_at ["paper", "number"] f fd) (B : Bis m) (D_leaning : Def m "leaning" ["paper", "number"] 1 sp_leaning) (D_renamed : Def m "renamed" ["entry", "places"] 1 sp_renamed) : Def m "trimmed_at" ["paper", "number"] 2 sp_trimmed_at := by
  refine def_of hs sc_trimmed_at (fun vs H Q h => ?_) fun X C fn vs H Q h => ?_
  · obtain ⟨pp, P, n, rfl, ltp, hn, wf, few, q⟩ := h
    rfl
  obtain ⟨pp, P, n, rfl, ltp, hn, wf, few, q⟩ := h
  have n_paper : Nm X "paper" 0 := C.nm rfl (by decide +kernel)
  have n_number : Nm X "number" 1 := C.nm rfl (by decide +kernel)
  have n_kept : Nm X "kept" 2 := C.nm rfl (by decide +kernel)
  have t_kept : Tg X "kept" 2 := C.tg fn rfl (by decide +kernel)
  have n_places : Nm X "places" 3 := C.nm rfl (by decide +kernel)
  have t_places : Tg X "places" 3 := C.tg fn rfl (by decide +kernel)
  have g_leaning : Gl X "leaning" := C.gl (by decide +kernel)
  have g_dict : Gl X "dict" := C.gl (by decide +kernel)
  have b_dict := B.dict
  have g_enumerate : Gl X "enumerate" := C.gl (by decide +kernel)
  have b_enumerate := B.enumerate

  k_intsEnd
  refine ⟨pp, P, n, rfl, ltp, hn, wf, few, fun kr H1 nk s1 hk => ?_⟩
  have kl := sortK_len (n + 1) (leanF P (n + 1) [n])
  have kl2 : (leanK P n).length ≤ n + 1 := kl
  have szl : (leanK P n).length ≤ sizeLine := Nat.le_trans (by omega : (leanK P n).length ≤ 10000) (Nat.le_of_ble_eq_true rfl)
  k_intsEnd
  refine lcT_E [("place", 5), ("elder", 4)] C (by assumption) b_enumerate.free rfl (by decide +kernel) (fun _ => rfl) ?_
  k_intsEnd
  refine ⟨_, _, rfl, hk, by rw [List.length_map]; exact szl, fun i ts => ts = pairsV ((leanK P n).take i), rfl, fun i x T H2 ts hx s2 hT e => ?_, fun D H2 ts nD s2 lt e => ?_⟩
  · subst e
    obtain ⟨a, ha, rfl⟩ := nV_get hx
    refine ⟨[some (.ref pp), some (.int (n : Int)), some (.ref kr), none, some (.int (a : Int)), some (.int (i : Int))], rfl, fun X' B' R r => ?_, fun X' B' => wts_nil ?_⟩
    · have C' := B'.ctx C
      refine wg_T C' rfl hT rfl (wgs_cons rfl (wg_name (C'.tgl (i := 5) rfl (by decide +kernel)) (wgs_cons rfl (wg_name (C'.tgl (i := 4) rfl (by decide +kernel)) (wgs_nil r)))))
    · refine iteT ?_
      intro X3 B3
      have C3 := B3.ctx C
      have n_elder_X3 : Nm X3 "elder" 4 := C3.nm rfl (by decide +kernel)
      have n_place_X3 : Nm X3 "place" 5 := C3.nm rfl (by decide +kernel)
      k_intsEnd
      exact ⟨by k_memK, _, _, rfl, by assumption, (pairsV_take ha).symm⟩
  subst e
  rw [List.length_map, List.take_length] at lt
  obtain ⟨rs, hD, tt⟩ := lt
  k_intsEnd
  refine c_dict C (SqL.of hD) (kvs := kvsOf (leanK P n)) (tups_paired tt) fun r H3 nr s3 hd => ?_
  k_intsEnd
  have pc := plc_dict (pw_nodup (leanK_pw P n)) hd
  have hk3 : H3 kr = some (.lst (nV (leanK P n))) := by k_memK
  have sb : Same H H3 := by k_memK
  refine lcT_L [("elder", 4)] C (by decide +kernel) (fun _ => rfl) ?_
  k_intsEnd
  refine ⟨_, _, rfl, hk3, by rw [List.length_map]; exact szl, fun i ts => ts = ((leanK P n).take i).filterMap fun i => ((P[i]?).map (renE fun j => (leanK P n).idxOf j)).map enV, rfl, fun i x H4 ts hx s4 e => ?_, fun D2 H4 ts nD2 s4 lt4 e => ?_⟩
  · subst e
    obtain ⟨a, ha, rfl⟩ := nV_get hx
    have am : a ∈ leanK P n := List.mem_of_getElem? ha
    have al : a < P.length := by have := leanK_lt am; omega
    have e1 : P[a]? = some P[a] := List.getElem?_eq_getElem al
    have e2 : (P.map enV)[a]? = some (enV P[a]) := by rw [List.getElem?_map, e1]; rfl
    have cl : ∀ j ∈ named P[a], j ∈ leanK P n := fun j hj => leanK_closed wf am (by unfold namedAt; rw [e1]; exact hj)
    obtain ⟨xs, r2, hx2, hxn, hi2, hr2⟩ := (ltp.same (Same.trans sb s4)).at e2
    refine turn_nm (i := 4) C rfl rfl rfl (by decide +kernel) fun X' B' => wts_nil ?_
    refine iteT ?_
    intro X3 B3
    have C3 := B3.ctx C
    have n_elder_X3 : Nm X3 "elder" 4 := C3.nm rfl (by decide +kernel)
    have g_renamed_X3 : Gl X3 "renamed" := C3.gl (by decide +kernel)
    have n_paper_X3 : Nm X3 "paper" 0 := C3.nm rfl (by decide +kernel)
    have n_places_X3 : Nm X3 "places" 3 := C3.nm rfl (by decide +kernel)
    k_intsEnd
    refine ⟨r2, r, P[a], fun j => (leanK P n).idxOf j, rfl, hr2, ?_, fun t H5 s5 ht => ?_⟩
    · rcases pc.same s4 with ⟨ns, q1, q2⟩ | ⟨kvs, q1, q2⟩
      · exact .inl ⟨ns, q1, fun j hj => q2 j (cl j hj)⟩
      · exact .inr ⟨kvs, q1, fun j hj => q2 j (cl j hj)⟩
    · refine ⟨s5, t, _, rfl, ht, ?_⟩
      show _ ++ [_] = ((leanK P n).take (i + 1)).filterMap _
      rw [take_snoc ha, List.filterMap_append, List.filterMap_cons, e1]
      rfl
  · subst e
    rw [List.length_map, List.take_length] at lt4
    refine q _ _ (Same.free sb nD2) (Same.trans sb s4) ?_
    unfold trimK
    rw [List.map_filterMap]
    exact lt4
abbrev s_used_lines : Stmt := top 45
theorem sc_used_lines : FnScope ["book", "paper", "at"] ["book", "paper"] (defScope s_used_lines) := sc_by (by decide +kernel)
abbrev sp_used_lines : SpG := fun vs H Q => ∃ hb pb pr pp, ∃ (R : List Ln) (P : List En) (T : List Ln), vs = [.ref pb, .ref pp] ∧ H pb = some (.tup [.str (ks hb), .ref pr]) ∧ LT H pr (R.map lnV) ∧ LT H pp (P.map enV) ∧ (∀ l ∈ R, LnOk hb l) ∧ (∀ e ∈ P, EnOk e) ∧ R.length ≤ 2000 ∧ P.length ≤ 2000 ∧ linesOf hb R P [] = some T ∧ ∀ t H2, H t = none → Same H H2 → H2 t = some (.lst (nV (usedK R.length P))) → Q (.ref t) H2
theorem d_used_lines {m : Md} (hs : ∃ f fd, Has m "used_lines" s_used_lines ["book", "paper"] f fd) (B : Bis m) (D_check_book : Def m "check_book" ["book"] 7 sp_check_book) (D_check_paper : Def m "check_paper" ["book", "paper"] 10 sp_check_paper) (D_leaning : Def m "leaning" ["paper", "number"] 1 sp_leaning) : Def m "used_lines" ["book", "paper"] 11 sp_used_lines := by
  refine def_of hs sc_used_lines (fun vs H Q h => ?_) fun X C fn vs H Q h => ?_
  · obtain ⟨hb, pb, pr, pp, R, P, T, rfl, hpb, ltr, ltp, okr, oke, few, fewp, hT, q⟩ := h
    rfl
  obtain ⟨hb, pb, pr, pp, R, P, T, rfl, hpb, ltr, ltp, okr, oke, few, fewp, hT, q⟩ := h
  have n_book : Nm X "book" 0 := C.nm rfl (by decide +kernel)
  have n_paper : Nm X "paper" 1 := C.nm rfl (by decide +kernel)
  have g_check_book : Gl X "check_book" := C.gl (by decide +kernel)
  have g_check_paper : Gl X "check_paper" := C.gl (by decide +kernel)
  have g_sorted : Gl X "sorted" := C.gl (by decide +kernel)
  have b_sorted := B.sorted
  have g_set : Gl X "set" := C.gl (by decide +kernel)
  have b_set := B.set
  have g_leaning : Gl X "leaning" := C.gl (by decide +kernel)
  have g_len : Gl X "len" := C.gl (by decide +kernel)
  have b_len := B.len

  have wf := lines_wf hT
  k_intsEnd
  refine ⟨hb, pb, pr, R, rfl, hpb, ltr, okr, Nat.le_trans few (Nat.le_of_ble_eq_true rfl), fun H1 s1 => ?_⟩
  k_intsEnd
  refine ⟨hb, pb, pr, pp, R, P, T, rfl, by k_memK, ltr.same s1, ltp.same s1, okr, oke, Nat.le_trans fewp (Nat.le_of_ble_eq_true rfl), hT, fun t2 H2 n2 s2 l2 => ?_⟩
  k_intsEnd
  rename_i D H3 nD s3 hD
  have sb : Same H H3 := Same.trans s1 (Same.trans s2 s3)
  refine o_eqLT C (ltp.same sb) (LT.nil hD) (papV_ok oke) rfl (papV_is P) rfl ?_
  k_intsEnd
  cases P with
  | nil =>
    refine iteT ?_
    k_intsEnd
    exact q _ _ (Same.free sb (by assumption)) (by k_memK) (by assumption)
  | cons e es =>
    refine iteF ?_
    obtain ⟨xs, hpp, hxl⟩ := ltp.lst
    k_intsEnd
    refine lcF_L [("at", 2)] C (by decide +kernel) (fun _ => rfl) ?_
    k_intsEnd
    have e0 : ((xs.length : Nat) : Int) - 1 = ((es.length : Nat) : Int) := by rw [hxl, List.length_map, List.length_cons]; omega
    rw [e0]
    have fewc : es.length + 1 ≤ 2000 := fewp
    refine ⟨pp, e :: es, es.length, rfl, ltp.same sb, Nat.lt_succ_self _, wf, fewp, fun kr H4 nk s4 hk => ?_⟩
    have kl : (leanK (e :: es) es.length).length ≤ es.length + 1 := sortK_len _ _
    have szl : (leanK (e :: es) es.length).length ≤ sizeLine := Nat.le_trans (by omega : _ ≤ 10000) (Nat.le_of_ble_eq_true rfl)
    refine ⟨_, _, rfl, hk, by rw [List.length_map]; exact szl, fun t acc => acc = nV (((leanK (e :: es) es.length).take t).filterMap (toldAt (e :: es))), rfl, fun t x H5 acc hx s5 ea => ?_, fun D2 H5 acc nD2 s5 hD2 ea => ?_⟩
    · subst ea
      obtain ⟨a, ha, rfl⟩ := nV_get hx
      have am : a ∈ leanK (e :: es) es.length := List.mem_of_getElem? ha
      have al : a < (e :: es).length := by have := leanK_lt am; rw [List.length_cons]; omega
      have e1 : (e :: es)[a]? = some (e :: es)[a] := List.getElem?_eq_getElem al
      have e2 : ((e :: es).map enV)[a]? = some (enV (e :: es)[a]) := by rw [List.getElem?_map, e1]; rfl
      obtain ⟨ys, r2, hx2, hxn, hi2, hr2⟩ := (ltp.same (Same.trans sb (Same.trans s4 s5))).at e2
      generalize hv : (e :: es)[a] = en at *
      refine turn_nm (i := 2) C rfl rfl rfl (by decide +kernel) fun X' B' => wts_one ?_
      have C' := B'.ctx C
      have n_at_Xp : Nm X' "at" 2 := C'.nm rfl (by decide +kernel)
      have n_paper_Xp : Nm X' "paper" 1 := C'.nm rfl (by decide +kernel)
      have fin : ∀ (o : Option Nat), toldAt (e :: es) a = o → nV (((leanK (e :: es) es.length).take t).filterMap (toldAt (e :: es))) ++ nV o.toList = nV (((leanK (e :: es) es.length).take (t + 1)).filterMap (toldAt (e :: es))) := by
        intro o ho
        rw [take_snoc ha, List.filterMap_append, List.filterMap_cons, ho, ← nV_app]
        cases o <;> rfl
      cases en with
      | told j =>
        k_intsEnd
        intro X3 B3
        have C3 := B3.ctx C
        have n_at_X3 : Nm X3 "at" 2 := C3.nm rfl (by decide +kernel)
        have n_paper_X3 : Nm X3 "paper" 1 := C3.nm rfl (by decide +kernel)
        k_intsEnd
        exact ⟨Same.refl _, fin (some j) (by unfold toldAt; rw [e1])⟩
      | _ =>
        k_intsEnd
        exact ⟨Same.refl _, fin none (by unfold toldAt; rw [e1])⟩
    · subst ea
      rw [List.length_map, List.take_length, nV_ints] at hD2
      k_intsEnd
      have fl := List.length_filterMap_le (toldAt (e :: es)) (leanK (e :: es) es.length)
      refine c_set C (SqL.of hD2) (by rw [List.length_map]; omega) fun r1 H6 c1 nr1 s6 h1 => ?_
      k_intsEnd
      refine c_sortedSet C h1 fun r2 H7 ns nr2 s7 h2 pw mem => ?_
      rw [sorted_is pw mem (told_bds hT)] at h2
      exact q _ _ (Same.free (Same.trans sb (Same.trans s4 (Same.trans s5 s6))) nr2) (Same.trans sb (Same.trans s4 (Same.trans s5 (Same.trans s6 s7)))) h2
abbrev s_trimmed : Stmt := top 46
theorem sc_trimmed : FnScope ["book", "paper"] ["book", "paper"] (defScope s_trimmed) := sc_by (by decide +kernel)
abbrev sp_trimmed : SpG := fun vs H Q => ∃ hb pb pr pp, ∃ (R : List Ln) (P : List En) (T : List Ln), vs = [.ref pb, .ref pp] ∧ H pb = some (.tup [.str (ks hb), .ref pr]) ∧ LT H pr (R.map lnV) ∧ LT H pp (P.map enV) ∧ (∀ l ∈ R, LnOk hb l) ∧ (∀ e ∈ P, EnOk e) ∧ R.length ≤ 2000 ∧ P.length ≤ 2000 ∧ linesOf hb R P [] = some T ∧ ∀ t H2, H t = none → Same H H2 → LT H2 t ((trimmedK P).map enV) → Q (.ref t) H2
theorem d_trimmed {m : Md} (hs : ∃ f fd, Has m "trimmed" s_trimmed ["book", "paper"] f fd) (B : Bis m) (D_check_book : Def m "check_book" ["book"] 7 sp_check_book) (D_check_paper : Def m "check_paper" ["book", "paper"] 10 sp_check_paper) (D_trimmed_at : Def m "trimmed_at" ["paper", "number"] 2 sp_trimmed_at) : Def m "trimmed" ["book", "paper"] 11 sp_trimmed := by
  refine def_of hs sc_trimmed (fun vs H Q h => ?_) fun X C fn vs H Q h => ?_
  · obtain ⟨hb, pb, pr, pp, R, P, T, rfl, hpb, ltr, ltp, okr, oke, few, fewp, hT, q⟩ := h
    rfl
  obtain ⟨hb, pb, pr, pp, R, P, T, rfl, hpb, ltr, ltp, okr, oke, few, fewp, hT, q⟩ := h
  have n_book : Nm X "book" 0 := C.nm rfl (by decide +kernel)
  have n_paper : Nm X "paper" 1 := C.nm rfl (by decide +kernel)
  have g_check_book : Gl X "check_book" := C.gl (by decide +kernel)
  have g_check_paper : Gl X "check_paper" := C.gl (by decide +kernel)
  have g_trimmed_at : Gl X "trimmed_at" := C.gl (by decide +kernel)
  have g_len : Gl X "len" := C.gl (by decide +kernel)
  have b_len := B.len

  have wf := lines_wf hT
  k_intsEnd
  refine ⟨hb, pb, pr, R, rfl, hpb, ltr, okr, Nat.le_trans few (Nat.le_of_ble_eq_true rfl), fun H1 s1 => ?_⟩
  k_intsEnd
  refine ⟨hb, pb, pr, pp, R, P, T, rfl, by k_memK, ltr.same s1, ltp.same s1, okr, oke, Nat.le_trans fewp (Nat.le_of_ble_eq_true rfl), hT, fun t2 H2 n2 s2 l2 => ?_⟩
  k_intsEnd
  rename_i D H3 nD s3 hD
  have sb : Same H H3 := Same.trans s1 (Same.trans s2 s3)
  refine o_eqLT C (ltp.same sb) (LT.nil hD) (papV_ok oke) rfl (papV_is P) rfl ?_
  k_intsEnd
  cases P with
  | nil =>
    refine iteT ?_
    k_intsEnd
    exact q _ _ (Same.free sb (by assumption)) (by k_memK) (LT.nil (by assumption))
  | cons e es =>
    refine iteF ?_
    obtain ⟨xs, hpp, hxl⟩ := ltp.lst
    k_intsEnd
    have e0 : ((xs.length : Nat) : Int) - 1 = ((es.length : Nat) : Int) := by rw [hxl, List.length_map, List.length_cons]; omega
    rw [e0]
    refine ⟨pp, e :: es, es.length, rfl, ltp.same sb, Nat.lt_succ_self _, wf, fewp, fun kr H4 nk s4 hk => ?_⟩
    exact q _ _ (Same.free sb nk) (Same.trans sb s4) hk
/-! # D8 -/
abbrev s_check_papers : Stmt := top 47
theorem sc_check_papers : FnScope ["book", "papers", "found", "paper", "told"] ["book", "papers"] (defScope s_check_papers) := sc_by (by decide +kernel)
abbrev sp_check_papers : SpG := fun vs H Q => ∃ hb pb pr ps, ∃ (R : List Ln) (Ps : List (List En)) (Ts : List (List Ln)) (Ls : List Ln), vs = [.ref pb, .ref ps] ∧ H pb = some (.tup [.str (ks hb), .ref pr]) ∧ LT H pr (R.map lnV) ∧ LLT H ps (Ps.map (·.map enV)) ∧ (∀ l ∈ R, LnOk hb l) ∧ (∀ P ∈ Ps, (∀ e ∈ P, EnOk e) ∧ P.length ≤ 2000) ∧ Ps.length ≤ 2000 ∧ Ps.map (fun P => linesOf hb R P []) = Ts.map some ∧ Ts.map List.getLast? = Ls.map some ∧ ∀ t H2, H t = none → Same H H2 → LT H2 t (Ls.map lnV) → Q (.ref t) H2
theorem d_check_papers {m : Md} (hs : ∃ f fd, Has m "check_papers" s_check_papers ["book", "papers"] f fd) (B : Bis m) (D_lines_in : Def m "lines_in" ["book", "value"] 9 sp_lines_in) : Def m "check_papers" ["book", "papers"] 10 sp_check_papers := by
  refine def_of hs sc_check_papers (fun vs H Q h => ?_) fun X C fn vs H Q h => ?_
  · obtain ⟨hb, pb, pr, ps, R, Ps, Ts, Ls, rfl, hpb, ltr, llt, okr, okp, few, hT, hL, q⟩ := h
    rfl
  obtain ⟨hb, pb, pr, ps, R, Ps, Ts, Ls, rfl, hpb, ltr, llt, okr, okp, few, hT, hL, q⟩ := h
  have n_book : Nm X "book" 0 := C.nm rfl (by decide +kernel)
  have n_papers : Nm X "papers" 1 := C.nm rfl (by decide +kernel)
  have n_found : Nm X "found" 2 := C.nm rfl (by decide +kernel)
  have t_found : Tg X "found" 2 := C.tg fn rfl (by decide +kernel)
  have g_isinstance : Gl X "isinstance" := C.gl (by decide +kernel)
  have b_isinstance := B.isinstance
  have g_list : Gl X "list" := C.gl (by decide +kernel)
  have b_list := B.list
  have g_InvalidPaper : Gl X "InvalidPaper" := C.gl (by decide +kernel)

  obtain ⟨rs, hps, lls⟩ := llt
  have szl : Ps.length ≤ sizeLine := Nat.le_trans few (Nat.le_of_ble_eq_true rfl)
  have lenr : (rs.map V.ref).length = Ps.length := by rw [List.length_map, lls.len, List.length_map]
  have lenT : Ps.length = Ts.length := by have := congrArg List.length hT; simpa using this
  k_intsEnd
  refine slcLL_L [("paper", 3)] C (ix := 2) rfl (by decide +kernel) rfl rfl rfl (by decide +kernel) (fun _ => rfl) ?_
  k_intsEnd
  refine ⟨_, _, rfl, hps, by rw [lenr]; exact szl, fun i tss => tss = (Ts.take i).map (·.map lnV), rfl, fun i x H2 tss hx s2 e => ?_, fun D H2 tss nD s2 hD e => ?_⟩
  · subst e
    obtain ⟨r, ts, rfl, hts, ltx⟩ := lls.get hx
    rw [List.getElem?_map] at hts
    obtain ⟨P, hP, rfl⟩ := Option.map_eq_some_iff.mp hts
    have hpm := okp P (List.mem_of_getElem? hP)
    have hTi : (Ps.map fun P => linesOf hb R P [])[i]? = some (linesOf hb R P []) := by rw [List.getElem?_map, hP]; rfl
    rw [hT, List.getElem?_map] at hTi
    obtain ⟨T, hTi, hTe⟩ := Option.map_eq_some_iff.mp hTi
    refine turn_nm (i := 3) C rfl rfl rfl (by decide +kernel) fun X' B' => wts_nil ?_
    refine iteT ?_
    intro X3 B3
    have C3 := B3.ctx C
    have n_paper_X3 : Nm X3 "paper" 3 := C3.nm rfl (by decide +kernel)
    have n_book_X3 : Nm X3 "book" 0 := C3.nm rfl (by decide +kernel)
    have g_lines_in_X3 : Gl X3 "lines_in" := C3.gl (by decide +kernel)
    k_intsEnd
    refine ⟨hb, pb, pr, r, R, P, T, rfl, by k_memK, ltr.same s2, ltx.same s2, okr, hpm.1, Nat.le_trans hpm.2 (Nat.le_of_ble_eq_true rfl), hTe.symm, fun t H3 nt s3 lt3 => ?_⟩
    refine ⟨s3, t, _, rfl, nt, lt3, ?_⟩
    show _ ++ [_] = (Ts.take (i + 1)).map _
    rw [take_snoc hTi, List.map_append]
    rfl
  subst e
  rw [lenr, lenT, List.take_length] at hD
  have okTs : okTT (Ts.map (·.map lnV)) := by
    intro ts hts
    obtain ⟨T, hTm, rfl⟩ := List.mem_map.mp hts
    obtain ⟨P, hPm, hPT⟩ := List.mem_map.mp (hT ▸ List.mem_map.mpr ⟨T, hTm, rfl⟩ : some T ∈ Ps.map fun P => linesOf hb R P [])
    exact lnVs_ok (linesOf_ok okr (fun _ h => by cases h) (okp P hPm).1 hPT)
  have ne : ∀ ts ∈ Ts.map (·.map lnV), ts ≠ [] := by
    intro ts hts e
    obtain ⟨T, hTm, rfl⟩ := List.mem_map.mp hts
    have e2 : T = [] := List.map_eq_nil_iff.mp e
    obtain ⟨l, _, hl⟩ := List.mem_map.mp (hL ▸ List.mem_map.mpr ⟨T, hTm, rfl⟩ : T.getLast? ∈ Ls.map some)
    rw [e2] at hl
    cases hl
  k_intsEnd
  refine o_inNone C hD okTs ?_
  k_intsEnd
  refine o_inNil C (hD.same (by assumption)) (by assumption) okTs ne ?_
  k_intsEnd
  rename_i D3 H3 nD3 s3 hD3
  have hD2 := hD.same s3
  obtain ⟨rs2, hf, lls2⟩ := hD2
  have lenr2 : (rs2.map V.ref).length = Ts.length := by rw [List.length_map, lls2.len, List.length_map]
  refine lcT_L [("told", 4)] C (by decide +kernel) (fun _ => rfl) ?_
  k_intsEnd
  refine ⟨_, _, rfl, hf, by rw [lenr2, ← lenT]; exact szl, fun i ts => ts = (Ls.take i).map lnV, rfl, fun i x H4 ts hx s4 e => ?_, fun D4 H4 ts nD4 s4 hD4 e => ?_⟩
  · subst e
    obtain ⟨r, ts, rfl, hts, ltx⟩ := lls2.get hx
    rw [List.getElem?_map] at hts
    obtain ⟨T, hTi, rfl⟩ := Option.map_eq_some_iff.mp hts
    have hLi : (Ts.map List.getLast?)[i]? = some T.getLast? := by rw [List.getElem?_map, hTi]; rfl
    rw [hL, List.getElem?_map] at hLi
    obtain ⟨l, hLi, hle⟩ := Option.map_eq_some_iff.mp hLi
    obtain ⟨ys, r2, hr, hyl, hlast, ht2⟩ := (ltx.same s4).last (t := lnV l) (by rw [List.getLast?_map, ← hle]; rfl)
    refine turn_nm (i := 4) C rfl rfl rfl (by decide +kernel) fun X' B' => wts_nil ?_
    refine iteT ?_
    intro X3 B3
    have C3 := B3.ctx C
    have n_told_X3 : Nm X3 "told" 4 := C3.nm rfl (by decide +kernel)
    k_intsEnd
    refine i_L C3 hr (atI_last hlast) ?_
    refine ⟨Same.refl _, r2, _, rfl, ht2, ?_⟩
    show _ ++ [_] = (Ls.take (i + 1)).map _
    rw [take_snoc hLi, List.map_append]
    rfl
  · subst e
    have lenL : Ts.length = Ls.length := by have := congrArg List.length hL; simpa using this
    rw [lenr2, lenL, List.take_length] at hD4
    have sb : Same H H3 := Same.trans s2 s3
    exact q _ _ (Same.free sb nD4) (Same.trans sb s4) hD4
/-! # D9 -/
abbrev s_put_through : Stmt := top 48
theorem sc_put_through : FnScope ["book", "papers", "paper", "inner", "found", "lasts", "given", "places", "entry", "place"] ["book", "papers", "paper"] (defScope s_put_through) := sc_by (by decide +kernel)
abbrev sp_put_through : SpG := fun vs H Q => ∃ hb pb pr ps pp, ∃ (R : List Ln) (Ps : List (List En)) (Ts : List (List Ln)) (Ls : List Ln) (P : List En) (TP : List Ln), vs = [.ref pb, .ref ps, .ref pp] ∧ H pb = some (.tup [.str (ks hb), .ref pr]) ∧ LT H pr (R.map lnV) ∧ LLT H ps (Ps.map (·.map enV)) ∧ LT H pp (P.map enV) ∧ (∀ l ∈ R, LnOk hb l) ∧ R.length ≤ 2000 ∧ (∀ P ∈ Ps, ∀ e ∈ P, EnOk e) ∧ Ps.length ≤ 2000 ∧ (∀ e ∈ P, EnOk e) ∧ (Ps.map List.length).sum + P.length ≤ 2000 ∧ Ps.map (fun P => linesOf hb R P []) = Ts.map some ∧ Ts.map List.getLast? = Ls.map some ∧ linesOf hb Ls P [] = some TP ∧ ∀ t H2, H t = none → Same H H2 → LT H2 t ((putK Ps P).map enV) → Q (.ref t) H2
theorem d_put_through {m : Md} (hs : ∃ f fd, Has m "put_through" s_put_through ["book", "papers", "paper"] f fd) (B : Bis m) (D_check_book : Def m "check_book" ["book"] 7 sp_check_book) (D_check_paper : Def m "check_paper" ["book", "paper"] 10 sp_check_paper) (D_check_papers : Def m "check_papers" ["book", "papers"] 10 sp_check_papers) (D_trimmed_at : Def m "trimmed_at" ["paper", "number"] 2 sp_trimmed_at) (D_renamed : Def m "renamed" ["entry", "places"] 1 sp_renamed) : Def m "put_through" ["book", "papers", "paper"] 11 sp_put_through := by
  refine def_of hs sc_put_through (fun vs H Q h => ?_) fun X C fn vs H Q h => ?_
  · obtain ⟨hb, pb, pr, ps, pp, R, Ps, Ts, Ls, P, TP, rfl, hpb, ltr, llt, ltp, okr, fewr, okp, few, oke, tot, hT, hL, hTP, q⟩ := h
    rfl
  obtain ⟨hb, pb, pr, ps, pp, R, Ps, Ts, Ls, P, TP, rfl, hpb, ltr, llt, ltp, okr, fewr, okp, few, oke, tot, hT, hL, hTP, q⟩ := h
  have n_book : Nm X "book" 0 := C.nm rfl (by decide +kernel)
  have n_papers : Nm X "papers" 1 := C.nm rfl (by decide +kernel)
  have n_paper : Nm X "paper" 2 := C.nm rfl (by decide +kernel)
  have n_inner : Nm X "inner" 3 := C.nm rfl (by decide +kernel)
  have t_inner : Tg X "inner" 3 := C.tg fn rfl (by decide +kernel)
  have n_found : Nm X "found" 4 := C.nm rfl (by decide +kernel)
  have t_found : Tg X "found" 4 := C.tg fn rfl (by decide +kernel)
  have n_lasts : Nm X "lasts" 5 := C.nm rfl (by decide +kernel)
  have t_lasts : Tg X "lasts" 5 := C.tg fn rfl (by decide +kernel)
  have n_given : Nm X "given" 6 := C.nm rfl (by decide +kernel)
  have t_given : Tg X "given" 6 := C.tg fn rfl (by decide +kernel)
  have n_places : Nm X "places" 7 := C.nm rfl (by decide +kernel)
  have t_places : Tg X "places" 7 := C.tg fn rfl (by decide +kernel)
  have n_entry : Nm X "entry" 8 := C.nm rfl (by decide +kernel)
  have t_entry : Tg X "entry" 8 := C.tg fn rfl (by decide +kernel)
  have g_check_book : Gl X "check_book" := C.gl (by decide +kernel)
  have g_check_papers : Gl X "check_papers" := C.gl (by decide +kernel)
  have g_check_paper : Gl X "check_paper" := C.gl (by decide +kernel)
  have g_range : Gl X "range" := C.gl (by decide +kernel)
  have b_range := B.range
  have g_len : Gl X "len" := C.gl (by decide +kernel)
  have b_len := B.len
  have g_renamed : Gl X "renamed" := C.gl (by decide +kernel)
  have g_trimmed_at : Gl X "trimmed_at" := C.gl (by decide +kernel)

  have sz : ∀ {n : Nat}, n ≤ 100000 → n ≤ sizeLine := fun h => Nat.le_trans h (Nat.le_of_ble_eq_true rfl)
  have plen : ∀ P ∈ Ps, P.length ≤ 2000 := fun P hP => by have := len_sum hP; omega
  have lenT : Ps.length = Ts.length := by have := congrArg List.length hT; simpa using this
  have lenL : Ts.length = Ls.length := by have := congrArg List.length hL; simpa using this
  have okL : ∀ l ∈ Ls, LnOk hb l := lasts_ok okr okp hT hL
  obtain ⟨TF0, g1, g2, g3⟩ := gather_ok (last_maps hT hL) (F := []) (Ls := []) (TF := []) (L0 := []) (rows := R) (hb := hb) rfl rfl (fun k l h => by cases h)
  obtain ⟨TF1, i1, i2, i3⟩ := inner_ok (Pl := []) (TL := []) hTP g1 rfl (fun k l h => g3 k l (by rw [List.nil_append]; exact h)) (fun k l h => by cases h)
  have wfP := lines_wf hTP
  have gl := gather_len Ps ([], [])
  obtain ⟨il1, il2⟩ := inner_len (gatherK Ps).2 P ((gatherK Ps).1, [])
  k_intsEnd
  refine ⟨hb, pb, pr, R, rfl, hpb, ltr, okr, sz (by omega), fun H1 s1 => ?_⟩
  k_intsEnd
  refine ⟨hb, pb, pr, ps, R, Ps, Ts, Ls, rfl, by k_memK, ltr.same s1, llt.same s1, okr, fun P hP => ⟨okp P hP, plen P hP⟩, few, hT, hL, fun pl H2 npl s2 ltl => ?_⟩
  k_intsEnd
  rename_i pi H3 npi s3 hpi
  refine ⟨hb, pi, pl, pp, Ls, P, TP, rfl, hpi, ltl.same s3, ltp.same (Same.trans s1 (Same.trans s2 s3)), okL, oke, sz (by omega), hTP, fun t4 H4 nt4 s4 lt4 => ?_⟩
  have sA : Same H H4 := Same.trans s1 (Same.trans s2 (Same.trans s3 s4))
  k_intsEnd
  rename_i fr H5 nfr s5 hfr L H6 nL s6 hL6 tu H7 ntu s7 htu
  have neL : fr ≠ L := fun e => by rw [e, nL] at hfr; cases hfr
  have s56 : Same H H7 := Same.trans sA (Same.trans s5 (Same.trans s6 s7))
  have nfr0 : H fr = none := Same.free sA nfr
  have nL0 : H L = none := Same.free (Same.trans sA s5) nL
  have hfr6 := s7 _ _ (s6 _ _ hfr)
  have hL6 := s7 _ _ hL6
  obtain ⟨rs, hps, lls⟩ := llt
  have lenr : (rs.map V.ref).length = Ps.length := by rw [List.length_map, lls.len, List.length_map]
  clear s1 s2 s3 s4 s5 s6 s7 sA ltl lt4 hpi nt4 npi npl nfr nL hfr ntu htu
  refine ws_forL C (fun _ => rfl) ?_
  k_intsEnd
  refine ⟨_, _, rfl, SqL.of (s56 _ _ hps), fun i σ H' => Same H H' ∧ ∃ (F : List En) (Lx : List Nat) (fr : Addr) (u v w x : Option V), H fr = none ∧ fr ≠ L ∧ LT H' fr (F.map enV) ∧ H' L = some (.lst (nV Lx)) ∧ (Ps.take i).foldl gstep ([], []) = (F, Lx) ∧ Lx.length = i ∧ σ = [some (.ref pb), some (.ref ps), some (.ref pp), some (.ref pi), some (.ref fr), some (.ref L), u, v, w, x], ⟨s56, [], [], fr, none, none, none, none, nfr0, neL, LT.nil hfr6, hL6, rfl, rfl, rfl⟩, fun i σ H' p => SqL.of (p.1 _ _ hps), ?_, ?_⟩
  · rintro i x σ H' hx ⟨s1, F, Lx, fr, u, v, w, x1, nfr, neL, ltf, hLx, hfold, hlen, rfl⟩
    obtain ⟨r, ts, rfl, hts, ltx⟩ := lls.get hx
    rw [List.getElem?_map] at hts
    obtain ⟨G, hG, rfl⟩ := Option.map_eq_some_iff.mp hts
    have gm := List.mem_of_getElem? hG
    have gl2 := plen G gm
    obtain ⟨TG, hTG⟩ := told_some hT gm
    have wfG := lines_wf hTG
    have gne : G.length ≠ 0 := last_ne hT hL gm
    have li : i < Ps.length := (List.getElem?_eq_some_iff.mp hG).1
    have flen : F.length + G.length ≤ 2000 := by
      have h1 := gather_len (Ps.take i) ([], [])
      rw [hfold] at h1
      have h2 := sum_take hG
      have h3 : F.length = ([] : List En).length + ((Ps.take i).map List.length).sum := h1
      rw [List.length_nil] at h3
      omega
    obtain ⟨xf, hxf, hxfl⟩ := ltf.lst
    rw [List.length_map] at hxfl
    obtain ⟨xg, hxg, hxgl⟩ := (ltx.same s1).lst
    rw [List.length_map] at hxgl
    k_intsEnd
    refine ws_setC C t_places (by decide +kernel) ?_
    refine lcF_R [("place", 9)] C (by assumption) b_range.free rfl (by decide +kernel) (fun _ => rfl) ?_
    k_intsEnd
    refine ⟨sz (by omega), fun t acc => acc = nV ((List.range t).map fun i => F.length + i), rfl, fun t H2 acc ht s2 e => ?_, fun D H2 acc nD s2 hD e => ?_⟩
    · subst e
      refine turn_nm (i := 9) C rfl rfl rfl (by decide +kernel) fun X' B' => wts_nil ?_
      refine iteT ?_
      intro X3 B3
      have C3 := B3.ctx C
      have n_place_X3 : Nm X3 "place" 9 := C3.nm rfl (by decide +kernel)
      have n_found_X3 : Nm X3 "found" 4 := C3.nm rfl (by decide +kernel)
      have g_len_X3 : Gl X3 "len" := C3.gl (by decide +kernel)
      k_intsEnd
      refine ⟨Same.refl _, ?_⟩
      show nV _ ++ [V.int _] = nV ((List.range (t + 1)).map _)
      rw [hxfl, List.range_succ, List.map_append, nV_app]
      rfl
    subst e
    have nDL : D ≠ L := fun e => by rw [e, hLx] at nD; cases nD
    k_intsEnd
    have ltg2 := ltx.same (Same.trans s1 s2)
    obtain ⟨rg, hrg, tg⟩ := ltg2
    refine lcT_L [("entry", 8)] C (by decide +kernel) (fun _ => rfl) ?_
    k_intsEnd
    refine ⟨_, _, rfl, hrg, sz (by rw [List.length_map, tg.len, List.length_map]; omega), fun t ts => ts = ((G.take t).map (renE fun j => F.length + j)).map enV, rfl, fun t x H4 ts hx s4 e => ?_, fun D2 H4 ts nD2 s4 lt4 e => ?_⟩
    · subst e
      obtain ⟨r2, en, rfl, hen, hr2⟩ := tups_map tg hx
      refine turn_nm (i := 8) C rfl rfl rfl (by decide +kernel) fun X' B' => wts_nil ?_
      refine iteT ?_
      intro X3 B3
      have C3 := B3.ctx C
      have n_entry_X3 : Nm X3 "entry" 8 := C3.nm rfl (by decide +kernel)
      have n_places_X3 : Nm X3 "places" 7 := C3.nm rfl (by decide +kernel)
      have g_renamed_X3 : Gl X3 "renamed" := C3.gl (by decide +kernel)
      k_intsEnd
      refine ⟨r2, D, en, fun j => F.length + j, rfl, s4 _ _ hr2, .inl ⟨_, s4 _ _ hD, fun j hj => ns_shift ?_⟩, fun t5 H5 s5 ht5 => ?_⟩
      · have := wfG t en hen j hj
        have := (List.getElem?_eq_some_iff.mp hen).1
        omega
      · refine ⟨s5, t5, _, rfl, ht5, ?_⟩
        show _ ++ [_] = ((G.take (t + 1)).map _).map enV
        rw [take_snoc hen, List.map_append, List.map_append]
        rfl
    subst e
    rw [List.length_map, tg.len, List.length_map, List.take_length] at lt4
    obtain ⟨rd, hrd, td⟩ := lt4
    have hxf4 := s4 _ _ (s2 _ _ hxf)
    have lt4 : LT H4 D2 ((G.map (renE fun j => F.length + j)).map enV) := ⟨rd, hrd, td⟩
    refine o_cat hxf4 hrd (sz (by rw [List.length_map, td.len, List.length_map, List.length_map]; omega)) fun r5 H5 nr5 s5 h5 => ?_
    have sb5 : Same H H5 := Same.trans s1 (Same.trans s2 (Same.trans s4 s5))
    have hL5 : H5 L = some (.lst (nV Lx)) := s5 _ _ (s4 _ _ (s2 _ _ hLx))
    have ltn := LT.app ((ltf.same (Same.trans s2 (Same.trans s4 s5)))) (lt4.same s5) (s5 _ _ hxf4) (s5 _ _ hrd) h5
    rw [← List.map_append] at ltn
    have ne5 : r5 ≠ L := fun e => by rw [e, s4 _ _ (s2 _ _ hLx)] at nr5; cases nr5
    have nr0 : H r5 = none := Same.free (Same.trans s1 (Same.trans s2 s4)) nr5
    k_intsEnd
    refine ⟨L, nV Lx, rfl, hL5, ?_⟩
    k_intsEnd
    refine ⟨nV Lx, hL5, by rw [List.length_map, hlen]; exact Nat.lt_of_lt_of_le li (sz (by omega)), ?_⟩
    have ev : (((xf ++ rd.map V.ref).length : Nat) : Int) - 1 = ((F.length + G.length - 1 : Nat) : Int) := by
      rw [List.length_append, List.length_map, td.len, List.length_map, List.length_map, hxfl]; omega
    rw [ev]
    k_intsEnd
    refine ⟨Same.put sb5 nL0, F ++ G.map (renE fun j => F.length + j), Lx ++ [F.length + G.length - 1], r5, _, _, _, _, nr0, ne5, ltn.putNe ne5 hL5, by rw [upd_same, nV_snoc], ?_, by rw [List.length_append, hlen]; rfl, rfl⟩
    rw [take_fold hG, hfold]
    rfl
  · rintro σ H' ⟨s1, F, Lx, fr, u, v, w, x1, nfr, neL, ltf, hLx, hfold, hlen, rfl⟩
    rw [lenr, List.take_length] at hfold
    have hg : gatherK Ps = (F, Lx) := hfold
    rw [lenr] at hlen
    k_intsEnd
    rename_i pq H2 npq s2 hpq
    have ltf2 := ltf.same s2
    have hLx2 := s2 _ _ hLx
    have s12 : Same H H2 := Same.trans s1 s2
    have neP : fr ≠ pq := fun e => by obtain ⟨xs, q1, _⟩ := ltf.lst; rw [e, npq] at q1; cases q1
    have neLP : L ≠ pq := fun e => by rw [e, npq] at hLx; cases hLx
    have npq0 : H pq = none := Same.free s1 npq
    rw [show Ps.foldl gstep ([], []) = (F, Lx) from hg] at g1 g2 g3 i1 i2 i3
    rw [hg] at il1 il2
    have gl3 : F.length = 0 + (Ps.map List.length).sum := by have := gl; rw [show Ps.foldl gstep ([], []) = (F, Lx) from hg] at this; exact this
    obtain ⟨rp, hpp, tp⟩ := ltp
    refine ws_forL C (fun _ => rfl) ?_
    k_intsEnd
    refine ⟨_, _, rfl, SqL.of (s12 _ _ hpp), fun i σ H' => Same H H' ∧ ∃ (F1 : List En) (Pl : List Nat) (u1 v1 w1 : Option V), LT H' fr (F1.map enV) ∧ H' L = some (.lst (nV Lx)) ∧ H' pq = some (.lst (nV Pl)) ∧ (P.take i).foldl (istep Lx) (F, []) = (F1, Pl) ∧ σ = [some (.ref pb), some (.ref ps), some (.ref pp), some (.ref pi), some (.ref fr), some (.ref L), u1, some (.ref pq), v1, w1], ⟨s12, F, [], u, w, x1, ltf2, hLx2, hpq, rfl, rfl⟩, fun i σ H' p => SqL.of (p.1 _ _ hpp), ?_, ?_⟩
    · rintro i x σ H' hx ⟨s1, F1, Pl, u1, v1, w1, ltf, hLx, hpq, hfold, rfl⟩
      obtain ⟨r, e, rfl, he, hr⟩ := tups_map tp hx
      have li : i < P.length := (List.getElem?_eq_some_iff.mp he).1
      have hr' := s1 _ _ hr
      have lens := inner_len Lx (P.take i) (F, [])
      rw [hfold, List.length_take, Nat.min_eq_left (Nat.le_of_lt li)] at lens
      have lenP : Pl.length = i := by have := lens.2; simpa using this
      have lenF : F1.length ≤ F.length + i := lens.1
      have low : ∀ j ∈ named e, Pl[j]? = some (Pl.getD j 0) := fun j hj => by
        have hj2 := wfP i e he j hj
        rw [List.getD_eq_getElem?_getD, List.getElem?_eq_getElem (by omega)]; rfl
      obtain ⟨xf, hxf, hxfl⟩ := ltf.lst
      rw [List.length_map] at hxfl
      have nxt := take_fold (f := istep Lx) (s := (F, ([] : List Nat))) he
      rw [hfold] at nxt
      cases e with
      | told j =>
        have hj : j < Ls.length := told_bd hTP i j he
        have hjx : Lx[j]? = some (Lx.getD j 0) := by
          have := g2
          rw [List.getD_eq_getElem?_getD, List.getElem?_eq_getElem (by simp at this; omega)]; rfl
        have hjv : (nV Lx)[j]? = some (V.int ((Lx.getD j 0 : Nat) : Int)) := by rw [List.getElem?_map, hjx]; rfl
        k_intsEnd
        refine ⟨pq, nV Pl, rfl, hpq, ?_⟩
        k_intsEnd
        refine ⟨nV Pl, hpq, Nat.lt_of_lt_of_le (by rw [List.length_map, lenP]; exact li) (sz (n := P.length) (by omega)), ?_⟩
        k_intsEnd
        refine ⟨Same.put s1 npq0, F1, Pl ++ [Lx.getD j 0], _, _, _, ltf.putNe neP hpq, by rw [upd_ne neLP]; exact hLx, by rw [upd_same, nV_snoc], nxt, rfl⟩
      | _ =>
        k_intsEnd
        refine ⟨fr, xf, rfl, hxf, ?_⟩
        k_intsEnd
        refine ⟨r, pq, _, fun j => Pl.getD j 0, rfl, hr', .inl ⟨Pl, hpq, low⟩, fun t H3 s3 ht => ?_⟩
        k_intsEnd
        have hxf3 := s3 _ _ hxf
        refine ⟨xf, hxf3, Nat.lt_of_lt_of_le (by omega : xf.length < 3000) (sz (by omega)), ?_⟩
        have ltn := LT.snoc (ltf.same s3) hxf3 ht
        have hpq4 : upd H3 fr (.lst (xf ++ [V.ref t])) pq = some (.lst (nV Pl)) := by rw [upd_ne (Ne.symm neP)]; exact s3 _ _ hpq
        have hLx4 : upd H3 fr (.lst (xf ++ [V.ref t])) L = some (.lst (nV Lx)) := by rw [upd_ne (Ne.symm neL)]; exact s3 _ _ hLx
        have sb4 : Same H (upd H3 fr (.lst (xf ++ [V.ref t]))) := Same.put (Same.trans s1 s3) nfr
        have hfr4 : upd H3 fr (.lst (xf ++ [V.ref t])) fr = some (.lst (xf ++ [V.ref t])) := upd_same
        generalize upd H3 fr (.lst (xf ++ [V.ref t])) = H4 at *
        k_intsEnd
        refine ⟨pq, nV Pl, rfl, hpq4, ?_⟩
        k_intsEnd
        refine ⟨nV Pl, hpq4, Nat.lt_of_lt_of_le (by rw [List.length_map, lenP]; exact li) (sz (n := P.length) (by omega)), ?_⟩
        have ev : (((xf ++ [V.ref t]).length : Nat) : Int) - 1 = ((F1.length : Nat) : Int) := by
          rw [List.length_append, hxfl]; show ((F1.length + 1 : Nat) : Int) - 1 = _; omega
        rw [ev]
        k_intsEnd
        rw [← List.map_singleton, ← List.map_append] at ltn
        exact ⟨Same.put sb4 npq0, _, Pl ++ [F1.length], _, _, _, ltn.putNe neP hpq4, by rw [upd_ne neLP]; exact hLx4, by rw [upd_same, nV_snoc], nxt, rfl⟩
    · rintro σ H' ⟨s1, F1, Pl, u1, v1, w1, ltf, hLx, hpq, hfold, rfl⟩
      rw [List.length_map, tp.len, List.length_map, List.take_length] at hfold
      have hin : innerK Lx F P = (F1, Pl) := hfold
      rw [hfold] at i1 i2 i3 il1 il2
      k_intsEnd
      refine o_eqLT C (LT.same ⟨rp, hpp, tp⟩ (Same.trans s1 (by assumption))) (LT.nil (by assumption)) (papV_ok oke) rfl (papV_is P) rfl ?_
      rename_i D4 H4 nD4 s4 hD4
      k_intsEnd
      have s14 : Same H H4 := Same.trans s1 s4
      have pk : putK Ps P = match P with
        | [] => []
        | e :: es => trimK F1 (Pl.getLastD 0) := by
        cases P with
        | nil => rfl
        | cons e es =>
          show trimK (innerK (gatherK Ps).2 (gatherK Ps).1 (e :: es)).1 ((innerK (gatherK Ps).2 (gatherK Ps).1 (e :: es)).2.getLastD 0) = _
          rw [hg, hin]
      cases P with
      | nil =>
        refine iteT ?_
        k_intsEnd
        exact q _ _ (Same.free s14 (by assumption)) (by k_memK) (LT.nil (by assumption))
      | cons e es =>
        refine iteF ?_
        k_intsEnd
        have lTP := linesOf_len hTP
        have lT2 : TP.length = es.length + 1 := by rw [lTP]; exact Nat.zero_add _
        obtain ⟨n, p1, p2⟩ := i3 es.length TP[es.length] (List.getElem?_eq_getElem (by omega))
        have lP : Pl.length = es.length + 1 := i2.trans lT2
        have gl4 : Pl.getLast? = some n := by rw [List.getLast?_eq_getElem?, lP]; exact p1
        have gd : Pl.getLastD 0 = n := by rw [List.getLastD_eq_getLast?, gl4]; rfl
        have lF1 := linesOf_len i1
        have nlt : n < F1.length := by
          have h1 := (List.getElem?_eq_some_iff.mp p2).1
          have h2 : TF1.length = F1.length := by rw [lF1]; exact Nat.zero_add _
          omega
        refine i_L C (s4 _ _ hpq) (atI_last (v := V.int (n : Int)) (by rw [List.getLast?_map, gl4]; rfl)) ?_
        k_intsEnd
        have il3 : F1.length ≤ F.length + (e :: es).length := il1
        refine ⟨fr, F1, n, rfl, ltf.same s4, nlt, lines_wf i1, by omega, fun t H5 nt s5 lt5 => ?_⟩
        refine q _ _ (Same.free s14 nt) (Same.trans s14 s5) ?_
        rw [pk]
        show LT H5 t ((trimK F1 (Pl.getLastD 0)).map enV)
        rw [gd]
        exact lt5
/-! # Lw1 -/
abbrev s__law_plus : Stmt := top 54
theorem sc__law_plus : FnScope ["_law_sort", "_law_here", "_law_there"] ["_law_sort", "_law_here", "_law_there"] (defScope s__law_plus) := sc_by (by decide +kernel)
abbrev sp__law_plus : SpG := fun vs H Q => ∃ hb i j, vs = [.str (ks hb), .int i, .int j] ∧ (hb = false → 0 ≤ i ∧ 0 ≤ j) ∧ Q (.int (addK hb i j)) H
theorem d__law_plus {m : Md} (hs : ∃ f fd, Has m "_law_plus" s__law_plus ["_law_sort", "_law_here", "_law_there"] f fd) (B : Bis m) : Def m "_law_plus" ["_law_sort", "_law_here", "_law_there"] 1 sp__law_plus := by
  refine def_of hs sc__law_plus (fun vs H Q h => ?_) fun X C fn vs H Q h => ?_
  · obtain ⟨hb, i, j, rfl, hd, q⟩ := h
    rfl
  obtain ⟨hb, i, j, rfl, hd, q⟩ := h
  have n__law_sort : Nm X "_law_sort" 0 := C.nm rfl (by decide +kernel)
  have n__law_here : Nm X "_law_here" 1 := C.nm rfl (by decide +kernel)
  have n__law_there : Nm X "_law_there" 2 := C.nm rfl (by decide +kernel)

  cases hb <;> k_intsEnd
  · rw [xor_nn (hd rfl).1 (hd rfl).2]
    exact q
  · exact q
abbrev s__law_less : Stmt := top 55
theorem sc__law_less : FnScope ["_law_sort", "_law_here", "_law_there"] ["_law_sort", "_law_here", "_law_there"] (defScope s__law_less) := sc_by (by decide +kernel)
abbrev sp__law_less : SpG := fun vs H Q => ∃ hb i j, vs = [.str (ks hb), .int i, .int j] ∧ (hb = false → 0 ≤ i ∧ 0 ≤ j) ∧ Q (.int (subK hb i j)) H
theorem d__law_less {m : Md} (hs : ∃ f fd, Has m "_law_less" s__law_less ["_law_sort", "_law_here", "_law_there"] f fd) (B : Bis m) : Def m "_law_less" ["_law_sort", "_law_here", "_law_there"] 1 sp__law_less := by
  refine def_of hs sc__law_less (fun vs H Q h => ?_) fun X C fn vs H Q h => ?_
  · obtain ⟨hb, i, j, rfl, hd, q⟩ := h
    rfl
  obtain ⟨hb, i, j, rfl, hd, q⟩ := h
  have n__law_sort : Nm X "_law_sort" 0 := C.nm rfl (by decide +kernel)
  have n__law_here : Nm X "_law_here" 1 := C.nm rfl (by decide +kernel)
  have n__law_there : Nm X "_law_there" 2 := C.nm rfl (by decide +kernel)

  cases hb <;> k_intsEnd
  · rw [xor_nn (hd rfl).1 (hd rfl).2]
    exact q
  · exact q
abbrev s__law_opposite : Stmt := top 61
theorem sc__law_opposite : FnScope ["_law_sort", "_law_here"] ["_law_sort", "_law_here"] (defScope s__law_opposite) := sc_by (by decide +kernel)
abbrev sp__law_opposite : SpG := fun vs H Q => ∃ hb i, vs = [.str (ks hb), .int i] ∧ Q (.int (negK hb i)) H
theorem d__law_opposite {m : Md} (hs : ∃ f fd, Has m "_law_opposite" s__law_opposite ["_law_sort", "_law_here"] f fd) (B : Bis m) : Def m "_law_opposite" ["_law_sort", "_law_here"] 1 sp__law_opposite := by
  refine def_of hs sc__law_opposite (fun vs H Q h => ?_) fun X C fn vs H Q h => ?_
  · obtain ⟨hb, i, rfl, q⟩ := h
    rfl
  obtain ⟨hb, i, rfl, q⟩ := h
  have n__law_sort : Nm X "_law_sort" 0 := C.nm rfl (by decide +kernel)
  have n__law_here : Nm X "_law_here" 1 := C.nm rfl (by decide +kernel)

  cases hb <;> k_intsEnd <;> exact q
abbrev s__law_rest : Stmt := top 56
theorem sc__law_rest : FnScope ["_law_sort", "_law_here", "_law_by"] ["_law_sort", "_law_here", "_law_by"] (defScope s__law_rest) := sc_by (by decide +kernel)
abbrev sp__law_rest : SpG := fun vs H Q => ∃ hb i j, vs = [.str (ks hb), .int i, .int j] ∧ 0 ≤ j ∧ j < lim hb ∧ (hb = false → 0 ≤ i ∧ i < 2 ^ 64) ∧ Q (.int (restK hb i j)) H
theorem d__law_rest {m : Md} (hs : ∃ f fd, Has m "_law_rest" s__law_rest ["_law_sort", "_law_here", "_law_by"] f fd) (B : Bis m) : Def m "_law_rest" ["_law_sort", "_law_here", "_law_by"] 1 sp__law_rest := by
  refine def_of hs sc__law_rest (fun vs H Q h => ?_) fun X C fn vs H Q h => ?_
  · obtain ⟨hb, i, j, rfl, j0, hd, hd2, q⟩ := h
    rfl
  obtain ⟨hb, i, j, rfl, j0, hd, hd2, q⟩ := h
  have n__law_sort : Nm X "_law_sort" 0 := C.nm rfl (by decide +kernel)
  have n__law_here : Nm X "_law_here" 1 := C.nm rfl (by decide +kernel)
  have t__law_here : Tg X "_law_here" 1 := C.tg fn rfl (by decide +kernel)
  have n__law_by : Nm X "_law_by" 2 := C.nm rfl (by decide +kernel)
  have g_int : Gl X "int" := C.gl (by decide +kernel)
  have b_int := B.int

  k_intsEnd
  by_cases c : j = 0
  · refine iteP c ?_
    k_intsEnd
    have e : restK hb i j = i := if_pos c
    rw [e] at q
    exact q
  refine iteN c ?_
  rw [restK_pos c] at q
  cases hb
  · obtain ⟨a1, a2⟩ := hd2 rfl
    obtain ⟨a, rfl⟩ := Int.eq_ofNat_of_zero_le a1
    obtain ⟨b, rfl⟩ := Int.eq_ofNat_of_zero_le j0
    have hb2 : (b : Int) < 2 ^ 64 := hd
    have lb : blen b ≤ 64 := blen_le (by omega)
    have b0 : b ≠ 0 := by omega
    k_intsEnd
    refine ws_while C.own (fun n σ H1 => H1 = H ∧ ∃ (r : Nat), n = blen r ∧ r < 2 ^ 64 ∧ σ = [some (.str (ks false)), some (.int r), some (.int b)] ∧ restN r b = restN a b) (blen a) ⟨rfl, a, rfl, by omega, rfl, rfl⟩ ?_
    rintro n σ H1 ⟨rfl, r, rfl, hr, rfl, e2⟩
    have lr : blen r ≤ 64 := blen_le hr
    k_intsEnd
    rw [intBits_nat, intBits_nat]
    by_cases c : blen b ≤ blen r
    · refine iteP (by omega) ?_
      have l := step_lt b0 c
      k_intsEnd
      rw [intBits_nat, intBits_nat, show ((blen r : Nat) : Int) - ((blen b : Nat) : Int) = ((blen r - blen b : Nat) : Int) by omega]
      refine o_shlN (by omega) (by omega) ?_
      k_intsEnd
      refine ⟨_, l, rfl, r ^^^ b <<< (blen r - blen b), rfl, ?_, rfl, ?_⟩
      · exact Nat.lt_of_lt_of_le (blen_mono (Nat.le_refl _)) (Nat.pow_le_pow_right (by decide) (by omega))
      · rw [← e2]
        exact (restN_step b0 c).symm
    · refine iteN (by omega) ?_
      k_intsEnd
      have e4 : restN a b = r := by rw [← e2]; exact restN_stop c
      rw [← e4]
      exact q
  · k_intsEnd
    refine o_mod (by omega) ?_
    exact q
abbrev s__law_divisor : Stmt := top 57
theorem sc__law_divisor : FnScope ["_law_sort", "_law_here", "_law_there"] ["_law_sort", "_law_here", "_law_there"] (defScope s__law_divisor) := sc_by (by decide +kernel)
abbrev sp__law_divisor : SpG := fun vs H Q => ∃ hb i j, vs = [.str (ks hb), .int i, .int j] ∧ 0 ≤ i ∧ i < lim hb ∧ 0 ≤ j ∧ j < lim hb ∧ ∀ H2, Same H H2 → Q (.int (gcdK hb i j)) H2
theorem d__law_divisor {m : Md} (hs : ∃ f fd, Has m "_law_divisor" s__law_divisor ["_law_sort", "_law_here", "_law_there"] f fd) (B : Bis m) (D__law_rest : Def m "_law_rest" ["_law_sort", "_law_here", "_law_by"] 1 sp__law_rest) : Def m "_law_divisor" ["_law_sort", "_law_here", "_law_there"] 2 sp__law_divisor := by
  refine def_of hs sc__law_divisor (fun vs H Q h => ?_) fun X C fn vs H Q h => ?_
  · obtain ⟨hb, i, j, rfl, i0, i1, j0, j1, q⟩ := h
    rfl
  obtain ⟨hb, i, j, rfl, i0, i1, j0, j1, q⟩ := h
  have n__law_sort : Nm X "_law_sort" 0 := C.nm rfl (by decide +kernel)
  have n__law_here : Nm X "_law_here" 1 := C.nm rfl (by decide +kernel)
  have t__law_here : Tg X "_law_here" 1 := C.tg fn rfl (by decide +kernel)
  have n__law_there : Nm X "_law_there" 2 := C.nm rfl (by decide +kernel)
  have t__law_there : Tg X "_law_there" 2 := C.tg fn rfl (by decide +kernel)
  have g__law_rest : Gl X "_law_rest" := C.gl (by decide +kernel)

  k_intsEnd
  refine ws_while C.own (fun n σ H1 => Same H H1 ∧ ∃ x y : Int, n = y.toNat ∧ 0 ≤ x ∧ x < lim hb ∧ 0 ≤ y ∧ y < lim hb ∧ σ = [some (.str (ks hb)), some (.int x), some (.int y)] ∧ gcdK hb x y = gcdK hb i j) j.toNat ⟨Same.refl H, i, j, rfl, i0, i1, j0, j1, rfl, rfl⟩ ?_
  rintro n σ H1 ⟨s1, x, y, rfl, x0, x1, y0, y1, rfl, e⟩
  k_intsEnd
  by_cases c : y = 0
  · refine iteNN c ?_
    k_intsEnd
    subst c
    rw [gcdK_zero] at e
    rw [e]
    exact q _ (by k_memK)
  · refine iteNP c ?_
    k_intsEnd
    have l64 := lim_le hb
    refine ⟨y0, y1, fun _ => ⟨x0, by omega⟩, ?_⟩
    k_intsEnd
    have r := remK_lt (hb := hb) (a := x) (b := y) (by omega) (fun _ => x0)
    rw [restK_pos c]
    refine ⟨_, ?_, by k_memK, y, remK hb x y, rfl, y0, y1, r.1, by omega, rfl, ?_⟩
    · omega
    · rw [← e, gcdK_step (a := x) (b := y) (by omega) (fun _ => x0), restK_pos c]
abbrev s__law_agree : Stmt := top 59
theorem sc__law_agree : FnScope ["_law_sort", "_law_here", "_law_there"] ["_law_sort", "_law_here", "_law_there"] (defScope s__law_agree) := sc_by (by decide +kernel)
abbrev sp__law_agree : SpG := fun vs H Q => ∃ hb p a b r c d, vs = [.str (ks hb), .ref p, .ref r] ∧ H p = some (.tup [.int a, .int b]) ∧ H r = some (.tup [.int c, .int d]) ∧ 0 ≤ b ∧ b < lim hb ∧ 0 ≤ d ∧ d < lim hb ∧ (hb = false → 0 ≤ a ∧ a < 2 ^ 64 ∧ 0 ≤ c ∧ c < 2 ^ 64) ∧ ∀ H2, Same H H2 → Q (.bl (agreeK hb a b c d)) H2
theorem d__law_agree {m : Md} (hs : ∃ f fd, Has m "_law_agree" s__law_agree ["_law_sort", "_law_here", "_law_there"] f fd) (B : Bis m) (D__law_rest : Def m "_law_rest" ["_law_sort", "_law_here", "_law_by"] 1 sp__law_rest) (D__law_less : Def m "_law_less" ["_law_sort", "_law_here", "_law_there"] 1 sp__law_less) (D__law_divisor : Def m "_law_divisor" ["_law_sort", "_law_here", "_law_there"] 2 sp__law_divisor) : Def m "_law_agree" ["_law_sort", "_law_here", "_law_there"] 3 sp__law_agree := by
  refine def_of hs sc__law_agree (fun vs H Q h => ?_) fun X C fn vs H Q h => ?_
  · obtain ⟨hb, p, a, b, r, c, d, rfl, hp, hr, b0, b1, d0, d1, nn, q⟩ := h
    rfl
  obtain ⟨hb, p, a, b, r, c, d, rfl, hp, hr, b0, b1, d0, d1, nn, q⟩ := h
  have n__law_sort : Nm X "_law_sort" 0 := C.nm rfl (by decide +kernel)
  have n__law_here : Nm X "_law_here" 1 := C.nm rfl (by decide +kernel)
  have n__law_there : Nm X "_law_there" 2 := C.nm rfl (by decide +kernel)
  have g__law_rest : Gl X "_law_rest" := C.gl (by decide +kernel)
  have g__law_less : Gl X "_law_less" := C.gl (by decide +kernel)
  have g__law_divisor : Gl X "_law_divisor" := C.gl (by decide +kernel)

  have g := gcdK_bd (hb := hb) b0 d0 b1 d1
  k_intsEnd
  refine ⟨fun z => ⟨(nn z).1, (nn z).2.2.1⟩, ?_⟩
  k_intsEnd
  refine ⟨b0, b1, d0, d1, fun H2 s1 => ?_⟩
  k_intsEnd
  refine ⟨g.1, g.2, fun z => by subst z; exact xorI_bd (k := 64) (nn rfl).2.1 (nn rfl).2.2.2, ?_⟩
  k_intsEnd
  exact q _ (by k_memK)
/-! # Lw2 -/
abbrev s__law_multiple : Stmt := top 58
theorem sc__law_multiple : FnScope ["_law_sort", "_law_here", "_law_there", "_law_turn", "_law_made_here", "_law_place"] ["_law_sort", "_law_here", "_law_there"] (defScope s__law_multiple) := sc_by (by decide +kernel)
abbrev sp__law_multiple : SpG := fun vs H Q => ∃ hb b d, vs = [.str (ks hb), .int b, .int d] ∧ Dom hb b ∧ Dom hb d ∧ ∀ H2, Same H H2 → Q (.int (multK hb b d)) H2
theorem d__law_multiple {m : Md} (hs : ∃ f fd, Has m "_law_multiple" s__law_multiple ["_law_sort", "_law_here", "_law_there"] f fd) (B : Bis m) (D__law_divisor : Def m "_law_divisor" ["_law_sort", "_law_here", "_law_there"] 2 sp__law_divisor) (D__law_rest : Def m "_law_rest" ["_law_sort", "_law_here", "_law_by"] 1 sp__law_rest) : Def m "_law_multiple" ["_law_sort", "_law_here", "_law_there"] 3 sp__law_multiple := by
  refine def_of hs sc__law_multiple (fun vs H Q h => ?_) fun X C fn vs H Q h => ?_
  · obtain ⟨hb, b, d, rfl, db, dd, q⟩ := h
    rfl
  obtain ⟨hb, b, d, rfl, db, dd, q⟩ := h
  have n__law_sort : Nm X "_law_sort" 0 := C.nm rfl (by decide +kernel)
  have n__law_here : Nm X "_law_here" 1 := C.nm rfl (by decide +kernel)
  have n__law_there : Nm X "_law_there" 2 := C.nm rfl (by decide +kernel)
  have n__law_turn : Nm X "_law_turn" 3 := C.nm rfl (by decide +kernel)
  have t__law_turn : Tg X "_law_turn" 3 := C.tg fn rfl (by decide +kernel)
  have n__law_made_here : Nm X "_law_made_here" 4 := C.nm rfl (by decide +kernel)
  have t__law_made_here : Tg X "_law_made_here" 4 := C.tg fn rfl (by decide +kernel)
  have n__law_place : Nm X "_law_place" 5 := C.nm rfl (by decide +kernel)
  have t__law_place : Tg X "_law_place" 5 := C.tg fn rfl (by decide +kernel)
  have g_int : Gl X "int" := C.gl (by decide +kernel)
  have b_int := B.int
  have g__law_divisor : Gl X "_law_divisor" := C.gl (by decide +kernel)
  have g_range : Gl X "range" := C.gl (by decide +kernel)
  have b_range := B.range
  have g__law_rest : Gl X "_law_rest" := C.gl (by decide +kernel)

  obtain ⟨b0, b1⟩ := dom_bd db
  obtain ⟨d0, d1⟩ := dom_bd dd
  have b2 := lim12 hb b1
  have d2 := lim12 hb d1
  k_intsEnd
  by_cases c : b = 0
  · refine iteP c ?_
    k_intsEnd
    have e : multK hb b d = 0 := if_pos (.inl c)
    rw [e] at q
    exact q _ (by k_memK)
  refine iteN c ?_
  k_intsEnd
  by_cases c2 : d = 0
  · refine iteP c2 ?_
    k_intsEnd
    have e : multK hb b d = 0 := if_pos (.inr c2)
    rw [e] at q
    exact q _ (by k_memK)
  refine iteN c2 ?_
  have gp := gcdK_pos (hb := hb) b0 d0 (.inl (by omega))
  have gb := gcdK_bd (hb := hb) (L := 2 ^ 12) b0 d0 b1 d1
  cases hb
  · obtain ⟨t0, t1, t2, t3, t4, t5⟩ := mult_first db dd c c2
    obtain ⟨x, rfl⟩ := Int.eq_ofNat_of_zero_le b0
    obtain ⟨y, rfl⟩ := Int.eq_ofNat_of_zero_le d0
    rw [Int.toNat_natCast] at t2 t3 t4 t5
    rw [Int.toNat_natCast] at t3 t4
    have ly : blen y ≤ 12 := blen_le (by omega)
    have p12 : 2 ^ blen y ≤ 2 ^ 12 := Nat.pow_le_pow_right (by decide) ly
    k_intsEnd
    refine ws_forR2 C g_range b_range.free rfl rfl (fun _ => rfl) ?_
    k_intsEnd
    rw [intBits_nat]
    refine o_shl1 (by omega) ?_
    have e1 : 1 <<< blen y = 2 ^ blen y := by rw [Nat.shiftLeft_eq, Nat.one_mul]
    rw [e1]
    have ej : (((2 ^ blen y : Nat) : Int) - 1).toNat = 2 ^ blen y - 1 := by omega
    refine ⟨1, ((2 ^ blen y : Nat) : Int), rfl, rfl, ⟨by omega, by omega, by omega, by omega⟩, fun t σ H1 => H1 = H ∧ 1 + t ≤ t0 ∧ ∃ u v w, σ = [some (.str (ks false)), some (.int x), some (.int y), u, v, w], ⟨rfl, t1, _, _, _, rfl⟩, ?_, ?_⟩
    · rintro t σ H1 ht ⟨rfl, le, u, v, w, rfl⟩
      rw [ej] at ht
      k_intsEnd
      refine ws_forR C g_range b_range.free ?_ (fun _ => rfl) ?_
      · rfl
      rw [show (1 : Int) + (t : Int) = ((1 + t : Nat) : Int) by omega]
      have lt : blen (1 + t) ≤ 12 := blen_le (by omega)
      k_intsEnd
      refine ⟨by omega, by rw [intBits_nat]; omega, fun n σ H2 => H2 = H1 ∧ ∃ w, σ = [some (.str (ks false)), some (.int x), some (.int y), some (.int ((1 + t : Nat) : Int)), some (.int (timesF x (1 + t) n : Nat)), w], ⟨rfl, w, rfl⟩, ?_, ?_⟩
      · rintro n σ H2 hn ⟨rfl, w, rfl⟩
        rw [intBits_nat, Int.toNat_natCast] at hn
        k_intsEnd
        refine o_mod (by decide) ?_
        k_intsEnd
        have eb : (((1 + t : Nat) : Int) / 2 ^ ((n : Int)).toNat) % 2 = (((1 + t) / 2 ^ n % 2 : Nat) : Int) := by
          rw [Int.toNat_natCast, ← PySem.W.kbt_cast, ← Int.natCast_ediv, Int.natCast_emod]; rfl
        rw [eb]
        by_cases hbit : (1 + t) / 2 ^ n % 2 = 1
        · refine iteP (by omega) ?_
          k_intsEnd
          refine o_shlN (by omega) (by omega) ?_
          k_intsEnd
          exact ⟨rfl, _, by rw [timesF_yes hbit]; rfl⟩
        · refine iteN (by omega) ?_
          k_intsEnd
          exact ⟨rfl, _, by rw [timesF_no hbit, show Builtin.bitXor ((timesF x (1 + t) n : Nat) : Int) 0 = _ from xor_cast _ 0, Nat.xor_zero]; rfl⟩
      · rintro σ H2 ⟨rfl, w, rfl⟩
        rw [intBits_nat, Int.toNat_natCast]
        have tl : timesF x (1 + t) (blen (1 + t)) < 2 ^ (12 + blen (1 + t)) := timesF_lt (by omega)
        have tl2 : timesF x (1 + t) (blen (1 + t)) < 2 ^ 24 := Nat.lt_of_lt_of_le tl (Nat.pow_le_pow_right (by decide) (by omega))
        k_intsEnd
        refine ⟨d0, d2, fun _ => ⟨Int.natCast_nonneg _, by omega⟩, ?_⟩
        have er : restK false ((timesF x (1 + t) (blen (1 + t)) : Nat) : Int) (y : Int) = ((restN (timesN x (1 + t)) y : Nat) : Int) := by
          rw [restK_pos c2]; rfl
        rw [er]
        k_intsEnd
        by_cases hz : restN (timesN x (1 + t)) y = 0
        · refine iteP (by rw [hz]; rfl) ?_
          k_intsEnd
          have et : 1 + t = t0 := by
            by_cases q1 : 1 + t = t0
            · exact q1
            · exact absurd hz (t4 (1 + t) (by omega) (by omega))
          rw [t5, ← et] at q
          exact q _ (by k_memK)
        · refine iteN (by omega) ?_
          k_intsEnd
          have ne : 1 + t ≠ t0 := fun e => hz (by rw [e]; exact t3)
          exact ⟨rfl, by omega, _, _, _, rfl⟩
    · rintro σ H1 ⟨rfl, le, u, v, w, rfl⟩
      rw [ej] at le
      omega
  · k_intsEnd
    refine o_mul (.inl ⟨by omega, by omega⟩) ?_
    k_intsEnd
    refine ⟨b0, b2, d0, d2, fun H2 s1 => ?_⟩
    refine o_fdiv ⟨gp, by omega⟩ ?_
    rw [mult_hours db dd c c2]
    exact q _ s1
abbrev s__law_meet : Stmt := top 60
theorem sc__law_meet : FnScope ["_law_sort", "_law_here", "_law_there", "_law_both", "_law_size", "_law_number_told"] ["_law_sort", "_law_here", "_law_there"] (defScope s__law_meet) := sc_by (by decide +kernel)
abbrev sp__law_meet : SpG := fun vs H Q => ∃ hb p r a b c d, vs = [.str (ks hb), .ref p, .ref r] ∧ H p = some (.tup [.int a, .int b]) ∧ H r = some (.tup [.int c, .int d]) ∧ Rg hb a b ∧ Rg hb c d ∧ agreeK hb a b c d = true ∧ ∀ t H2, Same H H2 → H2 t = some (.tup [.int (metK hb a b c d).1, .int (metK hb a b c d).2]) → Q (.ref t) H2
theorem d__law_meet {m : Md} (hs : ∃ f fd, Has m "_law_meet" s__law_meet ["_law_sort", "_law_here", "_law_there"] f fd) (B : Bis m) (D__law_multiple : Def m "_law_multiple" ["_law_sort", "_law_here", "_law_there"] 3 sp__law_multiple) (D__law_agree : Def m "_law_agree" ["_law_sort", "_law_here", "_law_there"] 3 sp__law_agree) (D__law_rest : Def m "_law_rest" ["_law_sort", "_law_here", "_law_by"] 1 sp__law_rest) : Def m "_law_meet" ["_law_sort", "_law_here", "_law_there"] 4 sp__law_meet := by
  refine def_of hs sc__law_meet (fun vs H Q h => ?_) fun X C fn vs H Q h => ?_
  · obtain ⟨hb, p, r, a, b, c, d, rfl, hp, hr, r1, r2, ag, q⟩ := h
    rfl
  obtain ⟨hb, p, r, a, b, c, d, rfl, hp, hr, r1, r2, ag, q⟩ := h
  have n__law_sort : Nm X "_law_sort" 0 := C.nm rfl (by decide +kernel)
  have n__law_here : Nm X "_law_here" 1 := C.nm rfl (by decide +kernel)
  have n__law_there : Nm X "_law_there" 2 := C.nm rfl (by decide +kernel)
  have n__law_both : Nm X "_law_both" 3 := C.nm rfl (by decide +kernel)
  have t__law_both : Tg X "_law_both" 3 := C.tg fn rfl (by decide +kernel)
  have n__law_size : Nm X "_law_size" 4 := C.nm rfl (by decide +kernel)
  have t__law_size : Tg X "_law_size" 4 := C.tg fn rfl (by decide +kernel)
  have n__law_number_told : Nm X "_law_number_told" 5 := C.nm rfl (by decide +kernel)
  have t__law_number_told : Tg X "_law_number_told" 5 := C.tg fn rfl (by decide +kernel)
  have g__law_agree : Gl X "_law_agree" := C.gl (by decide +kernel)
  have g__law_multiple : Gl X "_law_multiple" := C.gl (by decide +kernel)
  have g_range : Gl X "range" := C.gl (by decide +kernel)
  have b_range := B.range
  have g__law_rest : Gl X "_law_rest" := C.gl (by decide +kernel)

  obtain ⟨b0, b1⟩ := dom_bd r1.dom
  obtain ⟨d0, d1⟩ := dom_bd r2.dom
  have b2 := lim12 hb b1
  have d2 := lim12 hb d1
  obtain ⟨md, mn⟩ := mult_dom r1.dom r2.dom
  obtain ⟨L0, L1⟩ := dom_bd md
  k_intsEnd
  refine ⟨hb, p, a, b, r, c, d, rfl, hp, hr, b0, b2, d0, d2, fun z => ⟨(r1.nn z).1, by have := (r1.nn z).2; omega, (r2.nn z).1, by have := (r2.nn z).2; omega⟩, fun H1 s1 => ?_⟩
  rw [ag]
  k_intsEnd
  by_cases c1 : b = 0
  · refine iteP c1 ?_
    have e : metK hb a b c d = (a, 0) := by unfold metK; rw [if_pos (.inl c1), if_pos c1]
    rw [e] at q
    k_intsEnd
    exact q _ _ (by k_memK) (by assumption)
  refine iteN c1 ?_
  k_intsEnd
  by_cases c2 : d = 0
  · refine iteP c2 ?_
    have e : metK hb a b c d = (c, 0) := by unfold metK; rw [if_pos (.inr c2), if_neg c1]
    rw [e] at q
    k_intsEnd
    exact q _ _ (by k_memK) (by assumption)
  refine iteN c2 ?_
  have e : metK hb a b c d = ((metK hb a b c d).1, multK hb b d) := by unfold metK; rw [if_neg (fun z => z.elim c1 c2)]
  have e2 : (metK hb a b c d).2 = multK hb b d := by rw [e]
  rw [e2] at q
  obtain ⟨m1, m2, m3, m4, m5⟩ := meet_spec r1 r2 ag c1 c2
  k_intsEnd
  refine ⟨r1.dom, r2.dom, fun H2 s2 => ?_⟩
  k_intsEnd
  have sz12 : (sizeK hb (multK hb b d) : Int) < 2 ^ 13 := sizeK_lt L0 L1
  cases hb
  · k_intsEnd
    rw [intBits_nn L0]
    have lz : 0 < blen (multK false b d).toNat := blen_pos (by have := mn c1 c2; omega)
    have lz2 : blen (multK false b d).toNat ≤ 12 := blen_le (by omega)
    rw [show ((blen (multK false b d).toNat : Nat) : Int) - 1 = ((blen (multK false b d).toNat - 1 : Nat) : Int) by omega]
    refine o_shl1 (by omega) ?_
    have es : 1 <<< (blen (multK false b d).toNat - 1) = sizeK false (multK false b d) := rfl
    rw [es]
    k_intsEnd
    refine ws_forR C g_range b_range.free ?_ (fun _ => rfl) ?_
    · rfl
    k_intsEnd
    refine ⟨by omega, by omega, fun n σ H3 => Same H H3 ∧ ((n : Nat) : Int) ≤ (metK false a b c d).1 ∧ ∃ u, σ = [some (.str (ks false)), some (.ref p), some (.ref r), some (.int (multK false b d)), some (.int (sizeK false (multK false b d) : Nat)), u], ⟨by k_memK, m1, _, rfl⟩, ?_, ?_⟩
    · rintro n σ H3 hn ⟨s3, le, u, rfl⟩
      have hn2 : n < sizeK false (multK false b d) := by omega
      k_intsEnd
      refine ⟨b0, b2, fun _ => ⟨Int.natCast_nonneg _, by omega⟩, ?_⟩
      k_intsEnd
      by_cases q1 : restK false (n : Int) b = a
      · refine iteP q1 ?_
        k_intsEnd
        refine ⟨d0, d2, fun _ => ⟨Int.natCast_nonneg _, by omega⟩, ?_⟩
        k_intsEnd
        by_cases q2 : restK false (n : Int) d = c
        · refine iteP q2 ?_
          have en := m5 n hn2 q1 q2
          rw [← en] at q
          k_intsEnd
          exact q _ _ (by k_memK) (by assumption)
        · refine iteN q2 ?_
          k_intsEnd
          have ne : (n : Int) ≠ (metK false a b c d).1 := fun z => q2 (by rw [z]; exact m4)
          exact ⟨s3, by omega, _, rfl⟩
      · refine iteN q1 ?_
        k_intsEnd
        have ne : (n : Int) ≠ (metK false a b c d).1 := fun z => q1 (by rw [z]; exact m3)
        exact ⟨s3, by omega, _, rfl⟩
    · rintro σ H3 ⟨s3, le, u, rfl⟩
      omega
  · k_intsEnd
    have es : (sizeK true (multK true b d) : Int) = multK true b d := Int.toNat_of_nonneg L0
    refine ws_forR C g_range b_range.free ?_ (fun _ => rfl) ?_
    · rfl
    k_intsEnd
    refine ⟨by omega, by omega, fun n σ H3 => Same H H3 ∧ ((n : Nat) : Int) ≤ (metK true a b c d).1 ∧ ∃ u, σ = [some (.str (ks true)), some (.ref p), some (.ref r), some (.int (multK true b d)), some (.int (multK true b d)), u], ⟨by k_memK, m1, _, rfl⟩, ?_, ?_⟩
    · rintro n σ H3 hn ⟨s3, le, u, rfl⟩
      have hn2 : n < sizeK true (multK true b d) := by omega
      k_intsEnd
      refine ⟨b0, b2, fun _ => ⟨Int.natCast_nonneg _, by omega⟩, ?_⟩
      k_intsEnd
      by_cases q1 : restK true (n : Int) b = a
      · refine iteP q1 ?_
        k_intsEnd
        refine ⟨d0, d2, fun _ => ⟨Int.natCast_nonneg _, by omega⟩, ?_⟩
        k_intsEnd
        by_cases q2 : restK true (n : Int) d = c
        · refine iteP q2 ?_
          have en := m5 n hn2 q1 q2
          rw [← en] at q
          k_intsEnd
          exact q _ _ (by k_memK) (by assumption)
        · refine iteN q2 ?_
          k_intsEnd
          have ne : (n : Int) ≠ (metK true a b c d).1 := fun z => q2 (by rw [z]; exact m4)
          exact ⟨s3, by omega, _, rfl⟩
      · refine iteN q1 ?_
        k_intsEnd
        have ne : (n : Int) ≠ (metK true a b c d).1 := fun z => q1 (by rw [z]; exact m3)
        exact ⟨s3, by omega, _, rfl⟩
    · rintro σ H3 ⟨s3, le, u, rfl⟩
      omega
/-! # Lw3 -/
abbrev s__law_is_name : Stmt := top 66
theorem sc__law_is_name : FnScope ["_law_some"] ["_law_some"] (defScope s__law_is_name) := sc_by (by decide +kernel)
abbrev sp__law_is_name : SpG := fun vs H Q => ∃ z, vs = [.str z] ∧ z ∈ nm5 ∧ ∀ H2, Same H H2 → Q (.bl true) H2
theorem d__law_is_name {m : Md} (hs : ∃ f fd, Has m "_law_is_name" s__law_is_name ["_law_some"] f fd) (B : Bis m) : Def m "_law_is_name" ["_law_some"] 1 sp__law_is_name := by
  refine def_of hs sc__law_is_name (fun vs H Q h => ?_) fun X C fn vs H Q h => ?_
  · obtain ⟨z, rfl, hz, q⟩ := h
    rfl
  obtain ⟨z, rfl, hz, q⟩ := h
  have n__law_some : Nm X "_law_some" 0 := C.nm rfl (by decide +kernel)
  have g_isinstance : Gl X "isinstance" := C.gl (by decide +kernel)
  have b_isinstance := B.isinstance
  have g_str : Gl X "str" := C.gl (by decide +kernel)
  have b_str := B.str

  simp only [nm5, List.mem_cons, List.not_mem_nil, or_false] at hz
  k_intsEnd
  have e : ∀ w, inV (.str z) w = inV (.str z) w := fun _ => rfl
  rcases hz with rfl | rfl | rfl | rfl | rfl <;> exact q _ (by k_memK)
abbrev s__law_made : Stmt := top 67
theorem sc__law_made : FnScope ["_law_sort", "_law_entry_here", "_law_here", "_law_there", "_law_first", "_law_last", "_law_ahead", "_law_by", "_law_both"] ["_law_sort", "_law_entry_here", "_law_here", "_law_there"] (defScope s__law_made) := sc_by (by decide +kernel)
abbrev sp__law_made : SpG := fun vs H Q => ∃ hb pe pl ov, ∃ (e : En) (l o : Ln), vs = [.str (ks hb), .ref pe, .ref pl, ov] ∧ H pe = some (.tup (enV e)) ∧ H pl = some (.tup (lnV l)) ∧ LnOk hb l ∧ EnOk e ∧ isRel e = true ∧ (isPair e = true → ∃ po, ov = .ref po ∧ H po = some (.tup (lnV o)) ∧ LnOk hb o) ∧ ∀ v H2, Same H H2 → Outc (madeLn hb e l o) v H2 → Q v H2
theorem d__law_made {m : Md} (hs : ∃ f fd, Has m "_law_made" s__law_made ["_law_sort", "_law_entry_here", "_law_here", "_law_there"] f fd) (B : Bis m) (D__law_divisor : Def m "_law_divisor" ["_law_sort", "_law_here", "_law_there"] 2 sp__law_divisor) (D__law_meet : Def m "_law_meet" ["_law_sort", "_law_here", "_law_there"] 4 sp__law_meet) (D__law_rest : Def m "_law_rest" ["_law_sort", "_law_here", "_law_by"] 1 sp__law_rest) (D__law_agree : Def m "_law_agree" ["_law_sort", "_law_here", "_law_there"] 3 sp__law_agree) (D__law_opposite : Def m "_law_opposite" ["_law_sort", "_law_here"] 1 sp__law_opposite) (D__law_plus : Def m "_law_plus" ["_law_sort", "_law_here", "_law_there"] 1 sp__law_plus) : Def m "_law_made" ["_law_sort", "_law_entry_here", "_law_here", "_law_there"] 5 sp__law_made := by
  refine def_of hs sc__law_made (fun vs H Q h => ?_) fun X C fn vs H Q h => ?_
  · obtain ⟨hb, pe, pl, ov, e, l, o, rfl, hpe, hpl, ok, oke, rel, pr, q⟩ := h
    rfl
  obtain ⟨hb, pe, pl, ov, e, l, o, rfl, hpe, hpl, ok, oke, rel, pr, q⟩ := h
  have n__law_sort : Nm X "_law_sort" 0 := C.nm rfl (by decide +kernel)
  have n__law_entry_here : Nm X "_law_entry_here" 1 := C.nm rfl (by decide +kernel)
  have n__law_here : Nm X "_law_here" 2 := C.nm rfl (by decide +kernel)
  have n__law_there : Nm X "_law_there" 3 := C.nm rfl (by decide +kernel)
  have n__law_first : Nm X "_law_first" 4 := C.nm rfl (by decide +kernel)
  have t__law_first : Tg X "_law_first" 4 := C.tg fn rfl (by decide +kernel)
  have n__law_last : Nm X "_law_last" 5 := C.nm rfl (by decide +kernel)
  have t__law_last : Tg X "_law_last" 5 := C.tg fn rfl (by decide +kernel)
  have n__law_ahead : Nm X "_law_ahead" 6 := C.nm rfl (by decide +kernel)
  have t__law_ahead : Tg X "_law_ahead" 6 := C.tg fn rfl (by decide +kernel)
  have n__law_by : Nm X "_law_by" 7 := C.nm rfl (by decide +kernel)
  have t__law_by : Tg X "_law_by" 7 := C.tg fn rfl (by decide +kernel)
  have n__law_both : Nm X "_law_both" 8 := C.nm rfl (by decide +kernel)
  have t__law_both : Tg X "_law_both" 8 := C.tg fn rfl (by decide +kernel)
  have g__law_rest : Gl X "_law_rest" := C.gl (by decide +kernel)
  have g__law_opposite : Gl X "_law_opposite" := C.gl (by decide +kernel)
  have g__law_divisor : Gl X "_law_divisor" := C.gl (by decide +kernel)
  have g__law_plus : Gl X "_law_plus" := C.gl (by decide +kernel)
  have g__law_agree : Gl X "_law_agree" := C.gl (by decide +kernel)
  have g__law_meet : Gl X "_law_meet" := C.gl (by decide +kernel)

  have lb := ok.b
  have l64 := lim_le hb
  cases e with
  | told i => cases rel
  | nothing a b => cases rel
  | turned i =>
    k_intsEnd
    refine ⟨lb.b0, lb.b1, fun z => by subst z; exact lb.nn rfl, ?_⟩
    k_intsEnd
    exact q _ _ (by k_memK) ⟨_, rfl, by assumption⟩
  | less i b =>
    have bl := less_lim hb oke
    k_intsEnd
    refine ⟨Int.natCast_nonneg _, bl, fun z => ⟨lb.b0, by have := lb.b1; omega⟩, ?_⟩
    k_intsEnd
    by_cases c : restK hb l.by_ b = 0
    · refine iteP c ?_
      have em : madeLn hb (.less i b) l o = some (lessLn hb l b) := if_pos c
      rw [em] at q
      k_intsEnd
      refine ⟨Int.natCast_nonneg _, bl, fun z => lb.nn z, ?_⟩
      k_intsEnd
      exact q _ _ (by k_memK) ⟨_, rfl, by assumption⟩
    · refine iteN c ?_
      have em : madeLn hb (.less i b) l o = none := if_neg c
      rw [em] at q
      k_intsEnd
      exact q _ _ (by k_memK) rfl
  | joined i j =>
    obtain ⟨po, rfl, hpo, ok2⟩ := pr rfl
    have ob := ok2.b
    have g := gcdK_bd (hb := hb) lb.b0 ob.b0 lb.b1 ob.b1
    k_intsEnd
    by_cases c : l.other = o.one
    · refine iteNN c ?_
      k_intsEnd
      by_cases c2 : l.one = o.other
      · have em : madeLn hb (.joined i j) l o = none := if_neg (fun z => z.2 c2)
        rw [em] at q
        refine iteP c2 ?_
        k_intsEnd
        exact q _ _ (by k_memK) rfl
      · have em : madeLn hb (.joined i j) l o = some (joinLn hb l o) := if_pos ⟨c, c2⟩
        rw [em] at q
        refine iteN c2 ?_
        k_intsEnd
        refine ⟨lb.b0, lb.b1, ob.b0, ob.b1, fun H2 s1 => ?_⟩
        k_intsEnd
        refine ⟨fun z => ⟨(lb.nn z).1, (ob.nn z).1⟩, ?_⟩
        k_intsEnd
        refine ⟨g.1, g.2, fun z => by subst z; exact xorI_bd (k := 64) (lb.nn rfl).2 (ob.nn rfl).2, ?_⟩
        k_intsEnd
        exact q _ _ (by k_memK) ⟨_, rfl, by assumption⟩
    · have em : madeLn hb (.joined i j) l o = none := if_neg (fun z => c z.1)
      rw [em] at q
      refine iteNP c ?_
      k_intsEnd
      exact q _ _ (by k_memK) rfl
  | met i j =>
    obtain ⟨po, rfl, hpo, ok2⟩ := pr rfl
    have ob := ok2.b
    k_intsEnd
    refine o_neT C (by k_memK) (by k_memK) (t := [.str l.one, .str l.other]) (u := [.str o.one, .str o.other]) ?_ ?_ rfl rfl ?_
    · simp only [List.all_cons, okV, nm5_str ok.n1, nm5_str ok.n2, List.all_nil, Bool.and_true]
    · simp only [List.all_cons, okV, nm5_str ok2.n1, nm5_str ok2.n2, List.all_nil, Bool.and_true]
    k_intsEnd
    by_cases c : l.one = o.one ∧ l.other = o.other
    · refine iteNN (by rw [c.1, c.2]) ?_
      k_intsEnd
      refine ⟨hb, _, l.ahead, l.by_, _, o.ahead, o.by_, rfl, by k_memK, by k_memK, lb.b0, lb.b1, ob.b0, ob.b1, fun z => ⟨(lb.nn z).1, (lb.nn z).2, (ob.nn z).1, (ob.nn z).2⟩, fun H2 s1 => ?_⟩
      k_intsEnd
      by_cases ag : agreeLn hb l o = true
      · have em : madeLn hb (.met i j) l o = some (metLn hb l o) := if_pos ⟨c.1, c.2, ag⟩
        rw [em] at q
        rw [show agreeK hb l.ahead l.by_ o.ahead o.by_ = true from ag]
        k_intsEnd
        refine ⟨hb, _, _, l.ahead, l.by_, o.ahead, o.by_, rfl, by k_memK, by k_memK, ok.rg, ok2.rg, ag, fun t H3 s2 ht => ?_⟩
        k_intsEnd
        exact q _ _ (by k_memK) ⟨_, rfl, by assumption⟩
      · have em : madeLn hb (.met i j) l o = none := if_neg (fun z => ag z.2.2)
        rw [em] at q
        rw [show agreeK hb l.ahead l.by_ o.ahead o.by_ = false from Bool.eq_false_iff.mpr ag]
        k_intsEnd
        exact q _ _ (by k_memK) rfl
    · have em : madeLn hb (.met i j) l o = none := if_neg (fun z => c ⟨z.1, z.2.1⟩)
      rw [em] at q
      refine iteNP (fun z => c (by simpa using z)) ?_
      k_intsEnd
      exact q _ _ (by k_memK) rfl
/-! # Lw4 -/
abbrev s__law_entry : Stmt := top 65
theorem sc__law_entry : FnScope ["_law_sort", "_law_rows", "_law_told_here", "_law_entry_here", "_law_sizes", "_law_word", "_law_size", "_law_item"] ["_law_sort", "_law_rows", "_law_told_here", "_law_entry_here"] (defScope s__law_entry) := sc_by (by decide +kernel)
abbrev sp__law_entry : SpG := fun vs H Q => ∃ hb pr pt pe, ∃ (R T : List Ln) (e : En), vs = [.str (ks hb), .ref pr, .ref pt, .ref pe] ∧ LT H pr (R.map lnV) ∧ LT H pt (T.map lnV) ∧ H pe = some (.tup (enV e)) ∧ (∀ l ∈ R, LnOk hb l) ∧ (∀ l ∈ T, LnOk hb l) ∧ EnOk e ∧ ∀ v H2, Same H H2 → Outc (entryLn hb R T e) v H2 → Q v H2
theorem d__law_entry {m : Md} (hs : ∃ f fd, Has m "_law_entry" s__law_entry ["_law_sort", "_law_rows", "_law_told_here", "_law_entry_here"] f fd) (B : Bis m) (D__law_made : Def m "_law_made" ["_law_sort", "_law_entry_here", "_law_here", "_law_there"] 5 sp__law_made) (D__law_is_name : Def m "_law_is_name" ["_law_some"] 1 sp__law_is_name) : Def m "_law_entry" ["_law_sort", "_law_rows", "_law_told_here", "_law_entry_here"] 6 sp__law_entry := by
  refine def_of hs sc__law_entry (fun vs H Q h => ?_) fun X C fn vs H Q h => ?_
  · obtain ⟨hb, pr, pt, pe, R, T, e, rfl, ltr, ltt, hpe, okr, okt, oke, q⟩ := h
    rfl
  obtain ⟨hb, pr, pt, pe, R, T, e, rfl, ltr, ltt, hpe, okr, okt, oke, q⟩ := h
  have n__law_sort : Nm X "_law_sort" 0 := C.nm rfl (by decide +kernel)
  have n__law_rows : Nm X "_law_rows" 1 := C.nm rfl (by decide +kernel)
  have n__law_told_here : Nm X "_law_told_here" 2 := C.nm rfl (by decide +kernel)
  have n__law_entry_here : Nm X "_law_entry_here" 3 := C.nm rfl (by decide +kernel)
  have n__law_sizes : Nm X "_law_sizes" 4 := C.nm rfl (by decide +kernel)
  have t__law_sizes : Tg X "_law_sizes" 4 := C.tg fn rfl (by decide +kernel)
  have n__law_word : Nm X "_law_word" 5 := C.nm rfl (by decide +kernel)
  have t__law_word : Tg X "_law_word" 5 := C.tg fn rfl (by decide +kernel)
  have n__law_size : Nm X "_law_size" 6 := C.nm rfl (by decide +kernel)
  have t__law_size : Tg X "_law_size" 6 := C.tg fn rfl (by decide +kernel)
  have g_isinstance : Gl X "isinstance" := C.gl (by decide +kernel)
  have b_isinstance := B.isinstance
  have g_tuple : Gl X "tuple" := C.gl (by decide +kernel)
  have b_tuple := B.tuple
  have g_str : Gl X "str" := C.gl (by decide +kernel)
  have b_str := B.str
  have g_len : Gl X "len" := C.gl (by decide +kernel)
  have b_len := B.len
  have g__law_is_name : Gl X "_law_is_name" := C.gl (by decide +kernel)
  have g__law_made : Gl X "_law_made" := C.gl (by decide +kernel)

  have ov := enV_ok oke
  have hpe2 := hpe
  rw [enV_cons] at hpe2 ov
  clear hpe
  k_intsEnd
  refine o_eqT C (by k_memK) (by assumption) ov rfl (by rw [← enV_cons]; exact enV_is e) rfl ?_
  k_intsEnd
  refine iteN (List.cons_ne_nil _ _) ?_
  k_intsEnd
  rename_i pu Hu npu su hpu d nd
  have hd0 : (upd Hu d (.dK [])) d = some (.dK []) := upd_same
  have s0 : Same H (upd Hu d (.dK [])) := Same.new su nd
  have nd0 : H d = none := Same.free su nd
  generalize upd Hu d (.dK []) = H0 at *
  clear hpu npu nd
  refine ws_forL C (fun _ => rfl) ?_
  k_intsEnd
  rename_i p1 G1 n1 g1 h1 p2 G2 n2 g2 h2 p3 G3 n3 g3 h3 p4 G4 n4 g4 h4 p5 G5 n5 g5 h5 p6 G6 n6 g6 h6 pl G7 n7 g7 h7
  have tt : Tups G7 [p1, p2, p3, p4, p5, p6] (kvW.map fun kv => [kV kv.1, kv.2]) := .cons (by k_memK) (.cons (by k_memK) (.cons (by k_memK) (.cons (by k_memK) (.cons (by k_memK) (.cons (by k_memK) .nil)))))
  have hd7 : G7 d = some (.dK []) := by k_memK
  have sH7 : Same H (Off G7 d) := Off.of (by k_memK) nd0
  clear n1 n2 n3 n4 n5 n6 n7 g1 g2 g3 g4 g5 g6 g7 h1 h2 h3 h4 h5 h6 hd0 s0 su
  refine ⟨_, _, rfl, SqL.of h7, fun i σ H' => Same (Off G7 d) H' ∧ H' d = some (.dK (kvW.take i)) ∧ ∃ u v : Option V, σ = [some (.str (ks hb)), some (.ref pr), some (.ref pt), some (.ref pe), some (.ref d), u, v, none], ⟨Off.le _ _, hd7, none, none, rfl⟩, fun i σ H' p => SqL.of (p.1 _ _ (Off.get (ne_ld h7 hd7) h7)), ?_, ?_⟩
  · rintro i x σ H' hx ⟨s1, hd, u, v, rfl⟩
    obtain ⟨r, kv, rfl, hkv, hr⟩ := tups_map (f := fun kv : Key × V => [kV kv.1, kv.2]) (ls := kvW) (rs := [p1, p2, p3, p4, p5, p6]) tt hx
    have hr' := s1 _ _ (Off.get (ne_dict hr hd7) hr)
    k_intsEnd
    refine ws_dput C rfl ?_
    k_intsEnd
    refine ⟨d, _, rfl, DPut.k hd (Nat.lt_of_le_of_lt (List.length_take_le' i kvW) (Nat.lt_of_lt_of_le (by decide : kvW.length < 10) (Nat.le_of_ble_eq_true rfl))), ?_⟩
    exact ⟨Off.put s1, by rw [upd_same, putW i kv hkv], _, _, rfl⟩
  rintro σ H' ⟨s1, hd, u, v, rfl⟩
  have hd : H' d = some (.dK kvW) := hd
  have sH : Same H H' := Same.trans sH7 s1
  clear sH7 s1 hd7 tt h7
  have hpe' := sH _ _ hpe2
  have ltr' := ltr.same sH
  have ltt' := ltt.same sH
  have q' : ∀ v H2, Same H' H2 → Outc (entryLn hb R T e) v H2 → Q v H2 := fun v H2 s h => q v H2 (Same.trans sH s) h
  clear q ltr ltt hpe2 sH
  have gd : DGet H' d (.str (wordE e)) (some (.int ((V.str (wordE e) :: tailE e).length : Nat))) := by
    rw [← valW e]
    exact DGet.k (k := .inr (wordE e)) hd
  k_intsEnd
  refine o_dNotIn C (y := .inr (wordE e)) hd ?_
  rw [valW e]
  k_intsEnd
  refine iteF ?_
  k_intsEnd
  refine i_dget C gd ?_
  k_intsEnd
  by_cases hw : wordE e = "nothing"
  · refine iteP hw ?_
    cases e with
    | nothing a b =>
      k_intsEnd
      refine ⟨oke.1, fun H2 s2 => ?_⟩
      k_intsEnd
      refine ⟨oke.2.1, fun H3 s3 => ?_⟩
      k_intsEnd
      refine iteNP oke.2.2 ?_
      k_intsEnd
      exact q' _ _ (by k_memK) ⟨_, rfl, by assumption⟩
    | told i => exact absurd hw (show ¬ ("told" : Str) = "nothing" by decide +kernel)
    | turned i => exact absurd hw (show ¬ ("turned" : Str) = "nothing" by decide +kernel)
    | joined i j => exact absurd hw (show ¬ ("joined" : Str) = "nothing" by decide +kernel)
    | met i j => exact absurd hw (show ¬ ("met" : Str) = "nothing" by decide +kernel)
    | less i b => exact absurd hw (show ¬ ("less" : Str) = "nothing" by decide +kernel)
  refine iteN hw ?_
  have hint := tail_ints hw
  k_intsEnd
  refine lcF_T [("_law_item", 7)] C (by decide +kernel) (fun _ => rfl) ?_
  k_intsEnd
  rename_i px Hx sx hx0
  rw [cut_tail] at hx0
  refine ⟨_, _, rfl, hx0, Nat.le_trans (tail_len e) (Nat.le_of_ble_eq_true rfl), fun t acc => acc = [], rfl, fun t x H2 acc ht s2 ea => ?_, fun D H2 acc nD s2 hD ea => ?_⟩
  · subst ea
    obtain ⟨n, rfl⟩ := hint x (List.mem_of_getElem? ht)
    refine turn_nm (i := 7) C rfl rfl rfl (by decide +kernel) fun X' B' => wts_one ?_
    have C' := B'.ctx C
    have n__law_item_Xp : Nm X' "_law_item" 7 := C'.nm rfl (by decide +kernel)
    have g_isinstance_Xp : Gl X' "isinstance" := C'.gl (by decide +kernel)
    have g_bool_Xp : Gl X' "bool" := C'.gl (by decide +kernel)
    have b_bool := B.bool
    have g_int_Xp : Gl X' "int" := C'.gl (by decide +kernel)
    have b_int := B.int
    k_intsEnd
    exact ⟨Same.refl _, rfl⟩
  subst ea
  k_intsEnd
  refine o_neL C (t := []) (u := []) (by k_memK) (by assumption) rfl rfl rfl rfl ?_
  k_intsEnd
  refine iteF ?_
  rename_i D3 H3 nD3 s3 hD3
  have sH : Same H' H3 := Same.trans sx (Same.trans s2 s3)
  have hpe3 := sH _ _ hpe'
  have ltr3 := ltr'.same sH
  have ltt3 := ltt'.same sH
  have q3 : ∀ v H2, Same H3 H2 → Outc (entryLn hb R T e) v H2 → Q v H2 := fun v H2 s h => q' v H2 (Same.trans sH s) h
  clear q' hx0 hD hD3 s2 s3 sx nD nD3 hd gd hpe' ltr' ltt' sH
  rw [← enV_cons] at hpe3
  cases e with
  | told i =>
    obtain ⟨xr, hxr, hxl⟩ := ltr3.lst
    rw [List.length_map] at hxl
    by_cases li : i < R.length
    · have e0 : R[i]? = some R[i] := List.getElem?_eq_getElem li
      have e1 : (R.map lnV)[i]? = some (lnV R[i]) := by rw [List.getElem?_map, e0]; rfl
      obtain ⟨xs, r, hx, hn, hi, hr⟩ := ltr3.at e1
      rw [hxr] at hx
      cases hx
      have li2 : i < xr.length := by omega
      k_intsEnd
      exact q3 _ _ (by k_memK) (show Outc (R[i]?) _ _ by rw [e0]; exact ⟨r, rfl, hr⟩)
    · have li2 : ¬ i < xr.length := by omega
      k_intsEnd
      exact q3 _ _ (by k_memK) (show Outc (R[i]?) _ _ by rw [List.getElem?_eq_none (by omega)]; rfl)
  | nothing a b => exact absurd rfl hw
  | turned i =>
    obtain ⟨xr, hxr, hxl⟩ := ltt3.lst
    rw [List.length_map] at hxl
    by_cases li : i < T.length
    · have e0 : T[i]? = some T[i] := List.getElem?_eq_getElem li
      have e1 : (T.map lnV)[i]? = some (lnV T[i]) := by rw [List.getElem?_map, e0]; rfl
      obtain ⟨xs, r, hx, hn, hi, hr⟩ := ltt3.at e1
      rw [hxr] at hx
      cases hx
      have li2 : i < xr.length := by omega
      k_intsEnd
      refine ⟨hb, pe, r, .non, .turned i, T[i], T[i], rfl, by k_memK, by k_memK, okt _ (List.getElem_mem li), oke, rfl, fun z => (by cases z), fun v H4 s4 o => ?_⟩
      exact q3 v H4 (by k_memK) (show Outc ((T[i]?).map _) v H4 by rw [e0]; exact o)
    · have li2 : ¬ i < xr.length := by omega
      k_intsEnd
      exact q3 _ _ (by k_memK) (show Outc ((T[i]?).map _) _ _ by rw [List.getElem?_eq_none (by omega)]; rfl)
  | less i b =>
    obtain ⟨xr, hxr, hxl⟩ := ltt3.lst
    rw [List.length_map] at hxl
    by_cases li : i < T.length
    · have e0 : T[i]? = some T[i] := List.getElem?_eq_getElem li
      have e1 : (T.map lnV)[i]? = some (lnV T[i]) := by rw [List.getElem?_map, e0]; rfl
      obtain ⟨xs, r, hx, hn, hi, hr⟩ := ltt3.at e1
      rw [hxr] at hx
      cases hx
      have li2 : i < xr.length := by omega
      k_intsEnd
      refine ⟨hb, pe, r, .non, .less i b, T[i], T[i], rfl, by k_memK, by k_memK, okt _ (List.getElem_mem li), oke, rfl, fun z => (by cases z), fun v H4 s4 o => ?_⟩
      exact q3 v H4 (by k_memK) (show Outc ((T[i]?).bind _) v H4 by rw [e0]; exact o)
    · have li2 : ¬ i < xr.length := by omega
      k_intsEnd
      exact q3 _ _ (by k_memK) (show Outc ((T[i]?).bind _) _ _ by rw [List.getElem?_eq_none (by omega)]; rfl)
  | joined i j =>
    obtain ⟨xr, hxr, hxl⟩ := ltt3.lst
    rw [List.length_map] at hxl
    by_cases li : i < T.length
    · have e0 : T[i]? = some T[i] := List.getElem?_eq_getElem li
      have e1 : (T.map lnV)[i]? = some (lnV T[i]) := by rw [List.getElem?_map, e0]; rfl
      have li2 : i < xr.length := by omega
      by_cases lj : j < T.length
      · have f0 : T[j]? = some T[j] := List.getElem?_eq_getElem lj
        have f1 : (T.map lnV)[j]? = some (lnV T[j]) := by rw [List.getElem?_map, f0]; rfl
        obtain ⟨xs, r, r2, hx, hn, hi, hr, hj, hr2⟩ := ltt3.at2 e1 f1
        rw [hxr] at hx
        cases hx
        have lj2 : j < xr.length := by omega
        k_intsEnd
        refine ⟨hb, pe, r, .ref r2, .joined i j, T[i], T[j], rfl, by k_memK, by k_memK, okt _ (List.getElem_mem li), oke, rfl, fun _ => ⟨r2, rfl, by k_memK, okt _ (List.getElem_mem lj)⟩, fun v H4 s4 o => ?_⟩
        exact q3 v H4 (by k_memK) (show Outc ((T[i]?).bind fun l => (T[j]?).bind _) v H4 by rw [e0, f0]; exact o)
      · have lj2 : ¬ j < xr.length := by omega
        k_intsEnd
        exact q3 _ _ (by k_memK) (show Outc ((T[i]?).bind fun l => (T[j]?).bind _) _ _ by rw [e0, List.getElem?_eq_none (by omega : T.length ≤ j)]; rfl)
    · have li2 : ¬ i < xr.length := by omega
      k_intsEnd
      exact q3 _ _ (by k_memK) (show Outc ((T[i]?).bind _) _ _ by rw [List.getElem?_eq_none (by omega)]; rfl)
  | met i j =>
    obtain ⟨xr, hxr, hxl⟩ := ltt3.lst
    rw [List.length_map] at hxl
    by_cases li : i < T.length
    · have e0 : T[i]? = some T[i] := List.getElem?_eq_getElem li
      have e1 : (T.map lnV)[i]? = some (lnV T[i]) := by rw [List.getElem?_map, e0]; rfl
      have li2 : i < xr.length := by omega
      by_cases lj : j < T.length
      · have f0 : T[j]? = some T[j] := List.getElem?_eq_getElem lj
        have f1 : (T.map lnV)[j]? = some (lnV T[j]) := by rw [List.getElem?_map, f0]; rfl
        obtain ⟨xs, r, r2, hx, hn, hi, hr, hj, hr2⟩ := ltt3.at2 e1 f1
        rw [hxr] at hx
        cases hx
        have lj2 : j < xr.length := by omega
        k_intsEnd
        refine ⟨hb, pe, r, .ref r2, .met i j, T[i], T[j], rfl, by k_memK, by k_memK, okt _ (List.getElem_mem li), oke, rfl, fun _ => ⟨r2, rfl, by k_memK, okt _ (List.getElem_mem lj)⟩, fun v H4 s4 o => ?_⟩
        exact q3 v H4 (by k_memK) (show Outc ((T[i]?).bind fun l => (T[j]?).bind _) v H4 by rw [e0, f0]; exact o)
      · have lj2 : ¬ j < xr.length := by omega
        k_intsEnd
        exact q3 _ _ (by k_memK) (show Outc ((T[i]?).bind fun l => (T[j]?).bind _) _ _ by rw [e0, List.getElem?_eq_none (by omega : T.length ≤ j)]; rfl)
    · have li2 : ¬ i < xr.length := by omega
      k_intsEnd
      exact q3 _ _ (by k_memK) (show Outc ((T[i]?).bind _) _ _ by rw [List.getElem?_eq_none (by omega)]; rfl)
abbrev s__law_told : Stmt := top 68
theorem sc__law_told : FnScope ["_law_sort", "_law_rows", "_law_paper_told", "_law_told_here", "_law_entry_here", "_law_line_told"] ["_law_sort", "_law_rows", "_law_paper_told"] (defScope s__law_told) := sc_by (by decide +kernel)
abbrev sp__law_told : SpG := fun vs H Q => ∃ hb pr pp, ∃ (R : List Ln) (P : List En) (T : List Ln), vs = [.str (ks hb), .ref pr, .ref pp] ∧ LT H pr (R.map lnV) ∧ LT H pp (P.map enV) ∧ (∀ l ∈ R, LnOk hb l) ∧ (∀ e ∈ P, EnOk e) ∧ P.length ≤ 100000 ∧ linesOf hb R P [] = some T ∧ ∀ t H2, H t = none → Same H H2 → LT H2 t (T.map lnV) → Q (.ref t) H2
theorem d__law_told {m : Md} (hs : ∃ f fd, Has m "_law_told" s__law_told ["_law_sort", "_law_rows", "_law_paper_told"] f fd) (B : Bis m) (D__law_entry : Def m "_law_entry" ["_law_sort", "_law_rows", "_law_told_here", "_law_entry_here"] 6 sp__law_entry) : Def m "_law_told" ["_law_sort", "_law_rows", "_law_paper_told"] 7 sp__law_told := by
  refine def_of hs sc__law_told (fun vs H Q h => ?_) fun X C fn vs H Q h => ?_
  · obtain ⟨hb, pr, pp, R, P, T, rfl, ltr, ⟨rs, hpp, tp⟩, okr, oke, hl, hT, q⟩ := h
    rfl
  obtain ⟨hb, pr, pp, R, P, T, rfl, ltr, ⟨rs, hpp, tp⟩, okr, oke, hl, hT, q⟩ := h
  have n__law_sort : Nm X "_law_sort" 0 := C.nm rfl (by decide +kernel)
  have n__law_rows : Nm X "_law_rows" 1 := C.nm rfl (by decide +kernel)
  have n__law_paper_told : Nm X "_law_paper_told" 2 := C.nm rfl (by decide +kernel)
  have n__law_told_here : Nm X "_law_told_here" 3 := C.nm rfl (by decide +kernel)
  have t__law_told_here : Tg X "_law_told_here" 3 := C.tg fn rfl (by decide +kernel)
  have n__law_entry_here : Nm X "_law_entry_here" 4 := C.nm rfl (by decide +kernel)
  have t__law_entry_here : Tg X "_law_entry_here" 4 := C.tg fn rfl (by decide +kernel)
  have n__law_line_told : Nm X "_law_line_told" 5 := C.nm rfl (by decide +kernel)
  have t__law_line_told : Tg X "_law_line_told" 5 := C.tg fn rfl (by decide +kernel)
  have g_isinstance : Gl X "isinstance" := C.gl (by decide +kernel)
  have b_isinstance := B.isinstance
  have g_list : Gl X "list" := C.gl (by decide +kernel)
  have b_list := B.list
  have g__law_entry : Gl X "_law_entry" := C.gl (by decide +kernel)

  k_intsEnd
  rename_i D H1 nD sD hD
  refine ws_forL C (fun _ => rfl) ?_
  k_intsEnd
  refine ⟨_, _, rfl, SqL.of (sD _ _ hpp), fun i σ H' => Same H H' ∧ ∃ (Tk : List Ln) (u v : Option V), Tk.length = i ∧ LT H' D (Tk.map lnV) ∧ (∀ l ∈ Tk, LnOk hb l) ∧ linesOf hb R (P.drop i) Tk = some T ∧ σ = [some (.str (ks hb)), some (.ref pr), some (.ref pp), some (.ref D), u, v], ⟨by assumption, [], none, none, rfl, LT.nil hD, fun _ h => (by cases h), hT, rfl⟩, fun i σ H' p => SqL.of (p.1 _ _ hpp), ?_, ?_⟩
  · rintro i x σ H' hx ⟨s1, Tk, u, v, hn, lt, okT, hTk, rfl⟩
    obtain ⟨r, e, rfl, he, hr⟩ := tups_map tp hx
    have li : i < P.length := (List.getElem?_eq_some_iff.mp he).1
    rw [drop_step he] at hTk
    obtain ⟨l, hl2, hTk⟩ := Option.bind_eq_some_iff.mp hTk
    k_intsEnd
    have lr := ltr.same s1
    refine ⟨hb, pr, D, r, R, Tk, e, rfl, lr, lt, s1 _ _ hr, okr, okT, oke e (List.mem_of_getElem? he), fun v H2 s2 ht => ?_⟩
    rw [hl2] at ht
    obtain ⟨t, rfl, ht⟩ := ht
    k_intsEnd
    refine iteF ?_
    k_intsEnd
    obtain ⟨ys, hys, hlen⟩ := (lt.same s2).lst
    rw [List.length_map] at hlen
    refine ⟨_, ys, rfl, hys, ?_⟩
    k_intsEnd
    refine ⟨ys, hys, Nat.lt_of_lt_of_le (by omega : ys.length < 100001) (Nat.le_of_ble_eq_true rfl), ?_⟩
    k_intsEnd
    refine ⟨Same.put (Same.trans s1 s2) nD, Tk ++ [l], _, _, by rw [List.length_append, hn]; rfl, ?_, fun x hx => ?_, hTk, rfl⟩
    · rw [List.map_append]
      exact LT.snoc (lt.same s2) hys ht
    · rcases List.mem_append.mp hx with a | a
      · exact okT x a
      · rw [List.mem_singleton.mp a]
        exact entryLn_ok okr okT (oke e (List.mem_of_getElem? he)) hl2
  · rintro σ H' ⟨s1, Tk, u, v, hn, lt, okT, hTk, rfl⟩
    rw [List.length_map, tp.len, List.length_map, List.drop_length] at hTk
    cases hTk
    k_intsEnd
    exact q _ _ nD s1 lt
/-! # Lw5 -/
abbrev s__law_named : Stmt := top 71
theorem sc__law_named : FnScope ["_law_entry_here"] ["_law_entry_here"] (defScope s__law_named) := sc_by (by decide +kernel)
abbrev sp__law_named : SpG := fun vs H Q => ∃ pe, ∃ (e : En), vs = [.ref pe] ∧ H pe = some (.tup (enV e)) ∧ ∀ t H2, H t = none → Same H H2 → H2 t = some (.lst (nV (named e))) → Q (.ref t) H2
theorem d__law_named {m : Md} (hs : ∃ f fd, Has m "_law_named" s__law_named ["_law_entry_here"] f fd) (B : Bis m) : Def m "_law_named" ["_law_entry_here"] 1 sp__law_named := by
  refine def_of hs sc__law_named (fun vs H Q h => ?_) fun X C fn vs H Q h => ?_
  · obtain ⟨pe, e, rfl, hpe, q⟩ := h
    rfl
  obtain ⟨pe, e, rfl, hpe, q⟩ := h
  have n__law_entry_here : Nm X "_law_entry_here" 0 := C.nm rfl (by decide +kernel)
  have g_list : Gl X "list" := C.gl (by decide +kernel)
  have b_list := B.list

  cases e with
  | told i =>
    k_intsEnd
    exact q _ _ (Same.free (by assumption) (by assumption)) (by k_memK) (by assumption)
  | nothing a b =>
    k_intsEnd
    exact q _ _ (Same.free (by assumption) (by assumption)) (by k_memK) (by assumption)
  | turned i =>
    k_intsEnd
    rename_i px H2 sx hx
    refine c_list C (.inr (SqT.of hx)) fun r H3 nr s3 h3 => ?_
    exact q _ _ (Same.free (by k_memK) nr) (by k_memK) h3
  | less i b =>
    k_intsEnd
    rename_i px H2 sx hx
    refine c_list C (.inr (SqT.of hx)) fun r H3 nr s3 h3 => ?_
    exact q _ _ (Same.free (by k_memK) nr) (by k_memK) h3
  | joined i j =>
    k_intsEnd
    rename_i px H2 sx hx
    refine c_list C (.inr (SqT.of hx)) fun r H3 nr s3 h3 => ?_
    exact q _ _ (Same.free (by k_memK) nr) (by k_memK) h3
  | met i j =>
    k_intsEnd
    rename_i px H2 sx hx
    refine c_list C (.inr (SqT.of hx)) fun r H3 nr s3 h3 => ?_
    exact q _ _ (Same.free (by k_memK) nr) (by k_memK) h3
abbrev s__law_leans : Stmt := top 72
theorem sc__law_leans : FnScope ["_law_paper_told", "_law_found", "_law_turn", "_law_at", "_law_elder"] ["_law_paper_told"] (defScope s__law_leans) := sc_by (by decide +kernel)
abbrev sp__law_leans : SpG := fun vs H Q => ∃ pp, ∃ (P : List En), vs = [.ref pp] ∧ LT H pp (P.map enV) ∧ WfP P ∧ (∀ e ∈ P, EnOk e) ∧ P.length ≤ 6 ∧ ∀ t H2, H t = none → Same H H2 → H2 t = some (.lst (nV (leansK P))) → Q (.ref t) H2
theorem d__law_leans {m : Md} (hs : ∃ f fd, Has m "_law_leans" s__law_leans ["_law_paper_told"] f fd) (B : Bis m) (D__law_named : Def m "_law_named" ["_law_entry_here"] 1 sp__law_named) : Def m "_law_leans" ["_law_paper_told"] 2 sp__law_leans := by
  refine def_of hs sc__law_leans (fun vs H Q h => ?_) fun X C fn vs H Q h => ?_
  · obtain ⟨pp, P, rfl, ltp, wf, oke, few, q⟩ := h
    rfl
  obtain ⟨pp, P, rfl, ltp, wf, oke, few, q⟩ := h
  have n__law_paper_told : Nm X "_law_paper_told" 0 := C.nm rfl (by decide +kernel)
  have n__law_found : Nm X "_law_found" 1 := C.nm rfl (by decide +kernel)
  have t__law_found : Tg X "_law_found" 1 := C.tg fn rfl (by decide +kernel)
  have n__law_turn : Nm X "_law_turn" 2 := C.nm rfl (by decide +kernel)
  have t__law_turn : Tg X "_law_turn" 2 := C.tg fn rfl (by decide +kernel)
  have n__law_at : Nm X "_law_at" 3 := C.nm rfl (by decide +kernel)
  have t__law_at : Tg X "_law_at" 3 := C.tg fn rfl (by decide +kernel)
  have g_len : Gl X "len" := C.gl (by decide +kernel)
  have b_len := B.len
  have g_range : Gl X "range" := C.gl (by decide +kernel)
  have b_range := B.range
  have g_list : Gl X "list" := C.gl (by decide +kernel)
  have b_list := B.list
  have g__law_named : Gl X "_law_named" := C.gl (by decide +kernel)
  have g_sorted : Gl X "sorted" := C.gl (by decide +kernel)
  have b_sorted := B.sorted
  have g_set : Gl X "set" := C.gl (by decide +kernel)
  have b_set := B.set

  obtain ⟨xp, hpp, hpl⟩ := ltp.lst
  rw [List.length_map] at hpl
  have start : ∃ f0 : List Nat, (∀ x ∈ f0, x < P.length) ∧ f0.length ≤ 1 ∧ (∀ k, ∀ x ∈ roundsK P k f0, x < P.length) ∧ (∀ k, (roundsK P k f0).length ≤ 3 ^ k) ∧ sortK P.length (roundsK P P.length f0) = leansK P ∧ (match P with | [] => f0 = [] | e :: es => f0 = [es.length]) := by
    cases P with
    | nil => exact ⟨[], fun _ h => (by cases h), Nat.zero_le _, fun k => rounds_sub (S := fun x => x < 0) (fun a b ha _ => by omega) (fun _ h => by cases h) k, fun k => by
        have : ∀ k, roundsK [] k [] = [] := fun k => by induction k with
          | zero => rfl
          | succ k ih => show roundK [] (roundsK [] k []) = []; rw [ih]; rfl
        rw [this]; exact Nat.zero_le _, rfl, rfl⟩
    | cons e es => exact ⟨[es.length], fun x h => (by rw [List.mem_singleton.mp h]; exact Nat.lt_succ_self _), Nat.le_refl _, fun k => rounds_bd wf es.length k, fun k => rounds_len k, leans_eq wf es.length, rfl⟩
  obtain ⟨f0, f1, f2, f3, f4, f5, f6⟩ := start
  have after : ∀ {fr : Addr} {H1 : Hp}, Same H H1 → H1 fr = some (.lst (nV f0)) →
      WS X ((defBody s__law_leans).getD 1 (.Pass ⟨0, 0, 0, 0⟩)) { ({ nx := fun (x : L2.St) H' => Q V.non H', rt := Q } : Ends) with nx := WB X ((defBody s__law_leans).drop 2) { nx := fun x H' => Q V.non H', rt := Q } } [some (.ref pp), some (.ref fr), none, none, none] H1 := by
    intro fr H1 s1 hf
    refine ws_forR C g_range b_range.free ?_ (fun _ => rfl) ?_
    · rfl
    k_intsEnd
    refine ⟨by omega, by omega, fun i σ H' => Same H H' ∧ ∃ (fr : Addr) (u v : Option V), H' fr = some (.lst (nV (roundsK P i f0))) ∧ σ = [some (.ref pp), some (.ref fr), u, v, none], ⟨s1, fr, none, none, hf, rfl⟩, ?_, ?_⟩
    · rintro i σ H' hi ⟨s2, fr, u, v, hf, rfl⟩
      have li : i < 6 := by omega
      have hpp2 := s2 _ _ hpp
      have fb := f3 i
      have fl := f4 i
      have p6 : 3 ^ i ≤ 3 ^ 6 := Nat.pow_le_pow_right (by decide) (by omega)
      have nxt : roundsK P (i + 1) f0 = roundK P (roundsK P i f0) := rfl
      generalize roundsK P i f0 = f at *
      k_intsEnd
      refine ws_forL C (fun _ => rfl) ?_
      k_intsEnd
      refine c_list C (.inl (SqL.of hf)) fun lr H3 nlr s3 hlr => ?_
      refine ⟨_, _, rfl, SqL.of hlr, fun j σ H4 => Same H3 H4 ∧ ∃ (fr : Addr) (v : Option V), H4 fr = some (.lst (nV ((f.take j).foldl (rstep P) f))) ∧ σ = [some (.ref pp), some (.ref fr), some (.int (i : Int)), v, none], ⟨Same.refl _, fr, v, s3 _ _ hf, rfl⟩, fun j σ H4 p => SqL.of (p.1 _ _ hlr), ?_, ?_⟩
      · rintro j x σ H4 hx ⟨s4, fr, v, hg, rfl⟩
        obtain ⟨a, ha, rfl⟩ := nV_get hx
        have am := fb a (List.mem_of_getElem? ha)
        have s04 : Same H H4 := Same.trans s2 (Same.trans s3 s4)
        have e1 : P[a]? = some P[a] := List.getElem?_eq_getElem am
        have e2 : (P.map enV)[a]? = some (enV P[a]) := by rw [List.getElem?_map, e1]; rfl
        obtain ⟨xs, r, hxs, hxl, hxi, hr⟩ := (ltp.same s04).at e2
        have gl := fold_len (P := P) (f.take j) f
        have tl : (f.take j).length ≤ f.length := List.length_take_le' ..
        have nx2 := take_fold (f := rstep P) (s := f) ha
        have nA : namedAt P a = named P[a] := by unfold namedAt; rw [e1]
        generalize (f.take j).foldl (rstep P) f = g at *
        k_intsEnd
        refine lcF_L [("_law_elder", 4)] C (by decide +kernel) (fun _ => rfl) ?_
        k_intsEnd
        refine ⟨r, P[a], rfl, hr, fun t H5 nt s5 ht => ?_⟩
        have nl := named_len P[a]
        generalize P[a] = en at *
        refine ⟨_, _, rfl, ht, Nat.le_trans (by rw [List.length_map]; omega : _ ≤ 10) (Nat.le_of_ble_eq_true rfl), fun t acc => acc = nV (((named en).take t).filter fun j => decide (j ∉ g)), rfl, fun t x H6 acc ht s6 ea => ?_, fun D2 H6 acc nD2 s6 hD2 ea => ?_⟩
        · subst ea
          obtain ⟨jj, hj, rfl⟩ := nV_get ht
          refine turn_nm (i := 4) C rfl rfl rfl (by decide +kernel) fun X' B' => wts_one ?_
          have C' := B'.ctx C
          have n__law_elder_Xp : Nm X' "_law_elder" 4 := C'.nm rfl (by decide +kernel)
          have n__law_found_Xp : Nm X' "_law_found" 1 := C'.nm rfl (by decide +kernel)
          k_intsEnd
          refine nin_L C' (by k_memK) rfl (flat_nV g) ?_
          rw [inV_nV]
          k_intsEnd
          by_cases c2 : jj ∈ g
          · refine iteNN c2 ?_
            refine ⟨Same.refl _, ?_⟩
            show nV _ ++ [] = nV (((named en).take (t + 1)).filter fun j => decide (j ∉ g))
            rw [filt_take hj, if_pos c2, List.append_nil, List.append_nil]
          · refine iteNP c2 ?_
            intro X3 B3
            have C3 := B3.ctx C
            have n__law_elder_X3 : Nm X3 "_law_elder" 4 := C3.nm rfl (by decide +kernel)
            k_intsEnd
            refine ⟨Same.refl _, ?_⟩
            show nV _ ++ [V.int (jj : Int)] = nV (((named en).take (t + 1)).filter fun j => decide (j ∉ g))
            rw [filt_take hj, if_neg c2, nV_snoc]
        · subst ea
          rw [List.length_map, List.take_length] at hD2
          have l2 := List.length_filter_le (fun j => decide (j ∉ g)) (named en)
          k_intsEnd
          refine o_cat (p := fr) (xs := nV g) (by k_memK) hD2 (by rw [List.length_map, List.length_map]; exact Nat.le_trans (by omega : _ ≤ 10000) (Nat.le_of_ble_eq_true rfl)) fun r2 H7 nr2 s7 h7 => ?_
          k_intsEnd
          refine ⟨by k_memK, r2, _, ?_, rfl⟩
          rw [nx2]
          unfold rstep
          rw [nA, nV_app]
          exact h7
      · rintro σ H4 ⟨s4, fr, v, hg, rfl⟩
        rw [List.length_map, List.take_length] at hg
        k_intsEnd
        exact ⟨Same.trans s2 (Same.trans s3 s4), fr, _, _, by rw [nxt]; exact hg, rfl⟩
    · rintro σ H' ⟨s2, fr, u, v, hf, rfl⟩
      have hf : H' fr = some (.lst (nV (roundsK P xp.length f0))) := hf
      rw [hpl, nV_ints] at hf
      k_intsEnd
      have l6 := f4 P.length
      have p6 : 3 ^ P.length ≤ 3 ^ 6 := Nat.pow_le_pow_right (by decide) few
      refine c_set C (SqL.of hf) (by rw [List.length_map]; omega) fun r1 H3 c1 nr1 s3 h1 => ?_
      k_intsEnd
      refine c_sortedSet C h1 fun r2 H4 ns nr2 s4 h2 pw mem => ?_
      rw [sorted_is pw mem (f3 P.length), f5] at h2
      exact q _ _ (Same.free (Same.trans s2 s3) nr2) (Same.trans s2 (Same.trans s3 s4)) h2
  refine ws_cons ?_
  k_intsEnd
  refine o_neLT C (ltp.same (by assumption)) (LT.nil (by assumption)) (papV_ok oke) rfl (papV_is P) rfl ?_
  k_intsEnd
  cases P with
  | nil =>
    refine iteF ?_
    k_intsEnd
    subst f6
    exact after (by k_memK) (by assumption)
  | cons e es =>
    refine iteT ?_
    k_intsEnd
    subst f6
    refine after (by k_memK) ?_
    rename_i p9 H9 n9 s9 h9
    rw [h9, hpl, List.length_cons, show (((es.length + 1 : Nat) : Int) - 1) = ((es.length : Nat) : Int) by omega]
    rfl
/-! # Lw6 -/
abbrev s__law_trimmed : Stmt := top 73
theorem sc__law_trimmed : FnScope ["_law_paper_told", "_law_kept", "_law_found", "_law_at", "_law_entry_here", "_law_places", "_law_elder"] ["_law_paper_told"] (defScope s__law_trimmed) := sc_by (by decide +kernel)
abbrev sp__law_trimmed : SpG := fun vs H Q => ∃ pp, ∃ (P : List En), vs = [.ref pp] ∧ LT H pp (P.map enV) ∧ WfP P ∧ (∀ e ∈ P, EnOk e) ∧ P.length ≤ 6 ∧ ∀ t H2, H t = none → Same H H2 → LT H2 t ((trimmedK P).map enV) → Q (.ref t) H2
theorem d__law_trimmed {m : Md} (hs : ∃ f fd, Has m "_law_trimmed" s__law_trimmed ["_law_paper_told"] f fd) (B : Bis m) (D__law_leans : Def m "_law_leans" ["_law_paper_told"] 2 sp__law_leans) (D__law_named : Def m "_law_named" ["_law_entry_here"] 1 sp__law_named) : Def m "_law_trimmed" ["_law_paper_told"] 3 sp__law_trimmed := by
  refine def_of hs sc__law_trimmed (fun vs H Q h => ?_) fun X C fn vs H Q h => ?_
  · obtain ⟨pp, P, rfl, ltp, wf, oke, few, q⟩ := h
    rfl
  obtain ⟨pp, P, rfl, ltp, wf, oke, few, q⟩ := h
  have n__law_paper_told : Nm X "_law_paper_told" 0 := C.nm rfl (by decide +kernel)
  have n__law_kept : Nm X "_law_kept" 1 := C.nm rfl (by decide +kernel)
  have t__law_kept : Tg X "_law_kept" 1 := C.tg fn rfl (by decide +kernel)
  have n__law_found : Nm X "_law_found" 2 := C.nm rfl (by decide +kernel)
  have t__law_found : Tg X "_law_found" 2 := C.tg fn rfl (by decide +kernel)
  have n__law_at : Nm X "_law_at" 3 := C.nm rfl (by decide +kernel)
  have t__law_at : Tg X "_law_at" 3 := C.tg fn rfl (by decide +kernel)
  have n__law_entry_here : Nm X "_law_entry_here" 4 := C.nm rfl (by decide +kernel)
  have t__law_entry_here : Tg X "_law_entry_here" 4 := C.tg fn rfl (by decide +kernel)
  have n__law_places : Nm X "_law_places" 5 := C.nm rfl (by decide +kernel)
  have t__law_places : Tg X "_law_places" 5 := C.tg fn rfl (by decide +kernel)
  have g__law_leans : Gl X "_law_leans" := C.gl (by decide +kernel)
  have g__law_named : Gl X "_law_named" := C.gl (by decide +kernel)
  have g_tuple : Gl X "tuple" := C.gl (by decide +kernel)
  have b_tuple := B.tuple
  have g_len : Gl X "len" := C.gl (by decide +kernel)
  have b_len := B.len

  have tk : trimmedK P = (leansK P).filterMap fun i => (P[i]?).map (renE fun j => (leansK P).idxOf j) := by
    cases P with
    | nil => rfl
    | cons e es => rfl
  have kin : ∀ a ∈ leansK P, a < P.length := by
    cases P with
    | nil => intro a h; cases h
    | cons e es => intro a h; exact leanK_lt h
  have kcl : ∀ a ∈ leansK P, ∀ b ∈ namedAt P a, b ∈ leansK P := by
    cases P with
    | nil => intro a h; cases h
    | cons e es => intro a h b hb; exact leanK_closed wf h hb
  have klen : (leansK P).length ≤ P.length := by
    cases P with
    | nil => exact Nat.le_refl _
    | cons e es => exact sortK_len _ _
  k_intsEnd
  refine ⟨pp, P, rfl, ltp, wf, oke, few, fun kr H1 nk s1 hk => ?_⟩
  k_intsEnd
  rename_i D H2 nD s2 hD tu H3 ntu s3 htu
  have sB : Same H H3 := Same.trans s1 (Same.trans s2 s3)
  have nD0 : H D = none := Same.free s1 nD
  have hD3 := s3 _ _ hD
  have hk3 := s3 _ _ (s2 _ _ hk)
  have nkD : kr ≠ D := Ne.symm (ne_new nD hk)
  have sBo : Same H (Off H3 D) := Off.of sB nD0
  clear s1 s2 s3 hD nD ntu htu hk nk
  refine ws_forL C (fun _ => rfl) ?_
  k_intsEnd
  refine ⟨_, _, rfl, SqL.of hk3, fun i σ H' => Same (Off H3 D) H' ∧ ∃ u v w : Option V, LT H' D ((((leansK P).take i).filterMap fun i => (P[i]?).map (renE fun j => (leansK P).idxOf j)).map enV) ∧ σ = [some (.ref pp), some (.ref kr), some (.ref D), u, v, w, none], ⟨Off.le _ _, none, none, none, LT.nil hD3, rfl⟩, fun i σ H' p => SqL.of (p.1 _ _ (Off.get nkD hk3)), ?_, ?_⟩
  · rintro i x σ H' hx ⟨s1, u, v, w, ltD, rfl⟩
    obtain ⟨a, ha, rfl⟩ := nV_get hx
    have am := List.mem_of_getElem? ha
    have al := kin a am
    have il : i < (leansK P).length := (List.getElem?_eq_some_iff.mp ha).1
    have e1 : P[a]? = some P[a] := List.getElem?_eq_getElem al
    have e2 : (P.map enV)[a]? = some (enV P[a]) := by rw [List.getElem?_map, e1]; rfl
    have sH' := Same.trans sBo s1
    have hkr := s1 _ _ (Off.get nkD hk3)
    obtain ⟨xs, r, hxs, hxl, hxi, hr⟩ := (ltp.same sH').at e2
    have cl : ∀ j ∈ named P[a], j ∈ leansK P := fun j hj => kcl a am j (by unfold namedAt; rw [e1]; exact hj)
    have step : ∀ en, P[a] = en → (((leansK P).take (i + 1)).filterMap fun i => (P[i]?).map (renE fun j => (leansK P).idxOf j)).map enV = (((leansK P).take i).filterMap fun i => (P[i]?).map (renE fun j => (leansK P).idxOf j)).map enV ++ [enV (renE (fun j => (leansK P).idxOf j) en)] := by
      intro en hen
      rw [take_snoc ha, List.filterMap_append, List.filterMap_cons, e1, List.map_append, hen]
      rfl
    generalize P[a] = en at *
    have szl : (leansK P).length ≤ sizeLine := Nat.le_trans (by omega : _ ≤ 10) (Nat.le_of_ble_eq_true rfl)
    k_intsEnd
    refine slcF_L [("_law_elder", 6)] C (ix := 5) rfl (by decide +kernel) rfl rfl rfl (by decide +kernel) (fun _ => rfl) ?_
    k_intsEnd
    refine ⟨r, en, rfl, hr, fun nr H4 nnr s4 hnr => ?_⟩
    have nl := named_len en
    refine ⟨_, _, rfl, hnr, Nat.le_trans (by rw [List.length_map]; omega : _ ≤ 10) (Nat.le_of_ble_eq_true rfl), fun t acc => acc = nV (((named en).take t).map fun j => (leansK P).idxOf j), rfl, fun t x H5 acc ht s5 ea => ?_, fun D2 H5 acc nD2 s5 hD2 ea => ?_⟩
    · subst ea
      obtain ⟨jj, hj, rfl⟩ := nV_get ht
      refine turn_nm (i := 6) C rfl rfl rfl (by decide +kernel) fun X' B' => wts_nil ?_
      refine iteT ?_
      intro X3 B3
      have C3 := B3.ctx C
      have n__law_elder_X3 : Nm X3 "_law_elder" 6 := C3.nm rfl (by decide +kernel)
      have n__law_kept_X3 : Nm X3 "_law_kept" 1 := C3.nm rfl (by decide +kernel)
      k_intsEnd
      refine ⟨kr, leansK P, rfl, by k_memK, ?_⟩
      k_intsEnd
      refine ⟨by k_memK, cl jj (List.mem_of_getElem? hj), ?_⟩
      refine ⟨Same.refl _, ?_⟩
      show nV _ ++ [V.int _] = nV (((named en).take (t + 1)).map _)
      rw [take_snoc hj, List.map_append, ← nV_snoc]
      rfl
    subst ea
    rw [List.length_map, List.take_length] at hD2
    have s45 : Same H' H5 := Same.trans s4 s5
    clear s4 s5 hnr nnr nD2
    generalize H5 = H4 at *
    have s4 := s45
    obtain ⟨y0, hy0, _⟩ := (ltD.same s4).lst
    k_intsEnd
    refine ⟨D, y0, rfl, hy0, ?_⟩
    cases en with
    | told i1 =>
      k_intsEnd
      refine o_eqL C (t := nV []) (u := []) (by k_memK) (by assumption) (okV_nV _) rfl (isV_nV _) rfl ?_
      k_intsEnd
      refine iteT ?_
      k_intsEnd
      rename_i q1 Hz nz sz hz
      have hz2 : Hz r = some (.tup (enV (renE (fun j => (leansK P).idxOf j) (.told i1)))) := sz _ _ (s4 _ _ hr)
      obtain ⟨ys, hys, hyl⟩ := (ltD.same (Same.trans s4 sz)).lst
      rw [List.length_map] at hyl
      refine ⟨ys, hys, Nat.lt_of_le_of_lt (by rw [hyl]; exact Nat.le_trans (List.length_filterMap_le _ _) (List.length_take_le ..)) (Nat.lt_of_lt_of_le (by omega : i < 10) (Nat.le_of_ble_eq_true rfl)), ?_⟩
      have fin := LT.snoc (ltD.same (Same.trans s4 sz)) hys hz2
      k_intsEnd
      exact ⟨Same.put (Same.trans s1 (Same.trans s4 sz)) (Off.at H3 D), _, _, _, by rw [step _ rfl]; exact fin, rfl⟩
    | nothing a1 b1 =>
      k_intsEnd
      refine o_eqL C (t := nV []) (u := []) (by k_memK) (by assumption) (okV_nV _) rfl (isV_nV _) rfl ?_
      k_intsEnd
      refine iteT ?_
      k_intsEnd
      rename_i q1 Hz nz sz hz
      have hz2 : Hz r = some (.tup (enV (renE (fun j => (leansK P).idxOf j) (.nothing a1 b1)))) := sz _ _ (s4 _ _ hr)
      obtain ⟨ys, hys, hyl⟩ := (ltD.same (Same.trans s4 sz)).lst
      rw [List.length_map] at hyl
      refine ⟨ys, hys, Nat.lt_of_le_of_lt (by rw [hyl]; exact Nat.le_trans (List.length_filterMap_le _ _) (List.length_take_le ..)) (Nat.lt_of_lt_of_le (by omega : i < 10) (Nat.le_of_ble_eq_true rfl)), ?_⟩
      have fin := LT.snoc (ltD.same (Same.trans s4 sz)) hys hz2
      k_intsEnd
      exact ⟨Same.put (Same.trans s1 (Same.trans s4 sz)) (Off.at H3 D), _, _, _, by rw [step _ rfl]; exact fin, rfl⟩
    | turned i1 =>
      k_intsEnd
      refine o_eqL C (t := nV [(leansK P).idxOf i1]) (u := []) (by k_memK) (by assumption) (okV_nV _) rfl (isV_nV _) rfl ?_
      k_intsEnd
      refine iteN (List.cons_ne_nil _ _) ?_
      k_intsEnd
      refine c_tuple C (SqL.of (by k_memK)) fun tr H6 ntr s6 htr => ?_
      k_intsEnd
      rename_i rz Hz sz1 hz
      have sF : Same H4 Hz := by k_memK
      have hz2 : Hz rz = some (.tup (enV (renE (fun j => (leansK P).idxOf j) (.turned i1)))) := hz
      obtain ⟨ys, hys, hyl⟩ := (ltD.same (Same.trans s4 sF)).lst
      rw [List.length_map] at hyl
      refine ⟨ys, hys, Nat.lt_of_le_of_lt (by rw [hyl]; exact Nat.le_trans (List.length_filterMap_le _ _) (List.length_take_le ..)) (Nat.lt_of_lt_of_le (by omega : i < 10) (Nat.le_of_ble_eq_true rfl)), ?_⟩
      have fin := LT.snoc (ltD.same (Same.trans s4 sF)) hys hz2
      k_intsEnd
      exact ⟨Same.put (Same.trans s1 (Same.trans s4 sF)) (Off.at H3 D), _, _, _, by rw [step _ rfl]; exact fin, rfl⟩
    | joined i1 j1 =>
      k_intsEnd
      refine o_eqL C (t := nV [(leansK P).idxOf i1, (leansK P).idxOf j1]) (u := []) (by k_memK) (by assumption) (okV_nV _) rfl (isV_nV _) rfl ?_
      k_intsEnd
      refine iteN (List.cons_ne_nil _ _) ?_
      k_intsEnd
      refine c_tuple C (SqL.of (by k_memK)) fun tr H6 ntr s6 htr => ?_
      k_intsEnd
      rename_i rz Hz sz1 hz
      have sF : Same H4 Hz := by k_memK
      have hz2 : Hz rz = some (.tup (enV (renE (fun j => (leansK P).idxOf j) (.joined i1 j1)))) := hz
      obtain ⟨ys, hys, hyl⟩ := (ltD.same (Same.trans s4 sF)).lst
      rw [List.length_map] at hyl
      refine ⟨ys, hys, Nat.lt_of_le_of_lt (by rw [hyl]; exact Nat.le_trans (List.length_filterMap_le _ _) (List.length_take_le ..)) (Nat.lt_of_lt_of_le (by omega : i < 10) (Nat.le_of_ble_eq_true rfl)), ?_⟩
      have fin := LT.snoc (ltD.same (Same.trans s4 sF)) hys hz2
      k_intsEnd
      exact ⟨Same.put (Same.trans s1 (Same.trans s4 sF)) (Off.at H3 D), _, _, _, by rw [step _ rfl]; exact fin, rfl⟩
    | met i1 j1 =>
      k_intsEnd
      refine o_eqL C (t := nV [(leansK P).idxOf i1, (leansK P).idxOf j1]) (u := []) (by k_memK) (by assumption) (okV_nV _) rfl (isV_nV _) rfl ?_
      k_intsEnd
      refine iteN (List.cons_ne_nil _ _) ?_
      k_intsEnd
      refine c_tuple C (SqL.of (by k_memK)) fun tr H6 ntr s6 htr => ?_
      k_intsEnd
      rename_i rz Hz sz1 hz
      have sF : Same H4 Hz := by k_memK
      have hz2 : Hz rz = some (.tup (enV (renE (fun j => (leansK P).idxOf j) (.met i1 j1)))) := hz
      obtain ⟨ys, hys, hyl⟩ := (ltD.same (Same.trans s4 sF)).lst
      rw [List.length_map] at hyl
      refine ⟨ys, hys, Nat.lt_of_le_of_lt (by rw [hyl]; exact Nat.le_trans (List.length_filterMap_le _ _) (List.length_take_le ..)) (Nat.lt_of_lt_of_le (by omega : i < 10) (Nat.le_of_ble_eq_true rfl)), ?_⟩
      have fin := LT.snoc (ltD.same (Same.trans s4 sF)) hys hz2
      k_intsEnd
      exact ⟨Same.put (Same.trans s1 (Same.trans s4 sF)) (Off.at H3 D), _, _, _, by rw [step _ rfl]; exact fin, rfl⟩
    | less i1 b1 =>
      k_intsEnd
      refine o_eqL C (t := nV [(leansK P).idxOf i1]) (u := []) (by k_memK) (by assumption) (okV_nV _) rfl (isV_nV _) rfl ?_
      k_intsEnd
      refine iteN (List.cons_ne_nil _ _) ?_
      k_intsEnd
      refine c_tuple C (SqL.of (by k_memK)) fun tr H6 ntr s6 htr => ?_
      k_intsEnd
      rename_i rz Hz sz1 hz
      have sF : Same H4 Hz := by k_memK
      have hz2 : Hz rz = some (.tup (enV (renE (fun j => (leansK P).idxOf j) (.less i1 b1)))) := hz
      obtain ⟨ys, hys, hyl⟩ := (ltD.same (Same.trans s4 sF)).lst
      rw [List.length_map] at hyl
      refine ⟨ys, hys, Nat.lt_of_le_of_lt (by rw [hyl]; exact Nat.le_trans (List.length_filterMap_le _ _) (List.length_take_le ..)) (Nat.lt_of_lt_of_le (by omega : i < 10) (Nat.le_of_ble_eq_true rfl)), ?_⟩
      have fin := LT.snoc (ltD.same (Same.trans s4 sF)) hys hz2
      k_intsEnd
      exact ⟨Same.put (Same.trans s1 (Same.trans s4 sF)) (Off.at H3 D), _, _, _, by rw [step _ rfl]; exact fin, rfl⟩
  · rintro σ H' ⟨s1, u, v, w, ltD, rfl⟩
    rw [List.length_map, List.take_length, ← tk] at ltD
    k_intsEnd
    exact q _ _ nD0 (Same.trans sBo s1) ltD
/-! # Lw7 -/
abbrev s__law_hash : Stmt := top 50
theorem sc__law_hash : FnScope ["_law_seed", "_law_index", "_law_mixed"] ["_law_seed", "_law_index"] (defScope s__law_hash) := sc_by (by decide +kernel)
abbrev sp__law_hash : SpG := fun vs H Q => ∃ s c : Int, vs = [.int s, .int c] ∧ 0 ≤ c ∧ c < 2 ^ 50 ∧ ∀ v : Int, 0 ≤ v → Q (.int v) H
theorem d__law_hash {m : Md} (hs : ∃ f fd, Has m "_law_hash" s__law_hash ["_law_seed", "_law_index"] f fd) (B : Bis m) : Def m "_law_hash" ["_law_seed", "_law_index"] 1 sp__law_hash := by
  refine def_of hs sc__law_hash (fun vs H Q h => ?_) fun X C fn vs H Q h => ?_
  · obtain ⟨s, c, rfl, c0, c1, q⟩ := h
    rfl
  obtain ⟨s, c, rfl, c0, c1, q⟩ := h
  have n__law_seed : Nm X "_law_seed" 0 := C.nm rfl (by decide +kernel)
  have n__law_index : Nm X "_law_index" 1 := C.nm rfl (by decide +kernel)
  have n__law_mixed : Nm X "_law_mixed" 2 := C.nm rfl (by decide +kernel)
  have t__law_mixed : Tg X "_law_mixed" 2 := C.tg fn rfl (by decide +kernel)
  have g_int : Gl X "int" := C.gl (by decide +kernel)
  have b_int := B.int

  k_intsEnd
  refine o_mul (.inr ⟨by omega, by omega⟩) ?_
  k_intsEnd
  refine o_mul (.inl ⟨by omega, by omega⟩) ?_
  k_intsEnd
  refine o_mul (.inr ⟨by omega, by omega⟩) ?_
  k_intsEnd
  refine o_mul (.inl ⟨by omega, by omega⟩) ?_
  k_intsEnd
  refine o_mod (by decide) ?_
  k_intsEnd
  generalize hv : (s * 1140671 + 27644437 * c * c + 131 * c + 19) % 2147483629 = v at *
  have v0 : 0 ≤ v ∧ v < 2147483629 := by rw [← hv]; exact ⟨Int.emod_nonneg _ (by decide), Int.emod_lt_of_pos _ (by decide)⟩
  refine o_mul (.inl ⟨by omega, by omega⟩) ?_
  k_intsEnd
  refine o_mul (.inl ⟨by omega, by omega⟩) ?_
  k_intsEnd
  refine o_mod (by decide) ?_
  k_intsEnd
  refine o_mul (.inr ⟨by omega, by omega⟩) ?_
  k_intsEnd
  refine o_mod (by decide) ?_
  k_intsEnd
  exact q _ (Int.emod_nonneg _ (by decide))
abbrev s__law_random : Stmt := top 51
theorem sc__law_random : FnScope ["_law_generator_here", "_law_bound", "_law_drawn", "_law_turn"] ["_law_generator_here", "_law_bound"] (defScope s__law_random) := sc_by (by decide +kernel)
abbrev sp__law_random : SpG := fun vs H Q => ∃ g, ∃ z b : Int, vs = [.ref g, .int b] ∧ Gen H g z ∧ 0 ≤ z ∧ z < 2 ^ 40 ∧ 0 < b ∧ b < 2 ^ 29 ∧ ∀ (v z' : Int) H2, Kept g H H2 → Gen H2 g z' → z ≤ z' → z' ≤ z + 1 → 0 ≤ v → v < b → Q (.int v) H2
theorem d__law_random {m : Md} (hs : ∃ f fd, Has m "_law_random" s__law_random ["_law_generator_here", "_law_bound"] f fd) (B : Bis m) (D__law_hash : Def m "_law_hash" ["_law_seed", "_law_index"] 1 sp__law_hash) : Def m "_law_random" ["_law_generator_here", "_law_bound"] 2 sp__law_random := by
  refine def_of hs sc__law_random (fun vs H Q h => ?_) fun X C fn vs H Q h => ?_
  · obtain ⟨g, z, b, rfl, ⟨x, y, hg⟩, z0, z1, b0, b1, q⟩ := h
    rfl
  obtain ⟨g, z, b, rfl, ⟨x, y, hg⟩, z0, z1, b0, b1, q⟩ := h
  have n__law_generator_here : Nm X "_law_generator_here" 0 := C.nm rfl (by decide +kernel)
  have n__law_bound : Nm X "_law_bound" 1 := C.nm rfl (by decide +kernel)
  have n__law_drawn : Nm X "_law_drawn" 2 := C.nm rfl (by decide +kernel)
  have t__law_drawn : Tg X "_law_drawn" 2 := C.tg fn rfl (by decide +kernel)
  have n__law_turn : Nm X "_law_turn" 3 := C.nm rfl (by decide +kernel)
  have t__law_turn : Tg X "_law_turn" 3 := C.tg fn rfl (by decide +kernel)
  have g_int : Gl X "int" := C.gl (by decide +kernel)
  have b_int := B.int
  have g_range : Gl X "range" := C.gl (by decide +kernel)
  have b_range := B.range
  have g__law_hash : Gl X "_law_hash" := C.gl (by decide +kernel)

  have md : ∀ a : Int, 0 ≤ a % b ∧ a % b < b := fun a => ⟨Int.emod_nonneg _ (by omega), Int.emod_lt_of_pos _ b0⟩
  k_intsEnd
  by_cases c : x > 0
  · refine iteP c ?_
    k_intsEnd
    refine o_mod b0 ?_
    k_intsEnd
    refine ws_lput C rfl rfl rfl (fun _ => rfl) ?_
    k_intsEnd
    refine o_fdiv ⟨b0, by omega⟩ ?_
    k_intsEnd
    refine ⟨_, _, _, 0, rfl, rfl, hg, rfl, ?_⟩
    k_intsEnd
    exact q _ z _ (Kept.put (Kept.refl g H)) ⟨x / b, y, upd_same⟩ (Int.le_refl _) (by omega) (md _).1 (md _).2
  · refine iteN c ?_
    have bl : (Builtin.Int.intBits b : Int) / 30 = 0 := by
      have h1 : Builtin.Int.intBits b = blen b.toNat := intBits_nn (Int.le_of_lt b0)
      have h2 : blen b.toNat ≤ 29 := blen_le (by omega)
      omega
    k_intsEnd
    refine ws_forR C g_range b_range.free ?_ (fun _ => rfl) ?_
    · rfl
    k_intsEnd
    refine o_fdiv ⟨by decide, by decide⟩ ?_
    rw [bl]
    k_intsEnd
    refine ⟨by decide, by decide, fun i σ H' => ∃ d u : Int, Kept g H H' ∧ Gen H' g (z + i) ∧ 0 ≤ d ∧ ∃ w : Option V, σ = [some (.ref g), some (.int b), some (.int d), w], ⟨0, 0, Kept.refl g H, ⟨x, y, by rw [show z + ((0 : Nat) : Int) = z by omega]; exact hg⟩, Int.le_refl _, _, rfl⟩, ?_, ?_⟩
    · rintro i σ H' hi ⟨d, u, kp, ⟨x, y, hg⟩, d0, w, rfl⟩
      have hi : i < 1 := hi
      k_intsEnd
      refine ws_lput C rfl rfl rfl (fun _ => rfl) ?_
      k_intsEnd
      refine ⟨_, _, _, 2, rfl, rfl, hg, rfl, ?_⟩
      have hg2 : upd H' g (.lst [.int x, .int y, .int (z + i + 1)]) g = some (.lst [.int x, .int y, .int (z + i + 1)]) := upd_same
      have kp2 : Kept g H (upd H' g (.lst [.int x, .int y, .int (z + i + 1)])) := Kept.put kp
      have e : (([V.int x, V.int y, V.int (z + i)]).set 2 (V.int (z + i + 1))) = [.int x, .int y, .int (z + i + 1)] := rfl
      rw [e]
      generalize upd H' g (.lst [.int x, .int y, .int (z + i + 1)]) = H2 at *
      k_intsEnd
      refine o_mul (.inr ⟨by omega, by omega⟩) ?_
      k_intsEnd
      refine ⟨by omega, by omega, fun v v0 => ?_⟩
      k_intsEnd
      exact ⟨_, 0, kp2, ⟨x, y, by rw [show z + ((i + 1 : Nat) : Int) = z + i + 1 by omega]; exact hg2⟩, by omega, _, rfl⟩
    · rintro σ H' ⟨d, u, kp, G, d0, w, rfl⟩
      have G : Gen H' g (z + 1) := G
      k_intsEnd
      refine o_mod b0 ?_
      k_intsEnd
      exact q _ _ _ kp G (by omega) (by omega) (md _).1 (md _).2
/-! # Lw8 -/
abbrev s__law_cell : Stmt := top 52
theorem sc__law_cell : FnScope ["_law_script", "_law_index"] ["_law_script", "_law_index"] (defScope s__law_cell) := sc_by (by decide +kernel)
abbrev sp__law_cell (K : PySem.W.Frag) : SpG := fun vs H Q => ∃ ps, ∃ (ns : List Int) (i : Nat), vs = [.ref ps, .int (i : Int)] ∧ SqL K H ps (ns.map V.int) ∧ ∀ (v : Int) H2, Same H H2 → Q (.int v) H2
theorem d__law_cell {m : Md} (hs : ∃ f fd, Has m "_law_cell" s__law_cell ["_law_script", "_law_index"] f fd) (B : Bis m) : Def m "_law_cell" ["_law_script", "_law_index"] 1 (sp__law_cell m.K) := by
  refine def_of hs sc__law_cell (fun vs H Q h => ?_) fun X C fn vs H Q h => ?_
  · obtain ⟨ps, ns, i, rfl, hps, q⟩ := h
    rfl
  obtain ⟨ps, ns, i, rfl, hps, q⟩ := h
  have n__law_script : Nm X "_law_script" 0 := C.nm rfl (by decide +kernel)
  have n__law_index : Nm X "_law_index" 1 := C.nm rfl (by decide +kernel)
  have g_len : Gl X "len" := C.gl (by decide +kernel)
  have b_len := B.len
  have g_sum : Gl X "sum" := C.gl (by decide +kernel)
  have b_sum := B.sum

  k_intsEnd
  refine c_lenL C hps ?_
  k_intsEnd
  by_cases c : i < ns.length
  · have e0 : (ns.map V.int)[i]? = some (V.int ns[i]) := by rw [List.getElem?_map, List.getElem?_eq_getElem c]; rfl
    refine iteP (by rw [List.length_map]; omega) ?_
    k_intsEnd
    refine i_list C hps (atI_nat e0) ?_
    exact q _ _ (by k_memK)
  · refine iteN (by rw [List.length_map]; omega) ?_
    k_intsEnd
    refine l_list C hps fun r H2 nr s2 h2 => ?_
    k_intsEnd
    have e : cutV (ns.map V.int) none (some 1) = (ns.take 1).map V.int := by
      cases ns <;> rfl
    rw [e] at h2
    refine c_sum C (SqL.of h2) ?_
    k_intsEnd
    refine o_mod (by decide) ?_
    exact q _ _ s2
abbrev s__law_generator : Stmt := top 53
theorem sc__law_generator : FnScope ["_law_script", "_law_index", "_law_seed"] ["_law_script", "_law_index"] (defScope s__law_generator) := sc_by (by decide +kernel)
abbrev sp__law_generator (K : PySem.W.Frag) : SpG := fun vs H Q => ∃ ps, ∃ (ns : List Int) (i : Nat), vs = [.ref ps, .int (i : Int)] ∧ SqL K H ps (ns.map V.int) ∧ i < 10 ∧ ∀ g H2, H g = none → Same H H2 → Gen H2 g (1000 * (i : Int)) → Q (.ref g) H2
theorem d__law_generator {m : Md} (hs : ∃ f fd, Has m "_law_generator" s__law_generator ["_law_script", "_law_index"] f fd) (B : Bis m) (D__law_cell : Def m "_law_cell" ["_law_script", "_law_index"] 1 (sp__law_cell m.K)) : Def m "_law_generator" ["_law_script", "_law_index"] 2 (sp__law_generator m.K) := by
  refine def_of hs sc__law_generator (fun vs H Q h => ?_) fun X C fn vs H Q h => ?_
  · obtain ⟨ps, ns, i, rfl, hps, hi, q⟩ := h
    rfl
  obtain ⟨ps, ns, i, rfl, hps, hi, q⟩ := h
  have n__law_script : Nm X "_law_script" 0 := C.nm rfl (by decide +kernel)
  have n__law_index : Nm X "_law_index" 1 := C.nm rfl (by decide +kernel)
  have n__law_seed : Nm X "_law_seed" 2 := C.nm rfl (by decide +kernel)
  have t__law_seed : Tg X "_law_seed" 2 := C.tg fn rfl (by decide +kernel)
  have g__law_cell : Gl X "_law_cell" := C.gl (by decide +kernel)
  have g_int : Gl X "int" := C.gl (by decide +kernel)
  have b_int := B.int
  have g_max : Gl X "max" := C.gl (by decide +kernel)
  have b_max := B.max

  k_intsEnd
  refine ⟨ps, ns, i, rfl, hps, fun v H2 s2 => ?_⟩
  k_intsEnd
  refine o_pow ⟨by decide, by decide +kernel⟩ ?_
  k_intsEnd
  refine o_pow ⟨by decide, by decide +kernel⟩ ?_
  k_intsEnd
  refine o_pow ⟨by decide, by decide +kernel⟩ ?_
  k_intsEnd
  refine o_mod (by decide +kernel) ?_
  k_intsEnd
  refine o_mod (by decide) ?_
  k_intsEnd
  refine o_mul (.inl ⟨by omega, by omega⟩) ?_
  k_intsEnd
  exact q _ _ (Same.free s2 (by assumption)) (by k_memK) ⟨_, _, by assumption⟩
abbrev s__law_line : Stmt := top 62
theorem sc__law_line : FnScope ["_law_generator_here", "_law_sort", "_law_names_told", "_law_left", "_law_first", "_law_last", "_law_hours_by", "_law_bits_by", "_law_by", "_law_ahead"] ["_law_generator_here", "_law_sort", "_law_names_told"] (defScope s__law_line) := sc_by (by decide +kernel)
abbrev sp__law_line : SpG := fun vs H Q => ∃ hb g pn, ∃ z : Int, ∃ nms : List Str, vs = [.ref g, .str (ks hb), .ref pn] ∧ Gen H g z ∧ 0 ≤ z ∧ z < 2 ^ 39 ∧ H pn = some (.lst (nms.map V.str)) ∧ pn ≠ g ∧ nms.Nodup ∧ 2 ≤ nms.length ∧ nms.length ≤ 4 ∧ (∀ x ∈ nms, x ∈ nm5) ∧ ∀ t (l : Ln) (z' : Int) H2, Kept g H H2 → Gen H2 g z' → z ≤ z' → z' ≤ z + 4 → H2 t = some (.tup (lnV l)) → LnOk hb l → BdL 2520 l → Q (.ref t) H2
theorem d__law_line {m : Md} (hs : ∃ f fd, Has m "_law_line" s__law_line ["_law_generator_here", "_law_sort", "_law_names_told"] f fd) (B : Bis m) (D__law_random : Def m "_law_random" ["_law_generator_here", "_law_bound"] 2 sp__law_random) (D__law_rest : Def m "_law_rest" ["_law_sort", "_law_here", "_law_by"] 1 sp__law_rest) : Def m "_law_line" ["_law_generator_here", "_law_sort", "_law_names_told"] 3 sp__law_line := by
  refine def_of hs sc__law_line (fun vs H Q h => ?_) fun X C fn vs H Q h => ?_
  · obtain ⟨hb, g, pn, z, nms, rfl, G0, z0, z1, hpn, npg, nd, l2, l4, ok5, q⟩ := h
    rfl
  obtain ⟨hb, g, pn, z, nms, rfl, G0, z0, z1, hpn, npg, nd, l2, l4, ok5, q⟩ := h
  have n__law_generator_here : Nm X "_law_generator_here" 0 := C.nm rfl (by decide +kernel)
  have n__law_sort : Nm X "_law_sort" 1 := C.nm rfl (by decide +kernel)
  have n__law_names_told : Nm X "_law_names_told" 2 := C.nm rfl (by decide +kernel)
  have n__law_left : Nm X "_law_left" 3 := C.nm rfl (by decide +kernel)
  have t__law_left : Tg X "_law_left" 3 := C.tg fn rfl (by decide +kernel)
  have n__law_first : Nm X "_law_first" 4 := C.nm rfl (by decide +kernel)
  have t__law_first : Tg X "_law_first" 4 := C.tg fn rfl (by decide +kernel)
  have n__law_last : Nm X "_law_last" 5 := C.nm rfl (by decide +kernel)
  have t__law_last : Tg X "_law_last" 5 := C.tg fn rfl (by decide +kernel)
  have n__law_hours_by : Nm X "_law_hours_by" 6 := C.nm rfl (by decide +kernel)
  have t__law_hours_by : Tg X "_law_hours_by" 6 := C.tg fn rfl (by decide +kernel)
  have n__law_bits_by : Nm X "_law_bits_by" 7 := C.nm rfl (by decide +kernel)
  have t__law_bits_by : Tg X "_law_bits_by" 7 := C.tg fn rfl (by decide +kernel)
  have n__law_by : Nm X "_law_by" 8 := C.nm rfl (by decide +kernel)
  have t__law_by : Tg X "_law_by" 8 := C.tg fn rfl (by decide +kernel)
  have n__law_ahead : Nm X "_law_ahead" 9 := C.nm rfl (by decide +kernel)
  have t__law_ahead : Tg X "_law_ahead" 9 := C.tg fn rfl (by decide +kernel)
  have g_list : Gl X "list" := C.gl (by decide +kernel)
  have b_list := B.list
  have g__law_random : Gl X "_law_random" := C.gl (by decide +kernel)
  have g_len : Gl X "len" := C.gl (by decide +kernel)
  have b_len := B.len
  have g__law_rest : Gl X "_law_rest" := C.gl (by decide +kernel)

  k_intsEnd
  refine c_list C (.inl (SqL.of hpn)) fun lf H1 nlf s1 hlf => ?_
  have nlg : lf ≠ g := G0.neN nlf
  have G1 := G0.same s1
  k_intsEnd
  refine ⟨lf, _, rfl, hlf, ?_⟩
  k_intsEnd
  refine ⟨g, z, _, rfl, G1, z0, by omega, by rw [List.length_map]; omega, by rw [List.length_map]; omega, fun v za H2 k2 G2 za0 za1 v0 v1 => ?_⟩
  rw [List.length_map] at v1
  obtain ⟨j, rfl⟩ := Int.eq_ofNat_of_zero_le v0
  have hj : j < nms.length := by omega
  have hj2 : (nms.map V.str)[j]? = some (V.str nms[j]) := by rw [List.getElem?_map, List.getElem?_eq_getElem hj]; rfl
  have hlf2 := k2.get nlg hlf
  refine ⟨j, _, _, rfl, hlf2, by omega, hj2, ?_⟩
  have G2u : Gen (upd H2 lf (.lst ((nms.map V.str).eraseIdx j))) g za := by
    obtain ⟨x, y, e⟩ := G2
    exact ⟨x, y, by rw [upd_ne (Ne.symm nlg)]; exact e⟩
  have kA : Kept g H (upd H2 lf (.lst ((nms.map V.str).eraseIdx j))) := Same.put (Kept.trans (Kept.of s1) k2) (by rw [Off.ne nlg]; exact nlf)
  have hlf3 : upd H2 lf (.lst ((nms.map V.str).eraseIdx j)) lf = some (.lst ((nms.eraseIdx j).map V.str)) := by rw [upd_same, map_erase]
  have lenE : (nms.eraseIdx j).length = nms.length - 1 := List.length_eraseIdx_of_lt hj
  generalize upd H2 lf (.lst ((nms.map V.str).eraseIdx j)) = H3 at *
  k_intsEnd
  refine ⟨g, za, _, rfl, G2u, by omega, by omega, by rw [List.length_map, lenE]; omega, by rw [List.length_map, lenE]; omega, fun v2 zb H4 k4 G4 zb0 zb1 w0 w1 => ?_⟩
  rw [List.length_map, lenE] at w1
  obtain ⟨j2, rfl⟩ := Int.eq_ofNat_of_zero_le w0
  obtain ⟨bn, bm0, hbn, hbn2⟩ := pick_str (nms.eraseIdx j) (j := j2) (by rw [lenE]; omega)
  have am : nms[j] ∈ nms := List.getElem_mem hj
  obtain ⟨nab, bm⟩ := erase_ne nd (List.getElem?_eq_getElem hj) hbn2
  refine i_L C (k4.get nlg hlf3) (atI_nat hbn) ?_
  k_intsEnd
  rename_i ph H5 nh s5 hh pb H6 nb s6 hbb
  have kD : Kept g H H4 := Kept.trans kA k4
  have kE : Kept g H H6 := Kept.then_ kD (Same.trans s5 s6)
  have nph : ph ≠ g := G4.neN nh
  have npb : pb ≠ g := (G4.same s5).neN nb
  have G6 := (G4.same s5).same s6
  have hh6 := s6 _ _ hh
  cases hb
  · k_intsEnd
    refine ⟨g, zb, 11, rfl, G6, by omega, by omega, by decide, by decide, fun v3 zc H7 k7 G7 zc0 zc1 x0 x1 => ?_⟩
    obtain ⟨j3, rfl⟩ := Int.eq_ofNat_of_zero_le x0
    obtain ⟨b, hbm, hbe⟩ := pick_int bitsBy (j := j3) (by show j3 < 11; omega)
    refine i_L C (k7.get npb hbb) (atI_nat hbe) ?_
    have db : Dom false b := bits_dom b hbm
    obtain ⟨b0, b1⟩ := dom_bd db
    k_intsEnd
    refine ⟨g, zc, 13, rfl, G7, by omega, by omega, by decide, by decide, fun v4 zd H8 k8 G8 zd0 zd1 y0 y1 => ?_⟩
    k_intsEnd
    refine ⟨b0, lim12 false b1, fun _ => ⟨by omega, by omega⟩, ?_⟩
    k_intsEnd
    rename_i tt H9 nt s9 ht
    have lok := line_ok (hb := false) (r := v4 - 0) (ok5 _ am) (ok5 _ bm) nab db (fun _ => ⟨by omega, by omega⟩)
    refine q tt _ zd _ (Kept.then_ (Kept.trans (Kept.trans kE k7) k8) s9) (G8.same s9) (by omega) (by omega) ht lok ?_
    exact line_bd db (by constructor <;> omega) (fun _ => by omega)
  · k_intsEnd
    refine ⟨g, zb, 12, rfl, G6, by omega, by omega, by decide, by decide, fun v3 zc H7 k7 G7 zc0 zc1 x0 x1 => ?_⟩
    obtain ⟨j3, rfl⟩ := Int.eq_ofNat_of_zero_le x0
    obtain ⟨b, hbm, hbe⟩ := pick_int hoursBy (j := j3) (by show j3 < 12; omega)
    refine i_L C (k7.get nph hh6) (atI_nat hbe) ?_
    have db : Dom true b := hours_dom b hbm
    obtain ⟨b0, b1⟩ := dom_bd db
    k_intsEnd
    refine ⟨g, zc, 13, rfl, G7, by omega, by omega, by decide, by decide, fun v4 zd H8 k8 G8 zd0 zd1 y0 y1 => ?_⟩
    k_intsEnd
    refine ⟨b0, lim12 true b1, fun z => (by cases z), ?_⟩
    k_intsEnd
    rename_i tt H9 nt s9 ht
    have lok := line_ok (hb := true) (r := v4 - 6) (ok5 _ am) (ok5 _ bm) nab db (fun z => (by cases z))
    refine q tt _ zd _ (Kept.then_ (Kept.trans (Kept.trans kE k7) k8) s9) (G8.same s9) (by omega) (by omega) ht lok ?_
    exact line_bd db (by constructor <;> omega) (fun z => (by cases z))
/-! # Lw9 -/
abbrev s__law_any_entry : Stmt := top 69
theorem sc__law_any_entry : FnScope ["_law_generator_here", "_law_size", "_law_many", "_law_way", "_law_here", "_law_there"] ["_law_generator_here", "_law_size", "_law_many"] (defScope s__law_any_entry) := sc_by (by decide +kernel)
abbrev sp__law_any_entry : SpG := fun vs H Q => ∃ g, ∃ z : Int, ∃ size many : Nat, vs = [.ref g, .int (size : Int), .int (many : Int)] ∧ Gen H g z ∧ 0 ≤ z ∧ z < 2 ^ 39 ∧ size < 1000 ∧ many < 1000 ∧ ∀ t (e : En) (z' : Int) H2, Kept g H H2 → Gen H2 g z' → z ≤ z' → z' ≤ z + 5 → H2 t = some (.tup (enV e)) → EnOk e → Q (.ref t) H2
theorem d__law_any_entry {m : Md} (hs : ∃ f fd, Has m "_law_any_entry" s__law_any_entry ["_law_generator_here", "_law_size", "_law_many"] f fd) (B : Bis m) (D__law_random : Def m "_law_random" ["_law_generator_here", "_law_bound"] 2 sp__law_random) : Def m "_law_any_entry" ["_law_generator_here", "_law_size", "_law_many"] 3 sp__law_any_entry := by
  refine def_of hs sc__law_any_entry (fun vs H Q h => ?_) fun X C fn vs H Q h => ?_
  · obtain ⟨g, z, size, many, rfl, G0, z0, z1, sl, ml, q⟩ := h
    rfl
  obtain ⟨g, z, size, many, rfl, G0, z0, z1, sl, ml, q⟩ := h
  have n__law_generator_here : Nm X "_law_generator_here" 0 := C.nm rfl (by decide +kernel)
  have n__law_size : Nm X "_law_size" 1 := C.nm rfl (by decide +kernel)
  have n__law_many : Nm X "_law_many" 2 := C.nm rfl (by decide +kernel)
  have n__law_way : Nm X "_law_way" 3 := C.nm rfl (by decide +kernel)
  have t__law_way : Tg X "_law_way" 3 := C.tg fn rfl (by decide +kernel)
  have n__law_here : Nm X "_law_here" 4 := C.nm rfl (by decide +kernel)
  have t__law_here : Tg X "_law_here" 4 := C.tg fn rfl (by decide +kernel)
  have n__law_there : Nm X "_law_there" 5 := C.nm rfl (by decide +kernel)
  have t__law_there : Tg X "_law_there" 5 := C.tg fn rfl (by decide +kernel)
  have g__law_random : Gl X "_law_random" := C.gl (by decide +kernel)
  have g_max : Gl X "max" := C.gl (by decide +kernel)
  have b_max := B.max

  k_intsEnd
  refine ⟨g, z, 8, rfl, G0, z0, by omega, by decide, by decide, fun way za H1 k1 G1 za0 za1 w0 w1 => ?_⟩
  k_intsEnd
  refine ⟨g, za, _, rfl, G1, by omega, by omega, by split <;> omega, by split <;> omega, fun here zb H2 k2 G2 zb0 zb1 h0 h1 => ?_⟩
  k_intsEnd
  refine ⟨g, zb, _, rfl, G2, by omega, by omega, by split <;> omega, by split <;> omega, fun there zc H3 k3 G3 zc0 zc1 t0 t1 => ?_⟩
  have kA : Kept g H H3 := Kept.trans (Kept.trans k1 k2) k3
  obtain ⟨i, rfl⟩ := Int.eq_ofNat_of_zero_le h0
  obtain ⟨j, rfl⟩ := Int.eq_ofNat_of_zero_le t0
  clear h1 t1 k1 k2 k3 G1 G2
  k_intsEnd
  by_cases c : way < 2
  · refine iteP c ?_
    k_intsEnd
    refine ⟨g, zc, _, rfl, G3, by omega, by omega, by split <;> omega, by split <;> omega, fun v zd H4 k4 G4 zd0 zd1 v0 v1 => ?_⟩
    obtain ⟨n, rfl⟩ := Int.eq_ofNat_of_zero_le v0
    k_intsEnd
    rename_i t H5 nt s5 ht
    exact q t (.told n) zd _ (Kept.then_ (Kept.trans kA k4) s5) (G4.same s5) (by omega) (by omega) ht trivial
  refine iteN c ?_
  k_intsEnd
  by_cases c0 : size = 0
  · refine iteP (by omega) ?_
    k_intsEnd
    refine ⟨g, zc, _, rfl, G3, by omega, by omega, by split <;> omega, by split <;> omega, fun v zd H4 k4 G4 zd0 zd1 v0 v1 => ?_⟩
    obtain ⟨n, rfl⟩ := Int.eq_ofNat_of_zero_le v0
    k_intsEnd
    rename_i t H5 nt s5 ht
    exact q t (.told n) zd _ (Kept.then_ (Kept.trans kA k4) s5) (G4.same s5) (by omega) (by omega) ht trivial
  refine iteN (by omega) ?_
  k_intsEnd
  by_cases c2 : way = 2
  · refine iteP c2 ?_
    k_intsEnd
    rename_i l1 H4 nl1 s4 hl1
    refine ⟨g, zc, 2, rfl, G3.same s4, by omega, by omega, by decide, by decide, fun v zd H5 k5 G5 zd0 zd1 v0 v1 => ?_⟩
    obtain ⟨n, rfl⟩ := Int.eq_ofNat_of_zero_le v0
    obtain ⟨a, am, ha, _⟩ := pick_str ["a", "c"] (j := n) (by show n < 2; omega)
    refine i_L C (k5.get (G3.neN nl1) hl1) (atI_nat ha) ?_
    k_intsEnd
    rename_i l2 H6 nl2 s6 hl2
    refine ⟨g, zd, 2, rfl, G5.same s6, by omega, by omega, by decide, by decide, fun v2 ze H7 k7 G7 ze0 ze1 w0 w1 => ?_⟩
    obtain ⟨n2, rfl⟩ := Int.eq_ofNat_of_zero_le w0
    obtain ⟨b, bm, hb, _⟩ := pick_str ["b", "d"] (j := n2) (by show n2 < 2; omega)
    refine i_L C (k7.get (G5.neN nl2) hl2) (atI_nat hb) ?_
    k_intsEnd
    rename_i t H8 nt s8 ht
    have key : ∀ a ∈ (["a", "c"] : List Str), ∀ b ∈ (["b", "d"] : List Str), a ∈ nm5 ∧ b ∈ nm5 ∧ a ≠ b := by decide +kernel
    exact q t (.nothing a b) ze _ (Kept.then_ (Kept.trans (Kept.then_ (Kept.trans (Kept.then_ kA s4) k5) s6) k7) s8) (G7.same s8) (by omega) (by omega) ht (key a am b bm)
  refine iteN c2 ?_
  k_intsEnd
  by_cases c3 : way = 3
  · refine iteP c3 ?_
    k_intsEnd
    rename_i l1 H4 nl1 s4 hl1
    refine ⟨g, zc, 7, rfl, G3.same s4, by omega, by omega, by decide, by decide, fun v zd H5 k5 G5 zd0 zd1 v0 v1 => ?_⟩
    obtain ⟨n, rfl⟩ := Int.eq_ofNat_of_zero_le v0
    obtain ⟨b, bm, hb⟩ := pick_int [0, 1, 2, 3, 4, 6, 7] (j := n) (by show n < 7; omega)
    refine i_L C (k5.get (G3.neN nl1) hl1) (atI_nat hb) ?_
    k_intsEnd
    rename_i t H6 nt s6 ht
    have key : ∀ b ∈ ([0, 1, 2, 3, 4, 6, 7] : List Int), 0 ≤ b ∧ b.toNat ∈ [0, 1, 2, 3, 4, 6, 7] := by decide +kernel
    obtain ⟨hp, hm⟩ := key b bm
    obtain ⟨m, rfl⟩ := Int.eq_ofNat_of_zero_le hp
    exact q t (.less i m) zd _ (Kept.then_ (Kept.trans (Kept.then_ kA s4) k5) s6) (G5.same s6) (by omega) (by omega) ht hm
  refine iteN c3 ?_
  have cw : way = 4 ∨ way = 5 ∨ way = 6 ∨ way = 7 := by omega
  clear c c2 c3 w0 w1
  rcases cw with rfl | rfl | rfl | rfl
  · k_intsEnd
    refine q _ (.turned i) zc _ (Kept.then_ kA (by k_memK)) (G3.same (by k_memK)) (by omega) (by omega) (by assumption) trivial
  · k_intsEnd
    refine q _ (.joined i j) zc _ (Kept.then_ kA (by k_memK)) (G3.same (by k_memK)) (by omega) (by omega) (by assumption) trivial
  · k_intsEnd
    refine q _ (.joined i j) zc _ (Kept.then_ kA (by k_memK)) (G3.same (by k_memK)) (by omega) (by omega) (by assumption) trivial
  · k_intsEnd
    refine q _ (.met i j) zc _ (Kept.then_ kA (by k_memK)) (G3.same (by k_memK)) (by omega) (by omega) (by assumption) trivial
/-! # Lw10 -/
abbrev s__law_paper : Stmt := top 70
theorem sc__law_paper : FnScope ["_law_generator_here", "_law_sort", "_law_rows", "_law_most", "_law_paper_told", "_law_told_here", "_law_turn", "_law_entry_here", "_law_due"] ["_law_generator_here", "_law_sort", "_law_rows", "_law_most"] (defScope s__law_paper) := sc_by (by decide +kernel)
abbrev sp__law_paper : SpG := fun vs H Q => ∃ hb g pr, ∃ z : Int, ∃ (R : List Ln) (most : Nat), vs = [.ref g, .str (ks hb), .ref pr, .int (most : Int)] ∧ Gen H g z ∧ 0 ≤ z ∧ z < 2 ^ 38 ∧ LT H pr (R.map lnV) ∧ pr ≠ g ∧ (∀ l ∈ R, LnOk hb l) ∧ R.length < 1000 ∧ most < 100 ∧ ∀ t pp pt (P : List En) (T : List Ln) (z' : Int) H2, Kept g H H2 → Gen H2 g z' → z ≤ z' → z' ≤ z + 100 → H2 t = some (.lst [.ref pp, .ref pt]) → t ≠ g → pp ≠ g → pt ≠ g → LT H2 pp (P.map enV) → LT H2 pt (T.map lnV) → linesOf hb R P [] = some T → P.length ≤ most → (∀ e ∈ P, EnOk e) → Q (.ref t) H2
theorem d__law_paper {m : Md} (hs : ∃ f fd, Has m "_law_paper" s__law_paper ["_law_generator_here", "_law_sort", "_law_rows", "_law_most"] f fd) (B : Bis m) (D__law_any_entry : Def m "_law_any_entry" ["_law_generator_here", "_law_size", "_law_many"] 3 sp__law_any_entry) (D__law_entry : Def m "_law_entry" ["_law_sort", "_law_rows", "_law_told_here", "_law_entry_here"] 6 sp__law_entry) : Def m "_law_paper" ["_law_generator_here", "_law_sort", "_law_rows", "_law_most"] 7 sp__law_paper := by
  refine def_of hs sc__law_paper (fun vs H Q h => ?_) fun X C fn vs H Q h => ?_
  · obtain ⟨hb, g, pr, z, R, most, rfl, G0, z0, z1, ltr, nrg, okr, rl, ml, q⟩ := h
    rfl
  obtain ⟨hb, g, pr, z, R, most, rfl, G0, z0, z1, ltr, nrg, okr, rl, ml, q⟩ := h
  have n__law_generator_here : Nm X "_law_generator_here" 0 := C.nm rfl (by decide +kernel)
  have n__law_sort : Nm X "_law_sort" 1 := C.nm rfl (by decide +kernel)
  have n__law_rows : Nm X "_law_rows" 2 := C.nm rfl (by decide +kernel)
  have n__law_most : Nm X "_law_most" 3 := C.nm rfl (by decide +kernel)
  have n__law_paper_told : Nm X "_law_paper_told" 4 := C.nm rfl (by decide +kernel)
  have t__law_paper_told : Tg X "_law_paper_told" 4 := C.tg fn rfl (by decide +kernel)
  have n__law_told_here : Nm X "_law_told_here" 5 := C.nm rfl (by decide +kernel)
  have t__law_told_here : Tg X "_law_told_here" 5 := C.tg fn rfl (by decide +kernel)
  have n__law_turn : Nm X "_law_turn" 6 := C.nm rfl (by decide +kernel)
  have t__law_turn : Tg X "_law_turn" 6 := C.tg fn rfl (by decide +kernel)
  have n__law_entry_here : Nm X "_law_entry_here" 7 := C.nm rfl (by decide +kernel)
  have t__law_entry_here : Tg X "_law_entry_here" 7 := C.tg fn rfl (by decide +kernel)
  have n__law_due : Nm X "_law_due" 8 := C.nm rfl (by decide +kernel)
  have t__law_due : Tg X "_law_due" 8 := C.tg fn rfl (by decide +kernel)
  have g_range : Gl X "range" := C.gl (by decide +kernel)
  have b_range := B.range
  have g__law_any_entry : Gl X "_law_any_entry" := C.gl (by decide +kernel)
  have g_len : Gl X "len" := C.gl (by decide +kernel)
  have b_len := B.len
  have g__law_entry : Gl X "_law_entry" := C.gl (by decide +kernel)

  k_intsEnd
  rename_i pp0 H1 np s1 hpp0 pt0 H2 nt s2 hpt0
  have sH : Same H H2 := by k_memK
  have G2 : Gen H2 g z := G0.same sH
  have npg : pp0 ≠ g := G0.neN np
  have ntg : pt0 ≠ g := (G0.same s1).neN nt
  refine ws_forR C g_range b_range.free ?_ (fun _ => rfl) ?_
  · rfl
  k_intsEnd
  refine ⟨by decide, by decide, fun i σ H' => ∃ (za : Int) (P : List En) (T : List Ln) (pp pt : Addr) (u v w : Option V), Kept g H H' ∧ Gen H' g za ∧ z ≤ za ∧ za ≤ z + 5 * i ∧ pp ≠ g ∧ pt ≠ g ∧ LT H' pp (P.map enV) ∧ LT H' pt (T.map lnV) ∧ linesOf hb R P [] = some T ∧ P.length ≤ most ∧ (∀ e ∈ P, EnOk e) ∧ σ = [some (.ref g), some (.str (ks hb)), some (.ref pr), some (.int (most : Int)), some (.ref pp), some (.ref pt), u, v, w], ⟨z, [], [], pp0, pt0, none, none, none, Kept.of sH, G2, Int.le_refl _, by omega, npg, ntg, LT.nil (s2 _ _ hpp0), LT.nil hpt0, rfl, Nat.zero_le _, fun _ h => (by cases h), rfl⟩, ?_, ?_⟩
  · rintro i σ H' hi ⟨za, P, T, pp, pt, u, v, w, k1, G1, za0, za1, npg, ntg, ltp, ltt, hT, pl, oke, rfl⟩
    have hi : i < 18 := hi
    have ltr' := ltr.kept k1 nrg G0
    obtain ⟨xt, hxt, hxl⟩ := ltt.lst
    rw [List.length_map] at hxl
    obtain ⟨xr, hxr, hxrl⟩ := ltr'.lst
    rw [List.length_map] at hxrl
    have tl : T.length = P.length := by have := linesOf_len hT; simpa using this
    have okT := linesOf_ok okr (fun _ h => by cases h) oke hT
    k_intsEnd
    refine ⟨g, za, xt.length, xr.length, rfl, G1, by omega, by omega, by omega, by omega, fun te e zb H3 k3 G3 zb0 zb1 hte oe => ?_⟩
    have kA := Kept.trans k1 k3
    k_intsEnd
    refine ⟨hb, pr, pt, te, R, T, e, rfl, ltr'.kept k3 nrg G1, ltt.kept k3 ntg G1, hte, okr, okT, oe, fun vd H4 s4 oc => ?_⟩
    have G4 := G3.same s4
    have kB := Kept.then_ kA s4
    have ltp4 := (ltp.kept k3 npg G1).same s4
    have ltt4 := (ltt.kept k3 ntg G1).same s4
    have hte4 := s4 _ _ hte
    have hxt4 := s4 _ _ (k3.get ntg hxt)
    obtain ⟨xp4, hxp4, hxp4l⟩ := ltp4.lst
    rw [List.length_map] at hxp4l
    clear hxr ltr' ltp ltt
    cases hen : entryLn hb R T e with
    | none =>
      rw [hen] at oc
      obtain rfl : vd = .non := oc
      k_intsEnd
      exact ⟨zb, P, T, pp, pt, _, _, _, kB, G4, by omega, by omega, npg, ntg, ltp4, ltt4, hT, pl, oke, rfl⟩
    | some l =>
      rw [hen] at oc
      obtain ⟨rl2, rfl, hrl⟩ := oc
      by_cases c : T.length < most
      · have c2 : ((xt.length : Nat) : Int) < (most : Int) := by omega
        k_intsEnd
        refine iteT ?_
        k_intsEnd
        rename_i e1 H5 ne1 s5 he1
        have ltp5 := ltp4.same s5
        have one5 : LT H5 e1 [enV e] := LT.one he1 (s5 _ _ hte4)
        refine o_cat (s5 _ _ hxp4) he1 (Nat.le_trans (by rw [hxp4l]; show P.length + 1 ≤ 200; omega) (Nat.le_of_ble_eq_true rfl)) fun p6 H6 np6 s6 hp6 => ?_
        have ltp6 : LT H6 p6 ((P ++ [e]).map enV) := by
          rw [List.map_append]
          exact LT.app (ltp5.same s6) (one5.same s6) (s6 _ _ (s5 _ _ hxp4)) (s6 _ _ he1) hp6
        have s46 := Same.trans s5 s6
        k_intsEnd
        rename_i e2 H7 ne2 s7 he2
        have one7 : LT H7 e2 [lnV l] := LT.one he2 (s7 _ _ (s46 _ _ hrl))
        have s47 := Same.trans s46 s7
        have hxt7 := s47 _ _ hxt4
        refine o_cat hxt7 he2 (Nat.le_trans (by rw [hxl]; show T.length + 1 ≤ 200; omega) (Nat.le_of_ble_eq_true rfl)) fun t8 H8 nt8 s8 ht8 => ?_
        have ltt8 : LT H8 t8 ((T ++ [l]).map lnV) := by
          rw [List.map_append]
          exact LT.app ((ltt4.same s47).same s8) (one7.same s8) (s8 _ _ hxt7) (s8 _ _ he2) ht8
        have s48 := Same.trans s47 s8
        k_intsEnd
        refine ⟨zb, P ++ [e], T ++ [l], p6, t8, _, _, _, Kept.then_ kB s48, G4.same s48, by omega, by omega, (G4.same s5).neN np6, (G4.same s47).neN nt8, ltp6.same (Same.trans s7 s8), ltt8, ?_, ?_, ?_, rfl⟩
        · rw [linesOf_app, hT]
          show (entryLn hb R T e).bind _ = _
          rw [hen]; rfl
        · rw [List.length_append]; show P.length + 1 ≤ most; omega
        · intro x hx
          rcases List.mem_append.mp hx with a | a
          · exact oke x a
          · rw [List.mem_singleton.mp a]; exact oe
      · have c2 : ¬ ((xt.length : Nat) : Int) < (most : Int) := by omega
        k_intsEnd
        refine iteT ?_
        k_intsEnd
        exact ⟨zb, P, T, pp, pt, _, _, _, kB, G4, by omega, by omega, npg, ntg, ltp4, ltt4, hT, pl, oke, rfl⟩
  · rintro σ H' ⟨za, P, T, pp, pt, u, v, w, k1, G1, za0, za1, npg, ntg, ltp, ltt, hT, pl, oke, rfl⟩
    k_intsEnd
    rename_i t H3 nt3 s3 ht3
    have za1 : za ≤ z + 5 * (18 : Nat) := za1
    exact q t pp pt P T za H3 (Kept.then_ k1 s3) (G1.same s3) za0 (by omega) ht3 (G1.neN nt3) npg ntg (ltp.same s3) (ltt.same s3) hT pl oke
/-! # Lw11 -/
abbrev s__law_round : Stmt := top 63
theorem sc__law_round : FnScope ["_law_generator_here", "_law_sort", "_law_names_told", "_law_rows", "_law_bys", "_law_first", "_law_last", "_law_at", "_law_ends"] ["_law_generator_here", "_law_sort", "_law_names_told"] (defScope s__law_round) := sc_by (by decide +kernel)
abbrev sp__law_round : SpG := fun vs H Q => ∃ hb g pn, ∃ z : Int, ∃ nms : List Str, vs = [.ref g, .str (ks hb), .ref pn] ∧ Gen H g z ∧ 0 ≤ z ∧ z < 2 ^ 39 ∧ H pn = some (.lst (nms.map V.str)) ∧ pn ≠ g ∧ nms.Nodup ∧ 3 ≤ nms.length ∧ (∀ x ∈ nms, x ∈ nm5) ∧ ∀ t (ls : List Ln) (z' : Int) H2, Kept g H H2 → Gen H2 g z' → z ≤ z' → z' ≤ z + 7 → t ≠ g → LT H2 t (ls.map lnV) → (∀ l ∈ ls, LnOk hb l ∧ BdL 2520 l) → ls.length = 3 → Q (.ref t) H2
theorem d__law_round {m : Md} (hs : ∃ f fd, Has m "_law_round" s__law_round ["_law_generator_here", "_law_sort", "_law_names_told"] f fd) (B : Bis m) (D__law_random : Def m "_law_random" ["_law_generator_here", "_law_bound"] 2 sp__law_random) (D__law_rest : Def m "_law_rest" ["_law_sort", "_law_here", "_law_by"] 1 sp__law_rest) : Def m "_law_round" ["_law_generator_here", "_law_sort", "_law_names_told"] 3 sp__law_round := by
  refine def_of hs sc__law_round (fun vs H Q h => ?_) fun X C fn vs H Q h => ?_
  · obtain ⟨hb, g, pn, z, nms, rfl, G0, z0, z1, hpn, npg, nd, l3, ok5, q⟩ := h
    rfl
  obtain ⟨hb, g, pn, z, nms, rfl, G0, z0, z1, hpn, npg, nd, l3, ok5, q⟩ := h
  have n__law_generator_here : Nm X "_law_generator_here" 0 := C.nm rfl (by decide +kernel)
  have n__law_sort : Nm X "_law_sort" 1 := C.nm rfl (by decide +kernel)
  have n__law_names_told : Nm X "_law_names_told" 2 := C.nm rfl (by decide +kernel)
  have n__law_rows : Nm X "_law_rows" 3 := C.nm rfl (by decide +kernel)
  have t__law_rows : Tg X "_law_rows" 3 := C.tg fn rfl (by decide +kernel)
  have n__law_bys : Nm X "_law_bys" 4 := C.nm rfl (by decide +kernel)
  have t__law_bys : Tg X "_law_bys" 4 := C.tg fn rfl (by decide +kernel)
  have n__law_first : Nm X "_law_first" 5 := C.nm rfl (by decide +kernel)
  have t__law_first : Tg X "_law_first" 5 := C.tg fn rfl (by decide +kernel)
  have n__law_last : Nm X "_law_last" 6 := C.nm rfl (by decide +kernel)
  have t__law_last : Tg X "_law_last" 6 := C.tg fn rfl (by decide +kernel)
  have n__law_at : Nm X "_law_at" 7 := C.nm rfl (by decide +kernel)
  have t__law_at : Tg X "_law_at" 7 := C.tg fn rfl (by decide +kernel)
  have n__law_ends : Nm X "_law_ends" 8 := C.nm rfl (by decide +kernel)
  have t__law_ends : Tg X "_law_ends" 8 := C.tg fn rfl (by decide +kernel)
  have g__law_random : Gl X "_law_random" := C.gl (by decide +kernel)
  have g__law_rest : Gl X "_law_rest" := C.gl (by decide +kernel)

  have after : ∀ {rw pb : Addr} {bys : List Int} {H1 : Hp} {za : Int}, H rw = none → rw ≠ g → pb ≠ g → rw ≠ pb → Kept g H H1 → Gen H1 g za → z ≤ za → za ≤ z + 1 → H1 rw = some (.lst []) → H1 pb = some (.lst (bys.map V.int)) → bys.length = 3 → (∀ b ∈ bys, Dom hb b) →
      WS X ((defBody s__law_round).getD 1 (.Pass ⟨0, 0, 0, 0⟩)) { ({ nx := fun (x : L2.St) H' => Q V.non H', rt := Q } : Ends) with nx := WB X ((defBody s__law_round).drop 2) { nx := fun x H' => Q V.non H', rt := Q } } [some (.ref g), some (.str (ks hb)), some (.ref pn), some (.ref rw), some (.ref pb), none, none, none, none] H1 := by
    intro rw pb bys H1 za nrw nrg nbg nrb kH G1 za0 za1 hrw hpb bl bd
    have npr : pn ≠ rw := Ne.symm (ne_new nrw hpn)
    have hpn1 := kH.get npg hpn
    refine ws_forL C (fun _ => rfl) ?_
    k_intsEnd
    rename_i p1 G1' n1 g1 h1 p2 G2 n2 g2 h2 p3 G3 n3 g3 h3 pl G4 n4 g4 h4
    have rw3 : G3 rw = some (.lst []) := by k_memK
    have tt : Tups G4 [p1, p2, p3] (trio.map fun t => [V.int (t.1 : Int), V.int (t.2.1 : Int), V.int (t.2.2 : Int)]) := .cons (by k_memK) (.cons (by k_memK) (.cons (by k_memK) .nil))
    have s13 : Same H1 G3 := by k_memK
    have sG : Same H1 G4 := Same.trans s13 g4
    have GG := G1.same sG
    have hrw4 := sG _ _ hrw
    have hpb4 := sG _ _ hpb
    have hpn4 := sG _ _ hpn1
    have npl : pl ≠ g := (G1.same s13).neN n4
    have nplr : pl ≠ rw := fun e => by rw [e, rw3] at n4; cases n4
    have kG := Kept.then_ kH sG
    clear n1 n2 n3 n4 g1 g2 g3 g4 h1 h2 h3 hrw hpb hpn1 sG s13 rw3
    have B0 : Off (Off G4 g) rw g = none := Off.ng (Off.at G4 g)
    have B1 : Off (Off G4 g) rw rw = none := Off.at _ _
    have sB : Same (Off (Off G4 g) rw) G4 := Same.trans (Off.le _ _) (Off.le _ _)
    have hplB : Off (Off G4 g) rw pl = some (.lst [.ref p1, .ref p2, .ref p3]) := Off.get nplr (Off.get npl h4)
    have hpbB : Off (Off G4 g) rw pb = some (.lst (bys.map V.int)) := Off.get (Ne.symm nrb) (Off.get nbg hpb4)
    have hpnB : Off (Off G4 g) rw pn = some (.lst (nms.map V.str)) := Off.get npr (Off.get npg hpn4)
    have tB : Tups (Off (Off G4 g) rw) [p1, p2, p3] (trio.map fun t => [V.int (t.1 : Int), V.int (t.2.1 : Int), V.int (t.2.2 : Int)]) := tt.off GG hrw4
    have kB : Same (Off (Off H g) rw) (Off (Off G4 g) rw) := Off.up (Off.on kG)
    generalize Off (Off G4 g) rw = B at *
    refine ⟨_, _, rfl, SqL.of h4, fun i σ H' => Same B H' ∧ ∃ (zb : Int) (ls : List Ln) (u v w x : Option V), Gen H' g zb ∧ z ≤ zb ∧ zb ≤ z + 1 + 2 * i ∧ LT H' rw (ls.map lnV) ∧ (∀ l ∈ ls, LnOk hb l ∧ BdL 2520 l) ∧ ls.length = i ∧ σ = [some (.ref g), some (.str (ks hb)), some (.ref pn), some (.ref rw), some (.ref pb), u, v, w, x], ⟨sB, za, [], none, none, none, none, GG, za0, by omega, LT.nil hrw4, fun _ h => (by cases h), rfl, rfl⟩, fun i σ H' p => SqL.of (p.1 _ _ hplB), ?_, ?_⟩
    · rintro i x σ H' hx ⟨s1, zb, ls, u, v, w, x1, G1, zb0, zb1, ltr, okl, ll, rfl⟩
      obtain ⟨r, t, rfl, ht, hr⟩ := tups_map (f := fun t : Nat × Nat × Nat => [V.int (t.1 : Int), V.int (t.2.1 : Int), V.int (t.2.2 : Int)]) (ls := trio) (rs := [p1, p2, p3]) tB hx
      have hr' := s1 _ _ hr
      obtain ⟨t1, t2, t3, t4⟩ := trio_ok t (List.mem_of_getElem? ht)
      have hi : i < 3 := (List.getElem?_eq_some_iff.mp ht).1
      obtain ⟨a, am, ha, ha2⟩ := pick_str nms (j := t.1) (by omega)
      obtain ⟨b, bm, hb1, hb2⟩ := pick_str nms (j := t.2.1) (by omega)
      obtain ⟨y, ym, hy⟩ := pick_int bys (j := t.2.2) (by omega)
      have nab : a ≠ b := by
        intro e
        subst e
        obtain ⟨q1, e1⟩ := List.getElem?_eq_some_iff.mp ha2
        obtain ⟨q2, e2⟩ := List.getElem?_eq_some_iff.mp hb2
        have pw := List.pairwise_iff_getElem.mp nd
        rcases Nat.lt_or_ge t.1 t.2.1 with o | o
        · exact pw _ _ q1 q2 o (e1.trans e2.symm)
        · exact pw _ _ q2 q1 (by omega) (e2.trans e1.symm)
      obtain ⟨xr, hxr, hxl⟩ := ltr.lst
      k_intsEnd
      refine ⟨g, zb, 2, rfl, G1, by omega, by omega, by decide, by decide, fun v zc H2 k2 G2 zc0 zc1 v0 v1 => ?_⟩
      have s2 : Same B H2 := base_kept s1 B0 k2
      have hrw2 := k2.get nrg hxr
      have hpn2 := s2 _ _ hpnB
      k_intsEnd
      by_cases cv : v = 0
      · refine iteP cv ?_
        k_intsEnd
        rename_i pe H3 ne3 s3 he3
        have hrw3 := s3 _ _ hrw2
        refine ⟨rw, _, rfl, hrw3, ?_⟩
        k_intsEnd
        refine ⟨g, zc, 16, rfl, G2.same s3, by omega, by omega, by decide, by decide, fun ah zd H4 k4 G4 zd0 zd1 ah0 ah1 => ?_⟩
        have s4 : Same B H4 := base_kept (Same.trans s2 s3) B0 k4
        have hpb4 := s4 _ _ hpbB
        have hrw4 := k4.get nrg hrw3
        have he4 := k4.tup (G2.same s3) he3
        have dy := bd y ym
        obtain ⟨y0, y1⟩ := dom_bd dy
        k_intsEnd
        refine ⟨y0, lim12 hb y1, fun _ => ⟨ah0, by omega⟩, ?_⟩
        k_intsEnd
        rename_i pf H5 nf s5 hf5 pc H6 s6 hc
        have hc : H6 pc = some (.tup (lnV ⟨a, b, restK hb ah y, y⟩)) := hc
        have lt6 : LT H6 rw (ls.map lnV) := ((ltr.kept k2 nrg G1).same s3 |>.kept k4 nrg (G2.same s3)).same (Same.trans s5 s6)
        have hrw6 := s6 _ _ (s5 _ _ hrw4)
        refine ⟨xr, hrw6, Nat.lt_of_lt_of_le (by rw [hxl, List.length_map]; omega : xr.length < 10) (Nat.le_of_ble_eq_true rfl), ?_⟩
        have fin := LT.snoc lt6 hrw6 hc
        have lok := line_ok (hb := hb) (r := ah) (ok5 _ am) (ok5 _ bm) nab dy (fun _ => ⟨ah0, by omega⟩)
        k_intsEnd
        refine ⟨Same.put (Same.trans s4 (Same.trans s5 s6)) B1, zd, ls ++ [⟨a, b, restK hb ah y, y⟩], _, _, _, _, ?_, by omega, by omega, by rw [List.map_append]; exact fin, fun l hl => ?_, by rw [List.length_append, ll]; rfl, rfl⟩
        · obtain ⟨x, y', e⟩ := (G4.same (Same.trans s5 s6))
          exact ⟨x, y', by rw [upd_ne (Ne.symm nrg)]; exact e⟩
        · rcases List.mem_append.mp hl with o | o
          · exact okl l o
          · rw [List.mem_singleton.mp o]
            exact ⟨lok, line_bd dy (by constructor <;> omega) (fun _ => ah0)⟩
      · refine iteN cv ?_
        k_intsEnd
        rename_i pe H3 ne3 s3 he3
        have hrw3 := s3 _ _ hrw2
        refine ⟨rw, _, rfl, hrw3, ?_⟩
        k_intsEnd
        refine ⟨g, zc, 16, rfl, G2.same s3, by omega, by omega, by decide, by decide, fun ah zd H4 k4 G4 zd0 zd1 ah0 ah1 => ?_⟩
        have s4 : Same B H4 := base_kept (Same.trans s2 s3) B0 k4
        have hpb4 := s4 _ _ hpbB
        have hrw4 := k4.get nrg hrw3
        have he4 := k4.tup (G2.same s3) he3
        have dy := bd y ym
        obtain ⟨y0, y1⟩ := dom_bd dy
        k_intsEnd
        refine ⟨y0, lim12 hb y1, fun _ => ⟨ah0, by omega⟩, ?_⟩
        k_intsEnd
        rename_i pf H5 nf s5 hf5 pc H6 s6 hc
        have hc : H6 pc = some (.tup (lnV ⟨b, a, restK hb ah y, y⟩)) := hc
        have lt6 : LT H6 rw (ls.map lnV) := ((ltr.kept k2 nrg G1).same s3 |>.kept k4 nrg (G2.same s3)).same (Same.trans s5 s6)
        have hrw6 := s6 _ _ (s5 _ _ hrw4)
        refine ⟨xr, hrw6, Nat.lt_of_lt_of_le (by rw [hxl, List.length_map]; omega : xr.length < 10) (Nat.le_of_ble_eq_true rfl), ?_⟩
        have fin := LT.snoc lt6 hrw6 hc
        have lok := line_ok (hb := hb) (r := ah) (ok5 _ bm) (ok5 _ am) (Ne.symm nab) dy (fun _ => ⟨ah0, by omega⟩)
        k_intsEnd
        refine ⟨Same.put (Same.trans s4 (Same.trans s5 s6)) B1, zd, ls ++ [⟨b, a, restK hb ah y, y⟩], _, _, _, _, ?_, by omega, by omega, by rw [List.map_append]; exact fin, fun l hl => ?_, by rw [List.length_append, ll]; rfl, rfl⟩
        · obtain ⟨x, y', e⟩ := (G4.same (Same.trans s5 s6))
          exact ⟨x, y', by rw [upd_ne (Ne.symm nrg)]; exact e⟩
        · rcases List.mem_append.mp hl with o | o
          · exact okl l o
          · rw [List.mem_singleton.mp o]
            exact ⟨lok, line_bd dy (by constructor <;> omega) (fun _ => ah0)⟩
    · rintro σ H' ⟨s1, zb, ls, u, v, w, x1, G1, zb0, zb1, ltr, okl, ll, rfl⟩
      have zb1 : zb ≤ z + 1 + 2 * (3 : Nat) := zb1
      k_intsEnd
      refine q rw ls zb H' ?_ G1 zb0 (by omega) nrg ltr okl ll
      have e : Off (Off H g) rw = Off H g := by
        funext p
        by_cases c : p = rw
        · rw [c, Off.at, Off.ne nrg, nrw]
        · rw [Off.ne c]
      rw [e] at kB
      exact Same.trans kB s1
  k_intsEnd
  rename_i rw H1 nrw0 s1 hrw
  have nrw : rw ≠ g := G0.neN nrw0
  cases hb
  · k_intsEnd
    rename_i q1 K1 nq1 sq1 hq1 q2 K2 nq2 sq2 hq2 q3 K3 nq3 sq3 hq3 q4 K4 nq4 sq4 hq4
    have s14 : Same H1 K4 := Same.trans sq1 (Same.trans sq2 (Same.trans sq3 sq4))
    have hq1 := sq4 _ _ (sq3 _ _ (sq2 _ _ hq1))
    have hq2 := sq4 _ _ (sq3 _ _ hq2)
    have hq3 := sq4 _ _ hq3
    have G4 : Gen K4 g z := (G0.same s1).same s14
    have e1 : q1 ≠ g := (G0.same s1).neN nq1
    have e2 : q2 ≠ g := ((G0.same s1).same sq1).neN nq2
    have e3 : q3 ≠ g := ((G0.same s1).same (Same.trans sq1 sq2)).neN nq3
    have e4 : q4 ≠ g := ((G0.same s1).same (Same.trans sq1 (Same.trans sq2 sq3))).neN nq4
    have f1 : q1 ≠ rw := ne_new nq1 hrw
    have f2 : q2 ≠ rw := ne_new nq2 (sq1 _ _ hrw)
    have f3 : q3 ≠ rw := ne_new nq3 (sq2 _ _ (sq1 _ _ hrw))
    have hrw4 := s14 _ _ hrw
    have sH4 : Same H K4 := Same.trans s1 s14
    clear sq1 sq2 sq3 sq4 nq1 nq2 nq3 nq4 s14 s1
    refine ⟨g, z, 3, rfl, G4, by omega, by omega, by decide, by decide, fun v za H5 k5 G5 za0 za1 v0 v1 => ?_⟩
    have kH : Kept g H H5 := Kept.trans (Kept.of sH4) k5
    have cv : v = 0 ∨ v = 1 ∨ v = 2 := by omega
    have hq4 := k5.get e4 hq4
    have hq1 := k5.get e1 hq1
    have hq2 := k5.get e2 hq2
    have hq3 := k5.get e3 hq3
    have hrw5 := k5.get nrw hrw4
    have bdm : ∀ bys ∈ bitsTrio, bys.length = 3 ∧ ∀ b ∈ bys, Dom false b := fun bys h => ⟨(trioB bys h).1, fun b hb => bits_dom b ((trioB bys h).2 b hb)⟩
    rcases cv with rfl | rfl | rfl
    · refine i_L C hq4 (v := .ref q1) rfl ?_
      k_intsEnd
      exact after nrw0 nrw e1 (Ne.symm f1) kH G5 za0 (by omega) hrw5 (bys := [6, 14, 9]) hq1 rfl (bdm [6, 14, 9] (by decide)).2
    · refine i_L C hq4 (v := .ref q2) rfl ?_
      k_intsEnd
      exact after nrw0 nrw e2 (Ne.symm f2) kH G5 za0 (by omega) hrw5 (bys := [6, 9, 14]) hq2 rfl (bdm [6, 9, 14] (by decide)).2
    · refine i_L C hq4 (v := .ref q3) rfl ?_
      k_intsEnd
      exact after nrw0 nrw e3 (Ne.symm f3) kH G5 za0 (by omega) hrw5 (bys := [10, 6, 14]) hq3 rfl (bdm [10, 6, 14] (by decide)).2
  · k_intsEnd
    rename_i q1 K1 nq1 sq1 hq1 q2 K2 nq2 sq2 hq2 q3 K3 nq3 sq3 hq3 q4 K4 nq4 sq4 hq4
    have s14 : Same H1 K4 := Same.trans sq1 (Same.trans sq2 (Same.trans sq3 sq4))
    have hq1 := sq4 _ _ (sq3 _ _ (sq2 _ _ hq1))
    have hq2 := sq4 _ _ (sq3 _ _ hq2)
    have hq3 := sq4 _ _ hq3
    have G4 : Gen K4 g z := (G0.same s1).same s14
    have e1 : q1 ≠ g := (G0.same s1).neN nq1
    have e2 : q2 ≠ g := ((G0.same s1).same sq1).neN nq2
    have e3 : q3 ≠ g := ((G0.same s1).same (Same.trans sq1 sq2)).neN nq3
    have e4 : q4 ≠ g := ((G0.same s1).same (Same.trans sq1 (Same.trans sq2 sq3))).neN nq4
    have f1 : q1 ≠ rw := ne_new nq1 hrw
    have f2 : q2 ≠ rw := ne_new nq2 (sq1 _ _ hrw)
    have f3 : q3 ≠ rw := ne_new nq3 (sq2 _ _ (sq1 _ _ hrw))
    have hrw4 := s14 _ _ hrw
    have sH4 : Same H K4 := Same.trans s1 s14
    clear sq1 sq2 sq3 sq4 nq1 nq2 nq3 nq4 s14 s1
    refine ⟨g, z, 3, rfl, G4, by omega, by omega, by decide, by decide, fun v za H5 k5 G5 za0 za1 v0 v1 => ?_⟩
    have kH : Kept g H H5 := Kept.trans (Kept.of sH4) k5
    have cv : v = 0 ∨ v = 1 ∨ v = 2 := by omega
    have hq4 := k5.get e4 hq4
    have hq1 := k5.get e1 hq1
    have hq2 := k5.get e2 hq2
    have hq3 := k5.get e3 hq3
    have hrw5 := k5.get nrw hrw4
    have bdm : ∀ bys ∈ hoursTrio, bys.length = 3 ∧ ∀ b ∈ bys, Dom true b := fun bys h => ⟨(trioH bys h).1, fun b hb => hours_dom b ((trioH bys h).2 b hb)⟩
    rcases cv with rfl | rfl | rfl
    · refine i_L C hq4 (v := .ref q1) rfl ?_
      k_intsEnd
      exact after nrw0 nrw e1 (Ne.symm f1) kH G5 za0 (by omega) hrw5 (bys := [6, 10, 15]) hq1 rfl (bdm [6, 10, 15] (by decide)).2
    · refine i_L C hq4 (v := .ref q2) rfl ?_
      k_intsEnd
      exact after nrw0 nrw e2 (Ne.symm f2) kH G5 za0 (by omega) hrw5 (bys := [12, 18, 8]) hq2 rfl (bdm [12, 18, 8] (by decide)).2
    · refine i_L C hq4 (v := .ref q3) rfl ?_
      k_intsEnd
      exact after nrw0 nrw e3 (Ne.symm f3) kH G5 za0 (by omega) hrw5 (bys := [15, 6, 10]) hq3 rfl (bdm [15, 6, 10] (by decide)).2
/-! # Lw12 -/
abbrev s__law_book : Stmt := top 64
theorem sc__law_book : FnScope ["_law_generator_here", "_law_most_names", "_law_most", "_law_sort", "_law_names_told", "_law_turn"] ["_law_generator_here", "_law_most_names", "_law_most"] (defScope s__law_book) := sc_by (by decide +kernel)
abbrev sp__law_book : SpG := fun vs H Q => ∃ g, ∃ z : Int, vs = [.ref g, .int 4, .int 6] ∧ Gen H g z ∧ 0 ≤ z ∧ z < 2 ^ 38 ∧ ∀ (hb : Bool) t pr (ls : List Ln) (z' : Int) H2, Kept g H H2 → Gen H2 g z' → z ≤ z' → z' ≤ z + 100 → H2 t = some (.tup [.str (ks hb), .ref pr]) → pr ≠ g → LT H2 pr (ls.map lnV) → (∀ l ∈ ls, LnOk hb l ∧ BdL 2520 l) → ls.length ≤ 6 → Q (.ref t) H2
theorem d__law_book {m : Md} (hs : ∃ f fd, Has m "_law_book" s__law_book ["_law_generator_here", "_law_most_names", "_law_most"] f fd) (B : Bis m) (D__law_random : Def m "_law_random" ["_law_generator_here", "_law_bound"] 2 sp__law_random) (D__law_line : Def m "_law_line" ["_law_generator_here", "_law_sort", "_law_names_told"] 3 sp__law_line) (D__law_round : Def m "_law_round" ["_law_generator_here", "_law_sort", "_law_names_told"] 3 sp__law_round) : Def m "_law_book" ["_law_generator_here", "_law_most_names", "_law_most"] 4 sp__law_book := by
  refine def_of hs sc__law_book (fun vs H Q h => ?_) fun X C fn vs H Q h => ?_
  · obtain ⟨g, z, rfl, G0, z0, z1, q⟩ := h
    rfl
  obtain ⟨g, z, rfl, G0, z0, z1, q⟩ := h
  have n__law_generator_here : Nm X "_law_generator_here" 0 := C.nm rfl (by decide +kernel)
  have n__law_most_names : Nm X "_law_most_names" 1 := C.nm rfl (by decide +kernel)
  have n__law_most : Nm X "_law_most" 2 := C.nm rfl (by decide +kernel)
  have n__law_sort : Nm X "_law_sort" 3 := C.nm rfl (by decide +kernel)
  have t__law_sort : Tg X "_law_sort" 3 := C.tg fn rfl (by decide +kernel)
  have n__law_names_told : Nm X "_law_names_told" 4 := C.nm rfl (by decide +kernel)
  have t__law_names_told : Tg X "_law_names_told" 4 := C.tg fn rfl (by decide +kernel)
  have g__law_random : Gl X "_law_random" := C.gl (by decide +kernel)
  have g_max : Gl X "max" := C.gl (by decide +kernel)
  have b_max := B.max
  have g_len : Gl X "len" := C.gl (by decide +kernel)
  have b_len := B.len
  have g__law_round : Gl X "_law_round" := C.gl (by decide +kernel)
  have g_range : Gl X "range" := C.gl (by decide +kernel)
  have b_range := B.range

  k_intsEnd
  rename_i p1 H1 n1 s1 h1
  have e1 : p1 ≠ g := G0.neN n1
  refine ⟨g, z, 2, rfl, G0.same s1, by omega, by omega, by decide, by decide, fun v za H2 k2 G2 za0 za1 v0 v1 => ?_⟩
  have h12 := k2.get e1 h1
  have pick : ∃ hb : Bool, atI [V.str "hours", V.str "bits"] v = some (.str (ks hb)) := by
    have cv : v = 0 ∨ v = 1 := by omega
    rcases cv with rfl | rfl
    · exact ⟨true, rfl⟩
    · exact ⟨false, rfl⟩
  obtain ⟨hb, hbe⟩ := pick
  refine i_L C h12 hbe ?_
  have kA : Kept g H H2 := Kept.trans (Kept.of s1) k2
  k_intsEnd
  rename_i p3 H3 n3 s3 h3
  have e3 : p3 ≠ g := G2.neN n3
  refine ⟨g, za, 3, rfl, G2.same s3, by omega, by omega, by decide, by decide, fun w zb H4 k4 G4 zb0 zb1 w0 w1 => ?_⟩
  have h34 := k4.get e3 h3
  have kB : Kept g H H4 := Kept.trans (Kept.then_ kA s3) k4
  k_intsEnd
  have cutn : ∃ nms : List Str, cutV [V.str "a", V.str "b", V.str "c", V.str "d"] none (some (2 + w)) = nms.map V.str ∧ nms.Nodup ∧ 2 ≤ nms.length ∧ nms.length ≤ 4 ∧ ∀ x ∈ nms, x ∈ nm5 := by
    have cw : w = 0 ∨ w = 1 ∨ w = 2 := by omega
    rcases cw with rfl | rfl | rfl
    · exact ⟨["a", "b"], rfl, by decide +kernel, by decide, by decide, by decide +kernel⟩
    · exact ⟨["a", "b", "c"], rfl, by decide +kernel, by decide, by decide, by decide +kernel⟩
    · exact ⟨["a", "b", "c", "d"], rfl, by decide +kernel, by decide, by decide, by decide +kernel⟩
  obtain ⟨nms, cute, nd, l2, l4, ok5⟩ := cutn
  refine sl_L C h34 fun pn H5 nn s5 h5 => ?_
  rw [cute] at h5
  have npg : pn ≠ g := G4.neN nn
  k_intsEnd
  rename_i pu H6 nu s6 hu
  have G6 := (G4.same s5).same s6
  refine ⟨g, zb, 3, rfl, G6, by omega, by omega, by decide, by decide, fun x zc H7 k7 G7 zc0 zc1 x0 x1 => ?_⟩
  have kC : Kept g H H7 := Kept.trans (Kept.then_ kB (Same.trans s5 s6)) k7
  have hpn7 := k7.get npg (s6 _ _ h5)
  k_intsEnd
  by_cases cx : x = 0
  · refine iteP cx ?_
    k_intsEnd
    rename_i p8 H8 n8 s8 h8
    have cut2 : ∃ nms2 : List Str, cutV [V.str "a", V.str "b", V.str "c", V.str "d"] none (some (if (3 : Int) > ((nms.map V.str).length : Nat) then 3 else ((nms.map V.str).length : Nat))) = nms2.map V.str ∧ nms2.Nodup ∧ 3 ≤ nms2.length ∧ nms2.length ≤ 4 ∧ ∀ x ∈ nms2, x ∈ nm5 := by
      rw [List.length_map]
      have cl : nms.length = 2 ∨ nms.length = 3 ∨ nms.length = 4 := by omega
      rcases cl with e | e | e <;> rw [e]
      · exact ⟨["a", "b", "c"], rfl, by decide +kernel, by decide, by decide, by decide +kernel⟩
      · exact ⟨["a", "b", "c"], rfl, by decide +kernel, by decide, by decide, by decide +kernel⟩
      · exact ⟨["a", "b", "c", "d"], rfl, by decide +kernel, by decide, by decide, by decide +kernel⟩
    obtain ⟨nms2, cute2, nd2, l32, l42, ok52⟩ := cut2
    refine sl_L C h8 fun pn2 H9 nn2 s9 h9 => ?_
    rw [cute2] at h9
    have G9 := (G7.same s8).same s9
    have npg2 : pn2 ≠ g := (G7.same s8).neN nn2
    have kD : Kept g H H9 := Kept.then_ kC (Same.trans s8 s9)
    k_intsEnd
    refine ⟨hb, g, pn2, zc, nms2, rfl, G9, by omega, by omega, h9, npg2, nd2, l32, ok52, fun pr lsr zd HA kA2 GA2 zd0 zd1 nprg ltr okr lr => ?_⟩
    have hpnA := kA2.get npg2 h9
    have kF0 := Kept.trans kD kA2
    k_intsEnd
    refine lcG_R [("_law_turn", 5)] (g := g) (Ok := fun l => LnOk hb l ∧ BdL 2520 l) C (by assumption) b_range.free rfl (by decide +kernel) (fun _ => rfl) ?_
    k_intsEnd
    refine ⟨g, zd, 3, rfl, GA2, by omega, by omega, by decide, by decide, fun nn ze HE kE GE ze0 ze1 nn0 nn1 => ?_⟩
    obtain ⟨n, rfl⟩ := Int.eq_ofNat_of_zero_le nn0
    have hpnE := kE.get npg2 hpnA
    refine ⟨n, rfl, by omega, ze, GE, fun i HF zf hi kF GF zf0 zf1 => ?_, fun D HF zf ls2 nDg kF GF zf0 zf1 ltD okD lD => ?_⟩
    · refine turn_nm (i := 5) C rfl rfl rfl (by decide +kernel) fun X' B' => wts_nil ?_
      refine iteT ?_
      intro X3 B3
      have C3 := B3.ctx C
      have n__law_generator_here_X3 : Nm X3 "_law_generator_here" 0 := C3.nm rfl (by decide +kernel)
      have n__law_sort_X3 : Nm X3 "_law_sort" 3 := C3.nm rfl (by decide +kernel)
      have n__law_names_told_X3 : Nm X3 "_law_names_told" 4 := C3.nm rfl (by decide +kernel)
      have g__law_line_X3 : Gl X3 "_law_line" := C3.gl (by decide +kernel)
      k_intsEnd
      refine ⟨hb, g, pn2, zf, nms2, rfl, GF, by omega, by omega, kF.get npg2 hpnE, npg2, nd2, (by omega), l42, ok52, fun t l zg HG kG GG zg0 zg1 ht lok lbd => ?_⟩
      exact ⟨t, l, zg, rfl, kG, GG, zg0, zg1, ht, lok, lbd⟩
    have ltr3 : LT HF pr (lsr.map lnV) := (ltr.kept kE nprg GA2).kept kF nprg GE
    obtain ⟨xr, hxr, hxrl⟩ := ltr3.lst
    obtain ⟨xd, hxd, hxdl⟩ := ltD.lst
    rw [List.length_map] at hxrl hxdl
    refine o_cat hxr hxd (Nat.le_trans (by omega : _ ≤ 100) (Nat.le_of_ble_eq_true rfl)) fun pz HZ nz sz hz => ?_
    have fin := LT.app (ltr3.same sz) (ltD.same sz) (sz _ _ hxr) (sz _ _ hxd) hz
    rw [← List.map_append] at fin
    k_intsEnd
    rename_i pt HT nt st ht
    refine q hb pt pz (lsr ++ ls2) zf HT (Kept.then_ (Kept.trans (Kept.trans kF0 kE) kF) (Same.trans sz st)) ((GF.same sz).same st) (by omega) (by omega) ht (GF.neN nz) (fin.same st) (fun l hl => ?_) (by rw [List.length_append]; omega)
    rcases List.mem_append.mp hl with o | o
    · exact okr l o
    · exact okD l o
  · refine iteN cx ?_
    k_intsEnd
    refine lcG_R [("_law_turn", 5)] (g := g) (Ok := fun l => LnOk hb l ∧ BdL 2520 l) C (by assumption) b_range.free rfl (by decide +kernel) (fun _ => rfl) ?_
    k_intsEnd
    refine ⟨g, zc, 7, rfl, G7, by omega, by omega, by decide, by decide, fun nn ze HE kE GE ze0 ze1 nn0 nn1 => ?_⟩
    obtain ⟨n, rfl⟩ := Int.eq_ofNat_of_zero_le nn0
    have hpnE := kE.get npg hpn7
    refine ⟨n, rfl, by omega, ze, GE, fun i HF zf hi kF GF zf0 zf1 => ?_, fun D HF zf ls2 nDg kF GF zf0 zf1 ltD okD lD => ?_⟩
    · refine turn_nm (i := 5) C rfl rfl rfl (by decide +kernel) fun X' B' => wts_nil ?_
      refine iteT ?_
      intro X3 B3
      have C3 := B3.ctx C
      have n__law_generator_here_X3 : Nm X3 "_law_generator_here" 0 := C3.nm rfl (by decide +kernel)
      have n__law_sort_X3 : Nm X3 "_law_sort" 3 := C3.nm rfl (by decide +kernel)
      have n__law_names_told_X3 : Nm X3 "_law_names_told" 4 := C3.nm rfl (by decide +kernel)
      have g__law_line_X3 : Gl X3 "_law_line" := C3.gl (by decide +kernel)
      k_intsEnd
      refine ⟨hb, g, pn, zf, nms, rfl, GF, by omega, by omega, kF.get npg hpnE, npg, nd, l2, l4, ok5, fun t l zg HG kG GG zg0 zg1 ht lok lbd => ?_⟩
      exact ⟨t, l, zg, rfl, kG, GG, zg0, zg1, ht, lok, lbd⟩
    k_intsEnd
    rename_i pt HT nt st ht
    exact q hb pt D ls2 zf HT (Kept.then_ (Kept.trans (Kept.trans kC kE) kF) st) (GF.same st) (by omega) (by omega) ht nDg (ltD.same st) okD (by omega)
/-! # Lw13 -/
abbrev s__law_right : Stmt := top 74
theorem sc__law_right : FnScope ["_law_generator_here", "_law_book_told", "_law_sort", "_law_rows", "_law_papers_told", "_law_lasts", "_law_kept", "_law_turn", "_law_inner", "_law_told_here", "_law_before", "_law_made_here", "_law_own", "_law_again", "_law_paper_told", "_law_due", "_law_at"] ["_law_generator_here"] (defScope s__law_right) := sc_by (by decide +kernel)
abbrev sp__law_right : SpG := fun vs H Q => ∃ g, ∃ z : Int, vs = [.ref g] ∧ Gen H g z ∧ 0 ≤ z ∧ z < 2 ^ 37 ∧ ∀ H2, Kept g H H2 → Q (.bl true) H2
theorem d__law_right {m : Md} (hs : ∃ f fd, Has m "_law_right" s__law_right ["_law_generator_here"] f fd) (B : Bis m) (D__law_book : Def m "_law_book" ["_law_generator_here", "_law_most_names", "_law_most"] 4 sp__law_book) (D__law_paper : Def m "_law_paper" ["_law_generator_here", "_law_sort", "_law_rows", "_law_most"] 7 sp__law_paper) (D_put_through : Def m "put_through" ["book", "papers", "paper"] 11 sp_put_through) (D__law_told : Def m "_law_told" ["_law_sort", "_law_rows", "_law_paper_told"] 7 sp__law_told) (D__law_random : Def m "_law_random" ["_law_generator_here", "_law_bound"] 2 sp__law_random) (D_trimmed : Def m "trimmed" ["book", "paper"] 11 sp_trimmed) (D_used_lines : Def m "used_lines" ["book", "paper"] 11 sp_used_lines) (D__law_trimmed : Def m "_law_trimmed" ["_law_paper_told"] 3 sp__law_trimmed) (D__law_leans : Def m "_law_leans" ["_law_paper_told"] 2 sp__law_leans) (h_used : ∃ f fd, Has m "used_lines" s_used_lines ["book", "paper"] f fd) (h_trim : ∃ f fd, Has m "trimmed" s_trimmed ["book", "paper"] f fd) (h_put : ∃ f fd, Has m "put_through" s_put_through ["book", "papers", "paper"] f fd) : Def m "_law_right" ["_law_generator_here"] 12 sp__law_right := by
  refine def_of hs sc__law_right (fun vs H Q h => ?_) fun X C fn vs H Q h => ?_
  · obtain ⟨g, z, rfl, G0, z0, z1, q⟩ := h
    rfl
  obtain ⟨g, z, rfl, G0, z0, z1, q⟩ := h
  have n__law_generator_here : Nm X "_law_generator_here" 0 := C.nm rfl (by decide +kernel)
  have n__law_book_told : Nm X "_law_book_told" 1 := C.nm rfl (by decide +kernel)
  have t__law_book_told : Tg X "_law_book_told" 1 := C.tg fn rfl (by decide +kernel)
  have n__law_sort : Nm X "_law_sort" 2 := C.nm rfl (by decide +kernel)
  have t__law_sort : Tg X "_law_sort" 2 := C.tg fn rfl (by decide +kernel)
  have n__law_rows : Nm X "_law_rows" 3 := C.nm rfl (by decide +kernel)
  have t__law_rows : Tg X "_law_rows" 3 := C.tg fn rfl (by decide +kernel)
  have n__law_papers_told : Nm X "_law_papers_told" 4 := C.nm rfl (by decide +kernel)
  have t__law_papers_told : Tg X "_law_papers_told" 4 := C.tg fn rfl (by decide +kernel)
  have n__law_lasts : Nm X "_law_lasts" 5 := C.nm rfl (by decide +kernel)
  have t__law_lasts : Tg X "_law_lasts" 5 := C.tg fn rfl (by decide +kernel)
  have n__law_kept : Nm X "_law_kept" 6 := C.nm rfl (by decide +kernel)
  have t__law_kept : Tg X "_law_kept" 6 := C.tg fn rfl (by decide +kernel)
  have n__law_turn : Nm X "_law_turn" 7 := C.nm rfl (by decide +kernel)
  have t__law_turn : Tg X "_law_turn" 7 := C.tg fn rfl (by decide +kernel)
  have n__law_inner : Nm X "_law_inner" 8 := C.nm rfl (by decide +kernel)
  have t__law_inner : Tg X "_law_inner" 8 := C.tg fn rfl (by decide +kernel)
  have n__law_told_here : Nm X "_law_told_here" 9 := C.nm rfl (by decide +kernel)
  have t__law_told_here : Tg X "_law_told_here" 9 := C.tg fn rfl (by decide +kernel)
  have n__law_before : Nm X "_law_before" 10 := C.nm rfl (by decide +kernel)
  have t__law_before : Tg X "_law_before" 10 := C.tg fn rfl (by decide +kernel)
  have n__law_made_here : Nm X "_law_made_here" 11 := C.nm rfl (by decide +kernel)
  have t__law_made_here : Tg X "_law_made_here" 11 := C.tg fn rfl (by decide +kernel)
  have n__law_own : Nm X "_law_own" 12 := C.nm rfl (by decide +kernel)
  have t__law_own : Tg X "_law_own" 12 := C.tg fn rfl (by decide +kernel)
  have n__law_again : Nm X "_law_again" 13 := C.nm rfl (by decide +kernel)
  have t__law_again : Tg X "_law_again" 13 := C.tg fn rfl (by decide +kernel)
  have n__law_paper_told : Nm X "_law_paper_told" 14 := C.nm rfl (by decide +kernel)
  have t__law_paper_told : Tg X "_law_paper_told" 14 := C.tg fn rfl (by decide +kernel)
  have n__law_due : Nm X "_law_due" 15 := C.nm rfl (by decide +kernel)
  have t__law_due : Tg X "_law_due" 15 := C.tg fn rfl (by decide +kernel)
  have g__law_book : Gl X "_law_book" := C.gl (by decide +kernel)
  have g_repr : Gl X "repr" := C.gl (by decide +kernel)
  have b_repr := B.repr
  have g_range : Gl X "range" := C.gl (by decide +kernel)
  have b_range := B.range
  have g__law_random : Gl X "_law_random" := C.gl (by decide +kernel)
  have g__law_paper : Gl X "_law_paper" := C.gl (by decide +kernel)
  have g_sorted : Gl X "sorted" := C.gl (by decide +kernel)
  have b_sorted := B.sorted
  have g_set : Gl X "set" := C.gl (by decide +kernel)
  have b_set := B.set
  have g__law_leans : Gl X "_law_leans" := C.gl (by decide +kernel)
  have g_trimmed : Gl X "trimmed" := C.gl (by decide +kernel)
  have g_used_lines : Gl X "used_lines" := C.gl (by decide +kernel)
  have g__law_trimmed : Gl X "_law_trimmed" := C.gl (by decide +kernel)
  have g_put_through : Gl X "put_through" := C.gl (by decide +kernel)
  have g__law_told : Gl X "_law_told" := C.gl (by decide +kernel)

  k_intsEnd
  refine ⟨g, z, rfl, G0, z0, by omega, fun hb t pr R za H1 k1 G1 za0 za1 ht nprg ltr okr rl => ?_⟩
  have okR : ∀ l ∈ R, LnOk hb l := fun l hl => (okr l hl).1
  have bdR : ∀ l ∈ R, BdL 2520 l := fun l hl => (okr l hl).2
  k_intsEnd
  rename_i ps0 H2 nps s2 hps pl0 H3 npl s3 hpl
  have s13 : Same H1 H3 := Same.trans s2 s3
  have G3 := G1.same s13
  have nps0 : ps0 ≠ g := G1.neN nps
  have npl0 : pl0 ≠ g := (G1.same s2).neN npl
  have ht3 := s13 _ _ ht
  have ltr3 := ltr.same s13
  have sBk := shw_book okR bdR rl
  have okB := lnVs_ok okR
  refine c_reprS C (dp_book ht3 ltr3 okR) sBk (by decide) (by decide) ?_
  generalize hkept : PyData.shown (.tuple [.str (ks hb), ltD (R.map lnV)]) = kept
  k_intsEnd
  refine ws_forR C g_range b_range.free ?_ (fun _ => rfl) ?_
  · rfl
  k_intsEnd
  refine ⟨g, za, 4, rfl, G3, by omega, by omega, by decide, by decide, fun nn zb H4 k4 G4 zb0 zb1 nn0 nn1 => ?_⟩
  obtain ⟨n, rfl⟩ := Int.eq_ofNat_of_zero_le nn0
  have kA : Kept g H H4 := Kept.trans (Kept.then_ k1 s13) k4
  have htB : Off H4 g t = some (.tup [.str (ks hb), .ref pr]) := Off.get (G4.neT (k4.tup G3 ht3)) (k4.tup G3 ht3)
  have ltrB : LT (Off H4 g) pr (R.map lnV) := (ltr3.kept k4 nprg G3).off nprg G4
  have ltp0 : LLT (Off H4 g) ps0 [] := LLT.nil (Off.get nps0 (k4.get nps0 (s3 _ _ hps)))
  have ltl0 : LT (Off H4 g) pl0 [] := LT.nil (Off.get npl0 (k4.get npl0 hpl))
  clear G0 G1 G3 s2 s3 s13 hps hpl nps npl k1 k4 ht ltr ht3 ltr3
  refine ⟨_, rfl, by omega, by omega, fun i σ H' => ∃ (zc : Int) (Ps : List (List En)) (Ts : List (List Ln)) (Ls : List Ln) (pp pl : Addr) (u7 u9 u10 u11 u14 u15 : Option V), Same (Off H4 g) H' ∧ Gen H' g zc ∧ zb ≤ zc ∧ zc ≤ zb + 200 * i ∧ LLT (Off H' g) pp (Ps.map (·.map enV)) ∧ LT (Off H' g) pl (Ls.map lnV) ∧ Ps.map (fun P => linesOf hb R P []) = Ts.map some ∧ Ts.map List.getLast? = Ls.map some ∧ (∀ P ∈ Ps, (∀ e ∈ P, EnOk e) ∧ P.length ≤ 6) ∧ Ps.length ≤ i ∧ (∀ l ∈ Ls, BdL 161280 l) ∧
    σ = [some (.ref g), some (.ref t), some (.str (ks hb)), some (.ref pr), some (.ref pp), some (.ref pl), some (.str kept), u7, none, u9, u10, u11, none, none, u14, u15, none],
    ⟨zb, [], [], [], ps0, pl0, none, none, none, none, none, none, Off.le _ _, G4, Int.le_refl _, by omega, ltp0, ltl0, rfl, rfl, fun _ h => (by cases h), Nat.le_refl _, fun _ h => (by cases h), rfl⟩, ?_, ?_⟩
  · rintro i σ H' hi ⟨zc, Ps, Ts, Ls, pp, pl, u7, u9, u10, u11, u14, u15, kB, G', zc0, zc1, llt, ltl, hT, hL, okp, fewp, bdl, rfl⟩
    have hi : i < n := hi
    have ht' := kB _ _ htB
    have ltr' := ltrB.same kB
    k_intsEnd
    refine ⟨hb, g, pr, zc, R, 6, rfl, G', by omega, by omega, ltr', nprg, okR, by omega, by decide, fun tq p1 t1 P T zd H2 k2 G2 zd0 zd1 htq ntq np1 nt1 ltp ltt hPT pl6 oke => ?_⟩
    have wf := lines_wf hPT
    have okT : ∀ l ∈ T, LnOk hb l := linesOf_ok okR (fun _ h => by cases h) oke hPT
    have okPV := papV_ok oke
    have ht2 := k2.tup G' ht'
    have ltr2 := ltr'.kept k2 nprg G'
    refine wg_L C rfl htq rfl ?_
    k_intsEnd
    have sP : Shw (ltD (P.map enV)) (6 * 165) 2 := shw_pap hPT oke pl6 (by decide) (by omega)
    refine c_reprS C (dpLT ltp okPV) sP (by decide) (by decide) ?_
    generalize hbef : PyData.shown (ltD (P.map enV)) = bef
    k_intsEnd
    refine lcF_L [("_law_at", 16)] C (by decide +kernel) (fun _ => rfl) ?_
    k_intsEnd
    refine ⟨p1, P, rfl, ltp, wf, oke, pl6, fun kr H3 nk s3 hk => ?_⟩
    obtain ⟨kl, kb⟩ := leansK_bd P
    refine ⟨_, _, rfl, hk, Nat.le_trans (by rw [List.length_map]; omega : _ ≤ 10) (Nat.le_of_ble_eq_true rfl), fun t acc => acc = nV (((leansK P).take t).filterMap (toldAt P)), rfl, fun tt x H5 acc hx s5 ea => ?_, fun D2 H5 acc nD2 s5 hD2 ea => ?_⟩
    · subst ea
      obtain ⟨a, ha, rfl⟩ := nV_get hx
      have al := kb a (List.mem_of_getElem? ha)
      have e1 : P[a]? = some P[a] := List.getElem?_eq_getElem al
      have e2 : (P.map enV)[a]? = some (enV P[a]) := by rw [List.getElem?_map, e1]; rfl
      obtain ⟨ys, r2, hx2, hxn, hi2, hr2⟩ := (ltp.same (Same.trans s3 s5)).at e2
      generalize hv : P[a] = en at *
      refine turn_nm (i := 16) C rfl rfl rfl (by decide +kernel) fun X' B' => wts_one ?_
      have C' := B'.ctx C
      have n__law_at_Xp : Nm X' "_law_at" 16 := C'.nm rfl (by decide +kernel)
      have n__law_paper_told_Xp : Nm X' "_law_paper_told" 14 := C'.nm rfl (by decide +kernel)
      have fin : ∀ (o : Option Nat), toldAt P a = o → nV (((leansK P).take tt).filterMap (toldAt P)) ++ nV o.toList = nV (((leansK P).take (tt + 1)).filterMap (toldAt P)) := by
        intro o ho
        rw [take_snoc ha, List.filterMap_append, List.filterMap_cons, ho, ← nV_app]
        cases o <;> rfl
      cases en with
      | told j =>
        k_intsEnd
        intro X3 B3
        have C3 := B3.ctx C
        have n__law_at_X3 : Nm X3 "_law_at" 16 := C3.nm rfl (by decide +kernel)
        have n__law_paper_told_X3 : Nm X3 "_law_paper_told" 14 := C3.nm rfl (by decide +kernel)
        k_intsEnd
        exact ⟨Same.refl _, fin (some j) (by unfold toldAt; rw [e1])⟩
      | _ =>
        k_intsEnd
        exact ⟨Same.refl _, fin none (by unfold toldAt; rw [e1])⟩
    subst ea
    rw [List.length_map, List.take_length, nV_ints] at hD2
    k_intsEnd
    have fl := List.length_filterMap_le (toldAt P) (leansK P)
    refine c_set C (SqL.of hD2) (by rw [List.length_map]; omega) fun r1 H6 c1 nr1 s6 h1 => ?_
    k_intsEnd
    refine c_sortedSet C h1 fun du H7 ns nr2 s7 h2 pw mem => ?_
    rw [sorted_is pw mem (told_bds hPT), usedK_eq] at h2
    have s27 : Same H2 H7 := Same.trans s3 (Same.trans s5 (Same.trans s6 s7))
    have ht7 := s27 _ _ ht2
    have ltr7 := ltr2.same s27
    have ltp7 := ltp.same s27
    have ltt7 := ltt.same s27
    have G7 := G2.same s27
    have k7 : Same (Off H' g) H7 := Kept.then_ k2 s27
    have uls := usedK_bd (R := R.length) (P := P)
    have sU : Shw (lD (nV (usedK R.length P))) (6 * 41) 1 := shw_nV (fun x hx => by have := uls.1 x hx; omega) (by have := uls.2; omega)
    have oU := okV_nV (usedK R.length P)
    generalize hus : PyData.shown (lD (nV (usedK R.length P))) = ush
    obtain ⟨T', hT', hlast'⟩ := trimmed_lines hPT
    have oke' := trimmedK_ok oke
    have pl6' : (trimmedK P).length ≤ 6 := Nat.le_trans (trimmedK_len P) pl6
    have sM : Shw (ltD ((trimmedK P).map enV)) (6 * 165) 2 := shw_pap hT' oke' pl6' (by decide) (by omega)
    have okM := papV_ok oke'
    generalize hms : PyData.shown (ltD ((trimmedK P).map enV)) = msh
    clear s3 s5 s6 s7 h1 hD2 hk nk nD2 nr1 nr2 s27 ltp ltt ht2 ltr2 htq
    k_intsEnd
    refine ⟨hb, t, pr, p1, R, P, T, rfl, ht7, ltr7, ltp7, okR, oke, by omega, by omega, hPT, fun mh H8 nmh s8 ltm => ?_⟩
    k_intsEnd
    refine c_reprS C (dpLT (ltp7.same s8) okPV) sP (by decide) (by decide) ?_
    rw [hbef]
    k_intsEnd
    refine iteNN rfl ?_
    k_intsEnd
    refine ⟨hb, t, pr, p1, R, P, T, rfl, s8 _ _ ht7, ltr7.same s8, ltp7.same s8, okR, oke, by omega, by omega, hPT, fun ul H9 nul s9 hul => ?_⟩
    k_intsEnd
    refine c_reprS C (dpL hul oU) sU (by decide) (by decide) ?_
    rw [hus]
    k_intsEnd
    refine c_reprS C (dpL (s9 _ _ (s8 _ _ h2)) oU) sU (by decide) (by decide) ?_
    rw [hus]
    k_intsEnd
    refine iteNN rfl ?_
    k_intsEnd
    have s79 : Same H7 H9 := Same.trans s8 s9
    refine c_reprS C (dpLT (ltm.same s9) okM) sM (by decide) (by decide) ?_
    rw [hms]
    k_intsEnd
    refine ⟨p1, P, rfl, ltp7.same s79, wf, oke, pl6, fun lt H10 nlt s10 ltlt => ?_⟩
    k_intsEnd
    refine c_reprS C (dpLT ltlt okM) sM (by decide) (by decide) ?_
    rw [hms]
    k_intsEnd
    refine iteNN rfl ?_
    k_intsEnd
    have s710 : Same H7 H10 := Same.trans s79 s10
    have ltm10 : LT H10 mh ((trimmedK P).map enV) := ltm.same (Same.trans s9 s10)
    refine ⟨hb, t, pr, mh, R, trimmedK P, T', rfl, s710 _ _ ht7, ltr7.same s710, ltm10, okR, oke', by omega, by omega, hT', fun mm H11 nmm s11 ltmm => ?_⟩
    rw [trimmed_again hPT] at ltmm
    k_intsEnd
    refine c_reprS C (dpLT ltmm okM) sM (by decide) (by decide) ?_
    rw [hms]
    k_intsEnd
    refine c_reprS C (dpLT (ltm10.same s11) okM) sM (by decide) (by decide) ?_
    rw [hms]
    k_intsEnd
    refine iteNN rfl ?_
    k_intsEnd
    have s711 : Same H7 H11 := Same.trans s710 s11
    have ltm11 := ltm10.same s11
    clear s8 s9 s10 s11 s79 s710 ltm ltlt ltmm hul nul nlt nmm
    refine w_callK2 C D_used_lines (by decide) g_used_lines (by decide) rfl rfl rfl (kwBind h_used fun _ _ _ _ _ _ ws hl => match ws, hl with | [_, _], _ => rfl) ?_
    k_intsEnd
    refine ⟨hb, t, pr, p1, R, P, T, rfl, s711 _ _ ht7, ltr7.same s711, ltp7.same s711, okR, oke, by omega, by omega, hPT, fun uk H12 nuk s12 huk => ?_⟩
    k_intsEnd
    refine w_callK2 C D_trimmed (by decide) g_trimmed (by decide) rfl rfl rfl (kwBind h_trim fun _ _ _ _ _ _ ws hl => match ws, hl with | [_, _], _ => rfl) ?_
    k_intsEnd
    have s712 : Same H7 H12 := Same.trans s711 s12
    refine ⟨hb, t, pr, p1, R, P, T, rfl, s712 _ _ ht7, ltr7.same s712, ltp7.same s712, okR, oke, by omega, by omega, hPT, fun tk H13 ntk s13 ltk => ?_⟩
    k_intsEnd
    rename_i pk1 H14 npk1 s14 hpk1
    refine c_reprS C (dp_two hpk1 (dpL (s14 _ _ (s13 _ _ huk)) oU) (dpLT (ltk.same s14) okM)) (shw_two (sU.mono (by decide : _ ≤ 1000) (by decide : _ ≤ 2)) (sM.mono (by decide) (by decide))) (by decide) (by decide) ?_
    generalize hpr : PyData.shown (.list [lD (nV (usedK R.length P)), ltD ((trimmedK P).map enV)]) = prs
    have s714 : Same H7 H14 := Same.trans s712 (Same.trans s13 s14)
    have ltm14 := ltm11.same (Same.trans s12 (Same.trans s13 s14))
    clear s12 s13 s14 s711 s712 ltm10 ltm11 huk ltk hpk1 npk1 ntk nuk
    k_intsEnd
    rename_i pk2 H15 npk2 s15 hpk2
    refine c_reprS C (dp_two hpk2 (dpL (s15 _ _ (s714 _ _ h2)) oU) (dpLT (ltm14.same s15) okM)) (shw_two (sU.mono (by decide : _ ≤ 1000) (by decide : _ ≤ 2)) (sM.mono (by decide) (by decide))) (by decide) (by decide) ?_
    rw [hpr]
    k_intsEnd
    refine iteNN rfl ?_
    k_intsEnd
    have ltm15 := ltm14.same s15
    have s715 : Same H7 H15 := Same.trans s714 s15
    obtain ⟨ym, hym, hyml⟩ := ltm15.lst
    rw [List.length_map] at hyml
    refine ⟨mh, ym, rfl, hym, ?_⟩
    k_intsEnd
    rename_i ptu H16 nptu s16 hptu
    refine ⟨ym, s16 _ _ hym, Nat.lt_of_lt_of_le (by omega : ym.length < 100) (Nat.le_of_ble_eq_true rfl), ?_⟩
    have sA : Same H7 (upd H16 mh (.lst (ym ++ [.ref ptu]))) := Same.put (Same.trans s715 s16) nmh
    generalize upd H16 mh (.lst (ym ++ [.ref ptu])) = HA at *
    clear s714 s715 s16 s15 hym hyml ltm14 ltm15 hpk2 npk2 hptu nptu
    k_intsEnd
    refine ⟨hb, t, pr, p1, R, P, T, rfl, sA _ _ ht7, ltr7.same sA, ltp7.same sA, okR, oke, by omega, by omega, hPT, fun ul2 HB nul2 sB hul2 => ?_⟩
    refine ⟨ul2, _, rfl, hul2, ?_⟩
    k_intsEnd
    refine ⟨_, hul2, Nat.lt_of_le_of_lt (by rw [List.length_map]; exact uls.2) (Nat.lt_of_lt_of_le (by omega : R.length < 100) (Nat.le_of_ble_eq_true rfl)), ?_⟩
    have sC : Same H7 (upd HB ul2 (.lst (nV (usedK R.length P) ++ [.int 99]))) := Same.trans sA (Same.put sB nul2)
    generalize upd HB ul2 (.lst (nV (usedK R.length P) ++ [.int 99])) = HC at *
    clear sA sB hul2 nul2
    k_intsEnd
    refine c_reprS C (dpLT (ltp7.same sC) okPV) sP (by decide) (by decide) ?_
    rw [hbef]
    k_intsEnd
    refine iteNN rfl ?_
    k_intsEnd
    refine ⟨hb, t, pr, p1, R, P, T, rfl, sC _ _ ht7, ltr7.same sC, ltp7.same sC, okR, oke, by omega, by omega, hPT, fun ul3 HD nul3 sD hul3 => ?_⟩
    k_intsEnd
    refine c_reprS C (dpL hul3 oU) sU (by decide) (by decide) ?_
    rw [hus]
    k_intsEnd
    refine c_reprS C (dpL (sD _ _ (sC _ _ h2)) oU) sU (by decide) (by decide) ?_
    rw [hus]
    k_intsEnd
    refine iteNN rfl ?_
    k_intsEnd
    rename_i pe0 HE npe0 sE hpe0
    have s7E : Same H7 HE := Same.trans sC (Same.trans sD sE)
    have kE : Same (Off H' g) HE := Same.trans k7 s7E
    have GE := G7.same s7E
    have ltpE := ltp7.same s7E
    have lttE := ltt7.same s7E
    clear sC sD hul3 nul3
    refine o_neLT C lttE (LT.nil hpe0) (lnVs_ok okT) rfl (lnVs_is T) rfl ?_
    k_intsEnd
    have kB2 : Same (Off H4 g) HE := Same.trans (Off.of kB (Off.at H4 g)) kE
    have kO : Same (Off H' g) (Off HE g) := Off.of kE (Off.at H' g)
    by_cases cT : T = []
    · subst cT
      refine iteF ?_
      k_intsEnd
      exact ⟨zd, Ps, Ts, Ls, pp, pl, _, _, _, _, _, _, kB2, GE, by omega, by omega, llt.same kO, ltl.same kO, hT, hL, okp, by omega, bdl, rfl⟩
    · obtain ⟨l, hl⟩ := last_of_ne cT
      have okl := okT l (List.mem_of_getLast? hl)
      have bl : BdL 161280 l := by
        have := lines_bd okR (Int.le_refl 2520) bdR (fun _ h => by cases h) (fun _ h => by cases h) oke hPT l (List.mem_of_getLast? hl)
        refine this.mono ?_
        have h6 : (2 : Int) ^ P.length ≤ 2 ^ 6 := by
          have := Nat.pow_le_pow_right (n := 2) (by decide) pl6
          have e : ∀ n : Nat, ((2 ^ n : Nat) : Int) = (2 : Int) ^ n := fun n => PySem.W.kbt_cast n
          rw [← e, ← e]
          omega
        omega
      have cT2 : ¬ T.map lnV = [] := fun e => cT (List.map_eq_nil_iff.mp e)
      refine iteNP cT2 ?_
      k_intsEnd
      rename_i e1 HF ne1 sF he1
      obtain ⟨xp, hxp, hxpl⟩ := llt.lst
      rw [List.length_map] at hxpl
      have nppg := Off.ne_of hxp
      have hxpF := sF _ _ (kE _ _ hxp)
      refine o_cat hxpF he1 (Nat.le_trans (by rw [hxpl]; show Ps.length + 1 ≤ 100; omega) (Nat.le_of_ble_eq_true rfl)) fun q1 HG nq1 sG hq1 => ?_
      k_intsEnd
      have sEG : Same HE HG := Same.trans sF sG
      obtain ⟨xt, rt, hxt, hxtl, hrt⟩ := lt_get (lttE.same sEG) hl
      refine i_L C hxt (atI_last hxtl) ?_
      k_intsEnd
      rename_i e2 HI ne2 sI he2
      obtain ⟨xl, hxl, hxll⟩ := ltl.lst
      rw [List.length_map] at hxll
      have lsl : Ls.length = Ps.length := by have h1 := congrArg List.length hT; have h2 := congrArg List.length hL; simp at h1 h2; omega
      have hxlI := sI _ _ (sEG _ _ (kE _ _ hxl))
      refine o_cat hxlI he2 (Nat.le_trans (by rw [hxll]; show Ls.length + 1 ≤ 100; omega) (Nat.le_of_ble_eq_true rfl)) fun q2 HJ nq2 sJ hq2 => ?_
      have sGJ : Same HG HJ := Same.trans sI sJ
      have sEJ : Same HE HJ := Same.trans sEG sGJ
      have GJ := GE.same sEJ
      have nq1g : q1 ≠ g := (GE.same sF).neN nq1
      have nq2g : q2 ≠ g := ((GE.same sEG).same sI).neN nq2
      have kJ : Same (Off H' g) (Off HJ g) := Off.of (Same.trans kE sEJ) (Off.at H' g)
      have llt2 : LLT (Off HJ g) q1 ((Ps ++ [P]).map (·.map enV)) := by
        rw [List.map_append]
        exact LLT.snoc (llt.same kJ) (kJ _ _ hxp) ((ltpE.same sEJ).off np1 GJ) (Off.get nq1g (sGJ _ _ hq1))
      have ltl2 : LT (Off HJ g) q2 ((Ls ++ [l]).map lnV) := by
        rw [List.map_append]
        have one : LT (Off HJ g) e2 [lnV l] := LT.one (Off.get (((GE.same sEG)).neN ne2) (sJ _ _ he2)) (Off.get (GJ.neT (sGJ _ _ hrt)) (sGJ _ _ hrt))
        exact LT.app (ltl.same kJ) one (kJ _ _ hxl) (Off.get ((GE.same sEG).neN ne2) (sJ _ _ he2)) (Off.get nq2g hq2)
      k_intsEnd
      refine ⟨zd, Ps ++ [P], Ts ++ [T], Ls ++ [l], q1, q2, _, _, _, _, _, _, Same.trans kB2 sEJ, GJ, by omega, by omega, llt2, ltl2, ?_, ?_, ?_, ?_, ?_, rfl⟩
      · rw [List.map_append, List.map_append, hT]
        show _ ++ [linesOf hb R P []] = _
        rw [hPT]; rfl
      · rw [List.map_append, List.map_append, hL]
        show _ ++ [T.getLast?] = _
        rw [hl]; rfl
      · intro Q2 hQ2
        rcases List.mem_append.mp hQ2 with o | o
        · exact okp Q2 o
        · rw [List.mem_singleton.mp o]; exact ⟨oke, pl6⟩
      · rw [List.length_append]; show Ps.length + 1 ≤ i + 1; omega
      · intro x hx
        rcases List.mem_append.mp hx with o | o
        · exact bdl x o
        · rw [List.mem_singleton.mp o]; exact bl
  · rintro σ H' ⟨zc, Ps, Ts, Ls, pp, pl, u7, u9, u10, u11, u14, u15, kB, G', zc0, zc1, llt, ltl, hT, hL, okp, fewp, bdl, rfl⟩
    have fewp : Ps.length ≤ n := fewp
    have zc1 : zc ≤ zb + 200 * (n : Nat) := zc1
    have ht' := kB _ _ htB
    have ltr' := ltrB.same kB
    have kH : Kept g H H' := Same.trans (Off.on kA) kB
    have okpe : ∀ P ∈ Ps, ∀ e ∈ P, EnOk e := fun P hP => (okp P hP).1
    have okL : ∀ l ∈ Ls, LnOk hb l := lasts_ok okR okpe hT hL
    have lsl : Ls.length = Ps.length := by have h1 := congrArg List.length hT; have h2 := congrArg List.length hL; simp at h1 h2; omega
    obtain ⟨xl, hxl, hxll⟩ := ltl.lst
    have nplg := Off.ne_of hxl
    have okPs := papers_ok okpe
    have sPs : Shw (lltD (Ps.map (·.map enV))) 5000 3 := (shw_papers hT okp (by omega : Ps.length ≤ 3) (by decide) (by omega)).mono (by decide) (by decide)
    k_intsEnd
    refine ⟨hb, g, pl, zc, Ls, 5, rfl, G', by omega, by omega, ltl.same (Off.le _ _), nplg, okL, by omega, by decide, fun tq p2 t2 P TP zd H2 k2 G2 zd0 zd1 htq ntq np2 nt2 ltp ltt hPT pl5 oke => ?_⟩
    have kA2 : Kept g H H2 := Kept.trans kH k2
    have okT : ∀ l ∈ TP, LnOk hb l := linesOf_ok okL (fun _ h => by cases h) oke hPT
    have okPV := papV_ok oke
    have ht2 := k2.tup G' ht'
    have ltr2 := ltr'.kept k2 nprg G'
    have llt2 : LLT H2 pp (Ps.map (·.map enV)) := llt.same k2
    have sP : Shw (ltD (P.map enV)) 5000 3 := (shw_pap (n := 5) hPT oke pl5 (by decide) (by omega)).mono (by decide) (by decide)
    have sTwo : Shw (.list [lltD (Ps.map (·.map enV)), ltD (P.map enV)]) (2 * 5001) 4 := shw_two sPs sP
    refine wg_L C rfl htq rfl ?_
    k_intsEnd
    rename_i b1 H3 nb1 s3 hb1
    refine c_reprS C (dp_two hb1 (dpLLT (llt2.same s3) okPs) (dpLT (ltp.same s3) okPV)) sTwo (by decide) (by decide) ?_
    generalize hbef : PyData.shown (.list [lltD (Ps.map (·.map enV)), ltD (P.map enV)]) = bef
    k_intsEnd
    have s23 := s3
    clear hb1 nb1 htq kB k2 G' ht' ltr' htB ltrB
    have hsum := sum_le (m := 6) fun P hP => (okp P hP).2
    obtain ⟨T', hT', hlast', _⟩ := putK_lines hT hL hPT
    have okePut := putK_ok okpe oke
    refine ⟨hb, t, pr, pp, p2, R, Ps, Ts, Ls, P, TP, rfl, s3 _ _ ht2, ltr2.same s3, llt2.same s3, ltp.same s3, okR, by omega, okpe, by omega, oke, by omega, hT, hL, hPT, fun mh H4 nmh s4 ltm => ?_⟩
    have s24 : Same H2 H4 := Same.trans s3 s4
    k_intsEnd
    rename_i e0 H5 ne0 s5 he0
    have s25 : Same H2 H5 := Same.trans s24 s5
    refine o_eqLT C (ltp.same s25) (LT.nil he0) okPV rfl (papV_is P) rfl ?_
    k_intsEnd
    by_cases cP : P = []
    · subst cP
      refine iteT ?_
      k_intsEnd
      rename_i e1 H6 ne1 s6 he1
      have s26 : Same H2 H6 := Same.trans s25 s6
      refine o_eqLT C (ltm.same (Same.trans s5 s6)) (LT.nil he1) rfl rfl rfl rfl ?_
      k_intsEnd
      refine iteT ?_
      k_intsEnd
      rename_i b2 H7 nb2 s7 hb2
      have s27 : Same H2 H7 := Same.trans s26 s7
      refine c_reprS C (dp_two hb2 (dpLLT (llt2.same s27) okPs) (dpLT (ltp.same s27) okPV)) sTwo (by decide) (by decide) ?_
      rw [hbef]
      k_intsEnd
      rw [same_str]
      exact q _ (Kept.then_ kA2 s27)
    · have cP2 : ¬ P.map enV = [] := fun e => cP (List.map_eq_nil_iff.mp e)
      have lTP := lines_len0 hPT
      have neT : TP ≠ [] := fun e => cP (List.length_eq_zero_iff.mp (by rw [← lTP, e]; rfl))
      obtain ⟨l, hl⟩ := last_of_ne neT
      have okl := okT l (List.mem_of_getLast? hl)
      have bl : BdL (10 ^ 11) l := by
        have := lines_bd okL (by decide : (2520 : Int) ≤ 161280) bdl (fun _ h => by cases h) (fun _ h => by cases h) oke hPT l (List.mem_of_getLast? hl)
        refine this.mono ?_
        have h6 : (2 : Int) ^ P.length ≤ 2 ^ 5 := by
          have := Nat.pow_le_pow_right (n := 2) (by decide) pl5
          have e : ∀ n : Nat, ((2 ^ n : Nat) : Int) = (2 : Int) ^ n := fun n => PySem.W.kbt_cast n
          rw [← e, ← e]
          omega
        omega
      have sl : Shw (tD (lnV l)) 164 1 := shw_T (smT_ln okl bl)
      have ol := lnV_ok okl
      generalize hls : PyData.shown (tD (lnV l)) = lsh
      refine iteN cP2 ?_
      k_intsEnd
      refine ⟨hb, pr, mh, R, putK Ps P, T', rfl, ltr2.same s25, ltm.same s5, okR, okePut, by omega, hT', fun ow H6 now s6 ltw => ?_⟩
      have s26 : Same H2 H6 := Same.trans s25 s6
      k_intsEnd
      refine iteF ?_
      k_intsEnd
      obtain ⟨xw, rw1, hxw, hxwl, hrw⟩ := lt_get ltw (hlast'.trans hl)
      refine i_L C hxw (atI_last hxwl) ?_
      k_intsEnd
      refine c_reprS C (dpT hrw ol) sl (by decide) (by decide) ?_
      rw [hls]
      k_intsEnd
      obtain ⟨xt, rt, hxt, hxtl, hrt⟩ := lt_get (ltt.same s26) hl
      refine i_L C hxt (atI_last hxtl) ?_
      k_intsEnd
      refine c_reprS C (dpT hrt ol) sl (by decide) (by decide) ?_
      rw [hls]
      k_intsEnd
      refine iteNN rfl ?_
      k_intsEnd
      rename_i b2 H7 nb2 s7 hb2
      have s27 : Same H2 H7 := Same.trans s26 s7
      refine c_reprS C (dp_two hb2 (dpLLT (llt2.same s27) okPs) (dpLT (ltp.same s27) okPV)) sTwo (by decide) (by decide) ?_
      rw [hbef]
      k_intsEnd
      refine iteNN rfl ?_
      k_intsEnd
      refine c_reprS C (dp_book (s27 _ _ ht2) (ltr2.same s27) okR) sBk (by decide) (by decide) ?_
      rw [hkept]
      k_intsEnd
      refine iteNN rfl ?_
      k_intsEnd
      have ltm7 := ltm.same (Same.trans s5 (Same.trans s6 s7))
      obtain ⟨ym, hym, hyml⟩ := ltm7.lst
      rw [List.length_map] at hyml
      refine ⟨mh, ym, rfl, hym, ?_⟩
      k_intsEnd
      rename_i ptu H8 nptu s8 hptu
      refine ⟨ym, s8 _ _ hym, Nat.lt_of_lt_of_le (by omega : ym.length < 1000) (Nat.le_of_ble_eq_true rfl), ?_⟩
      have sA : Same H2 (upd H8 mh (.lst (ym ++ [.ref ptu]))) := Same.trans s23 (Same.put (Same.trans s4 (Same.trans s5 (Same.trans s6 (Same.trans s7 s8)))) nmh)
      generalize upd H8 mh (.lst (ym ++ [.ref ptu])) = HA at *
      clear s4 s5 s6 s7 s8 s24 s25 s26 s27 hym hptu nptu ltm7 hb2 nb2 hxw hrw hxt hrt ltw ltm
      k_intsEnd
      refine w_callK3 C D_put_through (by decide) g_put_through (by decide) rfl rfl rfl (kwBind h_put fun _ _ _ _ _ _ ws hl => match ws, hl with | [_, _, _], _ => rfl) ?_
      k_intsEnd
      refine ⟨hb, t, pr, pp, p2, R, Ps, Ts, Ls, P, TP, rfl, sA _ _ ht2, ltr2.same sA, llt2.same sA, ltp.same sA, okR, by omega, okpe, by omega, oke, by omega, hT, hL, hPT, fun ag HB nag sB ltg => ?_⟩
      k_intsEnd
      have s2B : Same H2 HB := Same.trans sA sB
      refine ⟨hb, pr, ag, R, putK Ps P, T', rfl, ltr2.same s2B, ltg, okR, okePut, by omega, hT', fun ow2 HC now2 sC ltw2 => ?_⟩
      have s2C : Same H2 HC := Same.trans s2B sC
      k_intsEnd
      obtain ⟨xw, rw1, hxw, hxwl, hrw⟩ := lt_get ltw2 (hlast'.trans hl)
      refine i_L C hxw (atI_last hxwl) ?_
      k_intsEnd
      refine c_reprS C (dpT hrw ol) sl (by decide) (by decide) ?_
      rw [hls]
      k_intsEnd
      obtain ⟨xt, rt, hxt, hxtl, hrt⟩ := lt_get (ltt.same s2C) hl
      refine i_L C hxt (atI_last hxtl) ?_
      k_intsEnd
      refine c_reprS C (dpT hrt ol) sl (by decide) (by decide) ?_
      rw [hls]
      k_intsEnd
      refine iteP rfl ?_
      k_intsEnd
      rename_i b3 HD nb3 sD hb3
      have s2D : Same H2 HD := Same.trans s2C sD
      refine c_reprS C (dp_two hb3 (dpLLT (llt2.same s2D) okPs) (dpLT (ltp.same s2D) okPV)) sTwo (by decide) (by decide) ?_
      rw [hbef]
      k_intsEnd
      rw [same_str]
      exact q _ (Kept.then_ kA2 s2D)
/-! # Lw14 -/
abbrev s_law : Stmt := top 75
theorem sc_law : FnScope ["_law_script", "_law_index", "_law_clock", "_law_paper_told", "_law_told_here", "_law_handed", "_law_way", "_law_some", "_law_whole", "_law_long", "_law_wide", "_law_made_here", "_law_again", "_law_turned", "_law_at"] ["_law_script"] (defScope s_law) := sc_by (by decide +kernel)
abbrev sp_law (K : PySem.W.Frag) : SpG := fun vs H Q => ∃ ps, ∃ ns : List Int, vs = [.ref ps] ∧ SqL K H ps (ns.map V.int) ∧ ∀ H2, Same H H2 → Q (.bl true) H2
theorem d_law {m : Md} (hs : ∃ f fd, Has m "law" s_law ["_law_script"] f fd) (B : Bis m) (D_put_through : Def m "put_through" ["book", "papers", "paper"] 11 sp_put_through) (D_used_lines : Def m "used_lines" ["book", "paper"] 11 sp_used_lines) (D_trimmed : Def m "trimmed" ["book", "paper"] 11 sp_trimmed) (D__law_random : Def m "_law_random" ["_law_generator_here", "_law_bound"] 2 sp__law_random) (D__law_right : Def m "_law_right" ["_law_generator_here"] 12 sp__law_right) (D__law_told : Def m "_law_told" ["_law_sort", "_law_rows", "_law_paper_told"] 7 sp__law_told) (D__law_generator : Def m "_law_generator" ["_law_script", "_law_index"] 2 (sp__law_generator m.K)) : Def m "law" ["_law_script"] 13 (sp_law m.K) := by
  refine def_of hs sc_law (fun vs H Q h => ?_) fun X C fn vs H Q h => ?_
  · obtain ⟨ps, ns, rfl, hps, q⟩ := h
    rfl
  obtain ⟨ps, ns, rfl, hps, q⟩ := h
  have n__law_script : Nm X "_law_script" 0 := C.nm rfl (by decide +kernel)
  have n__law_index : Nm X "_law_index" 1 := C.nm rfl (by decide +kernel)
  have t__law_index : Tg X "_law_index" 1 := C.tg fn rfl (by decide +kernel)
  have n__law_clock : Nm X "_law_clock" 2 := C.nm rfl (by decide +kernel)
  have t__law_clock : Tg X "_law_clock" 2 := C.tg fn rfl (by decide +kernel)
  have n__law_paper_told : Nm X "_law_paper_told" 3 := C.nm rfl (by decide +kernel)
  have t__law_paper_told : Tg X "_law_paper_told" 3 := C.tg fn rfl (by decide +kernel)
  have n__law_told_here : Nm X "_law_told_here" 4 := C.nm rfl (by decide +kernel)
  have t__law_told_here : Tg X "_law_told_here" 4 := C.tg fn rfl (by decide +kernel)
  have n__law_handed : Nm X "_law_handed" 5 := C.nm rfl (by decide +kernel)
  have t__law_handed : Tg X "_law_handed" 5 := C.tg fn rfl (by decide +kernel)
  have n__law_way : Nm X "_law_way" 6 := C.nm rfl (by decide +kernel)
  have t__law_way : Tg X "_law_way" 6 := C.tg fn rfl (by decide +kernel)
  have n__law_some : Nm X "_law_some" 7 := C.nm rfl (by decide +kernel)
  have t__law_some : Tg X "_law_some" 7 := C.tg fn rfl (by decide +kernel)
  have n__law_whole : Nm X "_law_whole" 8 := C.nm rfl (by decide +kernel)
  have t__law_whole : Tg X "_law_whole" 8 := C.tg fn rfl (by decide +kernel)
  have n__law_long : Nm X "_law_long" 9 := C.nm rfl (by decide +kernel)
  have t__law_long : Tg X "_law_long" 9 := C.tg fn rfl (by decide +kernel)
  have n__law_wide : Nm X "_law_wide" 10 := C.nm rfl (by decide +kernel)
  have t__law_wide : Tg X "_law_wide" 10 := C.tg fn rfl (by decide +kernel)
  have n__law_made_here : Nm X "_law_made_here" 11 := C.nm rfl (by decide +kernel)
  have t__law_made_here : Tg X "_law_made_here" 11 := C.tg fn rfl (by decide +kernel)
  have n__law_again : Nm X "_law_again" 12 := C.nm rfl (by decide +kernel)
  have t__law_again : Tg X "_law_again" 12 := C.tg fn rfl (by decide +kernel)
  have n__law_turned : Nm X "_law_turned" 13 := C.nm rfl (by decide +kernel)
  have t__law_turned : Tg X "_law_turned" 13 := C.tg fn rfl (by decide +kernel)
  have g_range : Gl X "range" := C.gl (by decide +kernel)
  have b_range := B.range
  have g__law_right : Gl X "_law_right" := C.gl (by decide +kernel)
  have g__law_generator : Gl X "_law_generator" := C.gl (by decide +kernel)
  have g_used_lines : Gl X "used_lines" := C.gl (by decide +kernel)
  have g_trimmed : Gl X "trimmed" := C.gl (by decide +kernel)
  have g__law_told : Gl X "_law_told" := C.gl (by decide +kernel)
  have g_put_through : Gl X "put_through" := C.gl (by decide +kernel)
  have g__law_random : Gl X "_law_random" := C.gl (by decide +kernel)
  have g_repr : Gl X "repr" := C.gl (by decide +kernel)
  have b_repr := B.repr

  k_allIn
  refine ws_forR C g_range b_range.free ?_ (fun _ => rfl) ?_
  · rfl
  k_allIn
  refine ⟨by decide, by decide, fun i σ H' => Same H H' ∧ ∃ u : Option V, σ = [some (.ref ps), u, none, none, none, none, none, none, none, none, none, none, none, none, none], ⟨Same.refl _, none, rfl⟩, ?_, ?_⟩
  · rintro i σ H' hi ⟨s1, u, rfl⟩
    have hi : i < 3 := hi
    k_allIn
    refine ⟨ps, ns, i, rfl, Same.seq s1 hps, by omega, fun g H2 ng s2 G2 => ?_⟩
    k_allIn
    refine ⟨g, _, rfl, G2, by omega, by omega, fun H3 k3 => ?_⟩
    k_allIn
    exact ⟨Same.trans s1 (Same.trans (Off.of s2 ng) k3), _, rfl⟩
  rintro σ H0 ⟨s0, u, rfl⟩
  have hps0 := Same.seq s0 hps
  obtain ⟨T7, l7, hT7, hl7⟩ := last7
  obtain ⟨T3, hT3⟩ := lines3
  k_allIn
  refine w_conLT (ts := clockR.map lnV) rfl rfl fun pr H1 npr s1 ltr => ?_
  k_allIn
  rename_i ck H2 nck s2 hck
  have ltr2 := ltr.same s2
  refine w_conLT (ts := P7.map enV) rfl rfl fun pp H3 npp s3 ltp => ?_
  k_allIn
  have hck3 := s3 _ _ hck
  have ltr3 := ltr2.same s3
  have s03 : Same H0 H3 := Same.trans s1 (Same.trans s2 s3)
  clear ltr ltr2 hck s1 s2 s3 npr npp
  refine w_lst ?_
  k_allIn
  refine ⟨true, ck, pr, pp, clockR, P7, T7, rfl, hck3, ltr3, ltp, clock_ok, ok7, by decide, by decide, hT7, fun u1 H4 nu1 s4 hu1 => ?_⟩
  rw [show clockR.length = 3 from rfl, used7] at hu1
  k_allIn
  refine w_conLT (ts := P3.map enV) rfl rfl fun pq H5 npq s5 ltq => ?_
  k_allIn
  have s35 : Same H3 H5 := Same.trans s4 s5
  refine ⟨true, ck, pr, pq, clockR, P3, T3, rfl, s35 _ _ hck3, ltr3.same s35, ltq, clock_ok, ok3, by decide, by decide, hT3, fun u2 H6 nu2 s6 lt2 => ?_⟩
  rw [trim3] at lt2
  k_allIn
  refine w_conLT (ts := ([] : List En).map enV) rfl rfl fun pe H7 npe s7 lte => ?_
  k_allIn
  have s37 : Same H3 H7 := Same.trans s35 (Same.trans s6 s7)
  refine ⟨true, ck, pr, pe, clockR, [], [], rfl, s37 _ _ hck3, ltr3.same s37, lte, clock_ok, ok0, by decide, by decide, rfl, fun u3 H8 nu3 s8 hu3 => ?_⟩
  k_allIn
  refine w_conLT (ts := ([] : List En).map enV) rfl rfl fun pe2 H9 npe2 s9 lte2 => ?_
  k_allIn
  have s39 : Same H3 H9 := Same.trans s37 (Same.trans s8 s9)
  refine ⟨true, ck, pr, pe2, clockR, [], [], rfl, s39 _ _ hck3, ltr3.same s39, lte2, clock_ok, ok0, by decide, by decide, rfl, fun u4 H10 nu4 s10 lt4 => ?_⟩
  k_allIn
  have s310 : Same H3 H10 := Same.trans s39 s10
  refine ⟨true, ck, pr, pp, clockR, P7, T7, rfl, s310 _ _ hck3, ltr3.same s310, ltp.same s310, clock_ok, ok7, by decide, by decide, hT7, fun u5 H11 nu5 s11 lt5 => ?_⟩
  rw [trim7] at lt5
  k_allIn
  have s311 : Same H3 H11 := Same.trans s310 s11
  refine o_eqLT C lt5 (ltp.same s311) (papV_ok ok7) (papV_ok ok7) (papV_is P7) (papV_is P7) ?_
  rw [show decide (P7.map enV = P7.map enV) = true from decide_eq_true rfl]
  k_allIn
  rename_i th H12 nth s12 hth
  have s312 : Same H3 H12 := Same.trans s311 s12
  have hck12 := s312 _ _ hck3
  have ltr12 := ltr3.same s312
  have ltp12 := ltp.same s312
  have hps12 := Same.seq s312 (Same.seq s03 hps0)
  have s012 : Same H0 H12 := Same.trans s03 s312
  have hu1x := s12 _ _ (s11 _ _ (s10 _ _ (s9 _ _ (s8 _ _ (s7 _ _ (s6 _ _ (s5 _ _ hu1)))))))
  have lt2x := lt2.same (Same.trans s7 (Same.trans s8 (Same.trans s9 (Same.trans s10 (Same.trans s11 s12)))))
  have hu3x := s12 _ _ (s11 _ _ (s10 _ _ (s9 _ _ hu3)))
  have lt4x := lt4.same (Same.trans s11 s12)
  have hu3y : H12 u3 = some (.lst []) := hu3x
  have lt4y : H12 u4 = some (.lst []) := LT.nil_at lt4x
  have dpTold : ∀ {H' : Hp}, Same H12 H' → Dp m.K H' (.ref th) D5 := fun s => dp_5 (s _ _ hth) (s _ _ hu1x) (lt2x.same s) (s _ _ hu3y) (s _ _ lt4y)
  clear s4 s5 s6 s7 s8 s9 s10 s11 s12 s35 s37 s39 s310 s311 s312 s03 hck3 ltr3 ltp hu1 lt2 hu3 lt4 lt5 hth ltq lte lte2 nu1 nu2 nu3 nu4 nu5 npq npe npe2 nth
  refine w_conLLT (tss := ([] : List (List En)).map (·.map enV)) rfl rfl fun ps0 H13 nps0 s13 llt0 => ?_
  k_allIn
  refine w_conLT (ts := PN.map enV) rfl rfl fun pn H14 npn s14 ltn => ?_
  k_allIn
  have s1214 : Same H12 H14 := Same.trans s13 s14
  obtain ⟨TN, hTN, hlN, hnN⟩ := putN.lines
  obtain ⟨Ts, Ls, TP, a1, a2, a3, a4⟩ := putN
  refine ⟨true, ck, pr, ps0, pn, clockR, [], Ts, Ls, PN, TP, rfl, s1214 _ _ hck12, ltr12.same s1214, llt0.same s14, ltn, clock_ok, by decide, okps rfl, by decide, okN, by decide, a1, a2, a3, fun m1 H15 nm1 s15 ltm1 => ?_⟩
  k_allIn
  have s1215 : Same H12 H15 := Same.trans s1214 s15
  refine ⟨true, pr, m1, clockR, putK [] PN, TN, rfl, ltr12.same s1215, ltm1, clock_ok, putK_ok (okps rfl) okN, Nat.le_trans hnN (by decide), hTN, fun w1 H16 nw1 s16 ltw1 => ?_⟩
  k_allIn
  obtain ⟨xw, rw1, hxw, hxwl, hrw⟩ := lt_get ltw1 hlN
  refine i_L C hxw (atI_last hxwl) ?_
  k_allIn
  rename_i pt H17 npt s17 hpt
  refine o_neT C (s17 _ _ hrw) hpt (lnV_ok lnx_ok) (lnV_ok lnx_ok) rfl rfl ?_
  refine ⟨_, rfl, ?_⟩
  refine iteNN rfl ?_
  k_allIn
  have s1217 : Same H12 H17 := Same.trans s1215 (Same.trans s16 s17)
  have hck17 := s1217 _ _ hck12
  have ltr17 := ltr12.same s1217
  have ltp17 := ltp12.same s1217
  have hps17 := Same.seq s1217 hps12
  have s017 : Same H0 H17 := Same.trans s012 s1217
  have dpTold17 : Same H12 H17 := s1217
  clear s13 s14 s15 s16 s17 s1214 s1215 hck12 ltr12 ltp12 hps12 s012 llt0 ltn ltm1 ltw1 hxw hrw hpt npt nw1 nm1 npn nps0 a1 a2 a3 a4
  refine w_conLT (ts := ([] : List En).map enV) rfl rfl fun hd H18 nhd s18 lth => ?_
  k_allIn
  refine ⟨ps, ns, 3, rfl, Same.seq s18 hps17, by decide, fun g H19 ng s19 G19 => ?_⟩
  k_allIn
  refine ⟨g, _, 12, rfl, G19, by decide, by decide, by decide, by decide, fun way zz H20 k20 G20 zz0 zz1 way0 way1 => ?_⟩
  have s1820 : Same H18 H20 := Same.trans (Off.of s19 ng) k20
  have s1720 : Same H17 H20 := Same.trans s18 s1820
  have hck20 := s1720 _ _ hck17
  have ltr20 := ltr17.same s1720
  have ltp20 := ltp17.same s1720
  have lth20 := lth.same s1820
  have s020 : Same H0 H20 := Same.trans s017 s1720
  have s1220 : Same H12 H20 := Same.trans s1217 s1720
  clear s18 s19 s1820 s1720 G19 G20 k20 hck17 ltr17 ltp17 hps17 s017 dpTold17 s1217 lth nhd ng
  k_allIn
  refine ws_forL C (fun _ => rfl) ?_
  refine w_lst ?_
  k_allIn
  refine ⟨true, ck, pr, hd, clockR, [], [], rfl, hck20, ltr20, lth20, clock_ok, ok0, by decide, by decide, rfl, fun a1 H21 na1 s21 la1 => ?_⟩
  k_allIn
  refine w_lst ?_
  k_allIn
  rename_i pl H22 npl s22 hpl
  have s2022 : Same H20 H22 := Same.trans s21 s22
  refine ⟨true, ck, pr, pl, hd, clockR, [P7], [T7], [l7], [], [], rfl, s2022 _ _ hck20, ltr20.same s2022, LLT.one hpl (ltp20.same s2022), lth20.same s2022, clock_ok, by decide, okps rfl, by decide, ok0, by decide, ?_, ?_, rfl, fun a2 H23 na2 s23 la2 => ?_⟩
  · show [linesOf true clockR P7 []] = [some T7]
    rw [hT7]
  · show [T7.getLast?] = [some l7]
    rw [hl7]
  k_allIn
  have s2023 : Same H20 H23 := Same.trans s2022 s23
  refine ⟨true, ck, pr, hd, clockR, [], [], rfl, s2023 _ _ hck20, ltr20.same s2023, lth20.same s2023, clock_ok, ok0, by decide, by decide, rfl, fun a3 H24 na3 s24 ha3 => ?_⟩
  k_allIn
  rename_i L H25 nL s25 hL
  obtain ⟨x1, hx1, lx1⟩ := la1.lst
  obtain ⟨x2, hx2, lx2⟩ := la2.lst
  have hx1 := s24 _ _ (s23 _ _ (s22 _ _ hx1))
  have hx2 := s24 _ _ hx2
  have f2 : H20 a2 = none := Same.free s2022 na2
  have f3 : H20 a3 = none := Same.free s2023 na3
  have n1 : a1 ≠ L := Ne.symm (ne_new nL hx1)
  have n2 : a2 ≠ L := Ne.symm (ne_new nL hx2)
  have n3 : a3 ≠ L := Ne.symm (ne_new nL ha3)
  have fr : ∀ j, (j = a1 ∨ j = a2 ∨ j = a3) → H20 j = none ∧ j ≠ L := by
    rintro j (rfl | rfl | rfl)
    · exact ⟨na1, n1⟩
    · exact ⟨f2, n2⟩
    · exact ⟨f3, n3⟩
  have ha3 : H24 a3 = some (.lst []) := ha3
  refine ⟨_, _, rfl, SqL.of hL, fun i σ H' => Same H20 H' ∧ H' L = some (.lst [.ref a1, .ref a2, .ref a3]) ∧ (∀ j, (j = a1 ∨ j = a2 ∨ j = a3) → ∃ xs, H' j = some (.lst xs) ∧ xs.length ≤ i) ∧ ∃ v : Option V, σ = [some (.ref ps), u, some (.ref ck), some (.ref pp), some (.ref th), some (.ref hd), some (.int way), v, none, none, none, none, none, none, none], ⟨Same.trans s2023 (Same.trans s24 s25), hL, ?_, none, rfl⟩, fun i σ H' p => SqL.of p.2.1, ?_, ?_⟩
  · rintro j (rfl | rfl | rfl)
    · exact ⟨x1, s25 _ _ hx1, by rw [lx1]; exact Nat.le_refl _⟩
    · exact ⟨x2, s25 _ _ hx2, by rw [lx2]; exact Nat.le_refl _⟩
    · exact ⟨[], s25 _ _ ha3, Nat.le_refl _⟩
  · rintro i x σ H' hx ⟨s1, hL', hj, v, rfl⟩
    have hx3 : ∃ j, x = .ref j ∧ (j = a1 ∨ j = a2 ∨ j = a3) ∧ i < 3 := by
      match i, hx with
      | 0, hx => cases hx; exact ⟨a1, rfl, .inl rfl, by decide⟩
      | 1, hx => cases hx; exact ⟨a2, rfl, .inr (.inl rfl), by decide⟩
      | 2, hx => cases hx; exact ⟨a3, rfl, .inr (.inr rfl), by decide⟩
    obtain ⟨j, rfl, hjm, i3⟩ := hx3
    obtain ⟨xs, hxs, hl⟩ := hj j hjm
    obtain ⟨fj, nj⟩ := fr j hjm
    k_allIn
    refine ⟨j, xs, rfl, hxs, ?_⟩
    k_allIn
    refine ⟨xs, hxs, Nat.lt_of_lt_of_le (by omega : xs.length < 10) (Nat.le_of_ble_eq_true rfl), ?_⟩
    k_allIn
    refine ⟨Same.put s1 fj, by rw [upd_ne (Ne.symm nj)]; exact hL', fun j2 h2 => ?_, _, rfl⟩
    by_cases c : j2 = j
    · subst c
      exact ⟨_, upd_same, by rw [List.length_append]; show xs.length + 1 ≤ i + 1; omega⟩
    · obtain ⟨ys, hys, hyl⟩ := hj j2 h2
      exact ⟨ys, by rw [upd_ne c]; exact hys, by omega⟩
  rintro σ H30 ⟨s2030, _, _, v7, rfl⟩
  have hck30 := s2030 _ _ hck20
  have ltr30 := ltr20.same s2030
  have ltp30 := ltp20.same s2030
  have lth30 := lth20.same s2030
  have s030 : Same H0 H30 := Same.trans s020 s2030
  have s1230 : Same H12 H30 := Same.trans s1220 s2030
  clear s21 s22 s23 s24 s25 s2022 s2023 fr f2 f3 n1 n2 n3 hx1 hx2 lx1 lx2 ha3 la1 la2 hL nL npl hpl na1 na2 na3 hck20 ltr20 ltp20 lth20 s020 s1220 s2030
  k_allIn
  refine w_conLT (ts := [enV (.told 0)]) rfl rfl fun q1 H31 nq1 s31 lq1 => ?_
  refine lcT_R [("_law_at", 14)] C (by assumption) b_range.free rfl (by decide +kernel) (fun _ => rfl) ?_
  k_allIn
  refine ⟨Nat.le_of_ble_eq_true rfl, fun i ts => ts = (List.range i).map (fun k => enV (.met k k)), rfl, fun i H' ts hi s' e => ?_, fun D H32 ts nD s32 ltD e => ?_⟩
  · subst e
    refine turn_nm (i := 14) C rfl rfl rfl (by decide +kernel) fun X' B' => wts_nil ?_
    refine iteT ?_
    intro X3 B3
    have C3 := B3.ctx C
    have n__law_at_X3 : Nm X3 "_law_at" 14 := C3.nm rfl (by decide +kernel)
    k_allIn
    refine ⟨by assumption, _, _, rfl, by assumption, ?_⟩
    show (List.range i).map (fun k => enV (.met k k)) ++ [enV (.met i i)] = (List.range (i + 1)).map (fun k => enV (.met k k))
    rw [List.range_succ, List.map_append]
    rfl
  subst e
  obtain ⟨y1, hy1, ly1⟩ := (lq1.same s32).lst
  obtain ⟨yD, hyD, lyD⟩ := ltD.lst
  rw [List.length_map, List.length_range] at lyD
  have lyD : yD.length = 40 := lyD
  have ly1 : y1.length = 1 := ly1
  refine o_cat hy1 hyD (Nat.le_trans (by omega : _ ≤ 10000) (Nat.le_of_ble_eq_true rfl)) fun wh H33 nwh s33 hwh => ?_
  have ltw : LT H33 wh ((wholeP 40).map enV) := by
    rw [chain_V]
    exact LT.app ((lq1.same s32).same s33) (ltD.same s33) (s33 _ _ hy1) (s33 _ _ hyD) hwh
  obtain ⟨W, pW, ltw⟩ : ∃ W, LawP W 41 ∧ LT H33 wh (W.map enV) := ⟨_, whole_P, ltw⟩
  have s3033 : Same H30 H33 := Same.trans s31 (Same.trans s32 s33)
  clear hy1 hyD hwh lq1 ltD s31 s32 s33 ly1 lyD nD nq1 nwh
  k_allIn
  refine w_conLT (ts := [enV (.told 0)]) rfl rfl fun q1 H34 nq1 s34 lq1 => ?_
  refine lcT_R [("_law_at", 14)] C (by assumption) b_range.free rfl (by decide +kernel) (fun _ => rfl) ?_
  k_allIn
  refine ⟨Nat.le_of_ble_eq_true rfl, fun i ts => ts = (List.range i).map (fun k => enV (.turned k)), rfl, fun i H' ts hi s' e => ?_, fun D H35 ts nD s35 ltD e => ?_⟩
  · subst e
    refine turn_nm (i := 14) C rfl rfl rfl (by decide +kernel) fun X' B' => wts_nil ?_
    refine iteT ?_
    intro X3 B3
    have C3 := B3.ctx C
    have n__law_at_X3 : Nm X3 "_law_at" 14 := C3.nm rfl (by decide +kernel)
    k_allIn
    refine ⟨by assumption, _, _, rfl, by assumption, ?_⟩
    show (List.range i).map (fun k => enV (.turned k)) ++ [enV (.turned i)] = (List.range (i + 1)).map (fun k => enV (.turned k))
    rw [List.range_succ, List.map_append]
    rfl
  subst e
  obtain ⟨y1, hy1, ly1⟩ := (lq1.same s35).lst
  obtain ⟨yD, hyD, lyD⟩ := ltD.lst
  rw [List.length_map, List.length_range] at lyD
  have lyD : yD.length = 1200 := lyD
  have ly1 : y1.length = 1 := ly1
  refine o_cat hy1 hyD (Nat.le_trans (by omega : _ ≤ 10000) (Nat.le_of_ble_eq_true rfl)) fun lg H36 nlg s36 hlg => ?_
  have ltl : LT H36 lg ((longP 1200).map enV) := by
    rw [chain_V]
    exact LT.app ((lq1.same s35).same s36) (ltD.same s36) (s36 _ _ hy1) (s36 _ _ hyD) hlg
  obtain ⟨G, pG, ltl⟩ : ∃ G, LawP G 1201 ∧ LT H36 lg (G.map enV) := ⟨_, long_P, ltl⟩
  have s3336 : Same H33 H36 := Same.trans s34 (Same.trans s35 s36)
  have ltw := ltw.same s3336
  have s3036 : Same H30 H36 := Same.trans s3033 s3336
  clear hy1 hyD hlg lq1 ltD s34 s35 s36 ly1 lyD nD nq1 nlg s3033 s3336
  have hck36 := s3036 _ _ hck30
  have ltr36 := ltr30.same s3036
  have lth36 := lth30.same s3036
  have s036 : Same H0 H36 := Same.trans s030 s3036
  have s1236 : Same H12 H36 := Same.trans s1230 s3036
  obtain ⟨okW, lenW, ⟨tW, lW⟩, fW1, fW2, putWW⟩ := pW
  obtain ⟨okG, lenG, ⟨tG, lG⟩, fG1, fG2, putGG⟩ := pG
  have cW : W.length ≤ 2000 := by omega
  have cG : G.length ≤ 2000 := by omega
  have oW := papV_ok okW
  have oG := papV_ok okG
  have iW := papV_is W
  have iG := papV_is G
  clear hck30 ltr30 ltp30 lth30 s030 s1230 s3036
  refine w_anil ?_
  refine ⟨_, _, rfl, ?_⟩
  refine ws_cons (ws_if (WT.mono (Q := fun b H2 => b = false ∧ Same H36 H2) ?_ fun b H37 e37 => ?_))
  · k_allIn
    refine w_conLT (ts := ([] : List En).map enV) rfl rfl fun e1 H37 ne1 s37 lte => ?_
    k_allIn
    refine o_neLT C (lth36.same s37) lte rfl rfl rfl rfl ?_
    k_allIn
    refine ⟨true, ck, pr, wh, clockR, W, tW, rfl, s37 _ _ hck36, ltr36.same s37, ltw.same s37, clock_ok, okW, by decide, cW, lW, fun u6 H38 nu6 s38 hu6 => ?_⟩
    rw [show clockR.length = 3 from rfl, fW2] at hu6
    k_allIn
    refine w_lst ?_
    k_allIn
    rename_i z1 H39 nz1 s39 hz1
    refine o_neL C (s39 _ _ hu6) hz1 rfl rfl rfl rfl ?_
    refine ⟨_, rfl, ?_⟩
    refine iteNN rfl ?_
    k_allIn
    have s3639 : Same H36 H39 := Same.trans s37 (Same.trans s38 s39)
    refine ⟨true, ck, pr, wh, clockR, W, tW, rfl, s3639 _ _ hck36, ltr36.same s3639, ltw.same s3639, clock_ok, okW, by decide, cW, lW, fun u7 H40 nu7 s40 lt7 => ?_⟩
    rw [fW1] at lt7
    k_allIn
    refine o_neLT C lt7 (ltw.same (Same.trans s3639 s40)) oW oW iW iW ?_
    refine ⟨_, rfl, ?_⟩
    exact ⟨by rw [decide_eq_true rfl]; rfl, Same.trans s3639 s40⟩
  obtain ⟨rfl, s37⟩ := e37
  refine iteF ?_
  refine ws_nil ?_
  refine ws_cons (ws_if (WT.mono (Q := fun b H2 => b = false ∧ Same H36 H2) ?_ fun b H38 e38 => ?_))
  · by_cases c0 : way = 0
    · k_allIn
      refine ⟨true, ck, pr, lg, clockR, G, tG, rfl, s37 _ _ hck36, ltr36.same s37, ltl.same s37, clock_ok, okG, by decide, cG, lG, fun u6 H38 nu6 s38 hu6 => ?_⟩
      rw [show clockR.length = 3 from rfl, fG2] at hu6
      k_allIn
      refine w_lst ?_
      k_allIn
      rename_i z1 H39 nz1 s39 hz1
      refine o_neL C (s39 _ _ hu6) hz1 rfl rfl rfl rfl ?_
      refine ⟨_, rfl, ?_⟩
      refine iteNN rfl ?_
      k_allIn
      exact ⟨rfl, Same.trans s37 (Same.trans s38 s39)⟩
    · k_allIn
      by_cases c1 : way = 1
      · refine iteP c1 ?_
        k_allIn
        refine ⟨true, ck, pr, lg, clockR, G, tG, rfl, s37 _ _ hck36, ltr36.same s37, ltl.same s37, clock_ok, okG, by decide, cG, lG, fun u7 H40 nu7 s40 lt7 => ?_⟩
        rw [fG1] at lt7
        k_allIn
        refine o_neLT C lt7 (ltl.same (Same.trans s37 s40)) oG oG iG iG ?_
        refine ⟨_, rfl, ?_⟩
        exact ⟨by rw [decide_eq_true rfl]; rfl, Same.trans s37 s40⟩
      · refine iteN c1 ?_
        k_allIn
        exact ⟨rfl, s37⟩
  obtain ⟨rfl, s38⟩ := e38
  refine iteF ?_
  refine ws_nil ?_
  k_allIn
  refine w_conLLT (tss := [[En.told 0]].map (·.map enV)) rfl rfl fun qs H39 nqs s39 llt1 => ?_
  k_allIn
  have s3639 : Same H36 H39 := Same.trans s38 s39
  obtain ⟨TW, hTW, hlW, hnW⟩ := putWW.lines
  obtain ⟨Ts, Ls, TP, b1, b2, b3, b4⟩ := putWW
  have cs1 : (([[En.told 0]] : List (List En)).map List.length).sum = 1 := rfl
  refine ⟨true, ck, pr, qs, wh, clockR, [[.told 0]], Ts, Ls, W, TP, rfl, s3639 _ _ hck36, ltr36.same s3639, llt1, ltw.same s3639, clock_ok, by decide, okps rfl, by decide, okW, by omega, b1, b2, b3, fun wd H40 nwd s40 ltwd => ?_⟩
  have s3640 : Same H36 H40 := Same.trans s3639 s40
  refine ws_cons (ws_if (WT.mono (Q := fun b H2 => b = false ∧ Same H40 H2) ?_ fun b H41 e41 => ?_))
  · k_allIn
    refine ⟨true, pr, wd, clockR, putK [[.told 0]] W, TW, rfl, ltr36.same s3640, ltwd, clock_ok, putK_ok (okps rfl) (okW), by omega, hTW, fun w1 H41 nw1 s41 ltw1 => ?_⟩
    k_allIn
    obtain ⟨xw, rw1, hxw, hxwl, hrw⟩ := lt_get ltw1 hlW
    refine i_L C hxw (atI_last hxwl) ?_
    k_allIn
    rename_i pt H42 npt s42 hpt
    refine o_neT C (s42 _ _ hrw) hpt (lnV_ok l0_ok) (lnV_ok l0_ok) rfl rfl ?_
    refine ⟨_, rfl, ?_⟩
    refine iteNN rfl ?_
    have s4042 : Same H40 H42 := Same.trans s41 s42
    have s3642 : Same H36 H42 := Same.trans s3640 s4042
    k_allIn
    by_cases c2 : way = 2
    · refine iteP c2 ?_
      k_allIn
      refine w_conLLT (tss := [[En.told 0]].map (·.map enV)) rfl rfl fun qs2 H43 nqs2 s43 llt2 => ?_
      k_allIn
      have s3643 : Same H36 H43 := Same.trans s3642 s43
      obtain ⟨TG, hTG, hlG, hnG⟩ := putGG.lines
      obtain ⟨Tg, Lg, Tpg, g1, g2, g3, g4⟩ := putGG
      refine ⟨true, ck, pr, qs2, lg, clockR, [[.told 0]], Tg, Lg, G, Tpg, rfl, s3643 _ _ hck36, ltr36.same s3643, llt2, ltl.same s3643, clock_ok, by decide, okps rfl, by decide, okG, by omega, g1, g2, g3, fun wl H44 nwl s44 ltwl => ?_⟩
      k_allIn
      refine w_conLT (ts := ([] : List En).map enV) rfl rfl fun e1 H45 ne1 s45 lte => ?_
      have okGG := putK_ok (okps (Ps := [[.told 0]]) rfl) okG
      refine o_eqLT C (ltwl.same s45) lte (papV_ok okGG) rfl (papV_is _) rfl ?_
      refine ⟨_, rfl, ?_⟩
      refine ⟨?_, Same.trans s4042 (Same.trans s43 (Same.trans s44 s45))⟩
      refine decide_eq_false fun e => put_ne hTG hlG (List.map_eq_nil_iff.mp e)
    · refine iteN c2 ?_
      k_allIn
      exact ⟨rfl, s4042⟩
  obtain ⟨rfl, s41⟩ := e41
  have s3641 : Same H36 H41 := Same.trans s3640 s41
  refine iteF ?_
  refine ws_nil ?_
  have hck41 := s3641 _ _ hck36
  have ltr41 := ltr36.same s3641
  have s041 : Same H0 H41 := Same.trans s036 s3641
  have s1241 : Same H12 H41 := Same.trans s1236 s3641
  clear s37 s38 s39 s3639 s40 s3640 s41 llt1 nqs ltwd nwd ltw ltl b1 b2 b3 b4 hTW hlW hnW hck36 ltr36 lth36 s036 s1236 s3641 okW lenW lW fW1 fW2 okG lenG lG fG1 fG2 cW cG oW oG iW iG cs1
  k_allIn
  refine w_conLLT (tss := [P2].map (·.map enV)) rfl rfl fun qa H42 nqa s42 llta => ?_
  k_allIn
  refine w_conLT (ts := P2.map enV) rfl rfl fun qb H43 nqb s43 ltb => ?_
  k_allIn
  have s4143 : Same H41 H43 := Same.trans s42 s43
  obtain ⟨T2, hT2, hl2, hn2⟩ := put2.lines
  obtain ⟨Ts, Ls, TP, b1, b2, b3, b4⟩ := put2
  refine ⟨true, ck, pr, qa, qb, clockR, [P2], Ts, Ls, P2, TP, rfl, s4143 _ _ hck41, ltr41.same s4143, llta.same s43, ltb, clock_ok, by decide, okps rfl, by decide, ok2, by decide, b1, b2, b3, fun md H44 nmd s44 ltmd => ?_⟩
  have s4144 : Same H41 H44 := Same.trans s4143 s44
  have ok2p := putK_ok (okps (Ps := [P2]) rfl) ok2
  have ln2 : (putK [P2] P2).length ≤ 100000 := Nat.le_trans hn2 (by decide)
  generalize putK [P2] P2 = K2 at *
  clear s42 s43 s44 s4143 llta ltb nqa nqb nmd b1 b2 b3 b4 hn2
  k_allIn
  refine w_conLLT (tss := [[En.told 0]].map (·.map enV)) rfl rfl fun qa H45 nqa s45 llta => ?_
  k_allIn
  refine w_conLT (ts := PA.map enV) rfl rfl fun qb H46 nqb s46 ltb => ?_
  k_allIn
  have s4146 : Same H41 H46 := Same.trans s4144 (Same.trans s45 s46)
  obtain ⟨TA, hTA, hlA, hnA⟩ := putA.lines
  obtain ⟨Ts, Ls, TP, b1, b2, b3, b4⟩ := putA
  refine ⟨true, ck, pr, qa, qb, clockR, [[.told 0]], Ts, Ls, PA, TP, rfl, s4146 _ _ hck41, ltr41.same s4146, llta.same s46, ltb, clock_ok, by decide, okps rfl, by decide, okA, by decide, b1, b2, b3, fun ag H47 nag s47 ltag => ?_⟩
  have s4147 : Same H41 H47 := Same.trans s4146 s47
  have okAp := putK_ok (okps (Ps := [[.told 0]]) rfl) okA
  have lnA : (putK [[.told 0]] PA).length ≤ 100000 := Nat.le_trans hnA (by decide)
  generalize putK [[.told 0]] PA = KA at *
  have ltmd := ltmd.same (Same.trans s45 (Same.trans s46 s47))
  clear s45 s46 s47 s4144 s4146 llta ltb nqa nqb nag b1 b2 b3 b4 hnA
  k_allIn
  refine w_conLLT (tss := [[En.told 1], [En.told 0]].map (·.map enV)) rfl rfl fun qa H48 nqa s48 llta => ?_
  k_allIn
  refine w_conLT (ts := PJ.map enV) rfl rfl fun qb H49 nqb s49 ltb => ?_
  k_allIn
  have s4149 : Same H41 H49 := Same.trans s4147 (Same.trans s48 s49)
  obtain ⟨TJ, hTJ, hlJ, hnJ⟩ := putJ.lines
  obtain ⟨Ts, Ls, TP, b1, b2, b3, b4⟩ := putJ
  refine ⟨true, ck, pr, qa, qb, clockR, [[.told 1], [.told 0]], Ts, Ls, PJ, TP, rfl, s4149 _ _ hck41, ltr41.same s4149, llta.same s49, ltb, clock_ok, by decide, okps rfl, by decide, okJ, by decide, b1, b2, b3, fun tu H50 ntu s50 lttu => ?_⟩
  have s4150 : Same H41 H50 := Same.trans s4149 s50
  have okJp := putK_ok (okps (Ps := [[.told 1], [.told 0]]) rfl) okJ
  have lnJ : (putK [[.told 1], [.told 0]] PJ).length ≤ 100000 := Nat.le_trans hnJ (by decide)
  generalize putK [[.told 1], [.told 0]] PJ = KJ at *
  have ltmd := ltmd.same (Same.trans s48 (Same.trans s49 s50))
  have ltag := ltag.same (Same.trans s48 (Same.trans s49 s50))
  clear s48 s49 s50 s4147 s4149 llta ltb nqa nqb ntu b1 b2 b3 b4 hnJ
  have hck50 := s4150 _ _ hck41
  have ltr50 := ltr41.same s4150
  have s050 : Same H0 H50 := Same.trans s041 s4150
  have s1250 : Same H12 H50 := Same.trans s1241 s4150
  clear hck41 ltr41 s041 s1241 s4150
  refine ws_cons (ws_if (WT.mono (Q := fun b H2 => b = false ∧ Same H50 H2) ?_ fun b H51 e51 => ?_))
  · k_allIn
    refine lcT_L [("_law_some", 7)] C (by decide +kernel) (fun _ => rfl) ?_
    refine w_lst ?_
    k_allIn
    rename_i li H51 nli s51 hli
    refine ⟨_, _, rfl, hli, Nat.le_of_ble_eq_true rfl, fun i ts => ts = ([l0, ⟨"a", "c", 2, 4⟩].take i).map lnV, rfl, fun i x H52 ts hx s52 e => ?_, fun D H52 ts nD s52 ltD e => ?_⟩
    · subst e
      have pick : ∃ (j : Addr) (K : List En) (T : List Ln) (l : Ln), x = .ref j ∧ LT H50 j (K.map enV) ∧ (∀ e ∈ K, EnOk e) ∧ K.length ≤ 100000 ∧ linesOf true clockR K [] = some T ∧ T.getLast? = some l ∧ ([l0, ⟨"a", "c", 2, 4⟩] : List Ln)[i]? = some l := by
        match i, hx with
        | 0, hx => cases hx; exact ⟨ag, KA, TA, l0, rfl, ltag, okAp, lnA, hTA, hlA, rfl⟩
        | 1, hx => cases hx; exact ⟨tu, KJ, TJ, _, rfl, lttu, okJp, lnJ, hTJ, hlJ, rfl⟩
      obtain ⟨j, K, T, l, rfl, ltj, okK, lnK, hTK, hlK, hli2⟩ := pick
      have s5052 : Same H50 H52 := Same.trans s51 s52
      have hck52 := s5052 _ _ hck50
      refine turn_nm (i := 7) C rfl rfl rfl (by decide +kernel) fun X' B' => wts_nil ?_
      refine iteT ?_
      intro X3 B3
      have C3 := B3.ctx C
      have n__law_some_X3 : Nm X3 "_law_some" 7 := C3.nm rfl (by decide +kernel)
      have g__law_told_X3 : Gl X3 "_law_told" := C3.gl (by decide +kernel)
      have n__law_clock_X3 : Nm X3 "_law_clock" 2 := C3.nm rfl (by decide +kernel)
      k_allIn
      refine ⟨true, pr, j, clockR, K, T, rfl, ltr50.same s5052, ltj.same s5052, clock_ok, okK, lnK, hTK, fun w1 H53 nw1 s53 ltw1 => ?_⟩
      k_allIn
      obtain ⟨xw, rw1, hxw, hxwl, hrw⟩ := lt_get ltw1 hlK
      refine i_L C3 hxw (atI_last hxwl) ?_
      refine ⟨s53, rw1, _, rfl, hrw, ?_⟩
      show _ ++ [_] = (([l0, ⟨"a", "c", 2, 4⟩] : List Ln).take (i + 1)).map lnV
      rw [take_snoc hli2, List.map_append]
      rfl
    · subst e
      k_allIn
      refine w_conLT (ts := ([l0, ⟨"a", "c", 2, 4⟩] : List Ln).map lnV) rfl rfl fun e1 H53 ne1 s53 lte => ?_
      have okl : ∀ l ∈ ([l0, ⟨"a", "c", 2, 4⟩] : List Ln), LnOk true l := fun l hl => by
        rcases List.mem_cons.mp hl with r | r
        · rw [r]; exact l0_ok
        · rw [List.mem_singleton.mp r]; exact ln2_ok
      have ltD2 : LT H53 D (([l0, ⟨"a", "c", 2, 4⟩] : List Ln).map lnV) := ltD.same s53
      refine o_neLT C ltD2 lte (lnVs_ok okl) (lnVs_ok okl) (lnVs_is _) (lnVs_is _) ?_
      refine ⟨_, rfl, ?_⟩
      exact ⟨by rw [decide_eq_true rfl]; rfl, Same.trans s51 (Same.trans s52 s53)⟩
  obtain ⟨rfl, s51⟩ := e51
  refine iteF ?_
  refine ws_nil ?_
  refine ws_cons (ws_if (WT.mono (Q := fun b H2 => b = false ∧ Same H50 H2) ?_ fun b H52 e52 => ?_))
  · k_allIn
    refine ⟨true, pr, md, clockR, K2, T2, rfl, ltr50.same s51, ltmd.same s51, clock_ok, ok2p, ln2, hT2, fun w1 H52 nw1 s52 ltw1 => ?_⟩
    k_allIn
    obtain ⟨xw, rw1, hxw, hxwl, hrw⟩ := lt_get ltw1 hl2
    refine i_L C hxw (atI_last hxwl) ?_
    k_allIn
    rename_i pt H53 npt s53 hpt
    refine o_neT C (s53 _ _ hrw) hpt (lnV_ok l0_ok) (lnV_ok l0_ok) rfl rfl ?_
    refine ⟨_, rfl, ?_⟩
    refine iteNN rfl ?_
    have s5053 : Same H50 H53 := Same.trans s51 (Same.trans s52 s53)
    k_allIn
    refine w_conLLT (tss := ([] : List (List En)).map (·.map enV)) rfl rfl fun qa H54 nqa s54 llta => ?_
    k_allIn
    refine w_conLT (ts := ([] : List En).map enV) rfl rfl fun qb H55 nqb s55 ltb => ?_
    k_allIn
    have s5055 : Same H50 H55 := Same.trans s5053 (Same.trans s54 s55)
    refine ⟨true, ck, pr, qa, qb, clockR, [], [], [], [], [], rfl, s5055 _ _ hck50, ltr50.same s5055, llta.same s55, ltb, clock_ok, by decide, okps rfl, by decide, ok0, by decide, rfl, rfl, rfl, fun mm H56 nmm s56 ltmm => ?_⟩
    k_allIn
    refine w_conLT (ts := ([] : List En).map enV) rfl rfl fun qc H57 nqc s57 ltc => ?_
    refine o_neLT C (ltmm.same s57) ltc rfl rfl rfl rfl ?_
    refine ⟨_, rfl, ?_⟩
    exact ⟨rfl, Same.trans s5055 (Same.trans s56 s57)⟩
  obtain ⟨rfl, s52⟩ := e52
  refine iteF ?_
  refine ws_nil ?_
  have s1252 : Same H12 H52 := Same.trans s1250 s52
  have s052 : Same H0 H52 := Same.trans s050 s52
  clear ltmd ltag lttu s51 s52 s050 s1250 hck50 ltr50
  k_allIn
  refine c_reprS C (dpTold s1252) shw_5 (by decide) (by decide) ?_
  k_allIn
  refine w_lst ?_
  k_allIn
  refine w_lst ?_
  k_allIn
  rename_i c1 H53 nc1 s53 hc1
  refine w_conLT (ts := P2.map enV) rfl rfl fun c2 H54 nc2 s54 lc2 => ?_
  k_allIn
  refine w_conLT (ts := []) rfl rfl fun c3 H55 nc3 s55 lc3 => ?_
  k_allIn
  refine w_conLT (ts := []) rfl rfl fun c4 H56 nc4 s56 lc4 => ?_
  k_allIn
  rename_i c5 H57 nc5 s57 hc5
  have s5457 : Same H54 H57 := Same.trans s55 (Same.trans s56 s57)
  refine c_reprS C (dp_5 hc5 (s5457 _ _ (s54 _ _ hc1)) (lc2.same s5457) (s57 _ _ (s56 _ _ (LT.nil_at lc3))) (s57 _ _ (LT.nil_at lc4))) shw_5 (by decide) (by decide) ?_
  k_allIn
  rw [same_str]
  exact q _ (Same.trans s0 (Same.trans s052 (Same.trans s53 (Same.trans s54 s5457))))
/-! # HE -/
/-! ## what the top has left -/
theorem has_of {m : Md} {h : Heap} (X : m.K.In h) (G : h.Ns mainGlobals m.mg) (c : He.SaysD faL fnL m.K) {x : Str} {i : Nat} {ps : List Str} (j : Nat) (hd : fnL[j]? = some (dd x i)) (l : Nat) (hg : faL[l]? = some (.glo x))
    (hb : ∀ (kV doc pm : Value) (an : Option Addr) (cdv ct : Value) (us : List Value), us.length = ps.length → bindArgs (PySem.W.fnOf x x (defArgs (top i)) (defBody (top i)) (defScope (top i)) .none kV doc pm an cdv ct) ⟨us, []⟩ = pure (ps.zip us)) : ∃ f fd, Has m x (top i) ps f fd := by
  obtain ⟨fd, F⟩ := c.def_ j hd
  have mgx := He.glo_ok X G (c.fact l hg)
  have bd := FunD.bindsN (ps := ps) F hb
  obtain ⟨oc, od, dV, kV, doc, pm, an, cdv, ct, osl, e, lk, hcd, hD, _⟩ := F.ex
  rcases hD with ⟨_, e2⟩ | ⟨z, _⟩
  · rw [e2] at e
    exact ⟨_, fd, ⟨⟨oc, od, kV, doc, pm, an, cdv, ct, osl, e, lk, hcd⟩, F.kp⟩, mgx, bd⟩
  · exact absurd rfl z
theorem bis_of {m : Md} {h : Heap} (X : m.K.In h) (G : h.Ns mainGlobals m.mg) (c : He.SaysD faL fnL m.K) : Bis m where
  isinstance := ⟨He.free_ok X G (c.fact 0 (f := .free "isinstance") rfl), by decide +kernel, by decide +kernel, by decide +kernel⟩
  len := ⟨He.free_ok X G (c.fact 1 (f := .free "len") rfl), by decide +kernel, by decide +kernel, by decide +kernel⟩
  int := ⟨He.free_ok X G (c.fact 2 (f := .free "int") rfl), by decide +kernel, by decide +kernel, by decide +kernel⟩
  bool := ⟨He.free_ok X G (c.fact 3 (f := .free "bool") rfl), by decide +kernel, by decide +kernel, by decide +kernel⟩
  str := ⟨He.free_ok X G (c.fact 4 (f := .free "str") rfl), by decide +kernel, by decide +kernel, by decide +kernel⟩
  tuple := ⟨He.free_ok X G (c.fact 5 (f := .free "tuple") rfl), by decide +kernel, by decide +kernel, by decide +kernel⟩
  list := ⟨He.free_ok X G (c.fact 6 (f := .free "list") rfl), by decide +kernel, by decide +kernel, by decide +kernel⟩
  range := ⟨He.free_ok X G (c.fact 7 (f := .free "range") rfl), by decide +kernel, by decide +kernel, by decide +kernel⟩
  sorted := ⟨He.free_ok X G (c.fact 8 (f := .free "sorted") rfl), by decide +kernel, by decide +kernel, by decide +kernel⟩
  set := ⟨He.free_ok X G (c.fact 9 (f := .free "set") rfl), by decide +kernel, by decide +kernel, by decide +kernel⟩
  reversed := ⟨He.free_ok X G (c.fact 10 (f := .free "reversed") rfl), by decide +kernel, by decide +kernel, by decide +kernel⟩
  enumerate := ⟨He.free_ok X G (c.fact 11 (f := .free "enumerate") rfl), by decide +kernel, by decide +kernel, by decide +kernel⟩
  dict := ⟨He.free_ok X G (c.fact 12 (f := .free "dict") rfl), by decide +kernel, by decide +kernel, by decide +kernel⟩
  max := ⟨He.free_ok X G (c.fact 13 (f := .free "max") rfl), by decide +kernel, by decide +kernel, by decide +kernel⟩
  sum := ⟨He.free_ok X G (c.fact 14 (f := .free "sum") rfl), by decide +kernel, by decide +kernel, by decide +kernel⟩
  repr := ⟨He.free_ok X G (c.fact 15 (f := .free "repr") rfl), by decide +kernel, by decide +kernel, by decide +kernel⟩
theorem cs_of {m : Md} {h : Heap} (X : m.K.In h) (G : h.Ns mainGlobals m.mg) (c : He.SaysD faL fnL m.K) (t : ∃ es n, KDict m.K m.w (He.ga m.K "SIZES") es n) (v : He.valsB m.K (He.ga m.K "SIZES") szL = true) : Cs m := by
  obtain ⟨es, n, D⟩ := t
  have val : ∀ {z : Str} {i : Int}, (j : Nat) → szL[j]? = some (z, He.Dv.int i) → KDct m.K m.w (He.ga m.K "SIZES") z (.int i) := fun j hz => by
    obtain ⟨u, a, b⟩ := He.valsB_ok v (List.mem_of_getElem? hz)
    exact ⟨es, n, u, D.at_, D.lit, a, b⟩
  have str : ∀ {x z : Str}, (He.Fa.str x z).ok m.K = true → (x == ("__debug__" : Str)) = false → Gc m x (.str z) := fun h d => by
    obtain ⟨t, e⟩ := He.str_ok X G h
    exact ⟨⟨_, e, t, rfl⟩, d⟩
  have int : ∀ {x : Str} {i : Int}, (He.Fa.int x i).ok m.K = true → (x == ("__debug__" : Str)) = false → Gc m x (.int i) := fun h d => by
    obtain ⟨t, e⟩ := He.int_ok X G h
    exact ⟨⟨_, e, t, rfl⟩, d⟩
  exact ⟨str (c.fact 16 rfl) (by decide +kernel), str (c.fact 17 rfl) (by decide +kernel), int (c.fact 18 rfl) (by decide +kernel), int (c.fact 19 rfl) (by decide +kernel),
    He.ga m.K "SIZES", ⟨⟨_, He.glo_ok X G (c.fact 20 rfl), rfl⟩, by decide +kernel⟩, D.low, val 0 rfl, val 1 rfl, val 2 rfl, val 3 rfl, val 4 rfl, val 5 rfl⟩
theorem law_def {m : Md} {h : Heap} (X : m.K.In h) (G : h.Ns mainGlobals m.mg) (c : He.SaysD faL fnL m.K) (B : Bis m) (S : Cs m) : Def m "law" ["_law_script"] 13 (sp_law m.K) := by
  have h_is_whole := has_of X G c (x := "is_whole") (i := 9) (ps := ["value"]) 0 rfl 21 rfl fun _ _ _ _ _ _ us hl => match us, hl with | [_], _ => rfl
  have D_is_whole := d_is_whole h_is_whole B
  have h_is_count := has_of X G c (x := "is_count") (i := 10) (ps := ["value"]) 1 rfl 22 rfl fun _ _ _ _ _ _ us hl => match us, hl with | [_], _ => rfl
  have D_is_count := d_is_count h_is_count B D_is_whole
  have h_is_kind := has_of X G c (x := "is_kind") (i := 11) (ps := ["value"]) 2 rfl 23 rfl fun _ _ _ _ _ _ us hl => match us, hl with | [_], _ => rfl
  have D_is_kind := d_is_kind h_is_kind B
  have h_is_number_of := has_of X G c (x := "is_number_of") (i := 12) (ps := ["kind", "value"]) 3 rfl 24 rfl fun _ _ _ _ _ _ us hl => match us, hl with | [_, _], _ => rfl
  have D_is_number_of := d_is_number_of h_is_number_of B D_is_whole D_is_count
  have h_add_in := has_of X G c (x := "add_in") (i := 18) (ps := ["kind", "one", "other"]) 9 rfl 30 rfl fun _ _ _ _ _ _ us hl => match us, hl with | [_, _, _], _ => rfl
  have D_add_in := d_add_in h_add_in B
  have h_less_in := has_of X G c (x := "less_in") (i := 19) (ps := ["kind", "one", "other"]) 10 rfl 31 rfl fun _ _ _ _ _ _ us hl => match us, hl with | [_, _, _], _ => rfl
  have D_less_in := d_less_in h_less_in B
  have h_turned_in := has_of X G c (x := "turned_in") (i := 20) (ps := ["kind", "number"]) 11 rfl 32 rfl fun _ _ _ _ _ _ us hl => match us, hl with | [_, _], _ => rfl
  have D_turned_in := d_turned_in h_turned_in B
  have h_times_in := has_of X G c (x := "times_in") (i := 21) (ps := ["kind", "one", "other"]) 12 rfl 33 rfl fun _ _ _ _ _ _ us hl => match us, hl with | [_, _, _], _ => rfl
  have D_times_in := d_times_in h_times_in B
  have h_divided_in := has_of X G c (x := "divided_in") (i := 22) (ps := ["kind", "number", "by"]) 13 rfl 34 rfl fun _ _ _ _ _ _ us hl => match us, hl with | [_, _, _], _ => rfl
  have D_divided_in := d_divided_in h_divided_in B
  have h_rest_in := has_of X G c (x := "rest_in") (i := 23) (ps := ["kind", "number", "by"]) 14 rfl 35 rfl fun _ _ _ _ _ _ us hl => match us, hl with | [_, _, _], _ => rfl
  have D_rest_in := d_rest_in h_rest_in B D_divided_in
  have h_over_in := has_of X G c (x := "over_in") (i := 24) (ps := ["kind", "number", "by"]) 15 rfl 36 rfl fun _ _ _ _ _ _ us hl => match us, hl with | [_, _, _], _ => rfl
  have D_over_in := d_over_in h_over_in B D_divided_in
  have h_is_multiple_in := has_of X G c (x := "is_multiple_in") (i := 25) (ps := ["kind", "number", "by"]) 16 rfl 37 rfl fun _ _ _ _ _ _ us hl => match us, hl with | [_, _, _], _ => rfl
  have D_is_multiple_in := d_is_multiple_in h_is_multiple_in B D_rest_in
  have h_divisor_in := has_of X G c (x := "divisor_in") (i := 26) (ps := ["kind", "one", "other"]) 17 rfl 38 rfl fun _ _ _ _ _ _ us hl => match us, hl with | [_, _, _], _ => rfl
  have D_divisor_in := d_divisor_in h_divisor_in B D_rest_in
  have h_multiple_in := has_of X G c (x := "multiple_in") (i := 27) (ps := ["kind", "one", "other"]) 18 rfl 39 rfl fun _ _ _ _ _ _ us hl => match us, hl with | [_, _, _], _ => rfl
  have D_multiple_in := d_multiple_in h_multiple_in B D_times_in D_over_in D_divisor_in
  have h_bezout_in := has_of X G c (x := "bezout_in") (i := 28) (ps := ["kind", "one", "other"]) 19 rfl 40 rfl fun _ _ _ _ _ _ us hl => match us, hl with | [_, _, _], _ => rfl
  have D_bezout_in := d_bezout_in h_bezout_in B D_divided_in D_less_in D_times_in
  have h_met_in := has_of X G c (x := "met_in") (i := 29) (ps := ["kind", "one", "by", "other", "more"]) 20 rfl 41 rfl fun _ _ _ _ _ _ us hl => match us, hl with | [_, _, _, _, _], _ => rfl
  have D_met_in := d_met_in h_met_in B D_divisor_in D_less_in D_multiple_in D_times_in D_add_in D_is_multiple_in D_over_in D_bezout_in D_rest_in
  have h_agrees_in := has_of X G c (x := "agrees_in") (i := 32) (ps := ["kind", "line", "other"]) 21 rfl 42 rfl fun _ _ _ _ _ _ us hl => match us, hl with | [_, _, _], _ => rfl
  have D_agrees_in := d_agrees_in h_agrees_in B D_less_in D_is_multiple_in D_divisor_in
  have h_turned_line := has_of X G c (x := "turned_line") (i := 33) (ps := ["kind", "line"]) 22 rfl 43 rfl fun _ _ _ _ _ _ us hl => match us, hl with | [_, _], _ => rfl
  have D_turned_line := d_turned_line h_turned_line B D_rest_in D_turned_in
  have h_joined_line := has_of X G c (x := "joined_line") (i := 34) (ps := ["kind", "line", "other"]) 23 rfl 44 rfl fun _ _ _ _ _ _ us hl => match us, hl with | [_, _, _], _ => rfl
  have D_joined_line := d_joined_line h_joined_line B D_divisor_in D_rest_in D_add_in
  have h_met_line := has_of X G c (x := "met_line") (i := 35) (ps := ["kind", "line", "other"]) 24 rfl 45 rfl fun _ _ _ _ _ _ us hl => match us, hl with | [_, _, _], _ => rfl
  have D_met_line := d_met_line h_met_line B D_met_in
  have h_less_line := has_of X G c (x := "less_line") (i := 36) (ps := ["kind", "line", "by"]) 25 rfl 46 rfl fun _ _ _ _ _ _ us hl => match us, hl with | [_, _, _], _ => rfl
  have D_less_line := d_less_line h_less_line B D_rest_in
  have h_name_fits := has_of X G c (x := "name_fits") (i := 13) (ps := ["value"]) 4 rfl 25 rfl fun _ _ _ _ _ _ us hl => match us, hl with | [_], _ => rfl
  have D_name_fits := d_name_fits h_name_fits B S
  have h_line_fits := has_of X G c (x := "line_fits") (i := 14) (ps := ["kind", "value"]) 5 rfl 26 rfl fun _ _ _ _ _ _ us hl => match us, hl with | [_, _], _ => rfl
  have D_line_fits := d_line_fits h_line_fits B D_name_fits D_is_number_of D_is_count
  have h_lines_fit := has_of X G c (x := "lines_fit") (i := 15) (ps := ["kind", "value"]) 6 rfl 27 rfl fun _ _ _ _ _ _ us hl => match us, hl with | [_, _], _ => rfl
  have D_lines_fit := d_lines_fit h_lines_fit B D_line_fits
  have h_book_fits := has_of X G c (x := "book_fits") (i := 16) (ps := ["value"]) 7 rfl 28 rfl fun _ _ _ _ _ _ us hl => match us, hl with | [_], _ => rfl
  have D_book_fits := d_book_fits h_book_fits B D_is_kind D_lines_fit
  have h_check_book := has_of X G c (x := "check_book") (i := 17) (ps := ["book"]) 8 rfl 29 rfl fun _ _ _ _ _ _ us hl => match us, hl with | [_], _ => rfl
  have D_check_book := d_check_book h_check_book B D_book_fits
  have h_is_elder := has_of X G c (x := "is_elder") (i := 37) (ps := ["told", "value"]) 26 rfl 47 rfl fun _ _ _ _ _ _ us hl => match us, hl with | [_, _], _ => rfl
  have D_is_elder := d_is_elder h_is_elder B D_is_count
  have h_pair_line := has_of X G c (x := "pair_line") (i := 38) (ps := ["kind", "word", "line", "other"]) 27 rfl 48 rfl fun _ _ _ _ _ _ us hl => match us, hl with | [_, _, _, _], _ => rfl
  have D_pair_line := d_pair_line h_pair_line B D_met_line D_joined_line D_agrees_in
  have h_entry_line := has_of X G c (x := "entry_line") (i := 39) (ps := ["book", "told", "value"]) 28 rfl 49 rfl fun _ _ _ _ _ _ us hl => match us, hl with | [_, _, _], _ => rfl
  have D_entry_line := d_entry_line h_entry_line B S D_line_fits D_is_elder D_turned_line D_pair_line D_is_count D_is_multiple_in D_less_line
  have h_lines_in := has_of X G c (x := "lines_in") (i := 40) (ps := ["book", "value"]) 29 rfl 50 rfl fun _ _ _ _ _ _ us hl => match us, hl with | [_, _], _ => rfl
  have D_lines_in := d_lines_in h_lines_in B D_entry_line
  have h_check_paper := has_of X G c (x := "check_paper") (i := 41) (ps := ["book", "paper"]) 30 rfl 51 rfl fun _ _ _ _ _ _ us hl => match us, hl with | [_, _], _ => rfl
  have D_check_paper := d_check_paper h_check_paper B D_lines_in
  have h_leaning := has_of X G c (x := "leaning") (i := 42) (ps := ["paper", "number"]) 31 rfl 52 rfl fun _ _ _ _ _ _ us hl => match us, hl with | [_, _], _ => rfl
  have D_leaning := d_leaning h_leaning B
  have h_renamed := has_of X G c (x := "renamed") (i := 43) (ps := ["entry", "places"]) 32 rfl 53 rfl fun _ _ _ _ _ _ us hl => match us, hl with | [_, _], _ => rfl
  have D_renamed := d_renamed h_renamed B
  have h_trimmed_at := has_of X G c (x := "trimmed_at") (i := 44) (ps := ["paper", "number"]) 33 rfl 54 rfl fun _ _ _ _ _ _ us hl => match us, hl with | [_, _], _ => rfl
  have D_trimmed_at := d_trimmed_at h_trimmed_at B D_leaning D_renamed
  have h_used_lines := has_of X G c (x := "used_lines") (i := 45) (ps := ["book", "paper"]) 34 rfl 55 rfl fun _ _ _ _ _ _ us hl => match us, hl with | [_, _], _ => rfl
  have D_used_lines := d_used_lines h_used_lines B D_check_book D_check_paper D_leaning
  have h_trimmed := has_of X G c (x := "trimmed") (i := 46) (ps := ["book", "paper"]) 35 rfl 56 rfl fun _ _ _ _ _ _ us hl => match us, hl with | [_, _], _ => rfl
  have D_trimmed := d_trimmed h_trimmed B D_check_book D_check_paper D_trimmed_at
  have h_check_papers := has_of X G c (x := "check_papers") (i := 47) (ps := ["book", "papers"]) 36 rfl 57 rfl fun _ _ _ _ _ _ us hl => match us, hl with | [_, _], _ => rfl
  have D_check_papers := d_check_papers h_check_papers B D_lines_in
  have h_put_through := has_of X G c (x := "put_through") (i := 48) (ps := ["book", "papers", "paper"]) 37 rfl 58 rfl fun _ _ _ _ _ _ us hl => match us, hl with | [_, _, _], _ => rfl
  have D_put_through := d_put_through h_put_through B D_check_book D_check_paper D_check_papers D_trimmed_at D_renamed
  have h__law_plus := has_of X G c (x := "_law_plus") (i := 54) (ps := ["_law_sort", "_law_here", "_law_there"]) 42 rfl 63 rfl fun _ _ _ _ _ _ us hl => match us, hl with | [_, _, _], _ => rfl
  have D__law_plus := d__law_plus h__law_plus B
  have h__law_less := has_of X G c (x := "_law_less") (i := 55) (ps := ["_law_sort", "_law_here", "_law_there"]) 43 rfl 64 rfl fun _ _ _ _ _ _ us hl => match us, hl with | [_, _, _], _ => rfl
  have D__law_less := d__law_less h__law_less B
  have h__law_opposite := has_of X G c (x := "_law_opposite") (i := 61) (ps := ["_law_sort", "_law_here"]) 49 rfl 70 rfl fun _ _ _ _ _ _ us hl => match us, hl with | [_, _], _ => rfl
  have D__law_opposite := d__law_opposite h__law_opposite B
  have h__law_rest := has_of X G c (x := "_law_rest") (i := 56) (ps := ["_law_sort", "_law_here", "_law_by"]) 44 rfl 65 rfl fun _ _ _ _ _ _ us hl => match us, hl with | [_, _, _], _ => rfl
  have D__law_rest := d__law_rest h__law_rest B
  have h__law_divisor := has_of X G c (x := "_law_divisor") (i := 57) (ps := ["_law_sort", "_law_here", "_law_there"]) 45 rfl 66 rfl fun _ _ _ _ _ _ us hl => match us, hl with | [_, _, _], _ => rfl
  have D__law_divisor := d__law_divisor h__law_divisor B D__law_rest
  have h__law_agree := has_of X G c (x := "_law_agree") (i := 59) (ps := ["_law_sort", "_law_here", "_law_there"]) 47 rfl 68 rfl fun _ _ _ _ _ _ us hl => match us, hl with | [_, _, _], _ => rfl
  have D__law_agree := d__law_agree h__law_agree B D__law_rest D__law_less D__law_divisor
  have h__law_multiple := has_of X G c (x := "_law_multiple") (i := 58) (ps := ["_law_sort", "_law_here", "_law_there"]) 46 rfl 67 rfl fun _ _ _ _ _ _ us hl => match us, hl with | [_, _, _], _ => rfl
  have D__law_multiple := d__law_multiple h__law_multiple B D__law_divisor D__law_rest
  have h__law_meet := has_of X G c (x := "_law_meet") (i := 60) (ps := ["_law_sort", "_law_here", "_law_there"]) 48 rfl 69 rfl fun _ _ _ _ _ _ us hl => match us, hl with | [_, _, _], _ => rfl
  have D__law_meet := d__law_meet h__law_meet B D__law_multiple D__law_agree D__law_rest
  have h__law_is_name := has_of X G c (x := "_law_is_name") (i := 66) (ps := ["_law_some"]) 54 rfl 75 rfl fun _ _ _ _ _ _ us hl => match us, hl with | [_], _ => rfl
  have D__law_is_name := d__law_is_name h__law_is_name B
  have h__law_made := has_of X G c (x := "_law_made") (i := 67) (ps := ["_law_sort", "_law_entry_here", "_law_here", "_law_there"]) 55 rfl 76 rfl fun _ _ _ _ _ _ us hl => match us, hl with | [_, _, _, _], _ => rfl
  have D__law_made := d__law_made h__law_made B D__law_divisor D__law_meet D__law_rest D__law_agree D__law_opposite D__law_plus
  have h__law_entry := has_of X G c (x := "_law_entry") (i := 65) (ps := ["_law_sort", "_law_rows", "_law_told_here", "_law_entry_here"]) 53 rfl 74 rfl fun _ _ _ _ _ _ us hl => match us, hl with | [_, _, _, _], _ => rfl
  have D__law_entry := d__law_entry h__law_entry B D__law_made D__law_is_name
  have h__law_told := has_of X G c (x := "_law_told") (i := 68) (ps := ["_law_sort", "_law_rows", "_law_paper_told"]) 56 rfl 77 rfl fun _ _ _ _ _ _ us hl => match us, hl with | [_, _, _], _ => rfl
  have D__law_told := d__law_told h__law_told B D__law_entry
  have h__law_named := has_of X G c (x := "_law_named") (i := 71) (ps := ["_law_entry_here"]) 59 rfl 80 rfl fun _ _ _ _ _ _ us hl => match us, hl with | [_], _ => rfl
  have D__law_named := d__law_named h__law_named B
  have h__law_leans := has_of X G c (x := "_law_leans") (i := 72) (ps := ["_law_paper_told"]) 60 rfl 81 rfl fun _ _ _ _ _ _ us hl => match us, hl with | [_], _ => rfl
  have D__law_leans := d__law_leans h__law_leans B D__law_named
  have h__law_trimmed := has_of X G c (x := "_law_trimmed") (i := 73) (ps := ["_law_paper_told"]) 61 rfl 82 rfl fun _ _ _ _ _ _ us hl => match us, hl with | [_], _ => rfl
  have D__law_trimmed := d__law_trimmed h__law_trimmed B D__law_leans D__law_named
  have h__law_hash := has_of X G c (x := "_law_hash") (i := 50) (ps := ["_law_seed", "_law_index"]) 38 rfl 59 rfl fun _ _ _ _ _ _ us hl => match us, hl with | [_, _], _ => rfl
  have D__law_hash := d__law_hash h__law_hash B
  have h__law_random := has_of X G c (x := "_law_random") (i := 51) (ps := ["_law_generator_here", "_law_bound"]) 39 rfl 60 rfl fun _ _ _ _ _ _ us hl => match us, hl with | [_, _], _ => rfl
  have D__law_random := d__law_random h__law_random B D__law_hash
  have h__law_cell := has_of X G c (x := "_law_cell") (i := 52) (ps := ["_law_script", "_law_index"]) 40 rfl 61 rfl fun _ _ _ _ _ _ us hl => match us, hl with | [_, _], _ => rfl
  have D__law_cell := d__law_cell h__law_cell B
  have h__law_generator := has_of X G c (x := "_law_generator") (i := 53) (ps := ["_law_script", "_law_index"]) 41 rfl 62 rfl fun _ _ _ _ _ _ us hl => match us, hl with | [_, _], _ => rfl
  have D__law_generator := d__law_generator h__law_generator B D__law_cell
  have h__law_line := has_of X G c (x := "_law_line") (i := 62) (ps := ["_law_generator_here", "_law_sort", "_law_names_told"]) 50 rfl 71 rfl fun _ _ _ _ _ _ us hl => match us, hl with | [_, _, _], _ => rfl
  have D__law_line := d__law_line h__law_line B D__law_random D__law_rest
  have h__law_any_entry := has_of X G c (x := "_law_any_entry") (i := 69) (ps := ["_law_generator_here", "_law_size", "_law_many"]) 57 rfl 78 rfl fun _ _ _ _ _ _ us hl => match us, hl with | [_, _, _], _ => rfl
  have D__law_any_entry := d__law_any_entry h__law_any_entry B D__law_random
  have h__law_paper := has_of X G c (x := "_law_paper") (i := 70) (ps := ["_law_generator_here", "_law_sort", "_law_rows", "_law_most"]) 58 rfl 79 rfl fun _ _ _ _ _ _ us hl => match us, hl with | [_, _, _, _], _ => rfl
  have D__law_paper := d__law_paper h__law_paper B D__law_any_entry D__law_entry
  have h__law_round := has_of X G c (x := "_law_round") (i := 63) (ps := ["_law_generator_here", "_law_sort", "_law_names_told"]) 51 rfl 72 rfl fun _ _ _ _ _ _ us hl => match us, hl with | [_, _, _], _ => rfl
  have D__law_round := d__law_round h__law_round B D__law_random D__law_rest
  have h__law_book := has_of X G c (x := "_law_book") (i := 64) (ps := ["_law_generator_here", "_law_most_names", "_law_most"]) 52 rfl 73 rfl fun _ _ _ _ _ _ us hl => match us, hl with | [_, _, _], _ => rfl
  have D__law_book := d__law_book h__law_book B D__law_random D__law_line D__law_round
  have h__law_right := has_of X G c (x := "_law_right") (i := 74) (ps := ["_law_generator_here"]) 62 rfl 83 rfl fun _ _ _ _ _ _ us hl => match us, hl with | [_], _ => rfl
  have D__law_right := d__law_right h__law_right B D__law_book D__law_paper D_put_through D__law_told D__law_random D_trimmed D_used_lines D__law_trimmed D__law_leans h_used_lines h_trimmed h_put_through
  have h_law := has_of X G c (x := "law") (i := 75) (ps := ["_law_script"]) 63 rfl 84 rfl fun _ _ _ _ _ _ us hl => match us, hl with | [_], _ => rfl
  exact d_law h_law B D_put_through D_used_lines D_trimmed D__law_random D__law_right D__law_told D__law_generator
/-! # HF -/
/-! ## the call from outside -/
section
variable {P : Program} {w : World} {K : PySem.W.Frag} {mg mb : Str → Option Value} {a : Addr} {H : Hp} {s : Shared} {vs : List Value}
/-- at most the script is tracked, and frozen -/
structure Lone (H : Hp) (a : Addr) (K : PySem.W.Frag) : Prop where
  one : ∀ {b : Addr} {u : HO}, H b = some u → b = a ∧ ∃ o xs, u = .frz o (.lst xs)
  off : ∀ {u : HO}, H a = some u → K.lookup a = none
theorem Lone.env (L : Lone H a K) (kin : K.In s.heap) (glob : s.heap.Ns mainGlobals mg) (blt : s.heap.Ns builtinsNs mb) (same : ∀ y : Str, y ≠ "__name__" → mb y = bootBuiltins y) (lim : s.heap.NoLimit) (gens : s.gens = #[])
    (at_ : s.heap.get? a = some { cls := .type "list", data := .seq vs.toArray }) (ok : HOk P w H s.heap) : Env0 P w K mg (hidT s.heap H) callerA [] s H := by
  have names : ∀ {b : Addr} {m : Str → Option Value}, s.heap.Ns b m → (hidT s.heap H).Ns b m := by
    rintro b m ⟨o, es, ep, got, isd, rest⟩
    refine ⟨o, es, ep, hidT_get got ?_, isd, rest⟩
    cases c : H b with
    | none => rfl
    | some u =>
      obtain ⟨rfl, _⟩ := L.one c
      have e := got.symm.trans at_
      cases e
      cases isd
  have within : K.In (hidT s.heap H) := by
    intro b o l
    refine hidT_get (kin b o l) ?_
    cases c : H b with
    | none => rfl
    | some u =>
      obtain ⟨rfl, _⟩ := L.one c
      have e := (L.off c).symm.trans l
      cases e
  obtain ⟨mc, l1, l2⟩ := lim
  refine ⟨rfl, ⟨within, names glob, ⟨mb, names blt, same⟩, ⟨mc, names l1, l2⟩⟩, fun b o e => of_hidT e, ?_, trivial, fun b hb => ?_, ok, AllBare.of_eq gens⟩
  · rw [hidT_size]; exact Nat.le_refl _
  · cases hb
theorem Lone.call {fa : Addr} {ns : List Int} {k : Nat} (D : ∀ base : Heap, Def ⟨P, w, K, mg, base⟩ "law" ["_law_script"] k (sp_law K)) (room : Room k callerA) (name : mg "law" = some (.ref fa)) (kin : K.In s.heap)
    (L : Lone H a K) (e0 : Env0 P w K mg (hidT s.heap H) callerA [] s H) (sq : SqL K H a (ns.map V.int)) :
    codeAny (model P w) callerA (.call (.ref fa) ⟨[.ref a], []⟩) (fun r s2 => r = .ok (.ret (.bool true)) ∧ OldK s.heap s2.heap ∧ s2.os = s.os ∧ AllBare s2.gens) s := by
  obtain ⟨f, fd, d⟩ := D (hidT s.heap H)
  have same : f = fa := by
    have e := d.mg.symm.trans name
    cases e
    rfl
  subst same
  have go := d.ok.run callerA [] s H ⟨[.ref a], []⟩ [.ref a] [.ref a] (fun v _ => v = .bl true) room rfl e0 (d.bd s [.ref a] kin rfl) (.cons rfl .nil) ⟨a, ns, rfl, sq, fun _ _ => rfl⟩
  refine codeAny_mono go fun r s2 got => ?_
  match r, got with
  | .error _, got => exact False.elim got
  | .ok .next, got => exact False.elim got
  | .ok .brk, got => exact False.elim got
  | .ok .cont, got => exact False.elim got
  | .ok (.ret u), got =>
    obtain ⟨v, H2, os, bare, un, ok2, rel, e⟩ := got
    have e : v = .bl true := e
    subst e
    have e : u = Value.bool true := rel
    subst e
    refine ⟨rfl, OldK.of_keep fun b o was => ?_, os, bare⟩
    cases c : H b with
    | none => exact un.keep b o was c (fun z => by cases z) (fun z => by cases z)
    | some t =>
      obtain ⟨rfl, ob, xs, rfl⟩ := L.one c
      have first := (e0.hok b _ c).1
      have then_ := (ok2 b _ (un.frzs b ob _ c)).1
      rw [was] at first
      cases first
      exact then_
end
theorem walk {q : Program} {loose : List Str} {XP : (Str → Option Value) → Heap → Prop} {d : DefRec} (hn : d.name = ("law" : Str)) (hdf : d.params.defaults = []) :
    PySem.W.WalkO q loose XP hdK.says (PySem.W.OpenLaw.row PySem.Challenge.rw_hourrings_k32_whole_papers_put_together).toRowW d [] (fun f vs => PySem.call f vs) := by
  refine Att.attach_call (n := 63) rfl hdf fun w s₀ s mg mb fa o pm cd doc a vs ns G Y _ _ _ hmg at_ isI few gens => ?_
  obtain ⟨K, kin, says⟩ := Y
  have name : mg "law" = some (.ref fa) := by rw [← hn]; exact hmg
  have c := says.t.d
  have D : ∀ base : Heap, Def ⟨PySem.Challenge.rw_hourrings_k32_whole_papers_put_together.prog, w, K, mg, base⟩ "law" ["_law_script"] 13 (sp_law K) := fun base =>
    law_def kin G.T.g c (bis_of kin G.T.g c) (cs_of kin G.T.g c (says.t.tab 0 (t := (fun K => He.ga K "SIZES", ["told", "nothing", "turned", "joined", "met", "less"])) rfl) says.more)
  have room : Room 13 callerA := ⟨rfl, by decide, by decide⟩
  have rel := vals_ints isI
  have size : (ns.map V.int).length ≤ sizeLine := by
    rw [List.length_map]
    exact Nat.le_trans few (Nat.le_of_ble_eq_true rfl)
  cases l : K.lookup a with
  | some ob =>
    have e := (kin a ob l).symm.trans at_
    cases e
    have L : Lone (fun _ => none) a K := ⟨fun z => (by cases z), fun z => (by cases z)⟩
    refine L.call D room name kin (L.env kin G.T.g G.T.b G.T.builtins G.T.nolimit gens at_ fun b u z => by cases z) (.inr ⟨_, vs.toArray, _, l, rfl, rfl, rfl, ?_, by simpa using rel⟩)
    rw [List.size_toArray, ← rel.length]
    exact size
  | none =>
    generalize eo : ({ cls := .type "list", data := .seq vs.toArray } : Obj) = ob at *
    have here : (fun b => if b = a then some (HO.frz ob (.lst (ns.map V.int))) else none : Hp) a = some (.frz ob (.lst (ns.map V.int))) := if_pos rfl
    have only : ∀ {b : Addr} {u : HO}, (fun b => if b = a then some (HO.frz ob (.lst (ns.map V.int))) else none : Hp) b = some u → b = a ∧ u = .frz ob (.lst (ns.map V.int)) := by
      intro b u z
      have z : (if b = a then some (HO.frz ob (.lst (ns.map V.int))) else none) = some u := z
      split at z
      · rename_i e
        cases z
        exact ⟨e, rfl⟩
      · cases z
    generalize (fun b => if b = a then some (HO.frz ob (.lst (ns.map V.int))) else none : Hp) = H at *
    have L : Lone H a K := ⟨fun z => ⟨(only z).1, _, _, (only z).2⟩, fun _ => l⟩
    subst eo
    refine L.call D room name kin (L.env kin G.T.g G.T.b G.T.builtins G.T.nolimit gens at_ fun b u z => ?_) (.inl (.inr ⟨_, here⟩))
    obtain ⟨rfl, rfl⟩ := only z
    exact ⟨at_, size, vs, _, rel, at_⟩
end K32
open PySem PySem.W PySem.Calls PyProof.Rows
set_option maxHeartbeats 0 in
theorem PySem.Challenge.cw_hourrings_k32_whole_papers_put_together_holds : PySem.Challenge.rw_hourrings_k32_whole_papers_put_together.Holds := by
  w_on; o_law
  refine HandSHeadRun.head_any (r := K32.hdR) (q := view K32.hdR.prog [75]) (H := K32.hdK) (ob := K32.hdOb) (M := 4000) (loose := K32.looseL) (d := HandSHeadRun.topDef K32.hdR.prog 75) (kwd := []) K32.hdOb_eq
    (by kernel_rfl) (fun s => by kernel_rfl) K32.hdRun (by kernel_rfl) (by kernel_rfl) (by kernel_rfl) (by rfl) (by first | assumption | decide +kernel) (by decide +kernel) ⟨rfl, rfl, rfl, rfl, rfl, by decide +kernel⟩ ?hw ?hc
  case hw => w_witness2
  case hc => exact K32.walk (by kernel_rfl) (by kernel_rfl)
