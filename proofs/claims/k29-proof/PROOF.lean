import PyProof.Rows.All
import Wide.All
import OpenK.AllK
import Wide.FinOn
import KE.KStateDown
import HandS.ForMost
import HandS.ForExc
import HandS.IsInst
import HandS.Defaults
import HandS.Flow
import HandS.TupAny
import HandS.DictComp
import HandS.ExcInit
import HandS.WordsDict
import KE.GoesMore
import HandS.Walk
import HandS.More
import HandS.New0
import HandS.Codes
import HandS.Dict
import HandS.TryOnly
import HandS.DictTup
import HandS.SortOrd
import KE.KSortTupAny
import PyProof.DictUpdate
import KE.KDictPairs
import KE.DataFind
import HandS.Deep
import HandS.SetFor
import HandS.Strs
import HandS.Lambda
import HandS.ExcIs
import HandS.Conv
import HandS.List
import HandS.Style
import HandS.Zip
import KE.KDflt
import HandS.TupMul
import HandS.HeadHook4
import HandS.HeadWalk
import HandS.HeadEnd
import HandS.Head0
import HandS.Head1
import HandS.Head2
import PySem.Challenge.RW_owntexts_k29_whole_macros_that_end
section
set_option Elab.async false
set_option linter.all false
set_option maxRecDepth 100000
set_option maxHeartbeats 2000000
/-! Weakest preconditions over the hand layer: WE, WT, WW, WA, WS, WB; a rule a construct, from the layer's own. -/
namespace WP
open PySem PySem.Spec PyProof.Rows L2
structure WE (X : Cx) (e : Expr) (σ : L2.St) (H : Hp) (Q : VK) : Prop where
  run : ∀ pins s, Inv X pins σ H s → wpAny (model X.prog X.w) X.A (eval e X.env) (EP X pins σ Q) X.xe s
structure WT (X : Cx) (e : Expr) (σ : L2.St) (H : Hp) (Q : Bool → Hp → Prop) : Prop where
  run : ∀ pins s, Inv X pins σ H s → wpAny (model X.prog X.w) X.A (isTrue e X.env (eval e X.env)) (TP X pins σ Q) X.xe s
structure WW (X : Cx) (e : Expr) (σ : L2.St) (H : Hp) (Q : Bool → Hp → Prop) : Prop where
  run : ∀ whole pins s, Inv X pins σ H s → wpAny (model X.prog X.w) X.A (isTrue e X.env whole) (TP X pins σ Q) X.xe s
structure WA (X : Cx) (es : List Expr) (σ : L2.St) (H : Hp) (Q : List V → Hp → Prop) : Prop where
  run : ∀ pos pins s, Inv X pins σ H s → wpAny (model X.prog X.w) X.A (spliced (backTo pos (starEach es X.env))) (AP X pins σ Q) X.xe s
structure WS (X : Cx) (st : Stmt) (D : Ends) (σ : L2.St) (H : Hp) : Prop where
  run : ∀ pins s, Inv X pins σ H s → wpAny (model X.prog X.w) X.A (exec st X.env) (SP X pins D) X.xe s
structure WB (X : Cx) (sts : List Stmt) (D : Ends) (σ : L2.St) (H : Hp) : Prop where
  run : ∀ pins s, Inv X pins σ H s → wpAny (model X.prog X.w) X.A (execs sts X.env) (SP X pins D) X.xe s
section
variable {X : Cx} {e a b c : Expr} {es : List Expr} {st : Stmt} {sts rest : List Stmt} {σ : L2.St} {H : Hp} {Q : VK} {QT : Bool → Hp → Prop} {QA : List V → Hp → Prop} {D : Ends} {pos p : Pos}
theorem pe : PE X e (WE X e) := ⟨fun pins s σ H Q I h => h.run pins s I⟩
theorem pt : PT X e (WT X e) := ⟨fun pins s σ H Q I h => h.run pins s I⟩
theorem pw : PW X e (WW X e) := ⟨fun wh pins s σ H Q I h => h.run wh pins s I⟩
theorem pa : PA X es (WA X es) := ⟨fun pos pins s σ H Q I h => h.run pos pins s I⟩
theorem ps : PS X st (WS X st) := ⟨fun pins s σ H D I h => h.run pins s I⟩
theorem pss : PSs X sts (WB X sts) := ⟨fun pins s σ H D I h => h.run pins s I⟩
theorem WE.of {t : TE} (h : PE X e t) (q : t σ H Q) : WE X e σ H Q := ⟨fun pins s I => h.run pins s σ H Q I q⟩
theorem WT.of {t : TT} (h : PT X e t) (q : t σ H QT) : WT X e σ H QT := ⟨fun pins s I => h.run pins s σ H QT I q⟩
theorem WW.of {t : TT} (h : PW X e t) (q : t σ H QT) : WW X e σ H QT := ⟨fun wh pins s I => h.run wh pins s σ H QT I q⟩
theorem WA.of {t : TA} (h : PA X es t) (q : t σ H QA) : WA X es σ H QA := ⟨fun pos pins s I => h.run pos pins s σ H QA I q⟩
theorem WS.of {t : TS} (h : PS X st t) (q : t D σ H) : WS X st D σ H := ⟨fun pins s I => h.run pins s σ H D I q⟩
theorem WB.of {t : TS} (h : PSs X sts t) (q : t D σ H) : WB X sts D σ H := ⟨fun pins s I => h.run pins s σ H D I q⟩
theorem WE.mono {Q' : VK} (h : WE X e σ H Q) (q : ∀ v H, Q v H → Q' v H) : WE X e σ H Q' := ⟨fun pins s I => thn (h.run pins s I) fun _ _ ⟨v, H', I', r, z⟩ => ⟨v, H', I', r, q _ _ z⟩⟩
/-! names, constants -/
theorem we_var {x : Str} (i : Nat) {v : V} (hN : X.N[i]? = some x) (hv : Vis X.env.scope x) (hs : σ[i]? = some (some v)) (q : Q v H)
    (hd : (x == ("__debug__" : Str)) = false := by decide) (hcd : (x == ("__classdict__" : Str)) = false := by decide) : WE X (.Name x pos) σ H Q := .of (pe_var hN hv hd hcd) ⟨v, hs, q⟩
theorem we_int {i : Int} {j : Nat} (q : Q (.int i) H) : WE X (.Constant (.int i) j pos) σ H Q := .of pe_int q
theorem we_bl {i : Bool} {j : Nat} (q : Q (.bl i) H) : WE X (.Constant (.bool i) j pos) σ H Q := .of pe_bl q
theorem we_non {j : Nat} (q : Q .non H) : WE X (.Constant .none j pos) σ H Q := .of pe_non q
theorem we_str {i : Str} {j : Nat} (q : Q (.str i) H) : WE X (.Constant (.str i) j pos) σ H Q := .of pe_str q
theorem we_glob {x : Str} {v : V} {u : Value} (hg : Gl X x) (hm : X.mg x = some u) (r : RelV v u) (q : Q v H) (hd : (x == ("__debug__" : Str)) = false := by decide) : WE X (.Name x pos) σ H Q := .of (pe_glob hg hm r hd) q
theorem we_bltn {x : Str} {v : V} {u : Value} (hg : Gl X x) (hm : X.mg x = none) (hv : bootBuiltins x = some u) (r : RelV v u) (q : Q v H) (hn : x ≠ "__name__" := by decide) (hd : (x == ("__debug__" : Str)) = false := by decide) : WE X (.Name x pos) σ H Q := .of (pe_bltn hg hm hv r hn hd) q
/-! operators -/
theorem we_op {op : Operator} {r : R2} (ho : OpR X (binaryOp op) r) (q : WE X a σ H fun x H1 => WE X b σ H1 fun y H2 => r x y H2 Q) : WE X (.BinOp a op b pos) σ H Q := .of (pe_op ho pe pe) q
theorem we_un {op : UnaryOp} {r : V → Hp → VK → Prop} (ho : UnR X (unaryOp op) r) (q : WE X a σ H fun x H1 => r x H1 Q) : WE X (.UnaryOp op a pos) σ H Q := .of (pe_un ho pe) q
theorem we_cmp {op : CmpOp} {r : R2} (ho : OpR X (compareOp op) r) (hm : behindInMarks op b = false) (q : WE X a σ H fun x H1 => WE X b σ H1 fun y H2 => r x y H2 Q) : WE X (.Compare a [op] [b] pos) σ H Q := .of (pe_cmpR ho pe pe hm) q
theorem wt_cmp {op : CmpOp} {r : R2} (ho : OpR X (compareOp op) r) (hm : behindInMarks op b = false) (q : WE X a σ H fun x H1 => WE X b σ H1 fun y H2 => r x y H2 fun z H3 => ∃ k, z = .bl k ∧ QT k H3) : WT X (.Compare a [op] [b] pos) σ H QT := .of (pt_cmpR ho pe pe hm) q
theorem we_if (q : WT X c σ H fun k H1 => if k = true then WE X a σ H1 Q else WE X b σ H1 Q) : WE X (.IfExp c a b pos) σ H Q := .of (pe_ifExp pt pe pe) q
theorem wt_not (q : WT X a σ H fun k H1 => QT (!k) H1) : WT X (.UnaryOp .Not a pos) σ H QT := .of (pt_not pt) q
theorem we_not (q : WE X a σ H fun x H1 => ∃ k, x = .bl k ∧ Q (.bl (!k)) H1) : WE X (.UnaryOp .Not a pos) σ H Q := .of (pe_not pe) q
theorem wt_ww {op : BoolOp} (q : WW X (.BoolOp op es pos) σ H QT) : WT X (.BoolOp op es pos) σ H QT := ⟨q.run _⟩
theorem ww_and (q : WT X a σ H fun k H1 => if k = true then WW X (.BoolOp .And (b :: es) pos) σ H1 QT else QT false H1) : WW X (.BoolOp .And (a :: b :: es) pos) σ H QT := .of (pw_and pt pw) q
theorem ww_or (q : WT X a σ H fun k H1 => if k = true then QT true H1 else WW X (.BoolOp .Or (b :: es) pos) σ H1 QT) : WW X (.BoolOp .Or (a :: b :: es) pos) σ H QT := .of (pw_or pt pw) q
theorem ww_and1 (q : WT X a σ H QT) : WW X (.BoolOp .And [a] pos) σ H QT := .of (pw_and1 pt) q
theorem ww_or1 (q : WT X a σ H QT) : WW X (.BoolOp .Or [a] pos) σ H QT := .of (pw_or1 pt) q
theorem we_and (q : WE X a σ H fun x H1 => ∃ k, x = .bl k ∧ if k = true then WE X (.BoolOp .And (b :: es) pos) σ H1 Q else Q (.bl false) H1) : WE X (.BoolOp .And (a :: b :: es) pos) σ H Q := .of (pe_and pe pe) q
theorem we_or (q : WE X a σ H fun x H1 => ∃ k, x = .bl k ∧ if k = true then Q (.bl true) H1 else WE X (.BoolOp .Or (b :: es) pos) σ H1 Q) : WE X (.BoolOp .Or (a :: b :: es) pos) σ H Q := .of (pe_or pe pe) q
theorem we_one {op : BoolOp} (q : WE X a σ H Q) : WE X (.BoolOp op [a] pos) σ H Q := .of (pe_one pe) q
theorem wt_val (q : WE X e σ H fun x H1 => ∃ k, x = .bl k ∧ QT k H1) (he : ∀ whole, isTrue e X.env whole = (do let v ← whole; standAt e.pos; holding [v] (truthy v)) := by intro _; rfl) : WT X e σ H QT := .of (pt_val pe he) q
theorem we_chain {op op' : CmpOp} {r r' : R2} (ho : OpR X (compareOp op) r) (ho' : OpR X (compareOp op') r') (q : WE X a σ H fun x H1 => WE X b σ H1 fun y H2 => r x y H2 fun z H3 => ∃ k, z = .bl k ∧ (if k = true then WE X c σ H3 fun w' H4 => r' y w' H4 Q else Q (.bl false) H3))
    (hm : lastMarks [op, op'] [b, c] = false := by with_unfolding_all rfl) : WE X (.Compare a [op, op'] [b, c] pos) σ H Q := .of (pe_chain ho ho' pe pe pe hm) q
/-! displays, subscripts -/
theorem wa_nil (q : QA [] H) : WA X [] σ H QA := .of pa_nil q
theorem wa_cons (q : WE X e σ H fun x H1 => WA X es σ H1 fun xs H2 => QA (x :: xs) H2) (hs : starEach (e :: es) X.env = (false, eval e X.env) :: starEach es X.env := by rfl) : WA X (e :: es) σ H QA := .of (pa_cons pe pa hs) q
theorem we_tup {j : Nat} (q : WA X es σ H fun xs H1 => xs.length ≤ sizeLine ∧ ∀ p, H1 p = none → Q (.ref p) (upd H1 p (.tup xs))) : WE X (.Tuple es j pos) σ H Q := .of (pe_tup pa) q
theorem we_lst (q : WA X es σ H fun xs H1 => xs.length ≤ sizeLine ∧ ∀ p, H1 p = none → Q (.ref p) (upd H1 p (.lst xs))) : WE X (.List es pos) σ H Q := .of (pe_lst pa) q
theorem we_ix {r : R2} (hr : IxR X r) (hs : PlainIx b) (q : WE X a σ H fun x H1 => WE X b σ H1 fun y H2 => r x y H2 Q) : WE X (.Subscript a b pos) σ H Q := .of (pe_ix hr pe pe hs) q
/-! statements -/
theorem wb_nil (q : D.nx σ H) : WB X [] D σ H := .of pss_nil q
theorem wb_cons (q : WS X st { D with nx := WB X rest D } σ H) : WB X (st :: rest) D σ H := .of (pss_cons ps pss) q
theorem wb_one (q : WS X st D σ H) : WB X [st] D σ H := .of (pss_one ps) q
theorem ws_ret (q : WE X e σ H D.rt) : WS X (.Return (some e) pos) D σ H := .of (ps_ret pe) q
theorem ws_if {s1 s2 : List Stmt} (q : WT X c σ H fun k H1 => if k = true then WB X s1 D σ H1 else WB X s2 D σ H1) : WS X (.If c s1 s2 pos) D σ H := .of (ps_if pt pss pss) q
theorem ws_expr (q : WE X e σ H fun _ H1 => D.nx σ H1) (hs : swapsWith e none pos.line X.env = pure false := by rfl) : WS X (.Expr e pos) D σ H := .of (ps_expr pe hs) q
theorem ws_set {x : Str} {pos' : Pos} (i : Nat) (hN : X.N.Nodup) (hi : X.N[i]? = some x) (hx : Loc X.env.scope x) (q : WE X e σ H fun v H1 => D.nx (σ.set i (some v)) H1) (hs : swapsWith e (some (.Name x pos')) pos.line X.env = pure false := by rfl)
    (hf : X.fn x = true ∨ X.env.scope.names.lookup x = some .local := by first | exact .inl rfl | exact .inr rfl | assumption) : WS X (.Assign [.Name x pos'] e pos) D σ H := .of (ps_set hN hi hx pe hs hf) q
theorem ws_asg {tg : Expr} {g : TG} (hg : PG X tg g) (q : WE X e σ H fun x H1 => g x σ H1 D.nx) (hs : swapsWithSole [tg] e pos.line X.env = pure false := by rfl) (hw : swappedStores [tg] e X.env = pure none := by rfl) (h1 : List.map (fun x => x.snd) (assignEach [tg] X.env) = [assign tg X.env] := by rfl) : WS X (.Assign [tg] e pos) D σ H := .of (ps_asg pe hg hs hw h1) q
theorem ws_aug {x : Str} {op : Operator} {ti : TIp} {pos' : Pos} (i : Nat) {v : V} (hN : X.N.Nodup) (hi : X.N[i]? = some x) (hx : Loc X.env.scope x) (ho : PIp X op ti) (hs : σ[i]? = some (some v)) (q : WE X e σ H fun y H1 => ti v y H1 fun z H2 => D.nx (σ.set i (some z)) H2)
    (hf : X.fn x = true ∨ X.env.scope.names.lookup x = some .local := by first | exact .inl rfl | exact .inr rfl | assumption) : WS X (.AugAssign (.Name x pos') op e pos) D σ H := .of (ps_aug hN hi hx pe ho hf) ⟨v, hs, q⟩
theorem ws_for {iter tg : Expr} {body : List Stmt} {wi : TI} {g : TG} (hp : PassesOwn (model X.prog X.w) X.A X.env X.xe) (hc : X.calm = true) (hi : PI X tg iter wi) (hg : PG X tg g) (q : tFor wi g (WB X body) D σ H) (hs : ∀ x, foldedSetIterable iter X.env x = pure x := by intro _; rfl) : WS X (.For tg iter body [] pos) D σ H := .of (ps_for hp hc hi hg pss hs) q
theorem ws_while {body : List Stmt} (hp : PassesOwn (model X.prog X.w) X.A X.env X.xe) (q : tWhile (WT X c) (WB X body) D σ H) : WS X (.While c body [] pos) D σ H := .of (ps_while hp pt pss) q
end
/-! ### defs by name -/
/-- the def that the module calls x keeps sp, by level k -/
structure Def (P : Program) (w : World) (K : PySem.W.Frag) (mg : Str → Option Value) (base : Heap) (k : Nat) (x : Str) (sp : Sp) : Prop where
  ex : ∃ f fd ps, mg x = some (.ref f) ∧ PySem.W.keepIn K (.ref f) = true ∧ Binds K fd ps [] ∧ FnOk P w K mg base (L2.CX P w) k f fd ps sp
/-- so a method m of the class at C -/
structure MDef (P : Program) (w : World) (K : PySem.W.Frag) (mg : Str → Option Value) (base : Heap) (k : Nat) (C : Addr) (m : Str) (sp : Sp) : Prop where
  ex : ∃ f fd ps, Meth K C m f ∧ Binds K fd ps [] ∧ FnOk P w K mg base (L2.CX P w) k f fd ps sp
section
variable {X : Cx} {RW : WX} {e o : Expr} {es : List Expr} {σ : L2.St} {H : Hp} {Q : VK} {pos p apos : Pos} {k : Nat} {x m : Str} {sp : Sp} {C : Addr}
theorem passT (tk : Takes X RW) (σ : L2.St) : PassesAt (L2.CX X.prog X.w) X σ (fun cls d H' => RW cls d σ H') := passAt tk σ
theorem we_call (F : Def X.prog X.w X.K X.mg X.base k x sp) (hr : Room k X.A) (tk : Takes X RW) (hg : Gl X x) (q : WA X (e :: es) σ H fun vs H1 => sp vs H1 Q fun cls d H' => RW cls d σ H')
    (hdb : (x == ("__debug__" : Str)) = false := by decide) (he : starEach (e :: es) X.env = (false, eval e X.env) :: starEach es X.env := by rfl) (hpl : (backTo pos (starEach es X.env)).any (·.1) = false := by rfl) : WE X (.Call (.Name x p) (e :: es) [] pos) σ H Q := by
  obtain ⟨f, fd, ps, hm, hk, hb, F⟩ := F.ex
  exact .of (pe_callS (E := fun σ cls d H' => RW cls d σ H') F hr hg hm hk hb (fun σ => passAt tk σ) pa hdb he hpl) q
theorem we_callB {id : String} {r : List V → Hp → VK → Prop} (hc : CallR X (.builtin id) r) (hg : Gl X x) (hm : X.mg x = none) (hv : bootBuiltins x = some (.builtin id)) (q : WA X (e :: es) σ H fun vs H1 => r vs H1 Q) (hn : x ≠ "__name__" := by decide) (hdb : (x == ("__debug__" : Str)) = false := by decide)
    (he : starEach (e :: es) X.env = (false, eval e X.env) :: starEach es X.env := by rfl) (hpl : (backTo pos (starEach es X.env)).any (·.1) = false := by rfl) : WE X (.Call (.Name x p) (e :: es) [] pos) σ H Q := .of (pe_callB hc hg hm hv pa hn hdb he hpl) q
theorem we_callTy {T : String} {r : List V → Hp → VK → Prop} (hc : CallR X (.type T) r) (hg : Gl X x) (hm : X.mg x = none) (hv : bootBuiltins x = some (.type T)) (q : WA X (e :: es) σ H fun vs H1 => r vs H1 Q) (hn : x ≠ "__name__" := by decide) (hdb : (x == ("__debug__" : Str)) = false := by decide)
    (he : starEach (e :: es) X.env = (false, eval e X.env) :: starEach es X.env := by rfl) (hpl : (backTo pos (starEach es X.env)).any (·.1) = false := by rfl) : WE X (.Call (.Name x p) (e :: es) [] pos) σ H Q := .of (pe_callTy hc hg hm hv pa hn hdb he hpl) q
end
/-- the body's context of a def -/
abbrev bx (P : Program) (w : World) (K : PySem.W.Frag) (mg : Str → Option Value) (base : Heap) (N : List Str) (qual : Str) (sc : Scope) (f : Addr) (cdv : Value) (A : Around) (outer : List Env) (s : Shared) (H : Hp) (E : XK) : Cx := cxOf (L2.CX P w) P w K mg base N qual sc f cdv A outer s H E
theorem Def.mk' {P : Program} {w : World} {K : PySem.W.Frag} {mg : Str → Option Value} {base : Heap} {x qual : Str} {params : Arguments} {body : List Stmt} {scope : Scope} {kws : List (Str × V)} {f : Addr} {fd : FuncData} {N ps : List Str} {k : Nat} {sp : Sp}
    (F : FunD K x qual params body scope [] kws f fd) (hm : mg x = some (.ref f)) (S : FnScope N ps scope) (len : ∀ vs H Q E, sp vs H Q E → vs.length = ps.length)
    (hb : ∀ (kV doc pm : Value) (an : Option Addr) (cdv ct : Value) (us : List Value), us.length = ps.length → bindArgs (PySem.W.fnOf x qual params body scope .none kV doc pm an cdv ct) ⟨us, []⟩ = pure (ps.zip us))
    (hbody : ∀ (cdv : Value) (A : Around) (outer : List Env) (s : Shared) (H : Hp) (vs : List V) (Q : VK) (E : XK), Room k (A.deeper (envOfC qual scope s.heap.objs.size f cdv)) → Takes (bx P w K mg base N qual scope f cdv A outer s H E) (fun cls d _ H => E cls d H) → sp vs H Q E →
      WB (bx P w K mg base N qual scope f cdv A outer s H E) body { nx := fun _ H' => Q .non H', rt := Q } (start N vs) H) : Def P w K mg base (k + 1) x sp :=
  ⟨f, fd, ps, hm, F.kp, F.bindsN hb, F.ok S len fun cdv A outer s H vs Q E hr h => ⟨_, pss, hbody cdv A outer s H vs Q E hr (takes_of rfl rfl rfl rfl) h⟩⟩
end WP
end
section
set_option Elab.async false
set_option linter.all false
set_option maxRecDepth 100000
set_option maxHeartbeats 2000000
namespace WP
open PySem PySem.Spec PyProof.Rows L2
/-! ### heaps, data -/
theorem _root_.L2.Same.new {H : Hp} {p : Addr} {o : HO} (h : H p = none) : Same H (upd H p o) := fun b u e => by
  rw [upd_ne (ne_of_none e h)]
  exact e
theorem _root_.L2.Same.mut {H0 H : Hp} {p : Addr} {o : HO} (s : Same H0 H) (h : H0 p = none) : Same H0 (upd H p o) := fun b u e => by
  rw [upd_ne (ne_of_none e h)]
  exact s b u e
theorem _root_.L2.Same.tup {K : PySem.W.Frag} {H H' : Hp} {a : Addr} {xs : List V} (e : Same H H') (h : SqT K H a xs) : SqT K H' a xs := by
  rcases h with (h | ⟨o, h⟩) | h
  · exact .inl (.inl (e _ _ h))
  · exact .inl (.inr ⟨o, e _ _ h⟩)
  · exact .inr h
mutual
theorem dp_mono {K : PySem.W.Frag} {H H' : Hp} (e : Same H H') : ∀ {d : PyData} {v : V}, Dp K H v d → Dp K H' v d
  | _, _, .non => .non
  | _, _, .bl b => .bl b
  | _, _, .int i => .int i
  | _, _, .str x => .str x
  | _, _, .lst h g => .lst (e.seq h) (dpAll_mono e g)
  | _, _, .tup h g => .tup (Same.tup e h) (dpAll_mono e g)
theorem dpAll_mono {K : PySem.W.Frag} {H H' : Hp} (e : Same H H') : ∀ {ds : List PyData} {vs : List V}, DpAll K H vs ds → DpAll K H' vs ds
  | _, _, .nil => .nil
  | _, _, .cons h g => .cons (dp_mono e h) (dpAll_mono e g)
end
section
variable {K : PySem.W.Frag} {H : Hp}
theorem dpAll_len : ∀ {vs : List V} {ds : List PyData}, DpAll K H vs ds → vs.length = ds.length
  | _, _, .nil => rfl
  | _, _, .cons _ g => congrArg (· + 1) (dpAll_len g)
theorem dpAll_at : ∀ {vs : List V} {ds : List PyData} {i : Nat} {d : PyData}, DpAll K H vs ds → ds[i]? = some d → ∃ v, vs[i]? = some v ∧ Dp K H v d
  | _, _, _, _, .nil, h => by simp at h
  | _, _, 0, _, .cons h g, e => by
    simp at e
    subst e
    exact ⟨_, rfl, h⟩
  | _, _, i + 1, _, .cons h g, e => by
    obtain ⟨v, e1, e2⟩ := dpAll_at (i := i) g (by simpa using e)
    exact ⟨v, by simpa using e1, e2⟩
theorem dpAll_atv : ∀ {vs : List V} {ds : List PyData} {i : Nat} {v : V}, DpAll K H vs ds → vs[i]? = some v → ∃ d, ds[i]? = some d ∧ Dp K H v d
  | _, _, _, _, .nil, h => by simp at h
  | _, _, 0, _, .cons h g, e => by
    simp at e
    subst e
    exact ⟨_, rfl, h⟩
  | _, _, i + 1, _, .cons h g, e => by
    obtain ⟨v, e1, e2⟩ := dpAll_atv (i := i) g (by simpa using e)
    exact ⟨v, by simpa using e1, e2⟩
theorem dpAll_app : ∀ {vs ws : List V} {ds es : List PyData}, DpAll K H vs ds → DpAll K H ws es → DpAll K H (vs ++ ws) (ds ++ es)
  | _, _, _, _, .nil, g => g
  | _, _, _, _, .cons h g, g2 => .cons h (dpAll_app g g2)
theorem dpAll_take : ∀ {vs : List V} {ds : List PyData} (n : Nat), DpAll K H vs ds → DpAll K H (vs.take n) (ds.take n)
  | _, _, 0, _ => .nil
  | _, _, _ + 1, .nil => .nil
  | _, _, n + 1, .cons h g => .cons h (dpAll_take n g)
theorem dpAll_drop : ∀ {vs : List V} {ds : List PyData} (n : Nat), DpAll K H vs ds → DpAll K H (vs.drop n) (ds.drop n)
  | _, _, 0, g => g
  | _, _, _ + 1, .nil => .nil
  | _, _, n + 1, .cons h g => dpAll_drop n g
theorem dpAll_snoc {vs : List V} {ds : List PyData} {v : V} {d : PyData} (g : DpAll K H vs ds) (h : Dp K H v d) : DpAll K H (vs ++ [v]) (ds ++ [d]) := dpAll_app g (.cons h .nil)
end
/-! ### isinstance of data -/
def tyD : PyData → String
  | .none => "NoneType" | .bool _ => "bool" | .int _ => "int" | .str _ => "str" | .list _ => "list" | .tuple _ => "tuple" | .dict _ => "dict"
def dTup : PyData → Bool
  | .tuple _ => true
  | _ => false
def dStr : PyData → Bool
  | .str _ => true
  | _ => false
def dBool : PyData → Bool
  | .bool _ => true
  | _ => false
def dInt : PyData → Bool
  | .int _ => true
  | .bool _ => true
  | _ => false
def isiD (d : PyData) (T : String) : Option Bool := if T = "tuple" then some (dTup d) else if T = "str" then some (dStr d) else if T = "bool" then some (dBool d) else if T = "int" then some (dInt d) else none
theorem dp_ty {K : PySem.W.Frag} {H : Hp} {v : V} {d : PyData} (h : Dp K H v d) : TyX K H v (.type (tyD d)) := by
  cases h with
  | non => exact .base .non
  | bl b => exact .base (.bl b)
  | int i => exact .base (.int i)
  | str x => exact .base (.str x)
  | lst h _ =>
    rcases h with (h | ⟨o, h⟩) | ⟨o, its, n, h, c, _⟩
    · exact .base (.lst h)
    · exact .base (.frz h)
    · exact .kList h c
  | tup h _ =>
    rcases h with (h | ⟨o, h⟩) | ⟨o, its, n, h, c, _⟩
    · exact .base (.tup h)
    · exact .fTuple h
    · exact .kTuple h c
theorem dp_nodict {K : PySem.W.Frag} {H : Hp} {v : V} {kvs : List (PyData × PyData)} (h : Dp K H v (.dict kvs)) : False := by cases h
theorem kit_tuple : ∀ a ∈ ["NoneType", "bool", "int", "str", "list", "tuple"], kitB a "tuple" = some (decide (a = "tuple")) := by decide +kernel
theorem kit_str : ∀ a ∈ ["NoneType", "bool", "int", "str", "list", "tuple"], kitB a "str" = some (decide (a = "str")) := by decide +kernel
theorem kit_bool : ∀ a ∈ ["NoneType", "bool", "int", "str", "list", "tuple"], kitB a "bool" = some (decide (a = "bool")) := by decide +kernel
theorem kit_int : ∀ a ∈ ["NoneType", "bool", "int", "str", "list", "tuple"], kitB a "int" = some (decide (a = "int" ∨ a = "bool")) := by decide +kernel
theorem kit_data {K : PySem.W.Frag} {H : Hp} {v : V} {d : PyData} {T : String} {b : Bool} (h : Dp K H v d) (e : isiD d T = some b) : kitB (tyD d) T = some b := by
  unfold isiD at e
  have dd : ∀ kvs, d ≠ .dict kvs := fun kvs z => by
    subst z
    exact dp_nodict h
  split at e
  · next z =>
    subst z
    cases d <;> first | exact absurd rfl (dd _) | (injection e with e; subst e; exact kit_tuple _ (by simp [tyD]))
  · split at e
    · next z =>
      subst z
      cases d <;> first | exact absurd rfl (dd _) | (injection e with e; subst e; exact kit_str _ (by simp [tyD]))
    · split at e
      · next z =>
        subst z
        cases d <;> first | exact absurd rfl (dd _) | (injection e with e; subst e; exact kit_bool _ (by simp [tyD]))
      · split at e
        · next z =>
          subst z
          cases d <;> first | exact absurd rfl (dd _) | (injection e with e; subst e; exact kit_int _ (by simp [tyD]))
        · cases e
def rIsiD (K : PySem.W.Frag) : List V → Hp → VK → Prop := fun xs H Q => ∃ (x : V) (T : String) (d : PyData) (b : Bool), xs = [x, .ty T] ∧ Dp K H x d ∧ isiD d T = some b ∧ Q (.bl b) H
theorem call_isiD {X : Cx} : CallR X (.builtin "isinstance") (rIsiD X.K) := by
  intro pins s σ H xs us Q I r h
  obtain ⟨x, T, d, b, e, hd, hb, q⟩ := h
  exact call_isi pins s σ H xs us Q I r ⟨x, .ty T, .type (tyD d), .type T, b, e, .ty T, dp_ty hd, kit_ty (kit_data hd hb), q⟩
/-! ### two rules for one operator -/
theorem opOr {X : Cx} {f : Value → Value → Sem Value} {r r' : R2} (h : OpR X f r) (h' : OpR X f r') : OpR X f (fun x y H Q => r x y H Q ∨ r' x y H Q) := by
  intro pins s σ H x y v u Q I rx ry q
  rcases q with q | q
  · exact h pins s σ H x y v u Q I rx ry q
  · exact h' pins s σ H x y v u Q I rx ry q
theorem callOr {X : Cx} {f : Value} {r r' : List V → Hp → VK → Prop} (h : CallR X f r) (h' : CallR X f r') : CallR X f (fun xs H Q => r xs H Q ∨ r' xs H Q) := by
  intro pins s σ H xs us Q I r1 q
  rcases q with q | q
  · exact h pins s σ H xs us Q I r1 q
  · exact h' pins s σ H xs us Q I r1 q
/-- a module's text, an int -/
def GStr (X : Cx) (x z : Str) : Prop := ∃ t, X.mg x = some (.str z t)
def GInt (X : Cx) (x : Str) (i : Int) : Prop := ∃ t, X.mg x = some (.int i t)
theorem we_gstr {X : Cx} {x z : Str} {σ : L2.St} {H : Hp} {Q : VK} {pos : Pos} (h : ∃ t, X.mg x = some (.str z t)) (hg : Gl X x) (q : Q (.str z) H) (hd : (x == ("__debug__" : Str)) = false := by decide) : WE X (.Name x pos) σ H Q :=
  let ⟨t, h⟩ := h; we_glob (v := .str z) hg h ⟨t, rfl⟩ q hd
theorem we_gint {X : Cx} {x : Str} {i : Int} {σ : L2.St} {H : Hp} {Q : VK} {pos : Pos} (h : ∃ t, X.mg x = some (.int i t)) (hg : Gl X x) (q : Q (.int i) H) (hd : (x == ("__debug__" : Str)) = false := by decide) : WE X (.Name x pos) σ H Q :=
  let ⟨t, h⟩ := h; we_glob (v := .int i) hg h ⟨t, rfl⟩ q hd
theorem we_ty {X : Cx} {x : Str} {T : String} {σ : L2.St} {H : Hp} {Q : VK} {pos : Pos} (hm : X.mg x = none) (hv : bootBuiltins x = some (.type T)) (hg : Gl X x) (q : Q (.ty T) H) (hn : x ≠ "__name__" := by decide) (hd : (x == ("__debug__" : Str)) = false := by decide) : WE X (.Name x pos) σ H Q :=
  we_bltn (v := .ty T) hg hm hv rfl q hn hd
end WP
end
section
set_option Elab.async false
set_option linter.all false
set_option maxRecDepth 100000
set_option maxHeartbeats 4000000
/-! A list comprehension whose element may raise: the exception leaves the block (noted in the def's frame) and is in the def's air. -/
namespace WP
open PySem PySem.Spec PyProof.Rows L2
open Sem (wp)
/-- what a comprehension's code leaves, the block's frame told: cenv -/
def cpost (M : Model) (A : Around) (E : Value → Shared → Prop) (Q : Value → Shared → Prop) (acc : Value) (cenv : Env) (r : Result) (s' : Shared) : Prop :=
  match r with
  | .ok _ => ∃ m, s'.heap.Ns cenv.locals m ∧ ∀ h', Heap.SameBut cenv.locals s'.heap h' → Q acc { s' with heap := h' }
  | .error x => ∃ m, s'.heap.Ns cenv.locals m ∧ ∀ h', Heap.SameBut cenv.locals s'.heap h' → wpAny M A (passOn "comprehension.variables-let-go" x cenv : Sem Value) (fun _ _ => False) E { s' with heap := h' }
theorem comp_free {M : Model} {A : Around} {E : Value → Shared → Prop} {s : Shared} {env : Env} {e : Expr} {scope : Scope} {pos : Pos} {newAcc first : Sem Value} {g : Comprehension} {gs : List Comprehension} {cl : List (Str × Addr)}
    {Q : Value → Shared → Prop}
    (hcl : clausesOf e = g :: gs) (hs : ∀ x, foldedSetIterable g.iter env x = pure x) (hclos : closureFor scope env = pure cl)
    (hkind : scope.kind = .function) (hnames : ∀ x ∈ scope.names, x.2 = .local → scope.names.lookup x.1 = some .local)
    (h : wpAny M A first (fun x s₁ => wpAny M A (pyIter x) (fun it s₂ => wpAny M A newAcc (fun acc s₃ =>
      wpAny M A (newFunctionEnv scope env.globals cl [] env.qual none .none (some env)) (fun cenv s₄ =>
        codeAny M A (.compStart e 0 it acc { cenv with scope := relabel scope env }) (cpost M A E Q acc { cenv with scope := relabel scope env }) s₄) E s₃) E s₂) E s₁) E s) :
    wpAny M A (comprehension e scope env pos newAcc false first none) Q E s := by
  unfold comprehension
  rw [hclos, hcl]
  refine wpAny_bind (wpAny_mono h (fun x s₁ h₁ => wpAny_bind (wpAny_standAt (wpAny_bind (wpAny_of_eq (hs x) (wpAny_bind (wpAny_holding (wpAny_mono h₁ (fun it s₂ h₂ =>
    wpAny_standIf (wpAny_bind (wpAny_mono h₂ (fun acc s₃ h₃ => wpAny_bind (wpAny_pure (wpAny_bind (wpAny_mono h₃ (fun cenv s₄ h₄ => ?_) fun _ _ h' => h')))) fun _ _ h' => h')))
      fun _ _ h' => h'))))))) fun _ _ h' => h')
  dsimp only
  have hv : ∀ x ∈ (scope.names.filter fun x => (x.2 == .local || x.2 == .cell) && x.1 != (".0" : Str)).reverse, x.2 = .local →
      Env.kindOf { cenv with scope := relabel scope env } x.1 = some .local := fun x hx hl => lookup_relabel_local (hnames x (List.mem_filter.mp (List.mem_reverse.mp hx)).1 hl)
  refine wpAny_holding (wpAny_bind (wpAny_attempt (wpAny_holding (wpAny_run (codeAny_mono h₄ fun r s' hr => ?_)))))
  cases r with
  | ok f =>
    obtain ⟨m, hn, hr⟩ := hr
    exact wpAny_bind (wpAny_holding (wpAny_comp_letGo (cenv := { cenv with scope := relabel scope env }) hkind _ s' m hv hn fun h' m' _ hs' => wpAny_pure (hr h' hs')))
  | error x =>
    obtain ⟨m, hn, hr⟩ := hr
    exact wpAny_bind (wpAny_holding (wpAny_comp_letGo (cenv := { cenv with scope := relabel scope env }) hkind _ s' m hv hn fun h' m' _ hs' => wpAny_mono (hr h' hs') (fun _ _ f => f.elim) fun _ _ y => y))
/-- an exception from a call within a block: flying over the def's frames -/
def XB (X : Cx) (W : WX) (u : Value) (s' : Shared) : Prop :=
  ∃ (a : Addr) (B : Heap) (sI : Shared) (pins : List (Addr × Obj)) (σ : L2.St) (H : Hp) (cls : Value) (d : Option Addr),
    u = .ref a ∧ Inv X pins σ H sI ∧ (∀ b o, sI.heap.get? b = some o → b ∉ frs X.stack → B.get? b = some o) ∧ sI.heap.UpToSlots s'.heap ∧
      HandSPX.FlyingZ B X.stack a (Zc cls d) s'.heap ∧ H a = none ∧ s'.os = sI.os ∧ AllBare s'.gens ∧ W cls d σ H
theorem xb_of_call {X : Cx} {W : WX} {E : XK} {pins : List (Addr × Obj)} {σ : L2.St} {H : Hp} {s s' : Shared} (I : Inv X pins σ H s) (hW : ∀ cls d H', E cls d H' → W cls d σ H') {u : Value} (c : L2.CX X.prog X.w X.stack H s E u s') : XB X W u s' := by
  obtain ⟨a, B, H', cls, d, rfl, fl, hok, ub, na, os, ag, hE⟩ := c
  obtain ⟨G, g1, g2⟩ := restrict s'.heap fun b => (B.get? b).isSome || decide (b ∈ frs X.stack)
  have st : B.StaysIn s'.heap := fl.1
  have gB : ∀ b o, B.get? b = some o → G.get? b = some o := fun b o e => by
    rw [g1 b (by simp [e])]
    exact st b o e
  have gF : ∀ b, b ∈ frs X.stack → G.get? b = s'.heap.get? b := fun b hb => g1 b (by simp [hb])
  have og : ∀ b o, G.get? b = some o → s'.heap.get? b = some o ∧ ((B.get? b).isSome = true ∨ b ∈ frs X.stack) := fun b o e => by
    cases q : ((B.get? b).isSome || decide (b ∈ frs X.stack)) with
    | false => rw [g2 b q] at e; cases e
    | true =>
      rw [g1 b q] at e
      exact ⟨e, by simpa [Bool.or_eq_true] using q⟩
  refine ⟨a, B, { s with heap := G, gens := s'.gens, drawn := s'.drawn, toks := s'.toks }, pins, σ, H', cls, d, rfl, ?_, fun b o e hb => ?_, Heap.UpToSlots.of_keeps fun b o e => (og b o e).1, fl, na, os, ag, hW _ _ _ hE⟩
  · refine I.call (ch := []) ⟨fun b o e n hb _ => gB b o (ub.keep b o e n hb), fun b o e n hb _ => ?_, fun b o e n _ => ub.free b o e n, fun b o e _ => ?_, ub.tups, ub.frzs, ub.tbls⟩ (hok.kept gB) ag (fun _ z => nomatch z)
    · obtain ⟨sl, q⟩ := ub.slot b o e hb
      exact ⟨sl, by rw [gF b hb]; exact q⟩
    · by_cases hb : b ∈ frs X.stack
      · obtain ⟨sl, q⟩ := ub.slot b o e hb
        exact ⟨_, by rw [gF b hb]; exact q⟩
      · obtain ⟨o', q⟩ := ub.there b o e hb
        exact ⟨o', gB b o' q⟩
  · obtain ⟨e', h⟩ := og b o e
    rcases h with h | h
    · obtain ⟨o', q⟩ := Option.isSome_iff_exists.mp h
      have z := st b o' q
      rw [e'] at z; cases z
      exact q
    · exact absurd h hb
/-- what raising calls may do here -/
def Pas (X : Cx) (RW : WX) : Prop := ∀ σ, PassesAt (L2.CX X.prog X.w) X σ (fun cls d H' => RW cls d σ H')
theorem pas_of {X : Cx} {RW : WX} (tk : Takes X RW) : Pas X RW := fun σ => passAt tk σ
/-- the block's context: what it raises is in its air -/
abbrev blkW (X : Cx) (s : Shared) (H : Hp) (scope : Scope) (cenv : Env) (fp : List Addr) (W : WX) : Cx := (X.blk s H scope cenv fp).wish (XB (X.blk s H scope cenv fp) W)
theorem pas_blk {X : Cx} {s : Shared} {H : Hp} {scope : Scope} {cenv : Env} {fp : List Addr} {W : WX} : Pas (blkW X s H scope cenv fp W) W := fun σ pins H s e s' I c => xb_of_call (X := X.blk _ _ _ _ _) (pins := pins) I.unwish (fun _ _ _ h => h) c
theorem note_eq {u : Value} {env env' : Env} (h : env.frame = env'.frame) : noteFrame u env = noteFrame u env' := by
  unfold noteFrame PySem.frameOf
  rw [h]
theorem stays_of {B B' h : Heap} (st : B.StaysIn h) (le : ∀ b o, B'.get? b = some o → B.get? b = some o) : B'.StaysIn h := fun b o e => st b o (le b o e)
/-- out of the block into the def's air -/
theorem xb_out {X : Cx} {RW : WX} {pins : List (Addr × Obj)} {σ : L2.St} {s3 : Shared} {H3 : Hp} {scope : Scope} {cl : List (Str × Addr)} {fp : List Addr} {own : List (Str × Nat)} {Q : Value → Shared → Prop} {acc u : Value} {s' : Shared}
    (hs : X.stack = X.env :: X.outer) (hf : X.env.frame = some X.env.locals) (tk : Takes X RW) (I3 : Inv X pins σ H3 s3) (hfp : ∀ b ∈ fp, FpOk X pins H3 b)
    (x : XB (X.blk s3 H3 scope (compEnvC scope cl s3.heap.objs.size X.env) fp) (fun cls d _ H => RW cls d σ H) u s') :
    notedBy (model X.prog X.w) X.A (compEnvC scope cl s3.heap.objs.size X.env) (fun e s'' => cpost (model X.prog X.w) X.A X.xe Q acc (compEnvC scope cl s3.heap.objs.size X.env) (.error e) s'') u s' := by
  obtain ⟨a, B, sI, pins', σ', H, cls, d, rfl, I, nb, up, fl, na, os, ag, w⟩ := x
  have hfr : X.A.frames = some (X.env :: X.outer) := by rw [I3.ok.frames, hs]
  unfold notedBy
  rw [note_eq (show (compEnvC scope cl s3.heap.objs.size X.env).frame = X.env.frame from rfl)]
  have fl' : HandSPX.FlyingZ B (X.env :: X.outer) a (Zc cls d) s'.heap := by
    have z : HandSPX.FlyingZ B X.stack a (Zc cls d) s'.heap := fl
    rw [hs] at z
    exact z
  refine HandSPX.looks_onZ Zc.steady hfr hf fl' fun h1 hh up1 => ?_
  obtain ⟨m, hn, _⟩ := I.loc
  have hn : sI.heap.Ns s3.heap.objs.size m := hn
  generalize hC : s3.heap.objs.size = C at hn
  have up2 := up.trans up1
  have ns1 : h1.Ns C m := by
    obtain ⟨o, es, ep, ho, hd, r⟩ := hn
    obtain ⟨sl, e1⟩ := up2 C o ho (fun vs z => by rw [hd] at z; cases z)
    exact ⟨_, es, ep, e1, hd, r⟩
  refine ⟨m, ?_, fun h' sb => ?_⟩
  · exact ns1
  have sb : Heap.SameBut C h1 h' := sb
  -- the ground without the block's dict
  obtain ⟨B', b1, b2⟩ := restrict B fun b => decide (b ≠ C)
  have bl : ∀ b o, B'.get? b = some o → B.get? b = some o ∧ b ≠ C := fun b o e => by
    by_cases hb : b = C
    · rw [b2 b (by simp [hb])] at e
      cases e
    · rw [b1 b (by simp [hb])] at e
      exact ⟨e, hb⟩
  have k' : ∀ b, b ≠ C → h'.get? b = h1.get? b := fun b hb => sb.2 b hb
  have dC : ∃ o es ep, h1.get? C = some o ∧ o.data = .dict es ep := by
    obtain ⟨o, es, ep, ho, hd, _⟩ := ns1
    exact ⟨o, es, ep, ho, hd⟩
  obtain ⟨hst, hen, hfu, oe, vs, T, oT, ts, he, hz, hd, h1T, hnT, hTe, hT, hdT, h3⟩ := hh
  have aC : a ≠ C := fun z => by
    obtain ⟨o, es, ep, ho, hdd⟩ := dC
    rw [← z, he] at ho
    cases ho
    rw [hd] at hdd
    cases hdd
  have TC : T ≠ C := fun z => by
    obtain ⟨o, es, ep, ho, hdd⟩ := dC
    rw [← z, hT] at ho
    cases ho
    rw [hdT] at hdd
    cases hdd
  have frC : ∀ b ∈ frs (X.env :: X.outer), b ≠ C := fun b hb z => by
    have hb' : b ∈ frs X.stack := by rw [hs]; exact hb
    obtain ⟨_, o, ho, _⟩ := I3.stack.mem hb'
    have q := Heap.lt_size ho
    rw [z, hC] at q
    exact absurd q (Nat.lt_irrefl _)
  have fuB : ∀ l : List Env, h1.FunFrames B l → (∀ b ∈ frs l, b ≠ C) → h'.FunFrames B' l := by
    intro l
    induction l with
    | nil => intro _ _; trivial
    | cons env r ih =>
      intro hl hne
      obtain ⟨hk, ⟨L, o, hfL, hnL, hoL, hdL⟩, hr⟩ := hl
      have hL : L ≠ C := hne L (by unfold frs; rw [List.filterMap_cons, hfL]; exact List.mem_cons_self)
      refine ⟨hk, ⟨L, o, hfL, ?_, by rw [k' L hL]; exact hoL, hdL⟩, ih hr fun b hb => hne b ?_⟩
      · cases q : B'.get? L with
        | none => rfl
        | some o' => rw [(bl _ _ q).1] at hnL; cases hnL
      · unfold frs at hb ⊢
        rw [List.filterMap_cons, hfL]
        exact List.mem_cons_of_mem _ hb
  have held : HandSPX.HeldZ B' (X.env :: X.outer) a (Zc cls d) X.env.locals h' := by
    refine ⟨fun b o e => ?_, ?_, fuB _ hfu frC, oe, vs, T, oT, ts, ?_, hz, hd, h1T, ?_, hTe, ?_, hdT, h3⟩
    · rw [k' b (bl b o e).2]
      exact hst b o (bl b o e).1
    · cases q : B'.get? a with
      | none => rfl
      | some o => rw [(bl _ _ q).1] at hen; cases hen
    · rw [k' a aC]; exact he
    · cases q : B'.get? T with
      | none => rfl
      | some o => rw [(bl _ _ q).1] at hnT; cases hnT
    · rw [k' T TC]; exact hT
  -- passOn
  unfold PySem.passOn
  refine wpAny_bind (wpAny_field (show h'.get? a = some oe by rw [k' a aC]; exact he) hd h1T ?_)
  rw [if_neg (by simp)]
  refine wpAny_bind ?_
  show wpAny _ _ (setFlight (.ref a) X.env.frame) _ _ _
  rw [hf]
  refine HandSPX.setFlight_onZ held fun h2 held2 up3 => ?_
  refine wpAny_throw (tk _ _ ?_)
  -- the state without it, in the def's context
  obtain ⟨G, g1, g2⟩ := restrict sI.heap fun b => decide (b ≠ C)
  have gk : ∀ b, b ≠ C → G.get? b = sI.heap.get? b := fun b hb => g1 b (by simp [hb])
  have gl : ∀ b o, G.get? b = some o → sI.heap.get? b = some o ∧ b ≠ C := fun b o e => by
    by_cases hb : b = C
    · rw [g2 b (by simp [hb])] at e
      cases e
    · rw [gk b hb] at e
      exact ⟨e, hb⟩
  have hHC : H C = none := by
    have z : H s3.heap.objs.size = none := I.free
    rw [hC] at z
    exact z
  have tne : ∀ b o, H b = some o → b ≠ C := fun b o e z => by rw [z, hHC] at e; cases e
  have old : ∀ b o, s3.heap.get? b = some o → b ≠ C := fun b o e z => by
    have q := Heap.lt_size e
    rw [z, hC] at q
    exact absurd q (Nat.lt_irrefl _)
  have hokG : HOk X.prog X.w H G := fun b o q => (I.hok b o q).stay (fun c u hc r => by
    rw [gk c (by rcases hc with hc | hc
                 · rw [hc]; exact tne _ _ q
                 · exact tne _ _ hc)]
    exact r) (fun _ r => r) fun _ _ r => r
  have hbase : Un (frs X.stack) fp H3 H s3.heap sI.heap := I.base
  have J : Inv X pins σ H { sI with heap := G } := by
    refine I3.call' (ch := fp) I.os ⟨fun b o e n hb hx => ?_, fun b o e n hb hx => ?_, hbase.free, fun b o e hx => ?_, hbase.tups, hbase.frzs, hbase.tbls⟩ hokG I.bare fun b hb => ⟨(hfp b hb).2.2.2.1, (hfp b hb).2.1, (hfp b hb).2.2.2.2.1, (hfp b hb).2.2.2.2.2⟩
    · show G.get? b = some o
      rw [gk b (old b o e)]
      exact hbase.keep b o e n hb hx
    · obtain ⟨sl, q⟩ := hbase.slot b o e n hb hx
      exact ⟨sl, by show G.get? b = _; rw [gk b (old b o e)]; exact q⟩
    · obtain ⟨o', q⟩ := hbase.there b o e hx
      exact ⟨o', by show G.get? b = _; rw [gk b (old b o e)]; exact q⟩
  refine ⟨a, B', { sI with heap := G }, pins, σ, H, cls, d, rfl, J, fun b o e hb => ?_, fun b o e hnf => ?_, ?_, na, os, ag, w⟩
  · obtain ⟨e1, e2⟩ := gl b o e
    rw [b1 b (by simp [e2])]
    exact nb b o e1 hb
  · obtain ⟨e1, e2⟩ := gl b o e
    obtain ⟨sl, e3⟩ := up2 b o e1 hnf
    rw [← k' b e2] at e3
    obtain ⟨sl2, e4⟩ := up3 b _ e3 hnf
    exact ⟨sl2, e4⟩
  · rw [hs]
    exact .inr (.inr held2)
end WP
end
section
set_option Elab.async false
set_option linter.all false
set_option maxRecDepth 100000
set_option maxHeartbeats 4000000
namespace WP
open PySem PySem.Spec PyProof.Rows L2
open Sem (wp)
section
variable {X : Cx} {RW : WX}
theorem lcX_core {pins : List (Addr × Obj)} {s : Shared} {σ : L2.St} {H : Hp} {Q : VK} {elt tg iter : Expr} {ifs : List Expr} {scope : Scope} {own : List (Str × Nat)} {pos pos' : Pos} {wi : TI} {g : TG} {tt : TT} {te : TE}
    (hst : X.stack = X.env :: X.outer) (hfr : X.env.frame = some X.env.locals) (tk : Takes X RW)
    (hc : X.calm = true) (hN : X.N.Nodup) (I : Inv X pins σ H s) (hi : PI X tg iter wi) (ok : BlkOk X.N X.env.scope scope own)
    (hg : ∀ (s : Shared) (H : Hp) (C : Addr) (cl : List (Str × Addr)) (fp : List Addr), PG (blkW X s H scope (compEnvC scope cl C X.env) fp (fun cls d _ H => RW cls d σ H)) tg g) (ht : ∀ (s : Shared) (H : Hp) (C : Addr) (cl : List (Str × Addr)) (fp : List Addr), PTs (blkW X s H scope (compEnvC scope cl C X.env) fp (fun cls d _ H => RW cls d σ H)) ifs tt)
    (he : ∀ (s : Shared) (H : Hp) (C : Addr) (cl : List (Str × Addr)) (fp : List Addr), PE (blkW X s H scope (compEnvC scope cl C X.env) fp (fun cls d _ H => RW cls d σ H)) elt te) (hs : ∀ x, foldedSetIterable iter X.env x = pure x)
    (h : tLc wi g tt te (own.map (·.2)) σ H Q) :
    wpAny (model X.prog X.w) X.A (comprehension (.ListComp elt [⟨tg, iter, ifs, 0⟩] scope pos) scope X.env pos' (newList []) false (eval iter X.env) none) (EP X pins σ Q) X.xe s := by
  have hfree : ∀ y ∈ scope.names, y.2 = .free → ∃ c, X.env.cells.lookup y.1 = some c := fun y hy e => by
    rcases ok.free y hy e with k | k
    · exact I.ok.has _ (.inl k)
    · exact I.ok.has _ (.inr k)
  refine comp_free rfl hs (closure_ok hfree) ok.kind (fun y hy e => by rw [ok.uniq y hy, e])
    (thn (hi.run pins s σ H _ I h) fun xv s1 hx => thn hx fun itv s2 h2 => ?_)
  obtain ⟨it, fp, tn, J, H2, e, I2, T, st2, f2, q⟩ := h2
  subst e
  refine wpAny_newObj_type (newEnv_comp ?_) (by show 0 ≤ sizeLine; decide)
  generalize hD : s2.heap.objs.size = D
  have hDn : H2 D = none := I2.hok.fresh (Nat.le_of_eq hD)
  obtain ⟨W, ⟨m0, w0⟩, turn⟩ := q D hDn
  generalize hs3 : ({ s2 with heap := s2.heap.push { cls := .type "list", data := .seq ([] : List Value).toArray } } : Shared) = s3
  have I3 : Inv X pins σ (upd H2 D (.lst [])) s3 := by
    rw [← hs3]
    refine I2.laid (t' := s2.toks) (fun b o e => Heap.get?_push_of_some _ e) (Nat.le_of_eq hD) ⟨Nat.zero_le _, [], 0, .nil, ?_⟩
    rw [← hD]
    exact Heap.get?_push_size _ rfl
  have h3 : s3.heap = s2.heap.push { cls := .type "list", data := .seq ([] : List Value).toArray } := by rw [← hs3]
  have sz : ∀ b ∈ fp, b < s2.heap.objs.size := fun b hb => by
    obtain ⟨o, e, _⟩ := T.obj _ _ st2 b hb
    exact Heap.lt_size e
  have f3 : ∀ b ∈ fp, FpOk X pins (upd H2 D (.lst [])) b ∧ b < s3.heap.objs.size := fun b hb => by
    have hlt := sz b hb
    refine ⟨⟨?_, (f2 b hb).2⟩, by rw [h3, Heap.size_push]; exact Nat.lt_succ_of_lt hlt⟩
    rw [upd_ne (by rw [← hD]; exact Nat.ne_of_lt hlt)]
    exact (f2 b hb).1
  have st3 : tn 0 s3.heap := T.keep _ _ _ st2 fun b _ o e => by rw [h3]; exact Heap.get?_push_of_some _ e
  have I4 := block_start I3 ok hN f3
  have pg := hg s3 (upd H2 D (.lst [])) s3.heap.objs.size (cellsFrom (s3.heap.objs.size + 1) scope.names (cloFrom X.env.cells scope.names [])) fp
  have pt := ht s3 (upd H2 D (.lst [])) s3.heap.objs.size (cellsFrom (s3.heap.objs.size + 1) scope.names (cloFrom X.env.cells scope.names [])) fp
  have pe := he s3 (upd H2 D (.lst [])) s3.heap.objs.size (cellsFrom (s3.heap.objs.size + 1) scope.names (cloFrom X.env.cells scope.names [])) fp
  have xout : ∀ u s', XB (X.blk s3 (upd H2 D (.lst [])) scope (compEnvC scope (cellsFrom (s3.heap.objs.size + 1) scope.names (cloFrom X.env.cells scope.names [])) s3.heap.objs.size X.env) fp) (fun cls d _ H => RW cls d σ H) u s' →
      notedBy (model X.prog X.w) X.A (compEnvC scope (cellsFrom (s3.heap.objs.size + 1) scope.names (cloFrom X.env.cells scope.names [])) s3.heap.objs.size X.env) (fun e s'' => cpost (model X.prog X.w) X.A X.xe (EP X pins σ Q) (.ref D) (compEnvC scope (cellsFrom (s3.heap.objs.size + 1) scope.names (cloFrom X.env.cells scope.names [])) s3.heap.objs.size X.env) (.error e) s'') u s' :=
    fun u s' x => xb_out (own := own) hst hfr tk I3 (fun b hb => (f3 b hb).1) x
  show codeAny _ _ (.compStart (.ListComp elt [⟨tg, iter, ifs, 0⟩] scope pos) 0 (.ref it) (.ref D) (compEnvC scope (cellsFrom (s3.heap.objs.size + 1) scope.names (cloFrom X.env.cells scope.names [])) s3.heap.objs.size X.env)) (cpost (model X.prog X.w) X.A X.xe (EP X pins σ Q) (.ref D) (compEnvC scope (cellsFrom (s3.heap.objs.size + 1) scope.names (cloFrom X.env.cells scope.names [])) s3.heap.objs.size X.env)) { s3 with heap := pushCells (s3.heap.push { cls := .type "dict", data := .dict #[] }) scope.names }
  have nfp : ∀ b ∈ fp, (upd H2 D (.lst [])) b = none := fun b hb => (f3 b hb).1.1
  generalize hce : compEnvC scope (cellsFrom (s3.heap.objs.size + 1) scope.names (cloFrom X.env.cells scope.names [])) s3.heap.objs.size X.env = ce at I4 pg pt pe xout ⊢
  have cL : ce.locals = s3.heap.objs.size := by subst hce; rfl
  generalize hH3 : upd H2 D (.lst []) = H3 at I3 I4 pg pt pe w0 nfp f3 xout
  generalize hs4 : ({ s3 with heap := pushCells (s3.heap.push { cls := .type "dict", data := .dict #[] }) scope.names } : Shared) = s4 at I4 ⊢
  have st4 : tn 0 s4.heap := T.keep _ _ _ st3 fun b _ o e => by rw [← hs4]; exact pushCells_keeps _ _ _ _ (Heap.get?_push_of_some _ e)
  generalize hWx : (fun (cls : Value) (d : Option Addr) (_ : L2.St) (H : Hp) => RW cls d σ H) = Wx at pg pt pe xout
  have thX : ∀ {α : Type} {t : Sem α} {Q1 Q2 : α → Shared → Prop} {s : Shared}, wpAny (model X.prog X.w) X.A t Q1 (XB (X.blk s3 H3 scope ce fp) Wx) s → (∀ a s, Q1 a s → Q2 a s) → wpAny (model X.prog X.w) X.A t Q2 (notedBy (model X.prog X.w) X.A ce (fun e s'' => cpost (model X.prog X.w) X.A X.xe (EP X pins σ Q) (.ref D) ce (.error e) s'')) s :=
    fun h hQ => wpAny_mono h hQ xout
  have I4 : Inv (blkW X s3 H3 scope ce fp Wx) [] (wipe σ (own.map (·.2))) H3 s4 := I4.wish _
  have stat : ∀ {σ' : L2.St} {H' : Hp} {s' : Shared}, Inv (blkW X s3 H3 scope ce fp Wx) [] σ' H' s' → (∀ b ∈ fp, H' b = none) → ∀ b ∈ fp, FpOk (blkW X s3 H3 scope ce fp Wx) [] H' b := fun {σ' H' s'} I' hn b hb =>
    ⟨hn b hb, (I'.ok.exf b hb).1, I'.ok.exfs b hb, .inl hb, fun x c e => (I'.ok.exf b hb).2 x c e, fun p hp => absurd (show p ∈ ([] : List (Addr × Obj)) ++ [] from hp) (by simp)⟩
  have loop : codeAny (model X.prog X.w) X.A (.compLoop (.ListComp elt [⟨tg, iter, ifs, 0⟩] scope pos) 0 (.ref it) (.ref D) ce) (cpost (model X.prog X.w) X.A X.xe (EP X pins σ Q) (.ref D) ce) s4 := by
    refine compLoop_any (fun n s' => ∃ i H', Inv (blkW X s3 H3 scope ce fp Wx) [] (wipe σ (own.map (·.2))) H' s' ∧ tn i s'.heap ∧ (∀ b ∈ fp, H' b = none) ∧ W i n H') ?_ m0 ⟨0, H3, I4, st4, nfp, w0⟩
    rintro n s5 ⟨i, H5, I5, st5, n5, w5⟩
    rcases turn i n H5 w5 with ⟨stop, qq⟩ | ⟨go, Nx, hNx, step⟩
    · have td := T.done (blkW X s3 H3 scope ce fp Wx) rfl rfl rfl hc i [] s5 _ H5 (fun _ _ => False) I5 (stat I5 n5) st5 stop
      refine thnF td fun r s6 ⟨hr, I6⟩ => ?_
      subst hr
      have I7 : Inv X pins σ H5 s6 := I3.call' (ch := fp) I6.os I6.base I6.hok I6.bare fun b hb => ⟨(f3 b hb).1.2.2.2.1, (f3 b hb).1.2.1, (f3 b hb).1.2.2.2.2.1, (f3 b hb).1.2.2.2.2.2⟩
      have nC : H5 s3.heap.objs.size = none := by
        have z : H5 ce.locals = none := I6.free
        rw [cL] at z
        exact z
      obtain ⟨m, hn, _⟩ := I6.loc
      have hn : s6.heap.Ns ce.locals m := hn
      refine ⟨m, hn, fun h'' sb => ?_⟩
      rw [cL] at sb
      obtain ⟨f0, f1, f2', f3', f4, f5⟩ := I3.fpOk (Nat.le_refl _) nC
      exact ⟨.ref D, H5, I7.turned (t' := s6.toks) (fun b o hb e => (sb.2 b hb).trans e) f0 f1 f3' f4 f5, rfl, qq⟩
    · have ti := T.item (blkW X s3 H3 scope ce fp Wx) rfl rfl rfl hc i [] s5 _ H5 (fun _ _ => False) I5 (stat I5 n5) st5 go
      refine thnF ti fun r s6 ⟨u, hr, h6⟩ => ?_
      subst hr
      refine thnF h6 fun _ s7 ⟨x, H7, I7, r7, y7, st7, n7⟩ => ?_
      have I7' := I7.pinned (stat I7 n7) (T.obj _ _ st7)
      refine thX (pg.run _ s7 _ H7 x u _ I7' r7 (step x H7 y7)) fun _ s8 ⟨σ8, H8, I8, hw8, q8⟩ => ?_
      refine thX (pt.run _ s8 σ8 H8 _ I8 q8) fun b s9 ⟨H9, I9, q9⟩ => ?_
      have fin : ∀ {s' : Shared} {H' : Hp}, Inv (blkW X s3 H3 scope ce fp Wx) ([] ++ pinsAt fp s7.heap) σ8 H' s' → Nx H' → ∃ m, m < n ∧ ∃ i H', Inv (blkW X s3 H3 scope ce fp Wx) [] (wipe σ (own.map (·.2))) H' s' ∧ tn i s'.heap ∧ (∀ b ∈ fp, H' b = none) ∧ W i m H' := fun {s' H'} I' nx => by
        obtain ⟨m', hm, w'⟩ := hNx H' nx
        have pin' : ∀ b ∈ fp, ∀ o, s7.heap.get? b = some o → s'.heap.get? b = some o ∧ H' b = none := fun b hb o e =>
          let z := I'.pin (b, o) (List.mem_append_right _ (List.mem_append_right _ (mem_pinsAt hb e)))
          ⟨z.1, z.2.1⟩
        have hl : (wipe σ (own.map (·.2))).length = σ8.length := by rw [← hw8, wipe_length]
        refine ⟨m', hm, i + 1, H', (I'.unpinned (pins := [])).weak hl (fun j v e => ?_), T.keep _ _ _ st7 fun b hb o e => (pin' b hb o e).1, fun b hb => ?_, w'⟩
        · rw [← hw8] at e
          exact (wipe_some e).1
        · obtain ⟨o, e, _⟩ := T.obj _ _ st7 b hb
          exact (pin' b hb o e).2
      cases b with
      | false =>
        simp only [Bool.false_eq_true, if_false] at q9 ⊢
        exact fin I9 q9
      | true =>
        simp only [if_true] at q9 ⊢
        refine thX (pe.run _ s9 σ8 H9 _ I9 q9) fun z s10 ⟨yv, H10, I10, r10, acc, hD10, hz10, nx⟩ => ?_
        exact app_ok (X := blkW X s3 H3 scope ce fp Wx) I10 hD10 hz10 r10 fun s11 I11 => fin I11 nx
  exact codeAny_compStart_list loop (T.self X.A 0 _ _ _ st4 loop)
/-- the element's wish, at whatever block -/
def teW (X : Cx) (RW : WX) (σ0 : L2.St) (scope : Scope) (elt : Expr) : TE := fun σ H Q => ∀ (s : Shared) (H0 : Hp) (C : Addr) (cl : List (Str × Addr)) (fp : List Addr), WE (blkW X s H0 scope (compEnvC scope cl C X.env) fp (fun cls d _ H => RW cls d σ0 H)) elt σ H Q
def ttW (X : Cx) (RW : WX) (σ0 : L2.St) (scope : Scope) : List Expr → TT
  | [] => tYes
  | c :: _ => fun σ H Q => ∀ (s : Shared) (H0 : Hp) (C : Addr) (cl : List (Str × Addr)) (fp : List Addr), WT (blkW X s H0 scope (compEnvC scope cl C X.env) fp (fun cls d _ H => RW cls d σ0 H)) c σ H Q
theorem we_lc {σ : L2.St} {H : Hp} {Q : VK} {elt tg iter : Expr} {scope : Scope} {own : List (Str × Nat)} {pos : Pos} {wi : TI} {g : TG}
    (hst : X.stack = X.env :: X.outer) (hfr : X.env.frame = some X.env.locals) (tk : Takes X RW) (hc : X.calm = true) (hN : X.N.Nodup) (hi : PI X tg iter wi) (ok : BlkOk X.N X.env.scope scope own)
    (hg : ∀ (s : Shared) (H : Hp) (C : Addr) (cl : List (Str × Addr)) (fp : List Addr), PG (blkW X s H scope (compEnvC scope cl C X.env) fp (fun cls d _ H => RW cls d σ H)) tg g)
    (h : tLc wi g tYes (teW X RW σ scope elt) (own.map (·.2)) σ H Q) (hs : ∀ x, foldedSetIterable iter X.env x = pure x := by intro _; rfl) :
    WE X (.ListComp elt [⟨tg, iter, [], 0⟩] scope pos) σ H Q := by
  refine ⟨fun pins s I => ?_⟩
  rw [eval_ListComp]
  exact lcX_core hst hfr tk hc hN I hi ok hg (fun _ _ _ _ _ => pts_nil) (fun s H0 C cl fp => ⟨fun pins s' σ' H' Q' I' q => (q s H0 C cl fp).run pins s' I'⟩) hs h
theorem we_lcI {σ : L2.St} {H : Hp} {Q : VK} {elt tg iter c : Expr} {scope : Scope} {own : List (Str × Nat)} {pos : Pos} {wi : TI} {g : TG}
    (hst : X.stack = X.env :: X.outer) (hfr : X.env.frame = some X.env.locals) (tk : Takes X RW) (hc : X.calm = true) (hN : X.N.Nodup) (hi : PI X tg iter wi) (ok : BlkOk X.N X.env.scope scope own)
    (hg : ∀ (s : Shared) (H : Hp) (C : Addr) (cl : List (Str × Addr)) (fp : List Addr), PG (blkW X s H scope (compEnvC scope cl C X.env) fp (fun cls d _ H => RW cls d σ H)) tg g)
    (h : tLc wi g (ttW X RW σ scope [c]) (teW X RW σ scope elt) (own.map (·.2)) σ H Q) (hs : ∀ x, foldedSetIterable iter X.env x = pure x := by intro _; rfl) :
    WE X (.ListComp elt [⟨tg, iter, [c], 0⟩] scope pos) σ H Q := by
  refine ⟨fun pins s I => ?_⟩
  rw [eval_ListComp]
  exact lcX_core hst hfr tk hc hN I hi ok hg (fun s H0 C cl fp => pts_one ⟨fun pins s' σ' H' Q' I' q => (q s H0 C cl fp).run pins s' I'⟩) (fun s H0 C cl fp => ⟨fun pins s' σ' H' Q' I' q => (q s H0 C cl fp).run pins s' I'⟩) hs h
end
end WP
end
section
set_option Elab.async false
set_option linter.all false
set_option maxRecDepth 100000
set_option maxHeartbeats 4000000
/-! Own errors whose __init__ stores nothing: made without arguments, raised. -/
namespace WP
open PySem PySem.Spec PyProof.Rows L2
section
variable {X : Cx}
theorem mk_endN {pins : List (Addr × Obj)} {σ : L2.St} {H1 H2 : Hp} {Q : XK} {hp hp2 h2 : Heap} {g1 g2 : Array GenState} {d1 d2 : Drawn} {t1 t2 : Nat} {os1 os2 : OsState} {a C : Addr} (T : Raises X (.ref C)) (I1 : Inv X pins σ H1 ⟨hp, g1, d1, t1, os1⟩)
    (ha : hp.objs.size ≤ a) (k : ∀ b o, hp.get? b = some o → hp2.get? b = some o) (un : Un (frs X.stack) [] (upd H1 a (exo a C none)) H2 hp2 h2) (hok : HOk X.prog X.w H2 h2) (ho : os2 = os1) (hb : AllBare g2)
    (ea : H2 a = some (exo a C none)) (q : Q (.ref C) none (del H2 a)) : MkP X pins σ Q (.ref a) ⟨h2, g2, d2, t2, os2⟩ := by
  obtain ⟨t0, hoe⟩ := exo_at hok ea
  have hn : H1 a = none := I1.hok.fresh ha
  obtain ⟨G, g1', g2'⟩ := restrict h2 fun b => decide (b ≠ a)
  have gk : ∀ b, b ≠ a → G.get? b = h2.get? b := fun b hb => g1' b (decide_eq_true hb)
  have ge : G.get? a = none := g2' a (by simp)
  have nha : ∀ {b : Addr} {o : Obj}, hp.get? b = some o → b ≠ a := fun {b o} z => Nat.ne_of_lt (Nat.lt_of_lt_of_le (Heap.lt_size z) ha)
  have up : ∀ {b : Addr}, b ≠ a → H1 b = none → upd H1 a (exo a C none) b = none := fun {b} hb n => by rw [upd_ne hb]; exact n
  have U : Un (frs X.stack) [] H1 (del H2 a) hp G := {
    keep := fun b o z n hf hx => by
      rw [gk b (nha z)]
      exact un.keep b o (k b o z) (up (nha z) n) hf hx
    slot := fun b o z n hf hx => by
      rw [gk b (nha z)]
      exact un.slot b o (k b o z) (up (nha z) n) hf hx
    free := fun b o z n hx => by
      rw [del_ne (nha z)]
      exact un.free b o (k b o z) (up (nha z) n) hx
    there := fun b o z hx => by
      rw [gk b (nha z)]
      exact un.there b o (k b o z) hx
    tups := fun b xs z => by
      rw [del_ne (ne_of_none z hn)]
      exact un.tups b xs (by rw [upd_ne (ne_of_none z hn)]; exact z)
    frzs := fun b o v z => by
      rw [del_ne (ne_of_none z hn)]
      exact un.frzs b o v (by rw [upd_ne (ne_of_none z hn)]; exact z)
    tbls := fun b ps z => by
      rw [del_ne (ne_of_none z hn)]
      exact un.tbls b ps (by rw [upd_ne (ne_of_none z hn)]; exact z) }
  have hok3 : HOk X.prog X.w (del H2 a) G := fun b o z => by
    have hba : b ≠ a := fun e => by
      rw [e, del_same] at z
      cases z
    rw [del_ne hba] at z
    have noa : ∀ {c : Addr}, H2 c = some (.own b) → c ≠ a := fun {c} hc => at_ne ea hc exo_own
    exact (hok b o z).stay (fun c v hc y => by
        have hca : c ≠ a := by
          rcases hc with hc | hc
          · rw [hc]
            exact hba
          · exact noa hc
        rw [gk c hca]
        exact y)
      (fun c hc => by rw [del_ne (noa hc)]; exact hc) (fun c xs hc => by rw [del_ne (at_ne ea hc exo_tup)]; exact hc)
  have J : Inv X pins σ (del H2 a) ⟨G, g2, d2, t2, os2⟩ := I1.call' (ch := []) ho U hok3 hb (fun b z => absurd z (by simp))
  refine ⟨a, _, _, ⟨G, g2, d2, t2, os2⟩, _, .ref C, none, rfl, J, fun b o z => ?_, ge, hoe, ⟨rfl, rfl⟩, rfl, rfl, del_same, rfl, hb, T, q⟩
  by_cases hba : b = a
  · have z' : G.get? b = some o := z
    rw [hba, ge] at z'
    cases z'
  · exact (gk b hba).symm.trans z
/-- the __init__ of such an error: nothing changes -/
def spVe (K : PySem.W.Frag) : Sp := fun vs H Q _ => ∃ a C, vs = [.ref a] ∧ OexC K C ∧ H a = some (exo a C none) ∧ Q .non H
/-- what the module says of an own error class without data -/
structure ErrC (P : Program) (w : World) (K : PySem.W.Frag) (mg : Str → Option Value) (base : Heap) (k : Nat) (x : Str) (C : Addr) : Prop where
  gC : mg x = some (.ref C)
  T : OexC K C
  ini : ∃ fI fd ps, PySem.W.findIn K (.ref C) "__init__" = some (some (.ref fI)) ∧ PySem.W.typeIn K (.ref fI) = some (.type "function") ∧ Binds K fd ps [] ∧ FnOk P w K mg base (L2.CX P w) k fI fd ps (spVe K)
/-- C() makes an error, whose own dict is none -/
theorem pmk_err {RW : WX} {x : Str} {C : Addr} {k : Nat} {p pos : Pos} (Er : ErrC X.prog X.w X.K X.mg X.base k x C) (hr : Room (k + 1) X.A) (tk0 : ∀ (pins : List (Addr × Obj)) (σ : L2.St) (H : Hp) (s : Shared) (e : Value) (s' : Shared), Inv X pins σ H s → L2.CX X.prog X.w X.stack H s (fun _ _ _ => False) e s' → X.xe e s') (hg : Gl X x)
    (hdb : (x == ("__debug__" : Str)) = false := by decide) : PMk X (.Call (.Name x p) [] [] pos) (fun _ H Q => Q (.ref C) none H) := by
  intro pins s σ H Q I q
  obtain ⟨fI, fd, ps, iC, tI, hb, F1⟩ := Er.ini
  have T := Er.T
  obtain ⟨nm, qn, N, bs, bm, sn, sub, ab, col, dd, k0, k1, k2, k3, k5, hC, hbm⟩ := T.cls
  refine wpAny_Call_Name_kw (ld_glob I hg Er.gC ?_ hdb)
  refine PySem.W.callWith_K0 I.kIn T.kC ?_
  show wpAny _ _ (call (.ref C) []) _ _ _
  obtain ⟨hp, g, dr, tk, os⟩ := s
  have hsz : hp.objs.size ≤ hp.objs.size + 1 := Nat.le_succ _
  have hn : H (hp.objs.size + 1) = none := I.hok.fresh hsz
  have kk : ∀ b o, hp.get? b = some o → ((hp.push (PySem.W.kdv_tup [])).push (PySem.HandSPX.excO C hp.objs.size)).get? b = some o := fun b o e => Heap.get?_push_of_some _ (Heap.get?_push_of_some _ e)
  have hget : ((hp.push (PySem.W.kdv_tup [])).push (PySem.HandSPX.excO C hp.objs.size)).get? (hp.objs.size + 1) = some (PySem.HandSPX.excO C hp.objs.size) := by heap_get
  have I2 : Inv X pins σ (upd H (hp.objs.size + 1) (exo (hp.objs.size + 1) C none)) ⟨(hp.push (PySem.W.kdv_tup [])).push (PySem.HandSPX.excO C hp.objs.size), g, dr, tk, os⟩ :=
    I.laid (t' := tk) (a := hp.objs.size + 1) (o := exo (hp.objs.size + 1) C none) (h' := (hp.push (PySem.W.kdv_tup [])).push (PySem.HandSPX.excO C hp.objs.size)) kk hsz (exo_ok hget)
  have r2 : Vals ([V.ref (hp.objs.size + 1)] : List V) [Value.ref (hp.objs.size + 1)] := .cons rfl .nil
  have hq : spVe X.K ([V.ref (hp.objs.size + 1)] : List V) (upd H (hp.objs.size + 1) (exo (hp.objs.size + 1) C none)) (fun v H2 => v = .non ∧ H2 = upd H (hp.objs.size + 1) (exo (hp.objs.size + 1) C none)) (fun _ _ _ => False) := ⟨_, C, rfl, T, upd_same, rfl, rfl⟩
  have hl : ([Value.ref (hp.objs.size + 1)] ++ ([] : List Value)).length = ps.length := F1.len _ _ _ _ hq
  refine wpAny_call (PySem.HandSPX.call_own F.excBase_ValueError (fun Y => PySem.HandSPX.refsVE_contains Y bm hbm) (I.kIn _ _ hC) (PySem.W.looks_findIn I.kIn iC) (fun self => PySem.W.bind_fn I.kIn self tI) (by show 0 ≤ sizeLine; decide)
    (codeAny_mono (F1.run _ X.stack _ _ ⟨[Value.ref (hp.objs.size + 1)], []⟩ ([Value.ref (hp.objs.size + 1)] ++ []) _ _ (fun _ _ _ => False) (hr.make C [] []) (I2.env0.make C [] []) (hb _ [Value.ref (hp.objs.size + 1)] I2.kIn hl) r2 hq) fun r s' hq' => ?_))
  cases r with
  | error er => exact tk0 pins σ _ _ er s' I2 hq'
  | ok fl =>
    cases fl with
    | ret u =>
      obtain ⟨v, H2, os2, bare2, un2, hok2, rv, ev, eH⟩ := hq'
      subst ev eH
      obtain ⟨h2, g2, d2, t2, os'⟩ := s'
      refine ⟨rv, mk_endN (raises_own T.exC T.tyC) I hsz kk un2 hok2 os2 bare2 upd_same ?_⟩
      have e : del (upd H (hp.objs.size + 1) (exo (hp.objs.size + 1) C none)) (hp.objs.size + 1) = H := by
        funext b
        by_cases h : b = hp.objs.size + 1
        · rw [h, del_same, hn]
        · rw [del_ne h, upd_ne h]
      rw [e]
      exact q
    | next => exact False.elim hq'
    | brk => exact False.elim hq'
    | cont => exact False.elim hq'
theorem cx_false {pins : List (Addr × Obj)} {σ : L2.St} {H : Hp} {s s' : Shared} {e : Value} (c : L2.CX X.prog X.w X.stack H s (fun _ _ _ => False) e s') : False := by
  obtain ⟨_, _, _, _, _, _, _, _, _, _, _, _, z⟩ := c
  exact z
/-- raise C() -/
theorem ws_raise {RW : WX} {x : Str} {C : Addr} {k : Nat} {p pos pos2 : Pos} {D : Ends} {σ : L2.St} {H : Hp} (Er : ErrC X.prog X.w X.K X.mg X.base k x C) (hr : Room (k + 1) X.A) (hc : X.calm = true) (tk : Takes X RW) (hg : Gl X x)
    (q : RW (.ref C) none σ H) (hdb : (x == ("__debug__" : Str)) = false := by decide) : WS X (.Raise (some (.Call (.Name x p) [] [] pos)) none pos2) D σ H :=
  .of (ps_raise hc tk (pmk_err (RW := RW) Er hr (fun pins σ H s e s' _ c => (cx_false (pins := pins) (σ := σ) c).elim) hg hdb)) q
end
end WP
end
section
set_option Elab.async false
set_option linter.all false
set_option maxRecDepth 100000
set_option maxHeartbeats 4000000
/-! Readings in short, by what is known of the values. -/
namespace WP
open PySem PySem.Spec PyProof.Rows L2
section
variable {X : Cx} {K : PySem.W.Frag} {H : Hp} {Q : VK} {x y v : V} {d e : PyData}
theorem i_isi {T : String} {b : Bool} (h : Dp K H x d) (hb : isiD d T = some b) (q : Q (.bl b) H) : rIsiD K [x, .ty T] H Q := ⟨x, T, d, b, rfl, h, hb, q⟩
theorem i_bl {P : Bool → Prop} {b : Bool} (h : P b) : ∃ k, V.bl b = .bl k ∧ P k := ⟨b, rfl, h⟩
theorem i_I0 {g : Int → Int → V} {i j : Int} (q : Q (g i j) H) : rI0 g (.int i) (.int j) H Q := ⟨i, j, rfl, rfl, q⟩
theorem i_I {C : Int → Int → Prop} {g : Int → Int → V} {i j : Int} (c : C i j) (q : Q (g i j) H) : rI C g (.int i) (.int j) H Q := ⟨i, j, rfl, rfl, c, q⟩
/-- == and != of flat things or of data -/
def rEqA (K : PySem.W.Frag) : R2 := fun x y H Q => rEq x y H Q ∨ rEqD K x y H Q
def rNeA (K : PySem.W.Frag) : R2 := fun x y H Q => rNe x y H Q ∨ rNeD K x y H Q
theorem op_eqA (hu : X.A.units + 64 < cLine) : OpR X (compareOp .Eq) (rEqA X.K) := opOr op_eq (op_eqD hu)
theorem op_neA (hu : X.A.units + 64 < cLine) : OpR X (compareOp .NotEq) (rNeA X.K) := opOr op_ne (op_neD hu)
theorem i_eqS (h : scal x y = true) (q : Q (.bl (decide (x = y))) H) : rEqA K x y H Q := .inl ⟨h, q⟩
theorem i_neS (h : scal x y = true) (q : Q (.bl (!decide (x = y))) H) : rNeA K x y H Q := .inl ⟨h, q⟩
theorem i_eqD (h : Dp K H x d) (h' : Dp K H y e) (s : SeqAt.shaped d = true) (s' : SeqAt.shaped e = true) (q : Q (.bl (PyData.eqv d e)) H) : rEqA K x y H Q := .inr ⟨d, e, h, h', s, s', q⟩
theorem i_neD (h : Dp K H x d) (h' : Dp K H y e) (s : SeqAt.shaped d = true) (s' : SeqAt.shaped e = true) (q : Q (.bl (!PyData.eqv d e)) H) : rNeA K x y H Q := .inr ⟨d, e, h, h', s, s', q⟩
/-- len -/
def rLn (K : PySem.W.Frag) : List V → Hp → VK → Prop := fun xs H Q => (∃ x n, xs = [x] ∧ LenV K x H n ∧ Q (.int n) H) ∨ ∃ a kvs, xs = [.ref a] ∧ H a = some (.dK kvs) ∧ Q (.int kvs.length) H
theorem call_ln : CallR X (.builtin "len") (rLn X.K) := callOr call_len call_lenD
theorem i_lenK {a : Addr} {kvs : List (Key × V)} (h : H a = some (.dK kvs)) (q : Q (.int kvs.length) H) : rLn K [.ref a] H Q := .inr ⟨a, kvs, rfl, h, q⟩
theorem i_lenT {a : Addr} {xs : List V} (h : SqT K H a xs) (q : Q (.int xs.length) H) : rLn K [.ref a] H Q := .inl ⟨_, _, rfl, .inr ⟨xs, h, rfl⟩, q⟩
theorem i_lenL {a : Addr} {xs : List V} (h : SqL K H a xs) (q : Q (.int xs.length) H) : rLn K [.ref a] H Q := .inl ⟨_, _, rfl, .inl ⟨xs, h, rfl⟩, q⟩
theorem i_lenS {z : Str} (h : z.length ≤ sizeLine) (q : Q (.int z.length) H) : rLn K [.str z] H Q := .inl ⟨_, _, rfl, ⟨h, rfl⟩, q⟩
theorem i_lenD {ds : List PyData} (h : Dp K H x (.tuple ds)) (q : Q (.int ds.length) H) : rLn K [x] H Q := by
  cases h with
  | tup h g =>
    have e := dpAll_len g
    exact i_lenT h (by rw [e]; exact q)
theorem fin_bl {b b' : Bool} (q : Q (.bl b) H) (e : b' = b) : Q (.bl b') H := by
  rw [e]
  exact q
theorem pe_of {v' : V} (q : Q v H) (e : v' = v) : Q v' H := by
  rw [e]
  exact q
/-- a test whose answer is known -/
theorem i_ift {b : Bool} {A B : Prop} (h : b = true) (q : A) : if b = true then A else B := by
  rw [if_pos h]
  exact q
theorem i_iff {b : Bool} {A B : Prop} (h : b = false) (q : B) : if b = true then A else B := by
  rw [if_neg (by rw [h]; exact Bool.false_ne_true)]
  exact q
theorem i_ite {b : Bool} {A B : Prop} (h1 : b = true → A) (h2 : b = false → B) : if b = true then A else B := by
  cases b with
  | true => exact iteT (h1 rfl)
  | false => exact iteF (h2 rfl)
theorem dTup_of (h : dTup d = true) : ∃ ds, d = .tuple ds := by
  cases d <;> first | exact ⟨_, rfl⟩ | cases h
theorem dStr_of (h : dStr d = true) : ∃ z, d = .str z := by
  cases d <;> first | exact ⟨_, rfl⟩ | cases h
theorem dp_str {z : Str} (h : Dp K H x (.str z)) : x = .str z := by cases h; rfl
theorem dp_int {z : Int} (h : Dp K H x (.int z)) : x = .int z := by cases h; rfl
theorem dp_bl {z : Bool} (h : Dp K H x (.bool z)) : x = .bl z := by cases h; rfl
theorem dp_non (h : Dp K H x .none) : x = .non := by cases h; rfl
theorem dp_tup {ds : List PyData} (h : Dp K H x (.tuple ds)) : ∃ a xs, x = .ref a ∧ SqT K H a xs ∧ DpAll K H xs ds := by
  cases h with
  | tup h g => exact ⟨_, _, rfl, h, g⟩
end
/-- is None, is not None -/
def rIsN : R2 := fun x y H Q => y = .non ∧ Q (.bl (decide (x = .non))) H
def rNotN : R2 := fun x y H Q => y = .non ∧ Q (.bl (!decide (x = .non))) H
theorem op_isNA {X : Cx} : OpR X (compareOp .Is) rIsN := op_isN
theorem op_notNA {X : Cx} : OpR X (compareOp .IsNot) rNotN := op_notN
theorem i_isN {x : V} {H : Hp} {Q : VK} (q : Q (.bl (decide (x = .non))) H) : rIsN x .non H Q := ⟨rfl, q⟩
theorem i_notN {x : V} {H : Hp} {Q : VK} (q : Q (.bl (!decide (x = .non))) H) : rNotN x .non H Q := ⟨rfl, q⟩
/-! ### the module's built-in names -/
structure BTy (mg : Str → Option Value) (x : Str) (T : String) : Prop where
  m : mg x = none
  b : bootBuiltins x = some (.type T)
theorem we_bty {X : Cx} {x : Str} {T : String} {σ : L2.St} {H : Hp} {Q : VK} {pos : Pos} (h : BTy X.mg x T) (hg : Gl X x) (q : Q (.ty T) H) (hn : x ≠ "__name__" := by decide) (hd : (x == ("__debug__" : Str)) = false := by decide) : WE X (.Name x pos) σ H Q :=
  we_ty h.m h.b hg q hn hd
end WP
end
section
set_option Elab.async false
set_option linter.all false
set_option maxRecDepth 100000
set_option maxHeartbeats 4000000
/-! enumerate of a tuple. -/
namespace WP
open PySem PySem.Spec PyProof.Rows L2
open Sem (wp)
open AutoSeq1 (wpAny_loadPart')
theorem meets_enumerate_newT (l : Addr) (items : Array Value) (n : Nat) (dct : Option Addr) (sl : Array (Option Value)) :
    Meets (Builtin.«enumerate.__new__» ⟨[.type "enumerate", .ref l], []⟩) (fun _ R s => s.heap.get? l = some { cls := .type "tuple", dict := dct, data := .seq items n, slots := sl } ∧
      R (.ok (.ret (.ref (s.heap.push { cls := .type "tuple_iterator", data := .fields #[.ref l, .int 0 0] }).objs.size)))
        { s with heap := (s.heap.push { cls := .type "tuple_iterator", data := .fields #[.ref l, .int 0 0] }).push { cls := .type "enumerate", data := .fields #[.none, .bool false, .ref s.heap.objs.size, rawInt 0, .none, .none] } }) :=
  .of_wp fun prog w A R s h => by
    obtain ⟨hp, g, d, tk, os⟩ := s; obtain ⟨hl, h⟩ := h
    have hsub := sub_enumerate
    have hL : Heap.IsTuple (Shared.heap ⟨hp, g, d, tk, os⟩) l items := ⟨_, hl, rfl, n, rfl⟩
    wp_walk using wpAny_loadPart' hl
    refine wpAny_stack_any fun st => wpAny_pure ?_
    split
    · rename_i c _ _ _ _ _
      cases (c == Value.type "enumerate")
      · wp_walk using wpAny_loadPart' hl, wpAny_pyIter_tuple hL
        exact ⟨_, rfl, h⟩
      · wp_walk using wpAny_loadPart' hl, wpAny_pyIter_tuple hL
        exact ⟨_, rfl, h⟩
    · wp_walk using wpAny_loadPart' hl, wpAny_pyIter_tuple hL
      exact ⟨_, rfl, h⟩
theorem call_enumerate_tuple {prog : Program} {w : World} {A : Around} {E : Value → Shared → Prop} {s : Shared} {l : Addr} {items : Array Value} {Q : Value → Shared → Prop} (hL : s.heap.IsTuple l items)
    (h : ∀ h', IsEnum h' (s.heap.objs.size + 1) s.heap.objs.size 0 .none → h'.IsTupleIter s.heap.objs.size l 0 → h'.objs.size = s.heap.objs.size + 2 →
      (∀ b o, s.heap.get? b = some o → h'.get? b = some o) → Q (.ref (s.heap.objs.size + 1)) { s with heap := h' }) :
    wpAny (model prog w) A (call (.type "enumerate") [.ref l]) Q E s := by
  obtain ⟨⟨c, dct, dt, sl⟩, hl, hc, n, hd⟩ := hL
  replace hc : c = .type "tuple" := hc
  replace hd : dt = .seq items n := hd
  subst hc hd
  refine callType_new F.called_enumerate (by decide) (F.typeCall_enumerate_1 _) (F.newCall_enumerate_1 _) (fun obj => F.args_object_init_2 obj _) F.entry_enumerate_new
    (meets_enumerate_newT l items n dct sl) ⟨hl, ?_⟩
  have hz : (s.heap.push { cls := .type "tuple_iterator", data := .fields #[.ref l, .int 0 0] }).objs.size = s.heap.objs.size + 1 := Heap.size_push ..
  show _ ∧ _
  rw [hz]
  have he : IsEnum ((s.heap.push { cls := .type "tuple_iterator", data := .fields #[.ref l, .int 0 0] }).push
      { cls := .type "enumerate", data := .fields #[.none, .bool false, .ref s.heap.objs.size, rawInt 0, .none, .none] }) (s.heap.objs.size + 1) s.heap.objs.size 0 .none := by
    have := Heap.get?_push_size (s.heap.push { cls := .type "tuple_iterator", data := .fields #[.ref l, .int 0 0] })
      (o := { cls := .type "enumerate", data := .fields #[.none, .bool false, .ref s.heap.objs.size, rawInt 0, .none, .none] }) rfl
    rw [hz] at this; exact this
  refine ⟨⟨_, he, rfl⟩, h _ he ⟨_, Heap.get?_push_of_some _ (Heap.get?_push_size _ rfl), rfl, rfl⟩ (by rw [Heap.size_push, hz]) fun b o x => Heap.get?_push_of_some _ (Heap.get?_push_of_some _ x)⟩
theorem wpAny_pyNext_enum_endT {prog : Program} {w : World} {A : Around} {E : Value → Shared → Prop} {s : Shared} {e it l : Addr} {i : Nat} {items : Array Value} {old : Value} {Q : Option Value → Shared → Prop} (hh : A.handled = none)
    (he : IsEnum s.heap e it i old) (hit : s.heap.IsTupleIter it l i) (hl : s.heap.IsTuple l items) (hx : items[i]? = none)
    (hQ : ∀ h', Heap.ExtBut it s.heap h' → Q none { s with heap := h' }) : wpAny (model prog w) A (pyNext (.ref e)) Q E s := by
  have hT : s.TypeIs (.ref e) "enumerate" := ⟨_, he, rfl⟩
  unfold pyNext
  refine wpAny_bind (wpAny_attempt (wpAny_callSpecial?_slot (name := Str.ofString "__next__") hT F.slot_enumerate_next
    (wpAny_call_entry F.slot_enumerate_next hT F.entry_enumerate_next ?_ (F.args_enumerate_next_1 _))))
  show wpAny _ _ (field (.ref e) 2 >>= _) _ _ _
  refine wpAny_bind (wpAny_field he rfl (x := .ref it) rfl ?_)
  refine wpAny_bind (wpAny_nextOf_tuple_end hh hit hl hx fun h' x he' hx' => ?_)
  obtain ⟨o, ho, hc⟩ := hx'
  refine wpAny_bind (wpAny_isInstance (T := "StopIteration") (b := true) ⟨o, ho, hc⟩ isSubtype_stop ?_)
  exact wpAny_pure (hQ _ he')
/-- the tuple at a as it stands at each turn, the items in new pairs -/
def IteT (K : PySem.W.Frag) (a : Addr) : It :=
  ⟨fun i H => ∃ (xs : List V) (x : V), SqT K H a xs ∧ xs[i]? = some x, fun i H v H' => ∃ T x, v = .ref T ∧ H T = none ∧ H' = upd H T (.tup [.int (i : Nat), x]) ∧ ∀ xs, SqT K H a xs → xs[i]? = some x, fun i H => ∃ xs : List V, SqT K H a xs ∧ xs.length ≤ i⟩
theorem turn_enumT {P : Program} {w : World} {K : PySem.W.Frag} {elts : List Expr} {kk : Nat} {tpos : Pos} (a e it : Addr) :
    Turn P w K (.Tuple elts kk tpos) (IteT K a) [e, it] e (fun i h => (∃ old, IsEnum h e it ((i : Nat) : Int) old) ∧ h.IsTupleIter it a i ∧ e ≠ it) where
  mem := by simp
  obj := fun i h st b hb => by
    obtain ⟨⟨old, he⟩, ⟨o, ho, hc, hd⟩, _⟩ := st
    have e' : b = e ∨ b = it := by simpa using hb
    rcases e' with z | z
    · rw [z]; exact ⟨_, he, fun v q => nomatch q⟩
    · rw [z]; exact ⟨o, ho, fun v q => by rw [hd] at q; cases q⟩
  keep := fun i h h' st k => let ⟨⟨old, he⟩, hi, hne⟩ := st; ⟨⟨old, k e (by simp) _ he⟩, hi.at fun o q => k it (by simp) o q, hne⟩
  item := by
    intro X hP hw hK hc i pins s σ H E I hf st hg
    subst hP hw hK
    obtain ⟨⟨old, he⟩, hit, hne⟩ := st
    obtain ⟨xs, x, hq, hx⟩ := hg
    obtain ⟨its, rv, p, hz⟩ := I.tuple hq
    obtain ⟨u, hu, ru⟩ := rv.get hx
    have hel : e < s.heap.objs.size := Heap.lt_size he
    have hil : it < s.heap.objs.size := by obtain ⟨_, q, _⟩ := hit; exact Heap.lt_size q
    have hai : a ≠ it := fun z => by
      obtain ⟨o1, q1, c1, _⟩ := hit
      obtain ⟨o2, q2, c2, _⟩ := p
      rw [z, q1] at q2; cases q2
      rw [c1] at c2; simp at c2
    have hae : e ≠ a := fun z => by
      obtain ⟨o2, q2, c2, _⟩ := p
      rw [← z, show s.heap.get? e = some _ from he] at q2; cases q2
      simp at c2
    have hin : i < its.toArray.size := by
      have q : its[i]? = some u := hu
      simpa using (List.getElem?_eq_some_iff.mp q).1
    refine wpAny_pyNext_enum_itemD (Draws.tuple (prog := X.prog) (w := X.w) (A := X.A.in1) (I.ok.hd hc) it a hai its.toArray) he ⟨hit, p⟩ hin hne (by simp [hne, hae]) fun x' h' tk hx' ho st' hT hsz hk => ?_
    have eu : x' = u := by
      have q : its.toArray[i]? = some u := by simpa using hu
      rw [hx'] at q
      exact Option.some.inj q
    subst eu
    refine ⟨_, rfl, wpAny_letOwnedTupleGo_enum (s := { s with heap := h', toks := tk + 1 }) ho fun h'' he' sb => ?_⟩
    have hT2 : h''.get? s.heap.objs.size = some { cls := .type "tuple", data := .seq #[.int i tk, x'] } := (sb.2 _ (Nat.ne_of_gt hel)).trans hT
    have new : ObjOk X.prog X.w (upd H s.heap.objs.size (.tup [.int (i : Nat), x])) h'' s.heap.objs.size (.tup [.int (i : Nat), x]) :=
      ⟨by show 2 ≤ sizeLine; decide, [.int i tk, x'], .cons ⟨_, rfl⟩ (.cons ru .nil), ⟨_, hT2, rfl, _, rfl⟩⟩
    have I1 : Inv X pins σ (upd H s.heap.objs.size (.tup [.int (i : Nat), x])) { s with heap := h'', toks := tk + 1 } :=
      I.turnedNew (ch := [e, it]) (fun b ob hb q => (sb.2 b (fun z => hb (by simp [z]))).trans (hk b ob (fun z => hb (by simp [z])) (fun z => hb (by simp [z])) q)) hf (Nat.le_refl _) new
    refine ⟨.ref s.heap.objs.size, _, I1, rfl, ⟨_, x, rfl, I.hok.fresh (Nat.le_refl _), rfl, fun ys hy => by rw [I.tuple_inj hy hq]; exact hx⟩, ⟨⟨x', ?_⟩, st'.1.at fun o q => (sb.2 it (Ne.symm hne)).trans q, hne⟩, fun b hb => ?_⟩
    · have e1 : ((i + 1 : Nat) : Int) = (i : Int) + 1 := by omega
      rw [e1]; exact he'
    · have hb' : b < s.heap.objs.size := by
        have e' : b = e ∨ b = it := by simpa using hb
        rcases e' with z | z
        · rw [z]; exact hel
        · rw [z]; exact hil
      rw [upd_ne (Nat.ne_of_lt hb')]
      exact (hf b hb).1
  done := by
    intro X hP hw hK hc i pins s σ H E I hf st hg
    subst hP hw hK
    obtain ⟨⟨old, he⟩, hit, hne⟩ := st
    obtain ⟨xs, hq, hx⟩ := hg
    obtain ⟨its, rv, p, hz⟩ := I.tuple hq
    obtain ⟨f0, f1, f2, f3, f4, f5⟩ := hf it (by simp)
    have hl := rv.length
    have hai : a ≠ it := fun z => by
      obtain ⟨o1, q1, c1, _⟩ := hit
      obtain ⟨o2, q2, c2, _⟩ := p
      rw [z, q1] at q2; cases q2
      rw [c1] at c2; simp at c2
    refine wpAny_pyNext_enum_endT (I.ok.hd hc) he hit p (by simp; omega) fun h' eb => ⟨rfl, I.turned (t' := s.toks) (fun b o hb q => eb b o hb q) f0 f1 f3 f4 f5⟩
  self := fun A i s Q E st h => let ⟨⟨_, he⟩, _⟩ := st; wpAny_pyIter_enum he h
def iEnumT (K : PySem.W.Frag) (ta : TA) : TI := fun σ H R => ta σ H fun vs H1 => ∃ a xs, vs = [.ref a] ∧ SqT K H1 a xs ∧ R (IteT K a) H1
theorem pi_enumT {X : Cx} {e : Expr} {ta : TA} {p pos tpos : Pos} {elts : List Expr} {kk : Nat} (hg : Gl X "enumerate") (hm : X.mg "enumerate" = none) (ha : PA X [e] ta) (hs : starEach [e] X.env = [(false, eval e X.env)] := by rfl) :
    PI X (.Tuple elts kk tpos) (.Call (.Name "enumerate" p) [e] [] pos) (iEnumT X.K ta) := by
  refine ⟨fun pins s σ H R I h => ?_⟩
  refine Call_ (ld_blt I hg hm boot_enumerate (PyProof.Rows.callWith_type1 (thn (ha.run pos pins s σ H _ I h) fun us s1 ⟨vs, H1, I1, r1, q1⟩ => ?_) hs rfl))
  obtain ⟨a, xs, ex, hq, q⟩ := q1
  subst ex
  cases r1 with
  | cons r rr =>
    cases rr
    cases r
    obtain ⟨its, rv, p', hz⟩ := I1.tuple hq
    refine call_enumerate_tuple (show s1.heap.IsTuple a its.toArray from p') fun h' he hit hsz hk => wpAny_pyIter_enum he ?_
    have I2 : Inv X pins σ H1 { s1 with heap := h' } := I1.kept (t' := s1.toks) hk
    refine ⟨s1.heap.objs.size + 1, [s1.heap.objs.size + 1, s1.heap.objs.size], _, _, H1, rfl, I2, turn_enumT a (s1.heap.objs.size + 1) s1.heap.objs.size, ⟨⟨.none, he⟩, hit, Nat.succ_ne_self _⟩, fun b hb => ?_, q⟩
    have e' : b = s1.heap.objs.size + 1 ∨ b = s1.heap.objs.size := by simpa using hb
    have hle : s1.heap.objs.size ≤ b := by
      rcases e' with z | z
      · rw [z]; exact Nat.le_add_right _ _
      · rw [z]; exact Nat.le_refl _
    exact I1.fpOk hle (I1.hok.fresh hle)
/-- what a turn over enumerate gives: a new pair -/
def YEn (xs : List V) : Nat → Hp → V → Hp → Prop := fun i H v H' => ∃ T x, v = .ref T ∧ H T = none ∧ H' = upd H T (.tup [.int (i : Nat), x]) ∧ xs[i]? = some x
theorem walk_enumT {K : PySem.W.Frag} {a : Addr} {xs : List V} : Walk (IteT K a) xs.length (fun H => SqT K H a xs) (YEn xs) :=
  ⟨fun i _ hi q => ⟨xs, xs[i], q, by simp [hi]⟩, fun _ q => ⟨xs, q, Nat.le_refl _⟩, fun _ _ _ _ _ q y => let ⟨T, x, e1, e2, e3, e4⟩ := y; ⟨T, x, e1, e2, e3, e4 xs q⟩⟩
end WP
end
section
set_option Elab.async false
set_option linter.all false
set_option maxRecDepth 100000
set_option maxHeartbeats 4000000
/-! Methods of built-in types and of own classes, instances without __init__, while and for by invariants. -/
namespace WP
open PySem PySem.Spec PyProof.Rows L2
open PySem.W (makesIn findIn looks_findIn oi_bind oi_plain entry_oi oi_kind oi_split oi_run check_slot Looks)
section
variable {X : Cx} {RW : WX} {e o a b c : Expr} {es : List Expr} {σ : L2.St} {H : Hp} {Q : VK} {pos p apos cpos : Pos} {k : Nat} {x m name : Str} {sp : Sp} {C : Addr} {T id : String} {r : V → List V → Hp → VK → Prop} {D : Ends}
theorem we_bm0 (pla : PlainAttrs T) (slot : Slot T name id) (hty : typeOf (.builtin id) = pure (.type "method_descriptor")) (hm : MtR X id r) (q : WE X o σ H fun x H1 => tyV X.K T x H1 ∧ r x [] H1 Q)
    (hbase : attributeBase o name X.env (eval o X.env) = eval o X.env := by rfl) (hline : (apos.endLine == cpos.line) = true := by rfl) : WE X (.Call (.Attribute o name apos) [] [] cpos) σ H Q := .of (pe_bm0 pla slot hty hm pe hbase hline) q
theorem we_bm (pla : PlainAttrs T) (slot : Slot T name id) (hty : typeOf (.builtin id) = pure (.type "method_descriptor")) (hm : MtR X id r) (q : WE X o σ H fun x H1 => tyV X.K T x H1 ∧ WA X (e :: es) σ H1 fun xs H2 => r x xs H2 Q)
    (hbase : attributeBase o name X.env (eval o X.env) = eval o X.env := by rfl)
    (hfew : ((backTo cpos (starEach (e :: es) X.env)).all (fun x => !x.1) && (backToKw cpos (keywordEach [] X.env)).all (fun x => x.1.isSome)
      && decide ((e :: es).length + ([] : List Keyword).length + (if ([] : List Keyword).isEmpty then 0 else 1) < 30)) = true := by rfl)
    (hline : (apos.endLine == cpos.line) = true := by rfl) (hs : starEach (e :: es) X.env = (false, eval e X.env) :: starEach es X.env := by rfl) (hplain : (backTo cpos (starEach es X.env)).any (·.1) = false := by rfl) :
    WE X (.Call (.Attribute o name apos) (e :: es) [] cpos) σ H Q := .of (pe_bm pla slot hty hm pe pa hbase hfew hline hs hplain) q
theorem we_append (q : WE X o σ H fun x H1 => tyV X.K "list" x H1 ∧ WA X (e :: es) σ H1 fun xs H2 => rAppend x xs H2 Q)
    (hbase : attributeBase o "append" X.env (eval o X.env) = eval o X.env := by rfl)
    (hfew : ((backTo cpos (starEach (e :: es) X.env)).all (fun x => !x.1) && (backToKw cpos (keywordEach [] X.env)).all (fun x => x.1.isSome)
      && decide ((e :: es).length + ([] : List Keyword).length + (if ([] : List Keyword).isEmpty then 0 else 1) < 30)) = true := by rfl)
    (hline : (apos.endLine == cpos.line) = true := by rfl) (hs : starEach (e :: es) X.env = (false, eval e X.env) :: starEach es X.env := by rfl) (hplain : (backTo cpos (starEach es X.env)).any (·.1) = false := by rfl) :
    WE X (.Call (.Attribute o "append" apos) (e :: es) [] cpos) σ H Q := we_bm PySem.F.plainAttrs_list PySem.F.slot_list_append PySem.F.type_list_append mt_append q hbase hfew hline hs hplain
theorem we_extend (q : WE X o σ H fun x H1 => tyV X.K "list" x H1 ∧ WA X (e :: es) σ H1 fun xs H2 => rExtend x xs H2 Q)
    (hbase : attributeBase o "extend" X.env (eval o X.env) = eval o X.env := by rfl)
    (hfew : ((backTo cpos (starEach (e :: es) X.env)).all (fun x => !x.1) && (backToKw cpos (keywordEach [] X.env)).all (fun x => x.1.isSome)
      && decide ((e :: es).length + ([] : List Keyword).length + (if ([] : List Keyword).isEmpty then 0 else 1) < 30)) = true := by rfl)
    (hline : (apos.endLine == cpos.line) = true := by rfl) (hs : starEach (e :: es) X.env = (false, eval e X.env) :: starEach es X.env := by rfl) (hplain : (backTo cpos (starEach es X.env)).any (·.1) = false := by rfl) :
    WE X (.Call (.Attribute o "extend" apos) (e :: es) [] cpos) σ H Q := we_bm PySem.F.plainAttrs_list PySem.F.slot_list_extend PySem.F.type_list_extend mt_extend q hbase hfew hline hs hplain
theorem we_pop (q : WE X o σ H fun x H1 => tyV X.K "list" x H1 ∧ rPop x [] H1 Q)
    (hbase : attributeBase o "pop" X.env (eval o X.env) = eval o X.env := by rfl) (hline : (apos.endLine == cpos.line) = true := by rfl) : WE X (.Call (.Attribute o "pop" apos) [] [] cpos) σ H Q := we_bm0 PySem.F.plainAttrs_list PySem.F.slot_list_pop PySem.F.type_list_pop mt_pop q hbase hline
/-- what a list that stands in H gives -/
theorem i_lstT {l : Addr} {xs : List V} (h : H l = some (.lst xs)) {P : Prop} (q : P) : tyV X.K "list" (.ref l) H ∧ P := ⟨.inl ⟨rfl, xs, SqL.of h⟩, q⟩
theorem i_append {l : Addr} {xs : List V} {y : V} (h : H l = some (.lst xs)) (hz : xs.length < sizeLine) (q : Q .non (upd H l (.lst (xs ++ [y])))) : rAppend (.ref l) [y] H Q := ⟨l, xs, y, rfl, rfl, h, hz, q⟩
theorem i_extend {l b : Addr} {xs zs : List V} (h : H l = some (.lst xs)) (h2 : H b = some (.lst zs)) (hz : xs.length + zs.length ≤ sizeLine) (q : Q .non (upd H l (.lst (xs ++ zs)))) : rExtend (.ref l) [.ref b] H Q := ⟨l, b, xs, zs, rfl, rfl, h, h2, hz, q⟩
theorem i_pop {l : Addr} {xs : List V} {y : V} (h : H l = some (.lst (xs ++ [y]))) (q : Q y (upd H l (.lst xs))) : rPop (.ref l) [] H Q := ⟨l, xs ++ [y], y, rfl, rfl, h, by simp, by rw [List.dropLast_concat]; exact q⟩
/-- o.m(e, ..), m a def of an own class -/
theorem we_meth {pl : Sem Bool} (M : MDef X.prog X.w X.K X.mg X.base k C m sp) (cl : Cls X.K C) (hr : Room k X.A) (pa' : Pas X RW) (q : WE X o σ H fun x H1 => ∃ a dx fs, x = .ref a ∧ H1 a = some (.ins C dx fs) ∧ fs.lookup m = none ∧ WA X (e :: es) σ H1 fun vs H2 => sp (x :: vs) H2 Q fun cls d H' => RW cls d σ H')
    (hst : starEach (e :: es) X.env = (false, eval e X.env) :: starEach es X.env := by rfl) (hpl : (backTo pos (starEach es X.env)).any (·.1) = false := by rfl)
    (ht : eval (.Call (.Attribute o m apos) (e :: es) [] pos) X.env = (do
      let ov ← eval o X.env
      standAt apos.atName
      let (f, first) ← holding [ov] (getMethod ov m pl)
      callWith pos f first (backTo pos (starEach (e :: es) X.env)) (backToKw pos (keywordEach [] X.env))) := by rfl) :
    WE X (.Call (.Attribute o m apos) (e :: es) [] pos) σ H Q := by
  obtain ⟨f, fd, ps, hm, hb, F⟩ := M.ex
  refine ⟨fun pins s I => ?_⟩
  refine PySem.W.methodCall_KW (pl := pl) (thn (q.run pins s I) fun u s1 ⟨x, H1, I1, rx, a, dx, fs, ex, ea, l, q⟩ => ?_) ht
  subst ex
  obtain rfl : u = Value.ref a := rx
  refine getmeth_ok I1 ea cl hm l ?_
  refine PySem.W.callWith_K (first := [.ref a]) (h₀ := X.base) I.ok.mod.kin hm.kp (thn (q.run pos pins s1 I1) fun us s2 ⟨vs, H2, I2, r, q2⟩ => ⟨I2.kIn, ?_⟩) hst hpl
  exact run_fnS (us := .ref a :: us) (vs := .ref a :: vs) (E := fun σ cls d H' => RW cls d σ H') F hr hb (pa' σ) I2 (.cons rfl r) q2
theorem we_call' (F : Def X.prog X.w X.K X.mg X.base k x sp) (hr : Room k X.A) (pa' : Pas X RW) (hg : Gl X x) (q : WA X (e :: es) σ H fun vs H1 => sp vs H1 Q fun cls d H' => RW cls d σ H')
    (hdb : (x == ("__debug__" : Str)) = false := by decide) (he : starEach (e :: es) X.env = (false, eval e X.env) :: starEach es X.env := by rfl) (hpl : (backTo pos (starEach es X.env)).any (·.1) = false := by rfl) : WE X (.Call (.Name x p) (e :: es) [] pos) σ H Q := by
  obtain ⟨f, fd, ps, hm, hk, hb, F⟩ := F.ex
  exact .of (pe_callS (E := fun σ cls d H' => RW cls d σ H') F hr hg hm hk hb pa' pa hdb he hpl) q
/-- C(), C a class of the text without own __init__ -/
structure Mk0 (K : PySem.W.Frag) (C : Addr) : Prop where
  makes : makesIn K C = true
  init : findIn K (.ref C) "__init__" = some (some (.builtin "object.__init__"))
  kp : PySem.W.keepIn K (.ref C) = true
theorem we_make0 (M : Mk0 X.K C) (hg : Gl X x) (hm : X.mg x = some (.ref C)) (q : ∀ y dx, H y = none → H dx = none → dx ≠ y → Q (.ref y) (upd (upd H dx (.own y)) y (.ins C dx [])))
    (hdb : (x == ("__debug__" : Str)) = false := by decide) : WE X (.Call (.Name x p) [] [] pos) σ H Q := by
  refine ⟨fun pins s I => ?_⟩
  refine wpAny_Call_Name_kw (ld_glob I hg hm ?_ hdb)
  refine PySem.W.callWith_K0 I.kIn M.kp ?_
  show wpAny _ _ (call (.ref C) []) _ _ _
  have hq := q (s.heap.objs.size + 1) s.heap.objs.size (I.hok.fresh (Nat.le_succ _)) (I.hok.fresh (Nat.le_refl _)) (Nat.ne_of_lt (Nat.lt_succ_self _))
  have I2 := Inv.made (C := C) I
  refine wpAny_call (make_map0 I.kIn M.makes M.init (fun self => Looks.of_pure (oi_bind self)) ?_)
  have t1 : Looks (model X.prog X.w) ((s.heap.push PySem.W.emptyDict).push (PySem.W.instObj C s.heap.objs.size)) (typeOf (.ref (s.heap.objs.size + 1))) (.ref C) := by
    have e2 : ((s.heap.push PySem.W.emptyDict).push (PySem.W.instObj C s.heap.objs.size)).get? (s.heap.objs.size + 1) = some (PySem.W.instObj C s.heap.objs.size) := by
      have z := Heap.get?_push_size (s.heap.push PySem.W.emptyDict) (o := PySem.W.instObj C s.heap.objs.size) rfl
      rw [Heap.size_push] at z
      exact z
    exact NwA.type_at e2 rfl
  have t2 : Looks (model X.prog X.w) ((s.heap.push PySem.W.emptyDict).push (PySem.W.instObj C s.heap.objs.size)) (isInstance (.ref (s.heap.objs.size + 1)) (.type "object")) true := t1.andThen (PySem.W.looks_mroIn (I2.kIn) (mro_obj M.makes))
  refine codeAny_call_builtin oi_plain entry_oi (@check_slot (model X.prog X.w) _ _ _ "object.__init__" "object" "__init__" (.ref (s.heap.objs.size + 1)) [] [] _ oi_kind oi_split t2 (NwA.oi_args_any _ _ _) ?_)
  rw [oi_run]
  exact wpAny_pure ⟨rfl, .ref (s.heap.objs.size + 1), _, I2, rfl, hq⟩
theorem wt_mono {QT QT' : Bool → Hp → Prop} (h : ∀ b H1, QT b H1 → QT' b H1) (q : WT X c σ H QT) : WT X c σ H QT' := ⟨fun pins s I => thn (q.run pins s I) fun _ _ ⟨H', I', z⟩ => ⟨H', I', h _ _ z⟩⟩
theorem ws_whileI {body : List Stmt} (hp : PassesOwn (model X.prog X.w) X.A X.env X.xe) (Pv : L2.St → Hp → Prop) (μ : L2.St → Hp → Nat) (h0 : Pv σ H)
    (hs : ∀ σ H, Pv σ H → WT X c σ H fun b H1 => if b = true then WB X body { D with nx := fun σ' H' => Pv σ' H' ∧ μ σ' H' < μ σ H, ct := fun σ' H' => Pv σ' H' ∧ μ σ' H' < μ σ H, bk := D.nx } σ H1 else D.nx σ H1) : WS X (.While c body [] pos) D σ H :=
  ws_while hp (while_by (c := WT X c) (tb := WB X body) Pv μ h0 hs fun _ _ _ _ h q => wt_mono h q)
end
end WP
end
section
set_option Elab.async false
set_option linter.all false
set_option maxRecDepth 100000
set_option maxHeartbeats 4000000
/-! Comprehensions by what their elements are. -/
namespace WP
open PySem PySem.Spec PyProof.Rows L2
/-- what the element at i is, at a heap; it stays so where all tracked things stay, and where a list changes -/
structure Stay (R : Nat → Hp → V → Prop) : Prop where
  same : ∀ i H H' v, Same H H' → R i H v → R i H' v
  upd : ∀ i H v D ys zs, H D = some (.lst ys) → R i H v → R i (upd H D (.lst zs)) v
theorem stay_val {f : Nat → V} : Stay (fun i _ v => v = f i) := ⟨fun _ _ _ _ _ h => h, fun _ _ _ _ _ _ _ h => h⟩
theorem stay_ex {α : Type} {R : α → Nat → Hp → V → Prop} (h : ∀ a, Stay (R a)) : Stay (fun i H v => ∃ a, R a i H v) :=
  ⟨fun i H H' v s ⟨a, r⟩ => ⟨a, (h a).same i H H' v s r⟩, fun i H v D ys zs e ⟨a, r⟩ => ⟨a, (h a).upd i H v D ys zs e r⟩⟩
/-- a new tuple of such values -/
theorem stay_tup {f : Nat → List V} : Stay (fun i H v => ∃ p, v = .ref p ∧ H p = some (.tup (f i))) :=
  ⟨fun i H H' v s ⟨p, e, h⟩ => ⟨p, e, s _ _ h⟩, fun i H v D ys zs e ⟨p, e', h⟩ => ⟨p, e', by rw [upd_ne (ne_of h e (fun z => nomatch z))]; exact h⟩⟩
mutual
def nolist : PyData → Bool
  | .list _ => false
  | .tuple ds => nolists ds
  | _ => true
def nolists : List PyData → Bool
  | [] => true
  | d :: ds => nolist d && nolists ds
end
theorem sqT_updL {K : PySem.W.Frag} {H : Hp} {a D : Addr} {xs ys zs : List V} (e : H D = some (.lst ys)) (h : SqT K H a xs) : SqT K (upd H D (.lst zs)) a xs := by
  rcases h with (h | ⟨o, h⟩) | h
  · exact .inl (.inl (by rw [upd_ne (ne_of h e (fun z => nomatch z))]; exact h))
  · exact .inl (.inr ⟨o, by rw [upd_ne (ne_of h e (fun z => nomatch z))]; exact h⟩)
  · exact .inr h
mutual
theorem dp_updL {K : PySem.W.Frag} {H : Hp} {D : Addr} {ys zs : List V} (e : H D = some (.lst ys)) : ∀ {d : PyData} {v : V}, nolist d = true → Dp K H v d → Dp K (upd H D (.lst zs)) v d
  | _, _, _, .non => .non
  | _, _, _, .bl b => .bl b
  | _, _, _, .int i => .int i
  | _, _, _, .str x => .str x
  | _, _, n, .lst h g => by simp [nolist] at n
  | _, _, n, .tup h g => .tup (sqT_updL e h) (dpAll_updL e (by simpa [nolist] using n) g)
theorem dpAll_updL {K : PySem.W.Frag} {H : Hp} {D : Addr} {ys zs : List V} (e : H D = some (.lst ys)) : ∀ {ds : List PyData} {vs : List V}, nolists ds = true → DpAll K H vs ds → DpAll K (upd H D (.lst zs)) vs ds
  | _, _, _, .nil => .nil
  | _, _, n, .cons h g => by
    simp only [nolists, Bool.and_eq_true] at n
    exact .cons (dp_updL e n.1 h) (dpAll_updL e n.2 g)
end
theorem stay_dp {K : PySem.W.Frag} {f : Nat → PyData} (h : ∀ i, nolist (f i) = true) : Stay (fun i H v => Dp K H v (f i)) :=
  ⟨fun i H H' v s r => dp_mono s r, fun i H v D ys zs e r => dp_updL e (h i) r⟩
section
variable {J : It} {n : Nat} {G : Hp → Prop} {Y : Nat → Hp → V → Hp → Prop} {g : TG} {te : TE} {tt : TT} {vs : List Nat} {σ : L2.St} {H1 : Hp} {D : Addr} {Qd : Hp → Prop}
/-- [e for .. in ..]: R tells the elements -/
theorem lc_R (R : Nat → Hp → V → Prop) (st : Stay R) (w : Walk J n G Y) (hn : n < sizeLine) (hD : H1 D = none) (hG : ∀ H, Same H1 H → G H)
    (hs : ∀ i x H H', i < n → Same H1 H → Y i H x H' → g x (wipe σ vs) H' fun σ2 H2 => wipe σ2 vs = wipe σ vs ∧ te σ2 H2 fun y H4 => Same H H4 ∧ R i H4 y)
    (hm : ∀ σ H Q Q', (∀ v H, Q v H → Q' v H) → te σ H Q → te σ H Q') (gm : ∀ x σ H Q Q', (∀ σ H, Q σ H → Q' σ H) → g x σ H Q → g x σ H Q')
    (hd : ∀ H acc, Same H1 H → H D = some (.lst acc) → acc.length = n → (∀ i v, acc[i]? = some v → R i H v) → Qd H) :
    ∃ W : Nat → Nat → Hp → Prop, (∃ m, W 0 m (upd H1 D (.lst []))) ∧ ∀ i m H, W i m H →
      (J.stop i H ∧ Qd H) ∨ (J.go i H ∧ ∃ Nx : Hp → Prop, (∀ H', Nx H' → ∃ m', m' < m ∧ W (i + 1) m' H') ∧ ∀ x H', J.yld i H x H' → g x (wipe σ vs) H' fun σ2 H2 => wipe σ2 vs = wipe σ vs ∧ tYes σ2 H2 fun b H3 =>
        if b = true then te σ2 H3 fun y H4 => ∃ acc, H4 D = some (.lst acc) ∧ acc.length < sizeLine ∧ Nx (upd H4 D (.lst (acc ++ [y]))) else Nx H3) := by
  refine lc_it w (fun i H => Same H1 H ∧ ∃ acc, H D = some (.lst acc) ∧ acc.length = i ∧ ∀ j v, acc[j]? = some v → R j H v) ⟨Same.new hD, [], upd_same, rfl, fun j v e => by simp at e⟩ (fun i H _ h => hG H h.1) ?_ ?_
  · rintro i x H H' hi ⟨s1, acc, hl, hz, hR⟩ y
    refine gm _ _ _ _ _ (fun σ2 H2 ⟨e, q⟩ => ⟨e, ?_⟩) (hs i x H H' hi s1 y)
    unfold tYes
    refine iteT (hm _ _ _ _ (fun v H4 ⟨s4, r4⟩ => ?_) q)
    have h4 := s4 D _ hl
    refine ⟨acc, h4, by omega, (s1.trans s4).mut hD, acc ++ [v], upd_same, by simp [hz], fun j u e => ?_⟩
    by_cases hj : j < acc.length
    · rw [List.getElem?_append_left hj] at e
      exact st.upd _ _ _ _ _ _ h4 (st.same _ _ _ _ s4 (hR j u e))
    · have hje : j = acc.length := by
        have := (List.getElem?_eq_some_iff.mp e).1
        simp at this
        omega
      subst hje
      simp at e
      subst e
      rw [hz]
      exact st.upd _ _ _ _ _ _ h4 r4
  · rintro H ⟨s1, acc, hl, hz, hR⟩
    exact hd H acc s1 hl hz hR
/-- [e for .. in .. if c]: the values and the tests are known by the turn -/
theorem lc_F (p : Nat → Bool) (f : Nat → V) (w : Walk J n G Y) (hn : n < sizeLine) (hD : H1 D = none) (hG : ∀ H, Same H1 H → G H)
    (hs : ∀ i x H H', i < n → Same H1 H → Y i H x H' → g x (wipe σ vs) H' fun σ2 H2 => wipe σ2 vs = wipe σ vs ∧ tt σ2 H2 fun b H3 => Same H H3 ∧ b = p i ∧ (b = true → te σ2 H3 fun y H4 => Same H H4 ∧ y = f i))
    (hm : ∀ σ H Q Q', (∀ v H, Q v H → Q' v H) → te σ H Q → te σ H Q') (tm : ∀ σ H Q Q', (∀ b H, Q b H → Q' b H) → tt σ H Q → tt σ H Q') (gm : ∀ x σ H Q Q', (∀ σ H, Q σ H → Q' σ H) → g x σ H Q → g x σ H Q')
    (hd : ∀ H, Same H1 H → H D = some (.lst (((List.range n).filter p).map f)) → Qd H) :
    ∃ W : Nat → Nat → Hp → Prop, (∃ m, W 0 m (upd H1 D (.lst []))) ∧ ∀ i m H, W i m H →
      (J.stop i H ∧ Qd H) ∨ (J.go i H ∧ ∃ Nx : Hp → Prop, (∀ H', Nx H' → ∃ m', m' < m ∧ W (i + 1) m' H') ∧ ∀ x H', J.yld i H x H' → g x (wipe σ vs) H' fun σ2 H2 => wipe σ2 vs = wipe σ vs ∧ tt σ2 H2 fun b H3 =>
        if b = true then te σ2 H3 fun y H4 => ∃ acc, H4 D = some (.lst acc) ∧ acc.length < sizeLine ∧ Nx (upd H4 D (.lst (acc ++ [y]))) else Nx H3) := by
  refine lc_it w (fun i H => Same H1 H ∧ H D = some (.lst (((List.range i).filter p).map f))) ⟨Same.new hD, upd_same⟩ (fun i H _ h => hG H h.1) ?_ ?_
  · rintro i x H H' hi ⟨s1, hl⟩ y
    refine gm _ _ _ _ _ (fun σ2 H2 ⟨e, q⟩ => ⟨e, tm _ _ _ _ (fun b H3 ⟨s3, hb, q3⟩ => ?_) q⟩) (hs i x H H' hi s1 y)
    cases b with
    | true =>
      refine iteT (hm _ _ _ _ (fun v H4 ⟨s4, e4⟩ => ?_) (q3 rfl))
      have h4 := s4 D _ hl
      refine ⟨_, h4, ?_, (s1.trans s4).mut hD, ?_⟩
      · have := List.length_filter_le p (List.range i)
        simp at this
        simp
        omega
      · rw [upd_same, List.range_succ, List.filter_append, List.map_append, e4]
        simp [← hb]
    | false =>
      refine iteF ⟨s1.trans s3, ?_⟩
      rw [s3 D _ hl, List.range_succ, List.filter_append, List.map_append]
      simp [← hb]
  · rintro H ⟨s1, hl⟩
    exact hd H s1 hl
end
theorem teW_mono {X : Cx} {RW : WX} {σ0 : L2.St} {scope : Scope} {elt : Expr} (σ : L2.St) (H : Hp) (Q Q' : VK) (h : ∀ v H, Q v H → Q' v H) (q : teW X RW σ0 scope elt σ H Q) : teW X RW σ0 scope elt σ H Q' := fun s H0 C cl fp => (q s H0 C cl fp).mono h
theorem ttW_mono {X : Cx} {RW : WX} {σ0 : L2.St} {scope : Scope} {ifs : List Expr} (σ : L2.St) (H : Hp) (Q Q' : Bool → Hp → Prop) (h : ∀ v H, Q v H → Q' v H) (q : ttW X RW σ0 scope ifs σ H Q) : ttW X RW σ0 scope ifs σ H Q' := by
  cases ifs with
  | nil => exact h _ _ q
  | cons c r => exact fun s H0 C cl fp => wt_mono h (q s H0 C cl fp)
theorem gName_mono {i : Nat} (x : V) (σ : L2.St) (H : Hp) (Q Q' : L2.St → Hp → Prop) (h : ∀ σ H, Q σ H → Q' σ H) (q : gName i x σ H Q) : gName i x σ H Q' := h _ _ q
theorem gTup2_mono {K : PySem.W.Frag} {i j : Nat} (x : V) (σ : L2.St) (H : Hp) (Q Q' : L2.St → Hp → Prop) (h : ∀ σ H, Q σ H → Q' σ H) (q : gTup K 2 (gCons (gName i) (gCons (gName j) gNil)) x σ H Q) : gTup K 2 (gCons (gName i) (gCons (gName j) gNil)) x σ H Q' := by
  obtain ⟨a, xs, e1, h1, h2, v, r, e3, v2, r2, e4, e5, q⟩ := q
  exact ⟨a, xs, e1, h1, h2, v, r, e3, v2, r2, e4, e5, h _ _ q⟩
theorem passes_bx {P : Program} {w : World} {K : PySem.W.Frag} {mg : Str → Option Value} {base : Heap} {N : List Str} {qual : Str} {sc : Scope} {f : Addr} {cdv : Value} {A : Around} {outer : List Env} {s : Shared} {H : Hp} {E : XK} :
    PassesOwn (model (bx P w K mg base N qual sc f cdv A outer s H E).prog (bx P w K mg base N qual sc f cdv A outer s H E).w) (bx P w K mg base N qual sc f cdv A outer s H E).A (bx P w K mg base N qual sc f cdv A outer s H E).env (bx P w K mg base N qual sc f cdv A outer s H E).xe :=
  passes_of (X := bx P w K mg base N qual sc f cdv A outer s H E) (E₁ := fun e s' => L2.CX P w outer H s E e s') rfl
/-- a, b = e1, e2 -/
theorem ws_par {X : Cx} {a b : Expr} {σ : L2.St} {H : Hp} {D : Ends} {pos : Pos} (i j : Nat) {x y : Str} {px py pt : Pos} {kt k2 pt2} (hc : X.calm = true) (hN : X.N.Nodup) (hi : X.N[i]? = some x) (hj : X.N[j]? = some y) (hij : i ≠ j)
    (hx : X.env.scope.names.lookup x = some .local) (hy : X.env.scope.names.lookup y = some .local) (hw : swappedStores [.Tuple [.Name x px, .Name y py] kt pt] (.Tuple [a, b] k2 pt2) X.env = pure (some [x, y]))
    (q : WE X a σ H fun v H1 => WE X b σ H1 fun u H2 => D.nx ((σ.set i (some v)).set j (some u)) H2)
    (hs : swapsWithSole [.Tuple [.Name x px, .Name y py] kt pt] (.Tuple [a, b] k2 pt2) pos.line X.env = pure false := by rfl)
    (s1 : starEach (a :: [b]) X.env = (false, eval a X.env) :: starEach [b] X.env := by rfl) (s2 : starEach (b :: []) X.env = (false, eval b X.env) :: starEach [] X.env := by rfl) :
    WS X (.Assign [.Tuple [.Name x px, .Name y py] kt pt] (.Tuple [a, b] k2 pt2) pos) D σ H :=
  .of (ps_par hc hN hi hj hij hx hy (pa_cons pe (pa_cons pe pa_nil s2) s1) hw hs) (by
    show WE X a σ H fun v H1 => WE X b σ H1 fun u H2 => ∃ v' w', [v, u] = [v', w'] ∧ _
    exact q.mono fun v H1 h => h.mono fun u H2 h2 => ⟨v, u, rfl, h2⟩)
theorem i_lenLt {K : PySem.W.Frag} {l : Addr} {xs : List V} {H : Hp} {Q : VK} (h : H l = some (.lst xs)) (q : Q (.int xs.length) H) : rLn K [.ref l] H Q := i_lenL (SqL.of h) q
/-- x, y = a pair -/
theorem i_two {K : PySem.W.Frag} {i j : Nat} {a : Addr} {v u : V} {σ : L2.St} {H : Hp} {Q : L2.St → Hp → Prop} (h : SqT K H a [v, u]) (q : Q ((σ.set i (some v)).set j (some u)) H) : gTup K 2 (gCons (gName i) (gCons (gName j) gNil)) (.ref a) σ H Q :=
  ⟨a, _, rfl, h, rfl, v, _, rfl, u, _, rfl, rfl, q⟩
end WP
end
section
set_option Elab.async false
set_option linter.all false
set_option maxRecDepth 100000
set_option maxHeartbeats 4000000
namespace WP
open PySem PySem.Spec PyProof.Rows L2
/-- a method keeps its promise -/
theorem MDef.mk' {P : Program} {w : World} {K : PySem.W.Frag} {mg : Str → Option Value} {base : Heap} {x qual : Str} {params : Arguments} {body : List Stmt} {scope : Scope} {kws : List (Str × V)} {f : Addr} {fd : FuncData} {N ps : List Str} {k : Nat} {sp : Sp} {C : Addr}
    (F : FunD K x qual params body scope [] kws f fd) (hm : Meth K C x f) (S : FnScope N ps scope) (len : ∀ vs H Q E, sp vs H Q E → vs.length = ps.length)
    (hb : ∀ (kV doc pm : Value) (an : Option Addr) (cdv ct : Value) (us : List Value), us.length = ps.length → bindArgs (PySem.W.fnOf x qual params body scope .none kV doc pm an cdv ct) ⟨us, []⟩ = pure (ps.zip us))
    (hbody : ∀ (cdv : Value) (A : Around) (outer : List Env) (s : Shared) (H : Hp) (vs : List V) (Q : VK) (E : XK), Room k (A.deeper (envOfC qual scope s.heap.objs.size f cdv)) → Takes (bx P w K mg base N qual scope f cdv A outer s H E) (fun cls d _ H => E cls d H) → sp vs H Q E →
      WB (bx P w K mg base N qual scope f cdv A outer s H E) body { nx := fun _ H' => Q .non H', rt := Q } (start N vs) H) : MDef P w K mg base (k + 1) C x sp :=
  ⟨f, fd, ps, hm, F.bindsN hb, F.ok S len fun cdv A outer s H vs Q E hr h => ⟨_, pss, hbody cdv A outer s H vs Q E hr (takes_of rfl rfl rfl rfl) h⟩⟩
theorem op_eqA1 {X : Cx} (hu : X.A.units + 64 < cLine) : OpR X (compareOp .Eq) (rEqA X.K) := op_eqA hu
end WP
end
section
set_option Elab.async false
set_option linter.all false
set_option maxRecDepth 100000
set_option maxHeartbeats 4000000
/-! Slices, subscripts, tuples joined, tuple of a list. -/
namespace WP
open PySem PySem.Spec PyProof.Rows L2
section
variable {X : Cx} {K : PySem.W.Frag} {e a b c : Expr} {σ : L2.St} {H : Hp} {Q : VK} {pos p p2 : Pos} {lo hi : Option Int}
theorem we_slH {r : V → Option Int → Option Int → Hp → VK → Prop} (hr : SlR X r) (q : WE X a σ H fun x H1 => WE X b σ H1 fun y H2 => ∃ i, y = .int i ∧ r x none (some i) H2 Q) : WE X (.Subscript a (.Slice none (some b) none p2) pos) σ H Q :=
  .of (pe_slice hr pe po_none (po_some pe)) (q.mono fun _ _ h => h)
theorem we_slL {r : V → Option Int → Option Int → Hp → VK → Prop} (hr : SlR X r) (q : WE X a σ H fun x H1 => WE X b σ H1 fun y H2 => ∃ i, y = .int i ∧ r x (some i) none H2 Q) : WE X (.Subscript a (.Slice (some b) none none p2) pos) σ H Q :=
  .of (pe_slice hr pe (po_some pe) po_none) (q.mono fun _ _ h => h.mono fun _ _ h => h)
theorem we_slB {r : V → Option Int → Option Int → Hp → VK → Prop} (hr : SlR X r) (q : WE X a σ H fun x H1 => WE X b σ H1 fun y H2 => ∃ i, y = .int i ∧ WE X c σ H2 fun z H3 => ∃ j, z = .int j ∧ r x (some i) (some j) H3 Q) : WE X (.Subscript a (.Slice (some b) (some c) none p2) pos) σ H Q :=
  .of (pe_slice hr pe (po_some pe) (po_some pe)) (q.mono fun _ _ h => h.mono fun _ _ ⟨i, e, h⟩ => ⟨i, e, h.mono fun _ _ h => h⟩)
theorem cutV_whole {xs : List V} (h : HT.sIx xs.length 0 lo = 0 ∧ HT.sIx xs.length xs.length hi = xs.length) : cutV xs lo hi = xs := by
  unfold cutV
  rw [h.1, h.2]
  simp
theorem i_sl {n : Addr} {xs : List V} (h : SqT K H n xs) (q : ∀ d H', Same H H' → SqT K H' d (cutV xs lo hi) → Q (.ref d) H') : rSlA K (.ref n) lo hi H Q :=
  ⟨n, xs, rfl, h, fun hw => q n H (Same.refl _) (by rwa [cutV_whole hw]), fun _ d hd => q d _ (Same.new hd) (SqT.of upd_same)⟩
theorem i_cat {n m : Addr} {xs ys : List V} (h : SqT K H n xs) (g : SqT K H m ys) (hz : xs.length + ys.length ≤ sizeLine) (q : ∀ d H', Same H H' → SqT K H' d (xs ++ ys) → Q (.ref d) H') : rCatA K (.ref n) (.ref m) H Q :=
  ⟨n, m, xs, ys, rfl, rfl, h, g, hz, fun e => q m H (Same.refl _) (by rw [e]; exact g), fun _ e => q n H (Same.refl _) (by rw [e, List.append_nil]; exact h), fun _ _ d hd => q d _ (Same.new hd) (SqT.of upd_same)⟩
def rTupOf (K : PySem.W.Frag) : List V → Hp → VK → Prop := fun xs H Q => ∃ p ys, xs = [.ref p] ∧ ((SqL K H p ys ∧ ∀ l, H l = none → Q (.ref l) (upd H l (.tup ys))) ∨ (SqT K H p ys ∧ Q (.ref p) H))
theorem call_tup : CallR X (.type "tuple") (rTupOf X.K) := call_tuple_of
theorem i_tupL {n : Addr} {xs : List V} (h : H n = some (.lst xs)) (q : ∀ l, H l = none → Q (.ref l) (upd H l (.tup xs))) : rTupOf K [.ref n] H Q := ⟨n, xs, rfl, .inl ⟨SqL.of h, q⟩⟩
theorem i_ixT {n : Addr} {xs : List V} {i : Int} {v : V} (h : SqT K H n xs) (e : atI xs i = some v) (q : Q v H) : rIxT K (.ref n) (.int i) H Q := ⟨n, xs, i, v, rfl, rfl, h, e, q⟩
theorem i_ixL {n : Addr} {xs : List V} {i : Int} {v : V} (h : SqL K H n xs) (e : atI xs i = some v) (q : Q v H) : rIxL K (.ref n) (.int i) H Q := ⟨n, xs, i, v, rfl, rfl, h, e, q⟩
theorem plainIx_int {n : Int} {j : Nat} : PlainIx (.Constant (.int n) j pos) := fun _ _ => by with_unfolding_all rfl
theorem plainIx_name {x : Str} : PlainIx (.Name x pos) := fun _ _ => by with_unfolding_all rfl
theorem plainIx_op {op : Operator} : PlainIx (.BinOp a op b pos) := fun _ _ => by with_unfolding_all rfl
theorem stay_dpo {g : Nat → Option PyData} (h : ∀ i d, g i = some d → nolist d = true) : Stay (fun i H v => ∃ d, g i = some d ∧ Dp K H v d) :=
  ⟨fun i H H' v s ⟨d, e, r⟩ => ⟨d, e, dp_mono s r⟩, fun i H v D ys zs e ⟨d, e2, r⟩ => ⟨d, e2, dp_updL e (h i d e2) r⟩⟩
theorem atI_nat {α : Type} {xs : List α} {i : Nat} (h : i < xs.length) : atI xs (i : Int) = xs[i]? := by
  unfold atI ixN
  simp [h]
end
end WP
namespace WP
open PySem PySem.Spec PyProof.Rows L2
theorem i_ins {H : Hp} {kk dx C : Addr} {fs : List (Str × V)} {m : Str} {P : Prop} (h : H kk = some (.ins C dx fs)) (l : fs.lookup m = none) (q : P) : ∃ a dx fs, V.ref kk = .ref a ∧ H a = some (.ins C dx fs) ∧ fs.lookup m = none ∧ P := ⟨kk, dx, fs, rfl, h, l, q⟩
end WP
end
section
set_option Elab.async false
set_option linter.all false
set_option maxRecDepth 100000
set_option maxHeartbeats 4000000
/-! name = [..]: a block whose parts let nothing out. -/
namespace WP
open PySem PySem.Spec PyProof.Rows L2
section
variable {X : Cx} {RW : WX}
theorem pas_no : Pas X (fun _ _ _ _ => False) := fun σ pins H s e s' I c => (cx_false (X := X) (pins := pins) (σ := σ) c).elim
def teC (X : Cx) (scope : Scope) (elt : Expr) : TE := fun σ H Q => ∀ (s : Shared) (H0 : Hp) (C : Addr) (cl : List (Str × Addr)) (fp : List Addr), WE (X.blk s H0 scope (compEnvC scope cl C X.env) fp) elt σ H Q
def ttC (X : Cx) (scope : Scope) : List Expr → TT
  | [] => tYes
  | c :: _ => fun σ H Q => ∀ (s : Shared) (H0 : Hp) (C : Addr) (cl : List (Str × Addr)) (fp : List Addr), WT (X.blk s H0 scope (compEnvC scope cl C X.env) fp) c σ H Q
theorem teC_mono {scope : Scope} {elt : Expr} (σ : L2.St) (H : Hp) (Q Q' : VK) (h : ∀ v H, Q v H → Q' v H) (q : teC X scope elt σ H Q) : teC X scope elt σ H Q' := fun s H0 C cl fp => (q s H0 C cl fp).mono h
theorem ttC_mono {scope : Scope} {c : Expr} {r : List Expr} (σ : L2.St) (H : Hp) (Q Q' : Bool → Hp → Prop) (h : ∀ v H, Q v H → Q' v H) (q : ttC X scope (c :: r) σ H Q) : ttC X scope (c :: r) σ H Q' := fun s H0 C cl fp => wt_mono h (q s H0 C cl fp)
theorem teC_pe {scope : Scope} {elt : Expr} (s : Shared) (H0 : Hp) (C : Addr) (cl : List (Str × Addr)) (fp : List Addr) : PE (X.blk s H0 scope (compEnvC scope cl C X.env) fp) elt (teC X scope elt) := ⟨fun pins s' σ' H' Q' I' q => (q s H0 C cl fp).run pins s' I'⟩
theorem ttC_pt {scope : Scope} {c : Expr} {r : List Expr} (s : Shared) (H0 : Hp) (C : Addr) (cl : List (Str × Addr)) (fp : List Addr) : PT (X.blk s H0 scope (compEnvC scope cl C X.env) fp) c (ttC X scope (c :: r)) := ⟨fun pins s' σ' H' Q' I' q => (q s H0 C cl fp).run pins s' I'⟩
variable {σ : L2.St} {H : Hp} {D : Ends} {Q : VK} {elt tg iter c : Expr} {scope : Scope} {pos spos py : Pos} {y : Str} {wi : TI} {g : TG}
theorem ws_lcI (i : Nat) (own : List (Str × Nat)) (hc : X.calm = true) (hN : X.N.Nodup) (hy : X.N[i]? = some y) (hk : X.env.scope.kind = .function) (hyl : X.env.scope.names.lookup y = some .local) (hl : (py.line == pos.line) = true)
    (ha : (scope.names.any fun (n, k) => n == y && (k == .local || k == .cell)) = false) (hi : PI X tg iter wi) (ok : BlkOk X.N X.env.scope scope own)
    (hg : ∀ (s : Shared) (H : Hp) (C : Addr) (cl : List (Str × Addr)) (fp : List Addr), PG (X.blk s H scope (compEnvC scope cl C X.env) fp) tg g)
    (h : tLc wi g (ttC X scope [c]) (teC X scope elt) (own.map (·.2)) σ H fun v H1 => D.nx (σ.set i (some v)) H1) (hs : ∀ x, foldedSetIterable iter X.env x = pure x := by intro _; rfl) :
    WS X (.Assign [.Name y py] (.ListComp elt [⟨tg, iter, [c], 0⟩] scope pos) spos) D σ H :=
  .of (ps_setLc hc hN hy hyl (sw_true hk hyl hl ha) hi ok hg (fun s H C cl fp => pts_one (ttC_pt s H C cl fp)) (fun s H C cl fp => teC_pe s H C cl fp) hs) h
theorem ws_lc (i : Nat) (own : List (Str × Nat)) (hc : X.calm = true) (hN : X.N.Nodup) (hy : X.N[i]? = some y) (hk : X.env.scope.kind = .function) (hyl : X.env.scope.names.lookup y = some .local) (hl : (py.line == pos.line) = true)
    (ha : (scope.names.any fun (n, k) => n == y && (k == .local || k == .cell)) = false) (hi : PI X tg iter wi) (ok : BlkOk X.N X.env.scope scope own)
    (hg : ∀ (s : Shared) (H : Hp) (C : Addr) (cl : List (Str × Addr)) (fp : List Addr), PG (X.blk s H scope (compEnvC scope cl C X.env) fp) tg g)
    (h : tLc wi g tYes (teC X scope elt) (own.map (·.2)) σ H fun v H1 => D.nx (σ.set i (some v)) H1) (hs : ∀ x, foldedSetIterable iter X.env x = pure x := by intro _; rfl) :
    WS X (.Assign [.Name y py] (.ListComp elt [⟨tg, iter, [], 0⟩] scope pos) spos) D σ H :=
  .of (ps_setLc hc hN hy hyl (sw_true hk hyl hl ha) hi ok hg (fun _ _ _ _ _ => pts_nil) (fun s H C cl fp => teC_pe s H C cl fp) hs) h
theorem pg_two (i j : Nat) {x y : Str} {px py pt : Pos} {kt : Nat} (hc : X.calm = true) (hN : X.N.Nodup) (hi : X.N[i]? = some x) (hj : X.N[j]? = some y) (lx : X.env.scope.names.lookup x = some .local) (ly : X.env.scope.names.lookup y = some .local) :
    PG X (.Tuple [.Name x px, .Name y py] kt pt) (gTup X.K 2 (gCons (gName i) (gCons (gName j) gNil))) :=
  pg_tup hc (pgs_cons (pg_name hN hi (.inl lx) (.inr lx)) (pgs_cons (pg_name hN hj (.inl ly) (.inr ly)) pgs_nil))
end
end WP
end
section
set_option Elab.async false
set_option linter.all false
set_option maxRecDepth 100000
set_option maxHeartbeats 4000000
/-! Dicts. -/
namespace WP
open PySem PySem.Spec PyProof.Rows L2
section
variable {X : Cx} {σ : L2.St} {H : Hp} {D : Ends} {Q : VK} {QT : Bool → Hp → Prop} {o i e : Expr} {pos pos' : Pos} {k : Nat} {a : Addr} {kvs : List (Key × V)} {key : Key}
theorem we_dnew (q : ∀ p, H p = none → Q (.ref p) (upd H p (.dK []))) : WE X (.Dict [] [] pos) σ H Q := .of pe_dnewK q
theorem wt_din (hr : Room k X.A) (hm : behindInMarks .In o = false) (q : WE X i σ H fun y H1 => WE X o σ H1 fun x H2 => ∃ a u, x = .ref a ∧ DGet H2 a y u ∧ QT u.isSome H2) : WT X (.Compare i [.In] [o] pos) σ H QT :=
  .of (pt_cmp (pc_din (by have := hr.units; omega) pe pe) hm) (q.mono fun y H1 h => h.mono fun x H2 ⟨a, u, e1, e2, e3⟩ => ⟨a, u, e1, e2, _, rfl, e3⟩)
theorem we_dget (hr : Room k X.A) (hs : NoSl i) (q : WE X o σ H fun x H1 => WE X i σ H1 fun y H2 => ∃ a v, x = .ref a ∧ DGet H2 a y (some v) ∧ Q v H2) : WE X (.Subscript o i pos) σ H Q := .of (pe_dget (by have := hr.units; omega) pe pe hs) q
theorem ws_dput (hr : Room k X.A) (q : WE X e σ H fun v H1 => WE X o σ H1 fun x H2 => WE X i σ H2 fun y H3 => ∃ a H4, x = .ref a ∧ DPut H3 a y v H4 ∧ D.nx σ H4) (hs : swapsWith e (some (.Subscript o i pos')) pos.line X.env = pure false := by rfl) : WS X (.Assign [.Subscript o i pos'] e pos) D σ H :=
  .of (ps_dput (by have := hr.units; omega) pe pe pe hs) q
theorem i_dget (h : H a = some (.dK kvs)) {P : Option V → Prop} (q : P (valV kvs key)) : ∃ b u, V.ref a = .ref b ∧ DGet H b (kV key) u ∧ P u := ⟨a, _, rfl, DGet.k h, q⟩
theorem i_dput {v : V} (h : H a = some (.dK kvs)) (hl : kvs.length < sizeLine) {P : Hp → Prop} (q : P (upd H a (.dK (putK kvs key v)))) : ∃ b H', V.ref a = .ref b ∧ DPut H b (kV key) v H' ∧ P H' := ⟨a, _, rfl, DPut.k h hl, q⟩
theorem ws_whileW {c : Expr} {body : List Stmt} (hp : PassesOwn (model X.prog X.w) X.A X.env X.xe) (W : Nat → L2.St → Hp → Prop) (h0 : ∃ m, W m σ H)
    (hs : ∀ m σ H, W m σ H → WT X c σ H fun b H1 => if b = true then WB X body { D with nx := fun σ' H' => ∃ m', m' < m ∧ W m' σ' H', ct := fun σ' H' => ∃ m', m' < m ∧ W m' σ' H', bk := D.nx } σ H1 else D.nx σ H1) : WS X (.While c body [] pos) D σ H :=
  ws_while hp ⟨W, h0, fun m σ H w => wt_mono (fun b H1 q => by
    cases b with
    | true => exact ⟨_, fun _ _ h => h, q⟩
    | false => exact q) (hs m σ H w)⟩
theorem atI0 {α : Type} {x : α} {xs : List α} : atI (x :: xs) 0 = some x := by simp [atI, ixN]
theorem atI1 {α : Type} {x y : α} {xs : List α} : atI (x :: y :: xs) 1 = some y := by
  have : (1 : Int) < (xs.length : Int) + 1 + 1 := by omega
  simp [atI, ixN, this]
end
end WP
end
section
set_option Elab.async false
set_option linter.all false
set_option maxRecDepth 100000
set_option maxHeartbeats 4000000
/-! try .. except C; dict comprehensions; for over what is walked. -/
namespace WP
open PySem PySem.Spec PyProof.Rows L2
section
variable {X : Cx} {Wout : WX} {σ : L2.St} {H : Hp} {D : Ends} {Q : VK}
def tsB (X : Cx) (sts : List Stmt) : Addr → Value → Option Addr → TS := fun a cls d D σ H => ∀ (oe : Obj) (pn : List (Addr × Obj)), Zc cls d oe → (∃ vs, oe.data = .fields vs) → WB (X.suite a ((a, oe) :: pn)) sts D σ H
theorem ws_try {x : Str} {c : Value} {body suite : List Stmt} {b₀ : Stmt} {np pos pos' : Pos} (hs : X.stack = X.env :: X.outer) (hf : X.env.frame = some X.env.locals) (hc : Names X x c) (tk : Takes X Wout)
    (q : ∀ (pn : List (Addr × Obj)) (xe : Value → Shared → Prop), Takes (X.tr pn xe) (wOnly X.K c (tsB X (b₀ :: suite)) Wout D) → WB (X.tr pn xe) body D σ H) :
    WS X (.Try body [.ExceptHandler (some (.Name x np)) none (b₀ :: suite) pos'] [] [] pos) D σ H :=
  .of (ps_try_only (tb := fun W D σ H => ∀ (pn : List (Addr × Obj)) (xe : Value → Shared → Prop), Takes (X.tr pn xe) W → WB (X.tr pn xe) body D σ H) hs hf hc tk
    (fun W pn xe tk' _ => ⟨fun pins s σ' H' D' I h => (h pn xe tk').run pins s I⟩)
    (fun a oe cls d pn hz hd => ⟨fun pins s σ' H' D' I h => (h oe pn hz hd).run pins s I⟩)) q
theorem i_caught {K : PySem.W.Frag} {c cls : Value} {d : Option Addr} {ts : Addr → Value → Option Addr → TS} (he : PySem.W.exmOne K cls c = some true) (q : ∀ a, H a = none → ts a cls d D σ H) : wOnly K c ts Wout D cls d σ H :=
  ⟨true, he, fun _ a ha => q a ha, fun h => nomatch h⟩
variable {kx vx tg iter : Expr} {scope : Scope} {own : List (Str × Nat)} {pos : Pos} {wi : TI} {g : TG}
theorem we_dc (hc : X.calm = true) (hN : X.N.Nodup) (hi : PI X tg iter wi) (ok : BlkOk X.N X.env.scope scope own)
    (hg : ∀ (s : Shared) (H : Hp) (C : Addr) (cl : List (Str × Addr)) (fp : List Addr), PG (X.blk s H scope (compEnvC scope cl C X.env) fp) tg g)
    (h : tDc wi g tYes (teC X scope kx) (teC X scope vx) (own.map (·.2)) σ H Q) (hs : ∀ x, foldedSetIterable iter X.env x = pure x := by intro _; rfl) : WE X (.DictComp kx vx [⟨tg, iter, [], 0⟩] scope pos) σ H Q :=
  .of (pe_dc hc hN hi ok hg (fun _ _ _ _ _ => pts_nil) (fun s H C cl fp => teC_pe s H C cl fp) (fun s H C cl fp => teC_pe s H C cl fp) hs) h
end
section
variable {J : It} {n : Nat} {G : Hp → Prop} {Y : Nat → Hp → V → Hp → Prop} {g : TG} {tk tv : TE} {vs : List Nat} {σ : L2.St} {H1 : Hp} {D : Addr} {Qd : Hp → Prop}
/-- {k: v for ..}: Pv by the turn, the new dict at D within -/
theorem dc_it (w : Walk J n G Y) (Pv : Nat → Hp → Prop) (h0 : Pv 0 (upd H1 D (.dK []))) (hG : ∀ i H, i ≤ n → Pv i H → G H)
    (hs : ∀ i x H H', i < n → Pv i H → Y i H x H' → g x (wipe σ vs) H' fun σ2 H2 => wipe σ2 vs = wipe σ vs ∧ tYes σ2 H2 fun b H3 =>
      if b = true then tk σ2 H3 fun y H4 => tv σ2 H4 fun z H5 => ∃ kvs k, y = kV k ∧ H5 D = some (.dK kvs) ∧ kvs.length < sizeLine ∧ Pv (i + 1) (upd H5 D (.dK (putK kvs k z))) else Pv (i + 1) H3) (hd : ∀ H, Pv n H → Qd H) :
    ∃ W : Nat → Nat → Hp → Prop, (∃ m, W 0 m (upd H1 D (.dK []))) ∧ ∀ i m H, W i m H →
      (J.stop i H ∧ Qd H) ∨ (J.go i H ∧ ∃ Nx : Hp → Prop, (∀ H', Nx H' → ∃ m', m' < m ∧ W (i + 1) m' H') ∧ ∀ x H', J.yld i H x H' → g x (wipe σ vs) H' fun σ2 H2 => wipe σ2 vs = wipe σ vs ∧ tYes σ2 H2 fun b H3 =>
        if b = true then tk σ2 H3 fun y H4 => tv σ2 H4 fun z H5 => ∃ kvs k, y = kV k ∧ H5 D = some (.dK kvs) ∧ kvs.length < sizeLine ∧ Nx (upd H5 D (.dK (putK kvs k z))) else Nx H3) := by
  refine ⟨fun i m H => m + i = n ∧ Pv i H, ⟨n, rfl, h0⟩, fun i m H ⟨hm, p⟩ => ?_⟩
  have q := hG i H (by omega) p
  by_cases hlt : i < n
  · exact .inr ⟨w.goes i H hlt q, Pv (i + 1), fun H' p' => ⟨n - (i + 1), by omega, by omega, p'⟩, fun x H' y => hs i x H H' hlt p (w.yields i H x H' hlt q y)⟩
  · have e : i = n := by omega
    subst e
    exact .inl ⟨w.stops H q, hd H p⟩
end
end WP
end
section
set_option Elab.async false
set_option linter.all false
set_option maxRecDepth 100000
set_option maxHeartbeats 4000000
/-! d.items() of a dict whose keys are texts, and sorted of it: the pairs by their texts. -/
namespace WP
open PySem PySem.Spec PyProof.Rows L2 L2.DX PySem.W
theorem pairs_at {P : Program} {w : World} {es : List DictEntry} {kvs : List (Key × Value)} (h : Pairs (mixKind P w) es kvs) : ∀ {j : Nat} {e : DictEntry}, es[j]? = some e → ∃ kv, kvs[j]? = some kv ∧ (mixKind P w).is kv.1 e.key = true ∧ e.val = kv.2 := by
  induction h with
  | nil => intro j e z; simp at z
  | cons h1 h2 _ ih =>
    intro j e z
    cases j with
    | zero =>
      simp at z
      subst z
      exact ⟨_, rfl, h1, h2⟩
    | succ j => simpa using ih (j := j) (by simpa using z)
def txtLt (x y : Str) : Bool := decide (x.cps.toList < y.cps.toList)
theorem swo_txt {α : Type} (k : α → Str) : SrtO.Swo (fun v u : α => txtLt (k v) (k u)) where
  asym := fun x y h => by
    have h := of_decide_eq_true h
    exact decide_eq_false (List.lt_asymm h)
  tr := fun x y z h1 h2 => by
    have h1 := of_decide_eq_false h1
    have h2 := of_decide_eq_false h2
    exact decide_eq_false fun h3 => by
      rcases Std.lt_trichotomy (α := List Nat) (k x).cps.toList (k y).cps.toList with h | h | h
      · exact h2 (List.lt_trans h3 h)
      · exact h2 (h ▸ h3)
      · exact h1 h
/-- the text of the pair at v -/
def keyS (h : Heap) (v : Value) : Str := DT.txOf (DT.seqAt0 h (DT.refOf (some v)))
theorem keyS_at {h : Heap} {a : Addr} {x : Str} {t : Tok} {u : Value} (e : h.get? a = some { cls := .type "tuple", data := .seq #[.str x t, u] }) : keyS h (.ref a) = x := by
  have : IsTup h a #[.str x t, u] := ⟨_, e, rfl, 0, rfl⟩
  show DT.txOf (DT.seqAt0 h a) = x
  rw [DT.seqAt0_of this]
  rfl
/-- the pair (x, u) at v -/
def PairS (h : Heap) (v : Value) (x : Str) (u : Value) : Prop := ∃ a t, v = .ref a ∧ h.get? a = some { cls := .type "tuple", data := .seq #[.str x t, u] }
section
variable {prog : Program} {w : World} {A : Around} {s : Shared}
theorem firstsS {h : Heap} : ∀ vs : List Value, (∀ v ∈ vs, ∃ x u, PairS h v x u) → ∃ fs : List Value, KatTups h vs fs ∧ fs.length = vs.length ∧ ∀ f ∈ fs, ∃ x t, f = Value.str x t
  | [], _ => ⟨[], .nil, rfl, fun _ z => nomatch z⟩
  | v :: vs, g => by
    obtain ⟨fs, k1, k2, k3⟩ := firstsS vs fun u hu => g u (List.mem_cons_of_mem _ hu)
    obtain ⟨x, u, a, t, rfl, e⟩ := g v List.mem_cons_self
    refine ⟨.str x t :: fs, .cons e rfl rfl rfl k1, by simp [k2], fun f hf => ?_⟩
    rcases List.mem_cons.mp hf with rfl | hf
    · exact ⟨x, t, rfl⟩
    · exact k3 f hf
theorem sortableS {a : Addr} {vs : List Value} {h0 : Heap} (hne : 0 < vs.length) (hp : ∀ v ∈ vs, ∃ x u, PairS h0 v x u) (hu : ∀ v ∈ vs, ∀ v' ∈ vs, keyS h0 v = keyS h0 v' → v = v')
    (hk : ∀ b o, h0.get? b = some o → o.cls = .type "tuple" → b ≠ a ∧ s.heap.get? b = some o) : SrtO.SortableO prog w A s a vs fun v v' => txtLt (keyS h0 v) (keyS h0 v') := by
  intro h' keep
  have up : ∀ {v : Value} {x : Str} {u : Value}, PairS h0 v x u → PairS h' v x u := fun ⟨b, t, e1, e2⟩ => ⟨b, t, e1, keep b _ (hk b _ e2 rfl).1 (hk b _ e2 rfl).2⟩
  obtain ⟨fs, f1, f2, f3⟩ := firstsS (h := h') vs fun v hv => let ⟨x, u, g⟩ := hp v hv; ⟨x, u, up g⟩
  refine ⟨tuples' true, fun Q E hq => ?_, fun p q mp mq => ?_⟩
  · refine kat_kind (T := .type "str") f1 (by omega) (fun f hf => ?_) (by rfl) ?_
    · obtain ⟨x, t, rfl⟩ := f3 f hf
      exact Looks.now
    · have e : (Value.type "str" != Value.type "tuple") = true := by first | decide +kernel | rfl
      rw [e]
      exact hq
  · obtain ⟨x, u, b, t, e1, g1⟩ := hp _ mp
    obtain ⟨y, u', b', t', e2, g2⟩ := hp _ mq
    have k1 : keyS h0 p.1 = x := by rw [e1]; exact keyS_at g1
    have k2 : keyS h0 q.1 = y := by rw [e2]; exact keyS_at g2
    have g1' := keep b _ (hk b _ g1 rfl).1 (hk b _ g1 rfl).2
    have g2' := keep b' _ (hk b' _ g2 rfl).1 (hk b' _ g2 rfl).2
    have same := hu _ mp _ mq
    show wpAny (model prog w) A (keyLt' (tuples' true) p.1 q.1) (fun r s' => s' = _ ∧ r = txtLt (keyS h0 p.1) (keyS h0 q.1)) (fun _ _ => False) _
    rw [k1, k2]
    rw [k1, k2] at same
    rw [e1, e2] at same ⊢
    refine kat_lt g1' rfl g2' rfl ?_
    show KatLex prog w A true (decide (2 < 2)) _ [(.str x t, .str y t'), (u, u')] 0 _
    refine kat_cons (SeqAt.EqAt.str_str x t y t' prog w _ _ ?_)
    refine kat_go (fun z => ?_) (fun z => ?_)
    · have z : x = y := by simpa using z
      subst z
      cases same rfl
      rw [g1] at g2
      cases g2
      refine kat_yes (kat_cons (SeqAt.EqAt.same u prog w _ _ ?_))
      refine kat_go (fun _ => kat_yes (kat_nil ⟨rfl, ?_⟩)) (fun z => nomatch z)
      exact (decide_eq_false (List.lt_irrefl _)).symm
    · exact kat_no (oneLt_any_str ⟨rfl, rfl⟩)
end
section
variable {X : Cx}
def rItemsK : V → List V → Hp → VK → Prop := fun x xs H Q => ∃ (a : Addr) (kvs : List (Key × V)), x = .ref a ∧ xs = [] ∧ H a = some (.dK kvs) ∧ ∀ p, H p = none → Q (.ref p) (upd H p (itemsO p a))
theorem mt_itemsK : MtR X "dict.items" rItemsK := by
  intro pins s σ H x xs v us Q I rx rxs h
  obtain ⟨a, kvs, rfl, rfl, ha, q⟩ := h
  cases rx
  cases rxs
  obtain ⟨z, hd, vs, rel, o, es, ep, ho, hx, hdat, _⟩ := dk_of I.hok ha
  refine DT.callItems (es := es) (ep := ep) hd ⟨o, ho, hx, hdat⟩ ?_
  exact ⟨.ref s.heap.objs.size, _, I.laid (t' := s.toks) (fun b u e => Heap.get?_push_of_some _ e) (Nat.le_refl _) (itemsO_ok (Heap.get?_push_size _ rfl)), rfl, q _ (I.hok.fresh (Nat.le_refl _))⟩
abbrev entS (e : Str × V) : Key × V := (.inr e.1, e.2)
def rSortK : List V → Hp → VK → Prop := fun vs H Q => ∃ (p a : Addr) (ks : List (Str × V)), vs = [.ref p] ∧ H p = some (itemsO p a) ∧ H a = some (.dK (ks.map entS)) ∧ (ks.map (·.1)).Nodup ∧ ks.length < sizeLine ∧
  ∀ (H' : Hp) (l : Addr) (ps : List (Addr × Str × V)), Same H H' → H l = none → (ps.map (·.2)).Perm ks → (ps.map (·.2)).Pairwise (fun e f => txtLt f.1 e.1 = false) → H' l = some (.lst (ps.map fun z => V.ref z.1)) → (∀ z ∈ ps, H' z.1 = some (.tup [.str z.2.1, z.2.2])) → Q (.ref l) H'
theorem cr_sortedK (hc : X.calm = true) : CallR X (.builtin "sorted") rSortK := by
  intro pins s σ H xs us Q I r h
  obtain ⟨p, a, ks, rfl, hp, ha, hnd, hsz, q⟩ := h
  obtain rfl := Vals.ref1 r
  have view : s.heap.IsItemsView p a := (show ObjOk X.prog X.w H s.heap p (itemsO p a) from I.hok p _ hp).1
  obtain ⟨z, hd, vs, rel, o, es, ep, ho, hx, hdat, hkeys, hps, hn⟩ := dk_of I.hok ha
  have l1 : (ks.map entS).length = vs.length := Paired.length rel
  have l2 : es.size = vs.length := by have := hps.length; simpa using this
  rw [List.length_map] at l1
  have hs63 := sizeLine_eq
  refine DT.sortedI (es := es) (ep := ep) (I.ok.hd hc) view ⟨o, ho, hx, hdat⟩ (by omega) fun h' tk as hk hlt hl hG => ?_
  have lak : as.length = ks.length := by omega
  have nd : as.Nodup := List.Pairwise.imp (fun h => Nat.ne_of_lt h) hG.rise
  have pr : ∀ (j : Nat) (b : Addr), as[j]? = some b → ∃ (e : Str × V) (t : Tok) (u : Value), ks[j]? = some e ∧ RelV e.2 u ∧ h'.get? b = some { cls := .type "tuple", data := .seq #[.str e.1 t, u] } := by
    intro j b hj
    obtain ⟨en, he, hg⟩ := hG.pairs j b hj
    obtain ⟨kv, e1, e2, e3⟩ := pairs_at hps (j := j) (e := en) (by rw [Array.getElem?_toList]; exact he)
    obtain ⟨y, y1, y2, y3⟩ := pget rel e1
    rw [List.getElem?_map] at y1
    cases hkj : ks[j]? with
    | none => rw [hkj] at y1; cases y1
    | some e =>
      rw [hkj] at y1
      cases y1
      rw [← y2] at e2
      rcases keyIs_shape (show keyIs (.inr e.1) en.key = true from e2) with ⟨i, t, z1, _⟩ | ⟨x, t, z1, z2⟩
      · cases z1
      · cases z1
        rw [z2, e3] at hg
        exact ⟨e, t, kv.2, rfl, y3, hg⟩
  have hob : (h'.push { cls := .type "list", data := .seq (as.map Value.ref).toArray }).get? h'.objs.size = some (seqObj "list" (as.map Value.ref).toArray 0) := Heap.get?_push_size _ rfl
  have ne0 : ∀ b o, h'.get? b = some o → b ≠ h'.objs.size := fun b o e => Nat.ne_of_lt (Heap.lt_size e)
  have ka : ∀ b o, h'.get? b = some o → (h'.push { cls := .type "list", data := .seq (as.map Value.ref).toArray }).get? b = some o := fun b o e => Heap.get?_push_of_some _ e
  generalize h'.push { cls := .type "list", data := .seq (as.map Value.ref).toArray } = h2 at hob ka ⊢
  have at_ : ∀ v ∈ as.map Value.ref, ∃ (j : Nat) (b : Addr) (e : Str × V) (t : Tok) (u : Value), v = .ref b ∧ as[j]? = some b ∧ ks[j]? = some e ∧ RelV e.2 u ∧ h'.get? b = some { cls := .type "tuple", data := .seq #[.str e.1 t, u] } := by
    intro v hv
    obtain ⟨b, hb, rfl⟩ := List.mem_map.mp hv
    obtain ⟨j, hj⟩ := List.mem_iff_getElem?.mp hb
    obtain ⟨e, t, u, g⟩ := pr j b hj
    exact ⟨j, b, e, t, u, rfl, hj, g⟩
  have uniq : ∀ v ∈ as.map Value.ref, ∀ v' ∈ as.map Value.ref, keyS h' v = keyS h' v' → v = v' := by
    intro v hv v' hv' e
    obtain ⟨j, b, e1, t, u, rfl, j1, j2, _, j3⟩ := at_ v hv
    obtain ⟨i, b', e2, t', u', rfl, i1, i2, _, i3⟩ := at_ v' hv'
    rw [keyS_at j3, keyS_at i3] at e
    have m1 : (ks.map (·.1))[j]? = some e1.1 := by rw [List.getElem?_map, j2]; rfl
    have m2 : (ks.map (·.1))[i]? = some e2.1 := by rw [List.getElem?_map, i2]; rfl
    have ij : j = i := (List.getElem?_inj (List.getElem?_eq_some_iff.mp m1).1 hnd).mp (by rw [m1, m2, e])
    subst ij
    rw [j1] at i1
    cases i1
    rfl
  refine wpAny_call_entry PyProof.Rows.slot_list_sort ⟨_, hob, rfl⟩ PyProof.Rows.entry_list_sort
    (SrtO.list_sort_ord (ltv := fun v v' => txtLt (keyS h' v) (keyS h' v')) (swo_txt (keyS h')) hob (by rw [List.length_map]; omega)
      (fun hge => sortableS (by omega) (fun v hv => let ⟨j, b, e, t, u, e1, _, _, _, g⟩ := at_ v hv; ⟨e.1, u, b, t, e1, g⟩) uniq fun b o e _ => ⟨ne0 b o e, ka b o e⟩)
      fun out o1 o2 => ⟨.none, rfl, ?_⟩) (PyProof.Rows.args_list_sort _)
  show EP X pins σ Q (.ref h'.objs.size) { s with heap := sortedHeap h2 h'.objs.size (as.map Value.ref) out.toArray, toks := tk }
  obtain ⟨zs, pz, ez⟩ := perm_lift (fun z : Addr × Str × V => Value.ref z.1) o2.perm (as.zip ks) (by
    rw [show (fun z : Addr × Str × V => Value.ref z.1) = Value.ref ∘ Prod.fst from rfl, ← List.map_map, List.map_fst_zip (by omega)])
  have idx : ∀ z ∈ zs, ∃ j : Nat, as[j]? = some z.1 ∧ ks[j]? = some z.2 := fun z hz => by
    obtain ⟨j, hj⟩ := List.mem_iff_getElem?.mp (pz.mem_iff.mp hz)
    exact ⟨j, List.getElem?_zip_eq_some.mp hj⟩
  have hperm : (zs.map (·.2)).Perm ks := by
    have e := pz.map (·.2)
    rwa [List.map_snd_zip (by omega)] at e
  have ktx : ∀ z ∈ zs, keyS h' (.ref z.1) = z.2.1 := fun z hz => by
    obtain ⟨j, j1, j2⟩ := idx z hz
    obtain ⟨e, t, u, g1, _, g2⟩ := pr j _ j1
    rw [j2] at g1
    cases g1
    exact keyS_at g2
  have hsort : (zs.map (·.2)).Pairwise (fun e f => txtLt f.1 e.1 = false) := by
    rw [← ez] at o1
    have o1 := List.pairwise_map.mp o1
    refine List.pairwise_map.mpr (List.Pairwise.imp_of_mem (fun {x y} hx hy h => ?_) o1)
    have h : txtLt (keyS h' (.ref y.1)) (keyS h' (.ref x.1)) = false := h
    rw [ktx x hx, ktx y hy] at h
    exact h
  have kF : ∀ b o, b ≠ h'.objs.size → h2.get? b = some o → (sortedHeap h2 h'.objs.size (as.map Value.ref) out.toArray).get? b = some o := fun b o hb e => (PyProof.Rows.sortedHeap_old hb (Heap.lt_size e)).trans e
  have kS : ∀ b o, s.heap.get? b = some o → (sortedHeap h2 h'.objs.size (as.map Value.ref) out.toArray).get? b = some o := fun b o e => kF b o (ne0 _ _ (hk b o e)) (ka b o (hk b o e))
  obtain ⟨eF, heF⟩ := PyProof.Rows.sortedHeap_at (vs := as.map Value.ref) (out := out.toArray) hob
  have I1 : Inv X pins σ H { s with heap := sortedHeap h2 h'.objs.size (as.map Value.ref) out.toArray, toks := tk } := I.kept (t' := tk) kS
  have hn0 : H h'.objs.size = none := I.hok.fresh (Nat.le_of_lt hlt)
  have hlen : (zs.map fun z => V.ref z.1).length ≤ sizeLine := by
    have e := hperm.length_eq
    rw [List.length_map] at e ⊢
    omega
  have rv : Vals (zs.map fun z => V.ref z.1) out.toArray.toList := by
    rw [show out.toArray.toList = out by simp, ← ez]
    exact vals_maps (fun z : Addr × Str × V => V.ref z.1) (fun z => Value.ref z.1) zs fun _ _ => rfl
  have I2 : Inv X pins σ (upd H h'.objs.size (.lst (zs.map fun z => V.ref z.1))) { s with heap := sortedHeap h2 h'.objs.size (as.map Value.ref) out.toArray, toks := tk } :=
    I1.take (h' := sortedHeap h2 h'.objs.size (as.map Value.ref) out.toArray) (t' := tk) (fun b ob _ e => e) (I.fpOk (Nat.le_of_lt hlt) hn0) ⟨hlen, out.toArray.toList, eF, rv, heF⟩
  obtain ⟨H2, I3, g, qt⟩ := takeT (P := fun b ws => ∃ (j : Nat) (e : Str × V), as[j]? = some b ∧ ks[j]? = some e ∧ ws = [.str e.1, e.2]) I as _ I2 nd fun b hb => by
    obtain ⟨j, hj⟩ := List.mem_iff_getElem?.mp hb
    obtain ⟨e, t, u, he, ru, hg⟩ := pr j b hj
    have hbl : s.heap.objs.size ≤ b := Nat.le_of_lt (hG.above b hb)
    refine ⟨hbl, ?_, [.str e.1, e.2], ⟨j, e, hj, he, rfl⟩, fun H3 => ⟨(by rw [sizeLine_eq]; show 2 ≤ 16777216; omega), [Value.str e.1 t, u], .cons ⟨t, rfl⟩ (.cons ru .nil), ⟨_, kF _ _ (ne0 _ _ hg) (ka _ _ hg), rfl, 0, rfl⟩⟩⟩
    rw [upd_ne (ne0 _ _ hg)]
    exact I.hok.fresh hbl
  refine ⟨.ref h'.objs.size, H2, I3, rfl, q H2 h'.objs.size zs (fun b o e => g b o (by rw [upd_ne (ne_of_none e hn0)]; exact e)) hn0 hperm hsort (g _ _ upd_same) fun z hz => ?_⟩
  obtain ⟨i, i1, i2⟩ := idx z hz
  obtain ⟨ws, ⟨j, e, j1, j2, ev⟩, hH⟩ := qt z.1 (List.mem_of_getElem? i1)
  have eij : i = j := (List.getElem?_inj (List.getElem?_eq_some_iff.mp i1).1 nd).mp (i1.trans j1.symm)
  subst eij
  rw [i2] at j2
  cases j2
  rw [ev] at hH
  exact hH
end
end WP
namespace WP
open PySem PySem.Spec PyProof.Rows L2 L2.DX PySem.W
section
variable {X : Cx} {e o : Expr} {es : List Expr} {σ : L2.St} {H : Hp} {Q : VK} {pos p apos cpos : Pos}
theorem we_items (q : WE X o σ H fun x H1 => tyV X.K "dict" x H1 ∧ rItemsK x [] H1 Q)
    (hbase : attributeBase o "items" X.env (eval o X.env) = eval o X.env := by rfl) (hline : (apos.endLine == cpos.line) = true := by rfl) : WE X (.Call (.Attribute o "items" apos) [] [] cpos) σ H Q :=
  we_bm0 PySem.F.plainAttrs_dict PySem.F.slot_dict_items PySem.F.type_dict_items mt_itemsK q hbase hline
theorem i_items {a : Addr} {kvs : List (Key × V)} (h : H a = some (.dK kvs)) (q : ∀ p, H p = none → Q (.ref p) (upd H p (itemsO p a))) : tyV X.K "dict" (.ref a) H ∧ rItemsK (.ref a) [] H Q :=
  ⟨.inr (.inr (.inl ⟨rfl, .inl ⟨kvs, h⟩⟩)), a, kvs, rfl, rfl, h, q⟩
end
end WP
end
section
set_option Elab.async false
set_option linter.all false
set_option maxRecDepth 100000
set_option maxHeartbeats 4000000
/-! d.update(e). -/
namespace WP
open PySem PySem.Spec PyProof.Rows L2 L2.DX PySem.W
section
variable {X : Cx}
def rUpdK : V → List V → Hp → VK → Prop := fun x xs H Q => ∃ (a b : Addr) (kvs more : List (Key × V)), x = .ref a ∧ xs = [.ref b] ∧ a ≠ b ∧ H a = some (.dK kvs) ∧ H b = some (.dK more) ∧ kvs.length + more.length ≤ sizeLine ∧ Q .non (upd H a (.dK (mergeK kvs more)))
theorem mt_updK : MtR X "dict.update" rUpdK := by
  intro pins s σ H x xs v us Q I rx rxs h
  obtain ⟨a, b, kvs, more, rfl, rfl, hab, ha, hb, hsz, q⟩ := h
  cases rx
  cases rxs with
  | cons r1 r2 =>
    cases r2
    cases r1
    obtain ⟨z, hd, vs, rel, dd⟩ := dk_of I.hok ha
    obtain ⟨z2, hd2, ws, rel2, dd2⟩ := dk_of I.hok hb
    refine call_meetsIn PySem.F.slot_dict_update dd.typeIs PySem.F.entry_dict_update (PySem.F.args_dict_update_2 _ _) (meets_dict_update (mixKind X.prog X.w) a b hab hd2)
      ⟨vs, ws, dd, dd2, by rw [← rel.length, ← rel2.length]; exact hsz, fun h' dd' _ hs => ?_⟩
    have he : ∃ q, h'.get? a = some q := let ⟨q, _, _, hq, _⟩ := dd'; ⟨q, hq⟩
    exact ⟨.non, _, d_write (t' := s.toks) I (by rw [ha]; exact True.intro) hs he (dk_new (Nat.le_trans (length_mergeK _ _) hsz) hd (KV.merge rel2 rel) dd'), rfl, q⟩
theorem mergeK_app : ∀ {more kvs : List (Key × V)}, ((kvs ++ more).map (·.1)).Nodup → mergeK kvs more = kvs ++ more
  | [], kvs, _ => by simp [mergeK]
  | p :: more, kvs, h => by
    have e : valV kvs p.1 = none := by
      have z := valV_any p.1 kvs
      cases q : valV kvs p.1 with
      | none => rfl
      | some v =>
        rw [q] at z
        obtain ⟨y, hy, e⟩ := List.any_eq_true.mp z
        have e : y.1 = p.1 := by simpa using e
        rw [List.map_append, List.nodup_append] at h
        exact absurd e (h.2.2 y.1 (List.mem_map_of_mem hy) p.1 (by simp))
    have e2 : mergeK kvs (p :: more) = mergeK (kvs ++ [p]) more := by
      show mergeK (putK kvs p.1 p.2) more = _
      rw [putK_new _ e]
    rw [e2, mergeK_app (by simpa using h)]
    simp
variable {e o : Expr} {es : List Expr} {σ : L2.St} {H : Hp} {Q : VK} {pos p apos cpos : Pos}
theorem we_update (q : WE X o σ H fun x H1 => tyV X.K "dict" x H1 ∧ WA X (e :: es) σ H1 fun xs H2 => rUpdK x xs H2 Q)
    (hbase : attributeBase o "update" X.env (eval o X.env) = eval o X.env := by rfl)
    (hfew : ((backTo cpos (starEach (e :: es) X.env)).all (fun x => !x.1) && (backToKw cpos (keywordEach [] X.env)).all (fun x => x.1.isSome)
      && decide ((e :: es).length + ([] : List Keyword).length + (if ([] : List Keyword).isEmpty then 0 else 1) < 30)) = true := by rfl)
    (hline : (apos.endLine == cpos.line) = true := by rfl) (hs : starEach (e :: es) X.env = (false, eval e X.env) :: starEach es X.env := by rfl) (hplain : (backTo cpos (starEach es X.env)).any (·.1) = false := by rfl) :
    WE X (.Call (.Attribute o "update" apos) (e :: es) [] cpos) σ H Q := we_bm PySem.F.plainAttrs_dict PySem.F.slot_dict_update PySem.F.type_dict_update mt_updK q hbase hfew hline hs hplain
theorem i_dct {a : Addr} {kvs : List (Key × V)} {K : PySem.W.Frag} {P : Prop} (h : H a = some (.dK kvs)) (q : P) : tyV K "dict" (.ref a) H ∧ P := ⟨.inr (.inr (.inl ⟨rfl, .inl ⟨kvs, h⟩⟩)), q⟩
theorem i_update {a b : Addr} {kvs more : List (Key × V)} (hab : a ≠ b) (ha : H a = some (.dK kvs)) (hb : H b = some (.dK more)) (hz : kvs.length + more.length ≤ sizeLine) (q : Q .non (upd H a (.dK (mergeK kvs more)))) : rUpdK (.ref a) [.ref b] H Q := ⟨a, b, kvs, more, rfl, rfl, hab, ha, hb, hz, q⟩
end
section
variable {X : Cx} {σ : L2.St} {H : Hp} {D : Ends} {iter tg : Expr} {body : List Stmt} {pos : Pos}
/-- for x in what is walked: Pv by the turn, the slots, the heap -/
theorem ws_forI {J : It} {n : Nat} {G : Hp → Prop} {Y : Nat → Hp → V → Hp → Prop} {g : TG} {wi : TI} (w : Walk J n G Y) (hp : PassesOwn (model X.prog X.w) X.A X.env X.xe) (hc : X.calm = true) (hi : PI X tg iter wi) (hg : PG X tg g)
    (q : wi σ H fun J' H1 => J' = J ∧ ∃ Pv : Nat → L2.St → Hp → Prop, Pv 0 σ H1 ∧ (∀ i σ H, i ≤ n → Pv i σ H → G H) ∧
      (∀ i x σ H H', i < n → Pv i σ H → Y i H x H' → g x σ H' fun σ2 H2 => WB X body { D with nx := Pv (i + 1), ct := Pv (i + 1), bk := D.nx } σ2 H2) ∧ ∀ σ H, Pv n σ H → D.nx σ H)
    (hmono : ∀ (R R' : It → Hp → Prop), (∀ J H, R J H → R' J H) → wi σ H R → wi σ H R') (hs : ∀ x, foldedSetIterable iter X.env x = pure x := by intro _; rfl) : WS X (.For tg iter body [] pos) D σ H := by
  refine ws_for hp hc hi hg (hmono _ _ (fun J' H1 ⟨e, Pv, h0, hG, hst, hd⟩ => ?_) q) hs
  subst e
  exact for_it w Pv h0 hG hst hd
end
end WP
end
section
set_option Elab.async false
set_option linter.all false
set_option maxRecDepth 100000
set_option maxHeartbeats 4000000
/-! A value's object locked; {k: v}; calm blocks as values. -/
namespace WP
open PySem PySem.Spec PyProof.Rows L2
section
variable {X : Cx} {e k v elt tg iter : Expr} {σ : L2.St} {H : Hp} {Q : VK} {pos : Pos} {scope : Scope} {own : List (Str × Nat)} {wi : TI} {g : TG}
theorem we_lock (q : WE X e σ H fun v H1 => ∃ d u, v = .ref d ∧ H1 d = some u ∧ Mut (some u) ∧ ∀ od, Q v (upd H1 d (.frz od u))) : WE X e σ H Q :=
  ⟨fun pins s I => thn (q.run pins s I) fun x s1 ⟨v, H1, I1, r, d, u, ev, hd, mu, q1⟩ => let ⟨od, I2⟩ := I1.lock hd mu; ⟨v, _, I2, r, q1 od⟩⟩
theorem we_disp1 (q : ∀ p, H p = none → WE X k σ (upd H p (.dK [])) fun x H1 => WE X v σ H1 fun y H2 => H2 p = some (.dK []) ∧ ∃ key, x = kV key ∧ Q (.ref p) (upd H2 p (.dK [(key, y)]))) : WE X (.Dict [some k] [v] pos) σ H Q :=
  .of (pe_disp (pps_cons pe pe pps_nil) (by rfl) rfl (by simp) (by simp)) fun p hp => (q p hp).mono fun x H1 h => h.mono fun y H2 ⟨h1, key, ex, h2⟩ => ⟨h1, [(key, y)], by rw [ex]; rfl, by simp, h2⟩
theorem we_lcc (hc : X.calm = true) (hN : X.N.Nodup) (hi : PI X tg iter wi) (ok : BlkOk X.N X.env.scope scope own)
    (hg : ∀ (s : Shared) (H : Hp) (C : Addr) (cl : List (Str × Addr)) (fp : List Addr), PG (X.blk s H scope (compEnvC scope cl C X.env) fp) tg g)
    (h : tLc wi g tYes (teC X scope elt) (own.map (·.2)) σ H Q) (hs : ∀ x, foldedSetIterable iter X.env x = pure x := by intro _; rfl) : WE X (.ListComp elt [⟨tg, iter, [], 0⟩] scope pos) σ H Q :=
  .of (pe_lc hc hN hi ok hg (fun _ _ _ _ _ => pts_nil) (fun s H C cl fp => teC_pe s H C cl fp) hs) h
end
end WP
end
section
set_option Elab.async false
set_option linter.all false
set_option maxRecDepth 100000
set_option maxHeartbeats 4000000
namespace WP
open PySem PySem.Spec PyProof.Rows L2
/-- x, y, z, u = a tuple of four -/
theorem i_four {K : PySem.W.Frag} {i j k l : Nat} {a : Addr} {v u w z : V} {σ : L2.St} {H : Hp} {Q : L2.St → Hp → Prop} (h : SqT K H a [v, u, w, z]) (q : Q ((((σ.set i (some v)).set j (some u)).set k (some w)).set l (some z)) H) : gTup K 4 (gCons (gName i) (gCons (gName j) (gCons (gName k) (gCons (gName l) gNil)))) (.ref a) σ H Q :=
  ⟨a, _, rfl, h, rfl, v, _, rfl, u, _, rfl, w, _, rfl, z, _, rfl, rfl, q⟩
theorem cutV_mid (xs : List V) (k : Int) : cutV xs (some k) (some k) = [] := by
  unfold cutV HT.sIx
  simp
def rInt1 : List V → Hp → VK → Prop := fun xs H Q => (∃ i, xs = [.int i] ∧ Q (.int i) H) ∨ ∃ k, xs = [.bl k] ∧ Q (.int (if k then 1 else 0)) H
theorem call_int1' {X : Cx} : CallR X (.type "int") rInt1 := call_int1
theorem iEnumT_mono {X : Cx} {K : PySem.W.Frag} {es : List Expr} {σ : L2.St} {H : Hp} (R R' : It → Hp → Prop) (h : ∀ J H, R J H → R' J H) (q : iEnumT K (WA X es) σ H R) : iEnumT K (WA X es) σ H R' :=
  ⟨fun pos pins s I => thn (q.run pos pins s I) fun us s1 ⟨vs, H1, I1, r, a, xs, e1, e2, e3⟩ => ⟨vs, H1, I1, r, a, xs, e1, e2, h _ _ e3⟩⟩
theorem rd_updK {H : Hp} {p : Addr} {kvs kvs' : List (Key × V)} {a : Addr} {u : HO} (e : H p = some (.dK kvs)) (hu : u ≠ .dK kvs) (h : Rd H a u) : Rd (upd H p (.dK kvs')) a u := by
  rcases h with h | ⟨o, h⟩
  · exact .inl (by rw [upd_ne (ne_of h e hu)]; exact h)
  · exact .inr ⟨o, by rw [upd_ne (ne_of h e (fun z => nomatch z))]; exact h⟩
theorem sqT_updK {K : PySem.W.Frag} {H : Hp} {p : Addr} {kvs kvs' : List (Key × V)} {a : Addr} {xs : List V} (e : H p = some (.dK kvs)) (h : SqT K H a xs) : SqT K (upd H p (.dK kvs')) a xs := h.imp (rd_updK e (fun z => nomatch z)) id
theorem sqL_updK {K : PySem.W.Frag} {H : Hp} {p : Addr} {kvs kvs' : List (Key × V)} {a : Addr} {xs : List V} (e : H p = some (.dK kvs)) (h : SqL K H a xs) : SqL K (upd H p (.dK kvs')) a xs := h.imp (rd_updK e (fun z => nomatch z)) id
mutual
theorem dp_updK {K : PySem.W.Frag} {H : Hp} {p : Addr} {kvs kvs' : List (Key × V)} (e : H p = some (.dK kvs)) : ∀ {d : PyData} {v : V}, Dp K H v d → Dp K (upd H p (.dK kvs')) v d
  | _, _, .non => .non
  | _, _, .bl b => .bl b
  | _, _, .int i => .int i
  | _, _, .str x => .str x
  | _, _, .lst h g => .lst (sqL_updK e h) (dpAll_updK e g)
  | _, _, .tup h g => .tup (sqT_updK e h) (dpAll_updK e g)
theorem dpAll_updK {K : PySem.W.Frag} {H : Hp} {p : Addr} {kvs kvs' : List (Key × V)} (e : H p = some (.dK kvs)) : ∀ {ds : List PyData} {vs : List V}, DpAll K H vs ds → DpAll K (upd H p (.dK kvs')) vs ds
  | _, _, .nil => .nil
  | _, _, .cons h g => .cons (dp_updK e h) (dpAll_updK e g)
end
/-- e, its object locked -/
def weL (X : Cx) (e : Expr) : TE := fun σ H Q => WE X e σ H fun v H1 => ∃ d u, v = .ref d ∧ H1 d = some u ∧ Mut (some u) ∧ ∀ od, Q v (upd H1 d (.frz od u))
theorem peL {X : Cx} {e : Expr} : PE X e (weL X e) := ⟨fun pins s σ H Q I h => (we_lock h).run pins s I⟩
theorem iTup_mono {X : Cx} {K : PySem.W.Frag} {e : Expr} {σ : L2.St} {H : Hp} (R R' : It → Hp → Prop) (h : ∀ J H, R J H → R' J H) (q : iTup K (WE X e) σ H R) : iTup K (WE X e) σ H R' :=
  WE.mono q fun v H1 ⟨a, e1, e2, e3⟩ => ⟨a, e1, e2, h _ _ e3⟩
end WP
end
section
set_option Elab.async false
set_option linter.all false
set_option maxRecDepth 100000
set_option maxHeartbeats 4000000
/-! Tuples of which the object is known (no own dict), and dict of such a tuple of pairs. -/
namespace WP
open PySem PySem.Spec PyProof.Rows L2
section
variable {X : Cx} {es : List Expr} {σ : L2.St} {H : Hp} {Q : VK} {pos : Pos}
/-- a plain tuple object -/
structure Pl (o : Obj) : Prop where
  cls : o.cls = .type "tuple"
  dct : o.dict = none
theorem we_tupZ {j : Nat} (q : WA X es σ H fun xs H1 => xs.length ≤ sizeLine ∧ ∀ p o, H1 p = none → Pl o → Q (.ref p) (upd H1 p (.frz o (.tup xs)))) : WE X (.Tuple es j pos) σ H Q := by
  refine ⟨fun pins s I => ?_⟩
  refine wpAny_Tuple_spliced (thn (q.run pos pins s I) fun us s1 ⟨xs, H1, I1, r, z, q⟩ => ⟨by rw [← r.length]; exact z, ?_⟩)
  refine ⟨.ref s1.heap.objs.size, _, I1.laid (t' := s1.toks) (fun b u e => Heap.get?_push_of_some _ e) (Nat.le_refl _) ?_, rfl, q _ { cls := .type "tuple", data := .seq us.toArray } (I1.hok.fresh (Nat.le_refl _)) ⟨rfl, rfl⟩⟩
  exact ⟨Heap.get?_push_size _ rfl, z, us, r, ⟨_, Heap.get?_push_size _ rfl, rfl, _, rfl⟩⟩
def rTupZ (K : PySem.W.Frag) : List V → Hp → VK → Prop := fun xs H Q => ∃ p ys, xs = [.ref p] ∧ SqL K H p ys ∧ ∀ l o, H l = none → Pl o → Q (.ref l) (upd H l (.frz o (.tup ys)))
theorem call_tupZ : CallR X (.type "tuple") (rTupZ X.K) := by
  intro pins s σ H xs us Q I r h
  obtain ⟨p, ys, rfl, hq, q⟩ := h
  obtain ⟨u, rfl, rx⟩ := vals1 r
  cases rx
  obtain ⟨its, r', pl, hz⟩ := I.list hq
  have hlen := r'.length
  refine call_tuple_list pl.isList (fun h' kp => ?_) (by simp only [List.size_toArray] <;> omega)
  have I1 : Inv X pins σ H { s with heap := h' } := I.kept (t' := s.toks) kp
  refine ⟨.ref h'.objs.size, _, I1.laid (t' := s.toks) (fun b o e => Heap.get?_push_of_some _ e) (Nat.le_refl _) ?_, rfl, q _ { cls := .type "tuple", data := .seq its.toArray } (I1.hok.fresh (Nat.le_refl _)) ⟨rfl, rfl⟩⟩
  exact ⟨Heap.get?_push_size _ rfl, hz, its, r', IsTup.new _ _⟩
theorem i_tupZ {K : PySem.W.Frag} {n : Addr} {xs : List V} (h : H n = some (.lst xs)) (q : ∀ l o, H l = none → Pl o → Q (.ref l) (upd H l (.frz o (.tup xs)))) : rTupZ K [.ref n] H Q := ⟨n, xs, rfl, SqL.of h, q⟩
theorem sqT_frz {K : PySem.W.Frag} {a : Addr} {o : Obj} {xs : List V} (h : H a = some (.frz o (.tup xs))) : SqT K H a xs := .inl (.inr ⟨o, h⟩)
theorem vpairs_of {pins : List (Addr × Obj)} {s : Shared} (I : Inv X pins σ H s) : ∀ {ps : List Addr} {kvs : List (Key × V)}, Paired (fun p kv => SqT X.K H p [kV kv.1, kv.2]) ps kvs →
    ∃ (prs : List (Key × Value)) (vps : List (Value × Value)), KV kvs prs ∧ prs.length = ps.length ∧ vps.length = ps.length ∧ ∀ (j : Nat) (k v : Value), vps[j]? = some (k, v) → ∃ (b : Addr) (q : Key × Value), ps[j]? = some b ∧ prs[j]? = some q ∧ q.2 = v ∧ keyIs q.1 k = true ∧ IsTup s.heap b #[k, v]
  | _, _, .nil => ⟨[], [], .nil, rfl, rfl, fun j k v e => by simp at e⟩
  | _, _, .cons (a := p) (b := kv) h t => by
    obtain ⟨prs, vps, r, h1, h2, h3⟩ := vpairs_of I t
    obtain ⟨its, rv, ht, _⟩ := I.tuple h
    obtain ⟨u, y, ei, ru, ry⟩ := vals2 rv
    subst ei
    refine ⟨(kv.1, y) :: prs, (u, y) :: vps, .cons ⟨rfl, ry⟩ r, by simp [h1], by simp [h2], fun j k v e => ?_⟩
    cases j with
    | zero =>
      cases (Option.some.inj e)
      exact ⟨p, (kv.1, y), rfl, rfl, rfl, kV_is (P := X.prog) (w := X.w) ru, ht⟩
    | succ j =>
      obtain ⟨b, q, e1, e2, e3, e4, e5⟩ := h3 j k v (by simpa using e)
      exact ⟨b, q, by simpa using e1, by simpa using e2, e3, e4, e5⟩
def rDictT (K : PySem.W.Frag) : List V → Hp → VK → Prop := fun xs H Q => ∃ (a : Addr) (o : Obj) (ps : List Addr) (kvs : List (Key × V)), xs = [.ref a] ∧ H a = some (.frz o (.tup (ps.map V.ref))) ∧ Pl o ∧ Paired (fun p kv => SqT K H p [kV kv.1, kv.2]) ps kvs ∧
  ∀ p, H p = none → Q (.ref p) (upd H p (.dK (mergeK [] kvs)))
theorem call_dictT (hc : X.calm = true) : CallR X (.type "dict") (rDictT X.K) := by
  intro pins s σ H xs us Q I r h
  obtain ⟨a, o, ps, kvs, rfl, ha, pl, hp, q⟩ := h
  obtain ⟨u, rfl, rx⟩ := vals1 r
  cases rx
  obtain ⟨hz, its, rv, ob, ho, hcl, n, hdat⟩ := (show ObjOk X.prog X.w H s.heap a (.frz o (.tup (ps.map V.ref))) from I.hok a _ ha).2
  have hgo : s.heap.get? a = some o := (show ObjOk X.prog X.w H s.heap a (.frz o (.tup (ps.map V.ref))) from I.hok a _ ha).1
  rw [hgo] at ho
  cases ho
  have ei := refs_at rv
  subst ei
  rw [List.length_map] at hz
  obtain ⟨prs, vps, rel, hl, hl2, hpr⟩ := vpairs_of I hp
  refine PySem.call_dict_pairs (knd := mixKind X.prog X.w) (kvs := prs) (PySem.PairArg.tuple a (ps.map Value.ref).toArray (fun j => ps.getD j 0) vps) (I.ok.hd hc) ⟨⟨o, n, hgo, pl.cls, pl.dct, hdat⟩, by simp [hl2], fun j k v e => ?_⟩ ⟨by omega, fun j k v e => ?_⟩ (by omega) fun h' tk hd' kk => ?_
  · obtain ⟨b, q', e1, e2, e3, e4, e5⟩ := hpr j k v e
    refine ⟨by simp [e1], .inl ?_⟩
    show s.heap.IsTuple (ps.getD j 0) #[k, v]
    rw [show ps.getD j 0 = b by simp [e1]]
    exact e5
  · obtain ⟨b, q', e1, e2, e3, e4, e5⟩ := hpr j k v e
    exact ⟨q'.1, by rw [e2, ← e3], e4⟩
  · have hm : (s.heap.objs.size == sysModules) = false := beq_eq_false_iff_ne.mpr (Nat.ne_of_gt I.big)
    have hlen : (mergeK [] kvs).length ≤ sizeLine := by
      refine Nat.le_trans (length_mergeK kvs []) ?_
      rw [List.length_nil, Nat.zero_add, rel.length, hl]
      exact hz
    exact ⟨.ref s.heap.objs.size, _, I.laid (t' := tk) (fun b o e => kk b o (by simp) e) (Nat.le_refl _) (show ObjOk X.prog X.w _ _ _ (.dK (mergeK [] kvs)) from ⟨hlen, hm, merged [] prs, KV.merge rel .nil, hd'⟩), rfl, q _ (I.hok.fresh (Nat.le_refl _))⟩
end
end WP
end
section
set_option Elab.async false
set_option linter.all false
set_option maxRecDepth 100000
set_option maxHeartbeats 4000000
/-! t.count(x) of a tuple whose object is known, l.count(x) of flags; a heap with a place hidden. -/
namespace WP
open PySem PySem.Spec PyProof.Rows L2
section
variable {X : Cx} {K : PySem.W.Frag} {o e : Expr} {es : List Expr} {σ : L2.St} {H : Hp} {Q : VK} {pos apos cpos : Pos}
/-- how often a datum stands in a tuple -/
def rCntT (K : PySem.W.Frag) : V → List V → Hp → VK → Prop := fun x xs H Q => ∃ (a : Addr) (ys : List V) (y : V) (d : PyData) (ds : List PyData), x = .ref a ∧ xs = [y] ∧ SqT K H a ys ∧ DpAll K H ys ds ∧ Dp K H y d ∧ PyData.plainAll ds = true ∧ d.plain = true ∧ d.depth ≤ 1 ∧
  Q (.int ((ds.countP fun z => PyData.eqv z d : Nat) : Int)) H
theorem mt_tcount (hu : X.A.units + 65 < cLine) : MtR X "tuple.count" (rCntT X.K) := by
  intro pins s σ H x xs v us Q I rx rxs h
  obtain ⟨a, ys, y, d, ds, rfl, rfl, ht, hds, hd, p1, p2, p3, q⟩ := h
  cases rx
  obtain ⟨uy, rfl, ry⟩ := rxs.one
  obtain ⟨bs, r1⟩ := Dp.reads I d y uy hd ry
  obtain ⟨its, rv, hit, _⟩ := I.tuple ht
  obtain ⟨as, h4⟩ := Dp.readsAll I ds _ its hds rv
  exact PySem.SeqAt.count_tuple_data (vs := its.toArray) hit (show ReadsAll s.heap its.toArray.toList ds as from h4) r1 p1 p2 (by omega) ⟨.int _, H, I.tok _, ⟨s.toks, rfl⟩, q⟩
end
section
variable {X : Cx} {o i e : Expr} {st : Stmt} {rest : List Stmt} {σ : L2.St} {H : Hp} {Q : VK} {D : Ends} {pos p : Pos}
theorem WS.mono {D' : Ends} (h : WS X st D σ H) (h1 : ∀ σ H, D.nx σ H → D'.nx σ H) (h2 : ∀ v H, D.rt v H → D'.rt v H) (h3 : ∀ σ H, D.bk σ H → D'.bk σ H) (h4 : ∀ σ H, D.ct σ H → D'.ct σ H) : WS X st D' σ H :=
  ⟨fun pins s I => thn (h.run pins s I) fun fl s' q => by
    cases fl with
    | next => exact Exists.elim q fun a q => Exists.elim q fun b q => ⟨a, b, q.1, h1 _ _ q.2⟩
    | brk => exact Exists.elim q fun a q => Exists.elim q fun b q => ⟨a, b, q.1, h3 _ _ q.2⟩
    | cont => exact Exists.elim q fun a q => Exists.elim q fun b q => ⟨a, b, q.1, h4 _ _ q.2⟩
    | ret u => exact Exists.elim q fun v q => Exists.elim q fun a q => Exists.elim q fun b q => ⟨v, a, b, q.1, q.2.1, h2 _ _ q.2.2⟩⟩
/-- a cut behind a statement: what holds there, then the rest -/
theorem wb_cut (I : L2.St → Hp → Prop) (h1 : WS X st { D with nx := I } σ H) (h2 : ∀ σ' H', I σ' H' → WB X rest D σ' H') : WB X (st :: rest) D σ H :=
  wb_cons (h1.mono (fun σ H q => h2 σ H q) (fun _ _ q => q) (fun _ _ q => q) fun _ _ q => q)
/-- l[i] = e -/
theorem ws_put (q : WE X e σ H fun x H1 => WE X o σ H1 fun y H2 => WE X i σ H2 fun z H3 => rSetL y z x H3 fun H4 => D.nx σ H4) (hs : swapsWithSole [.Subscript o i p] e pos.line X.env = pure false := by rfl) (hw : swappedStores [.Subscript o i p] e X.env = pure none := by rfl)
    (h1 : List.map (fun x => x.snd) (assignEach [.Subscript o i p] X.env) = [assign (.Subscript o i p) X.env] := by rfl)
    (ha : ∀ v, assign (.Subscript o i p) X.env v = (do
      let ov ← holding [v] (eval o X.env)
      let iv ← holding [v, ov] (eval i X.env)
      standAt p
      holding [v, ov, iv] (setItem ov iv v)
      release [v, ov, iv] []) := by intro _; rfl) : WS X (.Assign [.Subscript o i p] e pos) D σ H :=
  ws_asg (pg_sub pe pe set_list ha) q hs hw h1
end
end WP
end
section
set_option Elab.async false
set_option linter.all false
set_option maxRecDepth 100000
set_option maxHeartbeats 4000000
/-! t.count(e), t a tuple whose object is known; % and // and ** and abs, int of numbers; set of texts. -/
namespace WP
open PySem PySem.Spec PyProof.Rows L2
section
variable {X : Cx} {K : PySem.W.Frag} {o e : Expr} {es : List Expr} {σ : L2.St} {H : Hp} {Q : VK} {pos apos cpos p p2 q2 : Pos} {x : Str}
def KnT (x : V) (H : Hp) : Prop := ∃ a ob xs, x = .ref a ∧ H a = some (.frz ob (.tup xs)) ∧ Pl ob
theorem we_tcount (hu : X.A.units + 65 < cLine) (q : WE X o σ H fun x H1 => KnT x H1 ∧ WA X (e :: es) σ H1 fun xs H2 => rCntT X.K x xs H2 Q)
    (hbase : attributeBase o "count" X.env (eval o X.env) = eval o X.env := by rfl)
    (hfew : ((backTo cpos (starEach (e :: es) X.env)).all (fun x => !x.1) && (backToKw cpos (keywordEach [] X.env)).all (fun x => x.1.isSome)
      && decide ((e :: es).length + ([] : List Keyword).length + (if ([] : List Keyword).isEmpty then 0 else 1) < 30)) = true := by rfl)
    (hline : (apos.endLine == cpos.line) = true := by rfl) (hs : starEach (e :: es) X.env = (false, eval e X.env) :: starEach es X.env := by rfl) (hplain : (backTo cpos (starEach es X.env)).any (·.1) = false := by rfl) :
    WE X (.Call (.Attribute o "count" apos) (e :: es) [] cpos) σ H Q := by
  refine ⟨fun pins s I => wpAny_Call_method_late hbase hfew hline rfl (thn (q.run pins s I) fun v s1 got => ?_)⟩
  obtain ⟨y, H1, I1, r1, ⟨a, ob, xs, rfl, hob, pl⟩, more⟩ := got
  cases r1
  have hg : s1.heap.get? a = some ob := (show ObjOk X.prog X.w H1 s1.heap a (.frz ob (.tup xs)) from I1.hok a _ hob).1
  refine ⟨"tuple", "tuple.count", PySem.F.plainAttrs_tuple, PySem.F.slot_tuple_count, PySem.F.type_tuple_count, ⟨ob, hg, pl.cls⟩, fun b z => ?_, ?_⟩
  · cases z
    exact ⟨ob, hg, pl.dct⟩
  · have args := more.run cpos pins s1 I1
    rw [hs] at args ⊢
    exact Calls.callWith_builtin (by show (false || (backTo cpos (starEach es X.env)).any (·.1)) = false; rw [hplain] <;> rfl) (Calls.evalArgs_plain (thn args fun us s2 fin => by
      obtain ⟨vs, H2, I2, rs, done⟩ := fin
      exact mt_tcount hu pins s2 σ H2 (.ref a) vs _ us Q I2 rfl rs done))
end
end WP
end
section
set_option Elab.async false
set_option linter.all false
set_option maxRecDepth 100000
set_option maxHeartbeats 6400000
/-! set(l) of a list of texts, any of them more than once; its len. -/
namespace WP
open PySem PySem.Spec PyProof.Rows L2
/-- the unlike texts, as they are met -/
def onceS (acc : List Str) (x : Str) : List Str := if acc.any (· == x) then acc else acc ++ [x]
def metS (xs : List Str) (i : Nat) : List Str := (xs.take i).foldl onceS []
theorem onceS_any (acc : List Str) (x k : Str) : (onceS acc x).any (· == k) = (acc.any (· == k) || decide (k = x)) := by
  by_cases e : k = x
  · subst e
    unfold onceS
    split
    · rename_i h
      rw [h]
      simp
    · simp
  · have e' : (x == k) = false := by
      rw [beq_eq_false_iff_ne]
      exact fun z => e z.symm
    unfold onceS
    split <;> simp [e, e']
theorem onceS_len (acc : List Str) (x : Str) : (onceS acc x).length = if acc.any (· == x) then acc.length else acc.length + 1 := by
  unfold onceS
  split <;> simp
theorem metS_succ {xs : List Str} {i : Nat} (h : i < xs.length) : metS xs (i + 1) = onceS (metS xs i) (xs.getD i Str.empty) := by
  unfold metS
  rw [List.take_succ_eq_append_getElem h, List.foldl_append]
  simp [List.getD, h]
theorem metS_le (xs : List Str) : ∀ i, (metS xs i).length ≤ i
  | 0 => by simp [metS]
  | i + 1 => by
    have ih := metS_le xs i
    by_cases h : i < xs.length
    · rw [metS_succ h, onceS_len]
      split <;> omega
    · have e : xs.take (i + 1) = xs.take i := by rw [List.take_of_length_le (by omega), List.take_of_length_le (by omega)]
      have : metS xs (i + 1) = metS xs i := by simp [metS, e]
      rw [this]
      omega
section
variable {prog : Program} {w : World} {A : Around} {R : Result → Shared → Prop} {I : Addr} {fp wr : List Addr} {G : Array GenState → Array GenState → Prop} {P : Nat → Value → Prop} {St : Nat → Shared → Prop}
/-- what the set at S holds when i texts are in -/
abbrev HoldsS (prog : Program) (w : World) (h : Heap) (S : Addr) (xs : List Str) (i : Nat) : Prop := h.SetOf (PySem.strKind prog w) S (fun k => (metS xs i).any (· == k)) (metS xs i).length
theorem fill_texts {xs : List Str} {S : Addr} (W : WalksS prog w A.in1 I fp wr G xs.length P St) (off : S ∉ fp) (few : xs.length + 1 < scanBound) (txt : ∀ i v, P i v → ∃ t, v = .str (xs.getD i Str.empty) t) (left : Nat) :
    ∀ (i : Nat) (s : Shared), i + left = xs.length → St i s → HoldsS prog w s.heap S xs i → (∀ s', Moved (S :: wr) G s s' → HoldsS prog w s'.heap S xs xs.length → R (.ok (.ret .none)) s') →
      codeAny (model prog w) A (.builtin "set.update.loop" ⟨[.ref S, .ref I], []⟩) R s := by
  have off' : S ∉ wr := fun h => off (W.sub _ h)
  have wide : ∀ b ∈ wr, b ∈ S :: wr := fun b => List.mem_cons_of_mem _
  have still : ∀ {s s' : Shared} {i : Nat}, Moved wr G s s' → HoldsS prog w s.heap S xs i → HoldsS prog w s'.heap S xs i := fun m h => by
    obtain ⟨o, es, ep, t, ho, more⟩ := h
    exact ⟨o, es, ep, t, m.heap S _ off' ho, more⟩
  induction left with
  | zero =>
    intro i s e at_i held fin
    obtain rfl : i = xs.length := by omega
    refine codeAny_builtin PyProof.Rows.F.entry_set_update_loop ?_
    rw [Around.under_plainId PyProof.Rows.F.plain_set_update_loop _]
    exact wpAny_bind (W.done s _ _ at_i fun s' m => wpAny_pure (fin s' (m.mono wide) (still m held)))
  | succ left more =>
    intro i s e at_i held fin
    have lt : i < xs.length := by omega
    refine codeAny_builtin PyProof.Rows.F.entry_set_update_loop ?_
    rw [Around.under_plainId PyProof.Rows.F.plain_set_update_loop _]
    refine wpAny_bind (W.item i s _ _ lt at_i fun v s' is_v at_i' m => ?_)
    obtain ⟨t, rfl⟩ := txt i v is_v
    have held' := still m held
    refine wpAny_bind (wpAny_holding ?_)
    unfold setAdd
    refine wpAny_holding (wpAny_bind ((PySem.strKind prog w).pyHash (k := xs.getD i Str.empty) (strKind_is _ _ _ _) ?_))
    have few' : (metS xs i).length + 1 < scanBound := by
      have := metS_le xs i
      omega
    refine wpAny_setAddHashed_of (knd := PySem.strKind prog w) (s := { s' with toks := s'.toks + 1 }) (strKind_is _ _ _ _) rfl held' few' fun h2 but got => ?_
    have next : HoldsS prog w h2 S xs (i + 1) := PyProof.Rows.SetOf_congr got (fun k => by rw [metS_succ lt, onceS_any]) (by rw [metS_succ lt, onceS_len])
    have keeps : ∀ b, b ≠ S → h2.get? b = s'.heap.get? b := but.2
    refine wpAny_pure ⟨plainId_quiet PyProof.Rows.F.plain_set_update_loop _, more (i + 1) _ (by omega) (W.frame _ s' _ _ at_i' (Nat.le_succ _) fun b hb o eo => ?_) next fun s2 m2 last => ?_⟩
    · rw [keeps b fun z => off (z ▸ hb)]
      exact eo
    · refine fin s2 (Moved.trans W.gtrans ((m.mono wide).then_heap (Nat.le_succ _) fun b o hb eo => ?_) m2) last
      rw [keeps b fun z => hb (by rw [z]; exact List.mem_cons_self)]
      exact eo
end
section
variable {prog : Program} {w : World} {A : Around} {E : Value → Shared → Prop} {s : Shared}
theorem set_of_texts {l : Addr} {items : Array Value} {xs : List Str} {Q : Value → Shared → Prop} (calm : A.handled = none) (isl : s.heap.IsList l items) (txts : PyProof.Rows.StrsAre items.toList xs) (few : xs.length + 1 < scanBound)
    (fin : ∀ (h' : Heap) (tk : Nat), HoldsS prog w h' s.heap.objs.size xs xs.length → (∀ b o, b < s.heap.objs.size → s.heap.get? b = some o → h'.get? b = some o) → Q (.ref s.heap.objs.size) { s with heap := h', toks := tk }) :
    wpAny (model prog w) A (call (.type "set") [.ref l]) Q E s := by
  have size : xs.length = items.size := by rw [← StrsAre.len_eq txts, Array.length_toList]
  obtain ⟨c, tl, mro⟩ := PySem.F.called_set.mro
  have f1 := PySem.F.called_set.made
  have f2 := PySem.F.called_set.sub
  have f3 := PySem.F.called_set.notType
  have f4 := PySem.F.called_set.canCreate
  have f5 := PySem.F.typeCall_set_1 (.ref l)
  refine wpAny_call (codeAny_of_tree ?_)
  show wpAny _ _ (callAny (.type "set") _) _ _ _
  refine wpAny_pure ⟨Code.quiet_builtin _ (by decide +kernel), codeAny_builtin PySem.F.entry_type_call ?_⟩
  rw [Around.under_plain (weight_type_call_type "set" [.ref l] []) rfl]
  repeat (any_goals (first | assumption | wp_step))
  refine codeAny_mono (code_set_new_1 (.ref l) (E := E) (Q₁ := fun obj s₁ => ∃ led : Bool, obj = .ref s.heap.objs.size ∧ s₁ = { s with heap := s.heap.push { cls := .type "set", dict := none, data := .set #[] 0 (.fresh 0 0 led) } }) fun led => ⟨led, rfl, rfl⟩) fun r s₁ made => ?_
  cases r with
  | error e => exact made
  | ok fl =>
    cases fl with
    | next => exact made.elim
    | brk => exact made.elim
    | cont => exact made.elim
    | ret obj =>
      obtain ⟨led, rfl, rfl⟩ := made
      have atS : (s.heap.push { cls := .type "set", dict := none, data := .set #[] 0 (.fresh 0 0 led) }).get? s.heap.objs.size = some { cls := .type "set", dict := none, data := .set #[] 0 (.fresh 0 0 led) } := Heap.get?_push_size _ rfl
      have isS : Shared.TypeIs { s with heap := s.heap.push { cls := .type "set", dict := none, data := .set #[] 0 (.fresh 0 0 led) } } (.ref s.heap.objs.size) "set" := ⟨_, atS, rfl⟩
      have g1 := PySem.F.called_set.init.lookup
      have g2 := PySem.F.called_set.init.bind (.ref s.heap.objs.size)
      repeat (any_goals (first | assumption | wp_step))
      refine codeAny_mono (codeAny_call_builtin (R := wants (fun r s₂ => r = .none ∧ ∃ h' tk, s₂ = { s with heap := h', toks := tk } ∧ HoldsS prog w h' s.heap.objs.size xs xs.length ∧ (∀ b o, b < s.heap.objs.size → s.heap.get? b = some o → h'.get? b = some o)) E)
        PySem.F.called_set.init.plain PySem.F.entry_set_init (check_set_init_1 isS ?_)) fun r₂ s₂ filled => ?_
      · obtain ⟨⟨oc, od, odata, osl⟩, hol, hcl, nl, hdl⟩ := isl
        simp only at hcl hdl
        subst hcl hdl
        have atl : (s.heap.push { cls := .type "set", dict := none, data := .set #[] 0 (.fresh 0 0 led) }).get? l = some { cls := .type "list", dict := od, data := .seq items nl, slots := osl } := Heap.get?_push_of_some _ hol
        have isl1 : (s.heap.push { cls := .type "set", dict := none, data := .set #[] 0 (.fresh 0 0 led) }).IsList l items := ⟨_, atl, rfl, nl, rfl⟩
        have k1 := PySem.F.sub_list_set
        have k2 := PySem.F.sub_list_frozenset
        have k3 : (Value.type "list" == Value.type "dict") = false := by decide
        have ltl : l < s.heap.objs.size := Heap.lt_size hol
        unfold Builtin.«set.__init__» noKeywords Builtin.Frozenset.updateFrom
        generalize hPI : pyIter = PI
        wp_walk
        subst hPI
        refine wpAny_pyIter_list isl1 ?_
        refine wpAny_bind (wpAny_runValue ?_)
        have calm3 : A.in1.in1.in1.handled = none := by simp [calm]
        have sz : (s.heap.push { cls := .type "set", dict := none, data := .set #[] 0 (.fresh 0 0 led) }).objs.size = s.heap.objs.size + 1 := Heap.size_push _ _
        have lI : l ≠ (s.heap.push { cls := .type "set", dict := none, data := .set #[] 0 (.fresh 0 0 led) }).objs.size := by
          rw [Heap.size_push]
          exact Nat.ne_of_lt (Nat.lt_succ_of_lt ltl)
        have off : s.heap.objs.size ∉ [(s.heap.push { cls := .type "set", dict := none, data := .set #[] 0 (.fresh 0 0 led) }).objs.size, l] := by
          simp only [Heap.size_push, List.mem_cons, List.not_mem_nil, or_false, not_or]
          exact ⟨Nat.ne_of_lt (Nat.lt_succ_self _), Nat.ne_of_gt ltl⟩
        have txt : ∀ (i : Nat) (v : Value), items[i]? = some v → ∃ t, v = .str (xs.getD i Str.empty) t := fun i v hv => SS.strs_at txts i v (by rw [Array.getElem?_toList]; exact hv)
        have W := (Walks.list calm3 (s.heap.push { cls := .type "set", dict := none, data := .set #[] 0 (.fresh 0 0 led) }).objs.size l lI items).toS (prog := prog) (w := w)
        rw [← size] at W
        refine fill_texts W off few txt xs.length 0 _ (by omega) ⟨⟨_, Heap.get?_push_size _ rfl, rfl, rfl⟩, isl1.push _⟩ ?_ fun s' m last => ?_
        · exact PyProof.Rows.SetOf_congr ((PyProof.Rows.setObjOf_fresh (knd := PySem.strKind prog w) led).setOf (Heap.get?_push_of_some _ atS) (by unfold scanBound; omega)) (fun _ => rfl) rfl
        · obtain ⟨h', g', d', tk', os'⟩ := s'
          obtain rfl : g' = s.gens := m.gens
          obtain rfl : d' = s.drawn := m.drawn
          obtain rfl : os' = s.os := m.os
          show wpAny _ _ _ _ _ _
          refine wpAny_pure ?_
          show wpAny _ _ (ret Value.none) _ _ _
          refine wpAny_pure ⟨rfl, h', tk', rfl, last, fun b o hb e => m.heap b o ?_ (Heap.get?_push_of_some _ (Heap.get?_push_of_some _ e))⟩
          simp only [Heap.size_push, List.mem_cons, List.not_mem_nil, or_false, not_or]
          exact ⟨Nat.ne_of_lt hb, Nat.ne_of_lt (Nat.lt_succ_of_lt hb)⟩
      · cases r₂ with
        | error e => exact filled
        | ok fl₂ =>
          cases fl₂ with
          | next => exact filled.elim
          | brk => exact filled.elim
          | cont => exact filled.elim
          | ret r =>
            obtain ⟨rfl, h', tk, rfl, held, kept⟩ := filled
            repeat (any_goals (first | assumption | wp_step))
            exact fin _ _ held kept
end
section
variable {X : Cx} {a : Expr} {σ : L2.St} {H : Hp} {Q : VK} {p p2 q2 pos : Pos}
/-- len(set(a)), a a list of texts -/
theorem we_lenSet (hc : X.calm = true) (hg : Gl X "len") (hm : X.mg "len" = none) (hg2 : Gl X "set") (hm2 : X.mg "set" = none) (q : WE X a σ H fun x H1 => ∃ l, ∃ xs : List Str, x = .ref l ∧ SqL X.K H1 l (xs.map V.str) ∧ xs.length ≤ 1000 ∧ Q (.int (metS xs xs.length).length) H1)
    (na : starEach [a] X.env = (false, eval a X.env) :: starEach [] X.env := by rfl) : WE X (.Call (.Name "len" p) [.Call (.Name "set" p2) [a] [] q2] [] pos) σ H Q := by
  refine ⟨fun pins s I => ?_⟩
  refine Call_ (ld_blt I hg hm boot_len (PyProof.Rows.callWith_builtin1 (PyProof.Rows.args_cons ?_ rfl) rfl rfl))
  refine Call_ (ld_blt I hg2 hm2 boot_set (PyProof.Rows.callWith_type1 (PyProof.Rows.args_cons (thn (q.run pins s I) fun v s1 got => PyProof.Rows.args_nil ?_) na) na rfl))
  obtain ⟨x, H1, I1, rx, l, xs, rfl, isl, few, done⟩ := got
  cases rx
  obtain ⟨its, r, pl, _⟩ := I1.list isl
  refine set_of_texts (I1.ok.hd hc) pl.isList (by simpa using strsAre_of r) (by unfold scanBound; omega) fun h' tk held kept => PyProof.Rows.args_nil ?_
  obtain ⟨o, es, ep, t, ho, hex, hd, _, _, _, hf, hn⟩ := held
  have I2 : Inv X pins σ H1 { s1 with heap := h', toks := tk } := I1.kept fun b o e => kept b o (Heap.lt_size e) e
  have le := metS_le xs xs.length
  exact call_len_set ho hex hd hf (by rw [hn]; omega) ⟨.int (metS xs xs.length).length, H1, I2.tok _, ⟨_, by rw [hn]⟩, done⟩
end
end WP
end
section
set_option Elab.async false
set_option linter.all false
set_option maxRecDepth 100000
set_option maxHeartbeats 4000000
/-! A heap with places hidden; data whose tuples are known objects. -/
namespace WP
open PySem PySem.Spec PyProof.Rows L2
def hid (S : List Addr) (H : Hp) : Hp := fun b => if b ∈ S then none else H b
theorem hid_in {S : List Addr} {H : Hp} {b : Addr} (h : b ∈ S) : hid S H b = none := if_pos h
theorem hid_out {S : List Addr} {H : Hp} {b : Addr} (h : b ∉ S) : hid S H b = H b := if_neg h
theorem hid_upd_in {S : List Addr} {H : Hp} {a : Addr} {o : HO} (h : a ∈ S) : hid S (upd H a o) = hid S H := by
  funext b
  by_cases hb : b ∈ S
  · rw [hid_in hb, hid_in hb]
  · rw [hid_out hb, hid_out hb, upd_ne (fun z : b = a => hb (by rw [z]; exact h))]
theorem hid_upd_out {S : List Addr} {H : Hp} {a : Addr} {o : HO} (h : a ∉ S) : hid S (upd H a o) = upd (hid S H) a o := by
  funext b
  by_cases hb : b ∈ S
  · rw [hid_in hb, upd_ne (fun z : b = a => h (by rw [← z]; exact hb)), hid_in hb]
  · rw [hid_out hb]
    by_cases e : b = a
    · rw [e, upd_same, upd_same]
    · rw [upd_ne e, upd_ne e, hid_out hb]
theorem same_hid {S : List Addr} {H H' : Hp} (s : Same H H') : Same (hid S H) (hid S H') := fun b o e => by
  by_cases hb : b ∈ S
  · rw [hid_in hb] at e
    cases e
  · rw [hid_out hb] at e ⊢
    exact s b o e
theorem hid_same {S : List Addr} {H : Hp} : Same (hid S H) H := fun b o e => by
  by_cases hb : b ∈ S
  · rw [hid_in hb] at e
    cases e
  · rwa [hid_out hb] at e
theorem same_more {S T : List Addr} {H H' : Hp} (s : Same (hid S H) (hid S H')) (st : ∀ a ∈ S, a ∈ T) : Same (hid T H) (hid T H') := fun b o e => by
  by_cases hb : b ∈ T
  · rw [hid_in hb] at e
    cases e
  · have hs : b ∉ S := fun z => hb (st b z)
    rw [hid_out hb] at e ⊢
    have := s b o (by rw [hid_out hs]; exact e)
    rwa [hid_out hs] at this
theorem same_at {S : List Addr} {H H' : Hp} {b : Addr} {o : HO} (s : Same (hid S H) (hid S H')) (hb : b ∉ S) (e : H b = some o) : H' b = some o := by
  have := s b o (by rw [hid_out hb]; exact e)
  rwa [hid_out hb] at this
theorem hid_new {S : List Addr} {H : Hp} {a : Addr} {o : HO} (h : H a = none) : Same (hid S H) (hid S (upd H a o)) := same_hid (Same.new h)
theorem hid_put {S : List Addr} {H : Hp} {a : Addr} {o : HO} (h : a ∈ S) : Same (hid S H) (hid S (upd H a o)) := by
  rw [hid_upd_in h]
  exact Same.refl _
mutual
/-- a datum whose tuples are known objects without own dict -/
inductive Dz (H : Hp) : V → PyData → Prop
  | non : Dz H .non .none
  | bl (b : Bool) : Dz H (.bl b) (.bool b)
  | int (i : Int) : Dz H (.int i) (.int i)
  | str (x : Str) : Dz H (.str x) (.str x)
  | lst {a : Addr} {xs : List V} {ds : List PyData} : H a = some (.lst xs) → DzAll H xs ds → Dz H (.ref a) (.list ds)
  | tup {a : Addr} {o : Obj} {xs : List V} {ds : List PyData} : H a = some (.frz o (.tup xs)) → Pl o → DzAll H xs ds → Dz H (.ref a) (.tuple ds)
inductive DzAll (H : Hp) : List V → List PyData → Prop
  | nil : DzAll H [] []
  | cons {x : V} {d : PyData} {xs : List V} {ds : List PyData} : Dz H x d → DzAll H xs ds → DzAll H (x :: xs) (d :: ds)
end
mutual
theorem Dz.dp {K : PySem.W.Frag} {H : Hp} : ∀ {d : PyData} {v : V}, Dz H v d → Dp K H v d
  | _, _, .non => .non
  | _, _, .bl b => .bl b
  | _, _, .int i => .int i
  | _, _, .str x => .str x
  | _, _, .lst h g => .lst (SqL.of h) g.dp
  | _, _, .tup h _ g => .tup (sqT_frz h) g.dp
theorem DzAll.dp {K : PySem.W.Frag} {H : Hp} : ∀ {ds : List PyData} {vs : List V}, DzAll H vs ds → DpAll K H vs ds
  | _, _, .nil => .nil
  | _, _, .cons h g => .cons h.dp g.dp
end
mutual
theorem Dz.mono {H H' : Hp} (e : Same H H') : ∀ {d : PyData} {v : V}, Dz H v d → Dz H' v d
  | _, _, .non => .non
  | _, _, .bl b => .bl b
  | _, _, .int i => .int i
  | _, _, .str x => .str x
  | _, _, .lst h g => .lst (e _ _ h) (g.mono e)
  | _, _, .tup h p g => .tup (e _ _ h) p (g.mono e)
theorem DzAll.mono {H H' : Hp} (e : Same H H') : ∀ {ds : List PyData} {vs : List V}, DzAll H vs ds → DzAll H' vs ds
  | _, _, .nil => .nil
  | _, _, .cons h g => .cons (h.mono e) (g.mono e)
end
theorem DzAll.len {H : Hp} : ∀ {vs : List V} {ds : List PyData}, DzAll H vs ds → vs.length = ds.length
  | _, _, .nil => rfl
  | _, _, .cons _ g => by simp [g.len]
theorem DzAll.app {H : Hp} : ∀ {vs ws : List V} {ds es : List PyData}, DzAll H vs ds → DzAll H ws es → DzAll H (vs ++ ws) (ds ++ es)
  | _, _, _, _, .nil, h => h
  | _, _, _, _, .cons a b, h => .cons a (b.app h)
theorem DzAll.snoc {H : Hp} {vs : List V} {ds : List PyData} {v : V} {d : PyData} (g : DzAll H vs ds) (h : Dz H v d) : DzAll H (vs ++ [v]) (ds ++ [d]) := g.app (.cons h .nil)
theorem DzAll.take {H : Hp} : ∀ {vs : List V} {ds : List PyData} (n : Nat), DzAll H vs ds → DzAll H (vs.take n) (ds.take n)
  | _, _, 0, _ => .nil
  | _, _, _ + 1, .nil => .nil
  | _, _, n + 1, .cons a b => .cons a (b.take n)
theorem DzAll.drop {H : Hp} : ∀ {vs : List V} {ds : List PyData} (n : Nat), DzAll H vs ds → DzAll H (vs.drop n) (ds.drop n)
  | _, _, 0, h => h
  | _, _, _ + 1, .nil => .nil
  | _, _, n + 1, .cons a b => b.drop n
theorem DzAll.at {H : Hp} : ∀ {vs : List V} {ds : List PyData} {i : Nat} {v : V}, DzAll H vs ds → vs[i]? = some v → ∃ d, ds[i]? = some d ∧ Dz H v d
  | _, _, _, _, .nil, e => by simp at e
  | _, _, 0, _, .cons a b, e => by
    simp at e
    subst e
    exact ⟨_, rfl, a⟩
  | _, _, i + 1, _, .cons a b, e => by simpa using b.at (i := i) (by simpa using e)
theorem hid_le {S T : List Addr} {H : Hp} (st : ∀ a ∈ S, a ∈ T) : Same (hid T H) (hid S H) := fun b o e => by
  by_cases hb : b ∈ T
  · rw [hid_in hb] at e
    cases e
  · rw [hid_out fun z => hb (st b z)]
    rwa [hid_out hb] at e
mutual
/-- a datum without lists does not stand on a list -/
theorem Dz.off {S : List Addr} {H : Hp} {D : Addr} {ys : List V} (e : H D = some (.lst ys)) : ∀ {d : PyData} {v : V}, nolist d = true → Dz (hid S H) v d → Dz (hid (S ++ [D]) H) v d
  | _, _, _, .non => .non
  | _, _, _, .bl b => .bl b
  | _, _, _, .int i => .int i
  | _, _, _, .str x => .str x
  | _, _, n, .lst h g => by simp [nolist] at n
  | _, _, n, .tup (a := a) h p g => by
    have hs : a ∉ S := fun z => by rw [hid_in z] at h; cases h
    have hD : a ≠ D := fun z => by rw [hid_out hs, z, e] at h; cases h
    refine .tup ?_ p (g.off e (by simpa [nolist] using n))
    rw [hid_out (by simp [hs, hD])]
    rwa [hid_out hs] at h
theorem DzAll.off {S : List Addr} {H : Hp} {D : Addr} {ys : List V} (e : H D = some (.lst ys)) : ∀ {ds : List PyData} {vs : List V}, nolists ds = true → DzAll (hid S H) vs ds → DzAll (hid (S ++ [D]) H) vs ds
  | _, _, _, .nil => .nil
  | _, _, n, .cons h g => by
    simp only [nolists, Bool.and_eq_true] at n
    exact .cons (h.off e n.1) (g.off e n.2)
end
end WP
end
section
set_option Elab.async false
set_option linter.all false
set_option maxRecDepth 100000
set_option maxHeartbeats 4000000
/-! A lambda handed to a def that catches what it raises, by name; l.count(flag), l.index(flag). -/
namespace WP
open PySem PySem.Spec PyProof.Rows L2 LamX
section
variable {X : Cx} {K : PySem.W.Frag} {o e : Expr} {es : List Expr} {σ : L2.St} {H : Hp} {Q : VK} {pos apos cpos p : Pos}
/-- [b].count(True) -/
def rCntB (K : PySem.W.Frag) : V → List V → Hp → VK → Prop := fun x xs H Q => ∃ (a : Addr) (b c : Bool), x = .ref a ∧ xs = [.bl c] ∧ SqL K H a [.bl b] ∧ Q (.int (if b = c then 1 else 0)) H
theorem mt_bcount (hu : X.A.units + 65 < cLine) : MtR X "list.count" (rCntB X.K) := by
  intro pins s σ H x xs v us Q I rx rxs h
  obtain ⟨a, b, c, rfl, rfl, ht, q⟩ := h
  cases rx
  obtain ⟨uy, rfl, ry⟩ := rxs.one
  obtain ⟨bs, r1⟩ := Dp.reads I (.bool c) (.bl c) uy (.bl c) ry
  obtain ⟨its, rv, hit, _⟩ := I.list ht
  obtain ⟨as, h4⟩ := Dp.readsAll I [.bool b] [.bl b] its (.cons (.bl b) .nil) rv
  have e : ((([PyData.bool b] : List PyData).countP fun z => PyData.eqv z (.bool c) : Nat) : Int) = if b = c then 1 else 0 := by
    cases b <;> cases c <;> decide +kernel
  refine PySem.SeqAt.count_list_data (vs := its.toArray) hit.isList (show ReadsAll s.heap its.toArray.toList [PyData.bool b] as from h4) r1 rfl rfl (by simp [PyData.depth, PyData.depthAll]; omega) ?_
  rw [e]
  exact ⟨.int _, H, I.tok _, ⟨s.toks, rfl⟩, q⟩
/-- x(lambda: body), told by what the body does -/
def tLamB (X : Cx) (k : Nat) (scope : Scope) (body : Expr) : XK → TE := fun E σ H Q => ∀ (A : Around) (outer : List Env) (s : Shared) (H0 : Hp) (f c' : Addr), Room k (A.deeper (lamEnv X scope s.heap.objs.size f c')) → WE (lamCx X A outer s H0 E scope f c') body σ H Q
theorem tLamB_pe {k : Nat} {scope : Scope} {body : Expr} (A : Around) (outer : List Env) (s : Shared) (H : Hp) (E : XK) (f c' : Addr) (r : Room k (A.deeper (lamEnv X scope s.heap.objs.size f c'))) : PE (lamCx X A outer s H E scope f c') body (tLamB X k scope body E) :=
  ⟨fun pins s' σ H' Q I q => (q A outer s H f c' r).run pins s' I⟩
/-- what except .. as gives: the suite, the error at a -/
def tsS (X : Cx) (sts : List Stmt) : Addr → Value → Option Addr → TS := fun a cls d D σ H => ∀ (oe : Obj) (pn : List (Addr × Obj)), Zc cls d oe → (∃ vs, oe.data = .fields vs) → WB (X.suite a ((a, oe) :: pn)) sts D σ H
end
end WP
end
section
set_option Elab.async false
set_option linter.all false
set_option maxRecDepth 100000
set_option maxHeartbeats 4000000
/-! Displays of constants and known names: what they lay down. -/
namespace WP
open PySem PySem.Spec PyProof.Rows L2
mutual
/-- the datum that a display tells; names are read by ρ (the slot, the datum) -/
def litE (ρ : Str → Option (Nat × PyData)) : Nat → Expr → Option PyData
  | 0, _ => none
  | _ + 1, .Constant (.str s) _ _ => some (.str s)
  | _ + 1, .Constant (.int i) _ _ => some (.int i)
  | _ + 1, .Constant (.bool b) _ _ => some (.bool b)
  | _ + 1, .Constant .none _ _ => some .none
  | _ + 1, .Name x _ => (ρ x).map (·.2)
  | n + 1, .Tuple es _ _ => if es.length ≤ 1000 then (litEs ρ n es).map .tuple else none
  | n + 1, .List es _ => if es.length ≤ 1000 then (litEs ρ n es).map .list else none
  | _ + 1, _ => none
def litEs (ρ : Str → Option (Nat × PyData)) : Nat → List Expr → Option (List PyData)
  | _, [] => some []
  | 0, _ => none
  | n + 1, e :: es => match litE ρ n e, litEs ρ n es with
    | some d, some ds => some (d :: ds)
    | _, _ => none
end
theorem litEs_len (ρ : Str → Option (Nat × PyData)) : ∀ (n : Nat) (es : List Expr) (ds : List PyData), litEs ρ n es = some ds → ds.length = es.length
  | n, [], ds, h => by cases n <;> (simp [litEs] at h; subst h; rfl)
  | 0, e :: es, ds, h => by simp [litEs] at h
  | n + 1, e :: es, ds, h => by
    simp only [litEs] at h
    cases h1 : litE ρ n e with
    | none => simp [h1] at h
    | some d => cases h2 : litEs ρ n es with
      | none => simp [h1, h2] at h
      | some ds' =>
        simp [h1, h2] at h
        subst h
        simp [litEs_len ρ n es ds' h2]
/-- the names of ρ stand so in the slots -/
structure NamesAt (X : Cx) (S : List Addr) (ρ : Str → Option (Nat × PyData)) (σ : L2.St) (H : Hp) : Prop where
  at_ : ∀ x i d, ρ x = some (i, d) → X.N[i]? = some x ∧ Vis X.env.scope x ∧ (x == ("__debug__" : Str)) = false ∧ (x == ("__classdict__" : Str)) = false ∧ ∃ v, σ[i]? = some (some v) ∧ Dz (hid S H) v d
theorem NamesAt.same {X : Cx} {S : List Addr} {ρ : Str → Option (Nat × PyData)} {σ : L2.St} {H H' : Hp} (h : NamesAt X S ρ σ H) (s : Same H H') : NamesAt X S ρ σ H' :=
  ⟨fun x i d e => by
    obtain ⟨h1, h2, h3, h4, v, h5, h6⟩ := h.at_ x i d e
    exact ⟨h1, h2, h3, h4, v, h5, h6.mono (same_hid s)⟩⟩
section
variable {X : Cx} {S : List Addr} {ρ : Str → Option (Nat × PyData)} {σ : L2.St}
/-- what is laid new does not stand on hidden places -/
def Off (S : List Addr) (H : Hp) : Prop := ∀ a ∈ S, H a ≠ none
theorem Off.same {H H' : Hp} (h : Off S H) (s : Same H H') : Off S H' := fun a ha z => by
  cases e : H a with
  | none => exact h a ha e
  | some o =>
    rw [s _ _ e] at z
    cases z
theorem Off.out {H : Hp} {p : Addr} (h : Off S H) (hp : H p = none) : p ∉ S := fun z => h p z hp
def LitOk (X : Cx) (S : List Addr) (ρ : Str → Option (Nat × PyData)) (σ : L2.St) (n : Nat) : Prop := ∀ (e : Expr) (d : PyData) (H : Hp) (Q : VK), litE ρ n e = some d → NamesAt X S ρ σ H → Off S H → (∀ v H', Same H H' → Dz (hid S H') v d → Q v H') → WE X e σ H Q
def LitsOk' (X : Cx) (S : List Addr) (ρ : Str → Option (Nat × PyData)) (σ : L2.St) (n : Nat) : Prop := ∀ (es : List Expr) (ds : List PyData) (H : Hp) (Q : List V → Hp → Prop), litEs ρ n es = some ds → NamesAt X S ρ σ H → Off S H → (∀ vs H', Same H H' → DzAll (hid S H') vs ds → Q vs H') → WA X es σ H Q
theorem lit_star {n : Nat} {e : Expr} {d : PyData} (es : List Expr) (h : litE ρ n e = some d) : starEach (e :: es) X.env = (false, eval e X.env) :: starEach es X.env := by
  cases n with
  | zero => simp [litE] at h
  | succ n => cases e <;> first | rfl | (simp [litE] at h; done)
theorem lits_ok {n : Nat} (ih : ∀ m, m ≤ n → LitOk X S ρ σ m) : ∀ k, k ≤ n → LitsOk' X S ρ σ k := by
  intro k
  induction k with
  | zero =>
    intro hk es ds H Q h hN hO q
    cases es with
    | nil =>
      simp [litEs] at h
      subst h
      exact wa_nil (q [] H (Same.refl _) .nil)
    | cons e es => simp [litEs] at h
  | succ k IH =>
    intro hk es ds H Q h hN hO q
    cases es with
    | nil =>
      simp [litEs] at h
      subst h
      exact wa_nil (q [] H (Same.refl _) .nil)
    | cons e es =>
      simp only [litEs] at h
      cases h1 : litE ρ k e with
      | none => simp [h1] at h
      | some d => cases h2 : litEs ρ k es with
        | none => simp [h1, h2] at h
        | some ds' =>
          simp [h1, h2] at h
          subst h
          refine wa_cons (ih k (by omega) e d H _ h1 hN hO fun v H1 s1 g1 => ?_) (lit_star es h1)
          exact IH (by omega) es ds' H1 _ h2 (hN.same s1) (hO.same s1) fun vs H2 s2 g2 => q _ _ (s1.trans s2) (.cons (g1.mono (same_hid s2)) g2)
theorem lit_ok : ∀ n, LitOk X S ρ σ n := by
  intro n
  induction n using Nat.strongRecOn with
  | _ n IH =>
    intro e d H Q h hN hO q
    cases n with
    | zero => simp [litE] at h
    | succ n =>
      have more := lits_ok (n := n) (fun m hm => IH m (by omega)) n (Nat.le_refl _)
      cases e with
      | Constant c j p =>
        cases c with
        | str s => simp [litE] at h; subst h; exact we_str (q _ _ (Same.refl _) (.str s))
        | int i => simp [litE] at h; subst h; exact we_int (q _ _ (Same.refl _) (.int i))
        | bool b => simp [litE] at h; subst h; exact we_bl (q _ _ (Same.refl _) (.bl b))
        | none => simp [litE] at h; subst h; exact we_non (q _ _ (Same.refl _) .non)
        | _ => simp [litE] at h
      | Name x p =>
        simp only [litE, Option.map_eq_some_iff] at h
        obtain ⟨⟨i, d'⟩, h1, rfl⟩ := h
        obtain ⟨a1, a2, a3, a4, v, a5, a6⟩ := hN.at_ x i d' h1
        exact we_var i a1 a2 a5 (q _ _ (Same.refl _) a6) a3 a4
      | Tuple es j p =>
        simp only [litE] at h
        split at h
        · rename_i hl
          cases h2 : litEs ρ n es with
          | none => simp [h2] at h
          | some ds =>
            simp [h2] at h
            subst h
            have hlen := litEs_len ρ n es ds h2
            refine we_tupZ (more es ds H _ h2 hN hO fun vs H1 s1 g1 => ?_)
            have gl := g1.len
            refine ⟨by simp only [sizeLine]; omega, fun p o hp pl => ?_⟩
            have off := (hO.same s1).out hp
            refine q _ _ (s1.trans (Same.new hp)) (.tup ?_ pl (g1.mono (hid_new hp)))
            rw [hid_out off]
            exact upd_same
        · cases h
      | List es p =>
        simp only [litE] at h
        split at h
        · rename_i hl
          cases h2 : litEs ρ n es with
          | none => simp [h2] at h
          | some ds =>
            simp [h2] at h
            subst h
            have hlen := litEs_len ρ n es ds h2
            refine we_lst (more es ds H _ h2 hN hO fun vs H1 s1 g1 => ?_)
            have gl := g1.len
            refine ⟨by simp only [sizeLine]; omega, fun p hp => ?_⟩
            have off := (hO.same s1).out hp
            refine q _ _ (s1.trans (Same.new hp)) (.lst ?_ (g1.mono (hid_new hp)))
            rw [hid_out off]
            exact upd_same
        · cases h
      | _ => simp [litE] at h
/-- a display -/
theorem we_lit (n : Nat) (ρ : Str → Option (Nat × PyData)) (S : List Addr) {e : Expr} {d : PyData} {H : Hp} {Q : VK} (h : litE ρ n e = some d) (hN : NamesAt X S ρ σ H) (hO : Off S H) (q : ∀ v H', Same H H' → Dz (hid S H') v d → Q v H') : WE X e σ H Q :=
  lit_ok n e d H Q h hN hO q
theorem namesAt_none {H : Hp} : NamesAt X S (fun _ => none) σ H := ⟨fun x i d e => nomatch e⟩
end
end WP
end
section
set_option Elab.async false
set_option linter.all false
set_option maxRecDepth 100000
set_option maxHeartbeats 4000000
set_option pp.maxSteps 700
open PySem PySem.Spec PyProof.Rows L2 WP
/-! tactics of this text (parameterless words of the library, taken over locally) -/
/- k_places: Same; k_subL: data at a heap -/
local macro_rules | `(tactic| k_places) => `(tactic| first
  | assumption
  | exact Same.refl _
  | exact Same.new (by assumption)
  | (refine Same.trans ?_ (by assumption); k_places)
  | (refine Same.trans ?_ (Same.new (by assumption)); k_places))
local macro_rules | `(tactic| k_subL) => `(tactic| first
  | assumption
  | exact Dp.int _
  | exact Dp.str _
  | exact Dp.bl _
  | exact Dp.non
  | exact WP.dp_mono (by k_places) (by assumption))
/- k_clsL: how a name is seen -/
local macro_rules | `(tactic| k_clsL) => `(tactic| first
  | exact Or.inl rfl
  | exact Or.inr (Or.inl rfl)
  | exact Or.inr (Or.inr rfl) | exact Or.inr rfl)
/- l_intsC: a name of the def read; k_memK: a target; k_offL: a name stored; k_upd: a name counted up -/
local macro_rules | `(tactic| l_intsC) => `(tactic| first
  | refine WP.we_var 0 (by rfl) (by k_clsL) (by rfl) ?_
  | refine WP.we_var 1 (by rfl) (by k_clsL) (by rfl) ?_
  | refine WP.we_var 2 (by rfl) (by k_clsL) (by rfl) ?_
  | refine WP.we_var 3 (by rfl) (by k_clsL) (by rfl) ?_
  | refine WP.we_var 4 (by rfl) (by k_clsL) (by rfl) ?_
  | refine WP.we_var 5 (by rfl) (by k_clsL) (by rfl) ?_
  | refine WP.we_var 6 (by rfl) (by k_clsL) (by rfl) ?_
  | refine WP.we_var 7 (by rfl) (by k_clsL) (by rfl) ?_
  | refine WP.we_var 8 (by rfl) (by k_clsL) (by rfl) ?_
  | refine WP.we_var 9 (by rfl) (by k_clsL) (by rfl) ?_
  | refine WP.we_var 10 (by rfl) (by k_clsL) (by rfl) ?_
  | refine WP.we_var 11 (by rfl) (by k_clsL) (by rfl) ?_
  | refine WP.we_var 12 (by rfl) (by k_clsL) (by rfl) ?_
  | refine WP.we_var 13 (by rfl) (by k_clsL) (by rfl) ?_
  | refine WP.we_var 14 (by rfl) (by k_clsL) (by rfl) ?_
  | refine WP.we_var 15 (by rfl) (by k_clsL) (by rfl) ?_)
local macro_rules | `(tactic| k_memK) => `(tactic| first
  | exact pg_name (i := 0) (by assumption) (by rfl) (by k_clsL)
  | exact pg_name (i := 1) (by assumption) (by rfl) (by k_clsL)
  | exact pg_name (i := 2) (by assumption) (by rfl) (by k_clsL)
  | exact pg_name (i := 3) (by assumption) (by rfl) (by k_clsL)
  | exact pg_name (i := 4) (by assumption) (by rfl) (by k_clsL)
  | exact pg_name (i := 5) (by assumption) (by rfl) (by k_clsL)
  | exact pg_name (i := 6) (by assumption) (by rfl) (by k_clsL)
  | exact pg_name (i := 7) (by assumption) (by rfl) (by k_clsL)
  | exact pg_name (i := 8) (by assumption) (by rfl) (by k_clsL)
  | exact pg_name (i := 9) (by assumption) (by rfl) (by k_clsL)
  | exact pg_name (i := 10) (by assumption) (by rfl) (by k_clsL)
  | exact pg_name (i := 11) (by assumption) (by rfl) (by k_clsL)
  | exact pg_name (i := 12) (by assumption) (by rfl) (by k_clsL)
  | exact pg_name (i := 13) (by assumption) (by rfl) (by k_clsL)
  | exact pg_name (i := 14) (by assumption) (by rfl) (by k_clsL)
  | exact pg_name (i := 15) (by assumption) (by rfl) (by k_clsL)
  | (show PG _ (Expr.Tuple [_, _] _ _) _; exact pg_tup rfl (pgs_cons (by k_memK) (pgs_cons (by k_memK) pgs_nil)))
  | (show PG _ (Expr.Tuple [_, _, _] _ _) _; exact pg_tup rfl (pgs_cons (by k_memK) (pgs_cons (by k_memK) (pgs_cons (by k_memK) pgs_nil))))
  | (show PG _ (Expr.Tuple [_, _, _, _] _ _) _; exact pg_tup rfl (pgs_cons (by k_memK) (pgs_cons (by k_memK) (pgs_cons (by k_memK) (pgs_cons (by k_memK) pgs_nil))))))
local macro_rules | `(tactic| k_offL) => `(tactic| first
  | refine WP.ws_set 0 (by assumption) (by rfl) (by k_clsL) ?_
  | refine WP.ws_set 1 (by assumption) (by rfl) (by k_clsL) ?_
  | refine WP.ws_set 2 (by assumption) (by rfl) (by k_clsL) ?_
  | refine WP.ws_set 3 (by assumption) (by rfl) (by k_clsL) ?_
  | refine WP.ws_set 4 (by assumption) (by rfl) (by k_clsL) ?_
  | refine WP.ws_set 5 (by assumption) (by rfl) (by k_clsL) ?_
  | refine WP.ws_set 6 (by assumption) (by rfl) (by k_clsL) ?_
  | refine WP.ws_set 7 (by assumption) (by rfl) (by k_clsL) ?_
  | refine WP.ws_set 8 (by assumption) (by rfl) (by k_clsL) ?_
  | refine WP.ws_set 9 (by assumption) (by rfl) (by k_clsL) ?_
  | refine WP.ws_set 10 (by assumption) (by rfl) (by k_clsL) ?_
  | refine WP.ws_set 11 (by assumption) (by rfl) (by k_clsL) ?_
  | refine WP.ws_set 12 (by assumption) (by rfl) (by k_clsL) ?_
  | refine WP.ws_set 13 (by assumption) (by rfl) (by k_clsL) ?_
  | refine WP.ws_set 14 (by assumption) (by rfl) (by k_clsL) ?_
  | refine WP.ws_set 15 (by assumption) (by rfl) (by k_clsL) ?_)
local macro_rules | `(tactic| k_upd) => `(tactic| first
  | refine WP.ws_aug 0 (by assumption) (by rfl) (by k_clsL) ip_add (by rfl) ?_
  | refine WP.ws_aug 1 (by assumption) (by rfl) (by k_clsL) ip_add (by rfl) ?_
  | refine WP.ws_aug 2 (by assumption) (by rfl) (by k_clsL) ip_add (by rfl) ?_
  | refine WP.ws_aug 3 (by assumption) (by rfl) (by k_clsL) ip_add (by rfl) ?_
  | refine WP.ws_aug 4 (by assumption) (by rfl) (by k_clsL) ip_add (by rfl) ?_
  | refine WP.ws_aug 5 (by assumption) (by rfl) (by k_clsL) ip_add (by rfl) ?_
  | refine WP.ws_aug 6 (by assumption) (by rfl) (by k_clsL) ip_add (by rfl) ?_
  | refine WP.ws_aug 7 (by assumption) (by rfl) (by k_clsL) ip_add (by rfl) ?_
  | refine WP.ws_aug 8 (by assumption) (by rfl) (by k_clsL) ip_add (by rfl) ?_
  | refine WP.ws_aug 9 (by assumption) (by rfl) (by k_clsL) ip_add (by rfl) ?_
  | refine WP.ws_aug 10 (by assumption) (by rfl) (by k_clsL) ip_add (by rfl) ?_
  | refine WP.ws_aug 11 (by assumption) (by rfl) (by k_clsL) ip_add (by rfl) ?_
  | refine WP.ws_aug 12 (by assumption) (by rfl) (by k_clsL) ip_add (by rfl) ?_
  | refine WP.ws_aug 13 (by assumption) (by rfl) (by k_clsL) ip_add (by rfl) ?_
  | refine WP.ws_aug 14 (by assumption) (by rfl) (by k_clsL) ip_add (by rfl) ?_
  | refine WP.ws_aug 15 (by assumption) (by rfl) (by k_clsL) ip_add (by rfl) ?_)
/- k_all: steps and branches -/
local macro_rules | `(tactic| k_all) => `(tactic| repeat' first | keq_rows | refine WP.i_ite (fun _ => ?_) (fun _ => ?_))
/- keq_rows: one step; keq_hits: as many as go -/
local macro_rules | `(tactic| keq_rows) => `(tactic| (fail_if_success (with_reducible refine WP.i_ite (fun _ => ?_) (fun _ => ?_))); first
  | (show WP.WE _ (Expr.Name _ _) _ _ _; first | l_intsC | refine WP.we_gstr (by assumption) (by rfl) ?_ | refine WP.we_gint (by assumption) (by rfl) ?_ | refine WP.we_bty (by assumption) (by rfl) ?_)
  | refine WP.we_int ?_ | refine WP.we_str ?_ | refine WP.we_non ?_ | refine WP.we_bl ?_
  | refine WP.wa_cons ?_ | refine WP.wa_nil ?_
  | (show WP.WE _ (Expr.Call _ _ _ _) _ _ _; first
    | (show WP.WE _ (Expr.Call (Expr.Name _ _) _ _ _) _ _ _; first
      | refine WP.we_callB (WP.call_isiD) (by rfl) (by assumption) boot_isinstance ?_
      | refine WP.we_callB (WP.call_ln) (by rfl) (by assumption) PySem.boot_len ?_
      | refine WP.we_call' (by assumption) (Room.mono (by assumption) (by omega)) (by first | exact WP.pas_blk | exact WP.pas_of (by assumption) | exact WP.pas_no) (by rfl) ?_)
    | refine WP.we_append ?_ | refine WP.we_extend ?_ | refine WP.we_pop ?_
    | refine WP.we_meth (by assumption) (by assumption) (Room.mono (by assumption) (by omega)) (by first | exact WP.pas_blk | exact WP.pas_of (by assumption) | exact WP.pas_no) ?_)
  | refine WP.we_tup ?_ | refine WP.we_lst ?_ | refine WP.we_if ?_
  | refine WP.we_and ?_ | refine WP.we_or ?_ | refine WP.we_one ?_ | refine WP.we_not ?_
  | (show WP.WE _ (Expr.Compare _ _ _ _) _ _ _; first
    | (show WP.WE _ (Expr.Compare _ [CmpOp.LtE, CmpOp.LtE] _ _) _ _ _; refine WP.we_chain op_le op_le ?_)
    | (show WP.WE _ (Expr.Compare _ [CmpOp.Lt] _ _) _ _ _; refine WP.we_cmp op_lt (by rfl) ?_) | (show WP.WE _ (Expr.Compare _ [CmpOp.LtE] _ _) _ _ _; refine WP.we_cmp op_le (by rfl) ?_) | (show WP.WE _ (Expr.Compare _ [CmpOp.Gt] _ _) _ _ _; refine WP.we_cmp op_gt (by rfl) ?_) | (show WP.WE _ (Expr.Compare _ [CmpOp.GtE] _ _) _ _ _; refine WP.we_cmp op_ge (by rfl) ?_)
    | (show WP.WE _ (Expr.Compare _ [CmpOp.Is] _ _) _ _ _; refine WP.we_cmp WP.op_isNA (by rfl) ?_) | (show WP.WE _ (Expr.Compare _ [CmpOp.IsNot] _ _) _ _ _; refine WP.we_cmp WP.op_notNA (by rfl) ?_))
  | refine WP.wb_cons ?_ | refine WP.wb_one ?_ | refine WP.wb_nil ?_
  | (show WP.WS _ _ _ _ _; first
    | refine WP.ws_ret ?_ | refine WP.ws_if ?_ | refine WP.ws_expr ?_
    | k_offL | k_upd | (show WP.WS _ (Stmt.Assign [Expr.Tuple _ _ _] _ _) _ _ _; refine WP.ws_asg (by k_memK) ?_))
  | refine WP.wt_not ?_ | refine WP.wt_ww ?_ | refine WP.ww_and ?_ | refine WP.ww_or ?_ | refine WP.ww_and1 ?_ | refine WP.ww_or1 ?_
  | (show WP.rIsiD _ _ _ _; refine WP.i_isi (by k_subL) (by rfl) ?_) | with_reducible refine WP.i_bl ?_ | with_reducible refine WP.i_I0 ?_
  | (show WP.rLn _ _ _ _; refine WP.i_lenD (by k_subL) ?_)
  | with_reducible refine WP.i_isN ?_ | with_reducible refine WP.i_notN ?_
  | refine WP.i_ins (by assumption) (by exact rfl) ?_
  | (show ipI _ _ _ _ _; refine ⟨_, _, rfl, rfl, ?_⟩)
  | (show rU _ _ _ _; refine ⟨_, rfl, ?_⟩)
  | (show WP.WE _ (Expr.UnaryOp .USub _ _) _ _ _; refine WP.we_un un_neg ?_)
  | (show WP.WE _ (Expr.BinOp _ .Sub _ _) _ _ _; refine WP.we_op op_sub ?_)
  | (show WP.WT _ (Expr.Compare _ _ _ _) _ _ _; first
    | (show WP.WT _ (Expr.Compare _ [CmpOp.Lt] _ _) _ _ _; refine WP.wt_cmp op_lt (by rfl) ?_) | (show WP.WT _ (Expr.Compare _ [CmpOp.LtE] _ _) _ _ _; refine WP.wt_cmp op_le (by rfl) ?_) | (show WP.WT _ (Expr.Compare _ [CmpOp.Gt] _ _) _ _ _; refine WP.wt_cmp op_gt (by rfl) ?_) | (show WP.WT _ (Expr.Compare _ [CmpOp.GtE] _ _) _ _ _; refine WP.wt_cmp op_ge (by rfl) ?_)
    | (show WP.WT _ (Expr.Compare _ [CmpOp.Is] _ _) _ _ _; refine WP.wt_cmp WP.op_isNA (by rfl) ?_) | (show WP.WT _ (Expr.Compare _ [CmpOp.IsNot] _ _) _ _ _; refine WP.wt_cmp WP.op_notNA (by rfl) ?_))
  | (show WP.WT _ (Expr.Call _ _ _ _) _ _ _; refine WP.wt_val ?_)
  | (show WP.WT _ (Expr.Name _ _) _ _ _; refine WP.wt_val ?_))
local macro_rules | `(tactic| keq_hits) => `(tactic| repeat' keq_rows)
namespace K9
section
/-! ### the mirror: words, forms -/
def signs : Str := "abcdefghijklmnopqrstuvwxyz?*+-<=>!"
def nameS (s : Str) : Bool := decide (1 ≤ s.length) && decide (s.length ≤ 12) && s.cps.toList.all fun c => decide (c ∈ signs.cps.toList)
def wordS (s : Str) : Bool := nameS s || decide (s = "...") || decide (s = "_")
def isInteger : PyData → Bool
  | .int _ => true
  | _ => false
def isWithin (lo hi : Int) : PyData → Bool
  | .int i => decide (lo ≤ i) && decide (i ≤ hi)
  | _ => false
def isTuple (n : Int) : PyData → Bool
  | .tuple ds => decide ((ds.length : Int) = n)
  | _ => false
def isSized (lo hi : Int) : PyData → Bool
  | .tuple ds => decide (lo ≤ (ds.length : Int)) && decide ((ds.length : Int) ≤ hi)
  | _ => false
def isName : PyData → Bool
  | .str s => nameS s
  | _ => false
def isWord : PyData → Bool
  | .str s => wordS s
  | _ => false
theorem str_beq (a b : Str) : (a == b) = decide (b = a) := by
  by_cases h : b = a
  · subst h
    simp
  · have h' : ¬ a = b := fun z => h z.symm
    simp [h, h']
theorem nameS_eq (z : Str) : nameS z = (decide ((1 : Int) ≤ (z.length : Int)) && decide ((z.length : Int) ≤ 12) && z.cps.toList.all fun c => decide (c ∈ signs.cps.toList)) := by
  have e1 : decide ((1 : Int) ≤ (z.length : Int)) = decide (1 ≤ z.length) := decide_eq_decide.mpr (by omega)
  have e2 : decide ((z.length : Int) ≤ 12) = decide (z.length ≤ 12) := decide_eq_decide.mpr (by omega)
  rw [nameS, e1, e2]
mutual
def formB : PyData → Bool
  | .int i => decide (-1000000000 ≤ i) && decide (i ≤ 1000000000)
  | .str s => wordS s
  | .tuple ds => formBs ds
  | _ => false
def formBs : List PyData → Bool
  | [] => true
  | d :: ds => formB d && formBs ds
end
mutual
def dsize : PyData → Nat
  | .tuple ds => dsizes ds + 1
  | _ => 1
def dsizes : List PyData → Nat
  | [] => 0
  | d :: ds => dsize d + dsizes ds
end
mutual
def ddep : PyData → Nat
  | .tuple ds => ddeps ds + 1
  | _ => 1
def ddeps : List PyData → Nat
  | [] => 0
  | d :: ds => max (ddep d) (ddeps ds)
end
/-! texts are of ordinary length -/
mutual
def smallD : PyData → Bool
  | .str s => decide (s.length ≤ 1000)
  | .tuple ds => smallDs ds
  | .list ds => smallDs ds
  | _ => true
def smallDs : List PyData → Bool
  | [] => true
  | d :: ds => smallD d && smallDs ds
end
theorem formBs_append (a b : List PyData) : formBs (a ++ b) = (formBs a && formBs b) := by
  induction a with
  | nil => simp [formBs]
  | cons x a ih => simp [formBs, ih, Bool.and_assoc]
theorem dsizes_append (a b : List PyData) : dsizes (a ++ b) = dsizes a + dsizes b := by
  induction a with
  | nil => simp [dsizes]
  | cons x a ih => simp [dsizes, ih]; omega
theorem dsize_pos : ∀ d, 1 ≤ dsize d := fun d => by cases d <;> simp [dsize]
theorem ddep_pos : ∀ d, 1 ≤ ddep d := fun d => by cases d <;> simp [ddep]
theorem ddeps_le {ds : List PyData} {d : PyData} (h : d ∈ ds) : ddep d ≤ ddeps ds := by
  induction ds with
  | nil => cases h
  | cons x ds ih =>
    simp only [ddeps]
    rcases List.mem_cons.mp h with rfl | h
    · exact Nat.le_max_left _ _
    · exact Nat.le_trans (ih h) (Nat.le_max_right _ _)
theorem smallDs_mem {ds : List PyData} {d : PyData} (h : smallDs ds = true) (hd : d ∈ ds) : smallD d = true := by
  induction ds with
  | nil => cases hd
  | cons x ds ih =>
    simp only [smallDs, Bool.and_eq_true] at h
    rcases List.mem_cons.mp hd with rfl | hd
    · exact h.1
    · exact ih h.2 hd
end
section
def top (i : Nat) : Stmt := PySem.Challenge.pw_owntexts_k29_whole_macros_that_end.main.body.getD i (.Pass ⟨0, 0, 0, 0⟩)
abbrev FnP (K : PySem.W.Frag) (x : Str) (i : Nat) (f : Addr) (fd : FuncData) : Prop := FunD K x x (defArgs (top i)) (defBody (top i)) (defScope (top i)) [] [] f fd
section
variable {P : Program} {w : World} {K : PySem.W.Frag} {mg : Str → Option Value} {base : Heap} {f : Addr} {fd : FuncData}
def sp_is_integer (K : PySem.W.Frag) : Sp := fun vs H Q _ => ∃ v d, vs = [v] ∧ Dp K H v d ∧ ∀ H', Same H H' → Q (.bl (isInteger d)) H'
theorem sc13 : FnScope ["thing"] ["thing"] (defScope (top 13)) := ⟨rfl, rfl, rfl, by decide +kernel, rfl, by decide +kernel, by decide +kernel⟩
theorem ok_is_integer (F : FnP K "is_integer" 13 f fd) (hm : mg "is_integer" = some (.ref f)) (mi : mg "isinstance" = none) (mint : BTy mg "int" "int") (mb : BTy mg "bool" "bool") : Def P w K mg base 1 "is_integer" (sp_is_integer K) := by
  refine Def.mk' F hm sc13 (fun vs H Q E h => ?_) (fun _ _ _ _ _ _ us hl => match us, hl with | [_], _ => rfl) (fun cdv A outer s H vs Q E hr tk h => ?_)
  · obtain ⟨v, d, rfl, _⟩ := h
    rfl
  · obtain ⟨v, d, rfl, hd, q⟩ := h
    have nd := sc13.nd
    keq_hits
    refine i_ite (fun e => ?_) (fun e => ?_)
    · keq_hits
      exact fin_bl (q _ (Same.refl _)) (by cases d <;> simp_all [isInteger, dInt, dBool])
    · exact fin_bl (q _ (Same.refl _)) (by cases d <;> simp_all [isInteger, dInt, dBool])
def sp_is_within (K : PySem.W.Frag) : Sp := fun vs H Q _ => ∃ v d lo hi, vs = [v, .int lo, .int hi] ∧ Dp K H v d ∧ ∀ H', Same H H' → Q (.bl (isWithin lo hi d)) H'
theorem sc14 : FnScope ["thing", "least", "most"] ["thing", "least", "most"] (defScope (top 14)) := ⟨rfl, rfl, rfl, by decide +kernel, rfl, by decide +kernel, by decide +kernel⟩
theorem ok_is_within (F : FnP K "is_within" 14 f fd) (hm : mg "is_within" = some (.ref f)) (D : Def P w K mg base 1 "is_integer" (sp_is_integer K)) : Def P w K mg base 2 "is_within" (sp_is_within K) := by
  refine Def.mk' F hm sc14 (fun vs H Q E h => ?_) (fun _ _ _ _ _ _ us hl => match us, hl with | [_, _, _], _ => rfl) (fun cdv A outer s H vs Q E hr tk h => ?_)
  · obtain ⟨v, d, lo, hi, rfl, _⟩ := h
    rfl
  · obtain ⟨v, d, lo, hi, rfl, hd, q⟩ := h
    have nd := sc14.nd
    keq_hits
    refine ⟨v, d, rfl, hd, fun H1 s1 => ?_⟩
    keq_hits
    refine i_ite (fun e => ?_) (fun e => ?_)
    · obtain ⟨i, rfl⟩ : ∃ i, d = .int i := by cases d <;> first | exact ⟨_, rfl⟩ | cases e
      cases dp_int hd
      keq_hits
      refine i_ite (fun e => ?_) (fun e => ?_)
      · keq_hits
        exact fin_bl (q _ s1) (by simp only [isWithin, e, Bool.true_and])
      · exact fin_bl (q _ s1) (by simp only [isWithin, e, Bool.false_and])
    · exact fin_bl (q _ s1) (by cases d <;> simp_all [isWithin, isInteger])
def sp_is_name (K : PySem.W.Frag) : Sp := fun vs H Q _ => ∃ v d, vs = [v] ∧ Dp K H v d ∧ smallD d = true ∧ ∀ H', Same H H' → Q (.bl (isName d)) H'
theorem sc17 : FnScope ["thing", "sign"] ["thing"] (defScope (top 17)) := ⟨rfl, rfl, rfl, by decide +kernel, rfl, by decide +kernel, by decide +kernel⟩
theorem ok_is_name (F : FnP K "is_name" 17 f fd) (hm : mg "is_name" = some (.ref f)) (mi : mg "isinstance" = none) (ml : mg "len" = none) (ma : mg "all" = none) (mS : ∃ t, mg "SIGNS" = some (.str signs t)) (mint : BTy mg "str" "str") : Def P w K mg base 1 "is_name" (sp_is_name K) := by
  refine Def.mk' F hm sc17 (fun vs H Q E h => ?_) (fun _ _ _ _ _ _ us hl => match us, hl with | [_], _ => rfl) (fun cdv A outer s H vs Q E hr tk h => ?_)
  · obtain ⟨v, d, rfl, _⟩ := h
    rfl
  · obtain ⟨v, d, rfl, hd, hz, q⟩ := h
    have nd := sc17.nd
    keq_hits
    refine i_ite (fun e => ?_) (fun e => ?_)
    · obtain ⟨z, rfl⟩ := dStr_of e
      cases dp_str hd
      have hz' : z.length ≤ 1000 := by simpa [smallD] using hz
      keq_hits
      refine i_lenS (Nat.le_trans hz' (by decide)) ?_
      keq_hits
      refine i_ite (fun e1 => ?_) (fun e1 => ?_)
      · keq_hits
        refine i_ite (fun e2 => ?_) (fun e2 => ?_)
        · keq_hits
          refine we_callB (cr_all rfl) (by rfl) (by assumption) boot_all ?_
          keq_hits
          refine we_lc rfl rfl tk rfl nd (pi_str pe) (blkOk_by (N := ["thing", "sign"]) (sc := defScope (top 17)) (own := [("sign", 1)]) (by decide +kernel)) (fun _ _ _ _ _ => by k_memK) ?_
          show WP.WE _ _ _ _ _
          keq_hits
          have hzl : z.cps.size ≤ 1000 := hz'
          refine ⟨z, rfl, fun D hD => lc_R (fun i _ v => v = .bl ((z.cps[i]?.map fun c => decide (c ∈ signs.cps.toList)).getD false)) stay_val walk_str (Nat.lt_of_le_of_lt hzl (by decide)) hD (fun _ _ => trivial) ?_ teW_mono gName_mono fun H1 acc s1 hl ha hR => ?_⟩
          · rintro i x H1 H2 hi s1 ⟨rfl, c, hc, rfl⟩
            refine ⟨rfl, fun s0 H0 C cl fp => ?_⟩
            refine we_cmp op_in_sign rfl ?_
            keq_hits
            exact ⟨c, signs, rfl, rfl, Same.refl _, by rw [hc]; rfl⟩
          · keq_hits
            have ea : acc = (z.cps.toList.map fun c => decide (c ∈ signs.cps.toList)).map V.bl := by
              apply List.ext_getElem?
              intro i
              by_cases hi : i < acc.length
              · rw [List.getElem?_eq_getElem hi, hR i _ (List.getElem?_eq_getElem hi)]
                have hi' : i < z.cps.size := by omega
                simp [hi']
              · rw [List.getElem?_eq_none (by omega), List.getElem?_eq_none (by simp; omega)]
            refine ⟨D, z.cps.toList.map fun c => decide (c ∈ signs.cps.toList), rfl, SqL.of (by rw [hl, ea]), ?_⟩
            refine fin_bl (q _ s1) ?_
            simp only [isName, nameS_eq, e1, e2, Bool.true_and, List.all_map]
            rfl
        · keq_hits
          exact fin_bl (q _ (Same.refl _)) (by simp only [isName, nameS_eq, e1, e2, Bool.true_and, Bool.false_and])
      · keq_hits
        refine i_iff rfl ?_
        exact fin_bl (q _ (Same.refl _)) (by simp only [isName, nameS_eq, e1, Bool.false_and])
    · exact fin_bl (q _ (Same.refl _)) (by cases d <;> simp_all [isName, dStr])
def sp_is_tuple (K : PySem.W.Frag) : Sp := fun vs H Q _ => ∃ v d n, vs = [v, .int n] ∧ Dp K H v d ∧ ∀ H', Same H H' → Q (.bl (isTuple n d)) H'
theorem sc15 : FnScope ["thing", "many"] ["thing", "many"] (defScope (top 15)) := ⟨rfl, rfl, rfl, by decide +kernel, rfl, by decide +kernel, by decide +kernel⟩
theorem ok_is_tuple (F : FnP K "is_tuple" 15 f fd) (hm : mg "is_tuple" = some (.ref f)) (mi : mg "isinstance" = none) (ml : mg "len" = none) (mt : BTy mg "tuple" "tuple") : Def P w K mg base 1 "is_tuple" (sp_is_tuple K) := by
  refine Def.mk' F hm sc15 (fun vs H Q E h => ?_) (fun _ _ _ _ _ _ us hl => match us, hl with | [_, _], _ => rfl) (fun cdv A outer s H vs Q E hr tk h => ?_)
  · obtain ⟨v, d, n, rfl, _⟩ := h
    rfl
  · obtain ⟨v, d, n, rfl, hd, q⟩ := h
    have nd := sc15.nd
    keq_hits
    refine i_ite (fun e => ?_) (fun e => ?_)
    · obtain ⟨ds, rfl⟩ := dTup_of e
      keq_hits
      refine we_cmp op_eq rfl ?_
      keq_hits
      refine ⟨rfl, fin_bl (q _ (Same.refl _)) ?_⟩
      simp only [isTuple, V.int.injEq]
    · exact fin_bl (q _ (Same.refl _)) (by cases d <;> simp_all [isTuple, dTup])
def sp_is_sized (K : PySem.W.Frag) : Sp := fun vs H Q _ => ∃ v d lo hi, vs = [v, .int lo, .int hi] ∧ Dp K H v d ∧ ∀ H', Same H H' → Q (.bl (isSized lo hi d)) H'
theorem sc16 : FnScope ["thing", "least", "most"] ["thing", "least", "most"] (defScope (top 16)) := ⟨rfl, rfl, rfl, by decide +kernel, rfl, by decide +kernel, by decide +kernel⟩
theorem ok_is_sized (F : FnP K "is_sized" 16 f fd) (hm : mg "is_sized" = some (.ref f)) (mi : mg "isinstance" = none) (ml : mg "len" = none) (mt : BTy mg "tuple" "tuple") : Def P w K mg base 1 "is_sized" (sp_is_sized K) := by
  refine Def.mk' F hm sc16 (fun vs H Q E h => ?_) (fun _ _ _ _ _ _ us hl => match us, hl with | [_, _, _], _ => rfl) (fun cdv A outer s H vs Q E hr tk h => ?_)
  · obtain ⟨v, d, lo, hi, rfl, _⟩ := h
    rfl
  · obtain ⟨v, d, lo, hi, rfl, hd, q⟩ := h
    have nd := sc16.nd
    keq_hits
    refine i_ite (fun e => ?_) (fun e => ?_)
    · obtain ⟨ds, rfl⟩ := dTup_of e
      keq_hits
      refine i_ite (fun e1 => ?_) (fun e1 => ?_)
      · keq_hits
        exact fin_bl (q _ (Same.refl _)) (by simp only [isSized, e1, Bool.true_and])
      · exact fin_bl (q _ (Same.refl _)) (by simp only [isSized, e1, Bool.false_and])
    · exact fin_bl (q _ (Same.refl _)) (by cases d <;> simp_all [isSized, dTup])
def sp_is_word (K : PySem.W.Frag) : Sp := fun vs H Q _ => ∃ v d, vs = [v] ∧ Dp K H v d ∧ smallD d = true ∧ ∀ H', Same H H' → Q (.bl (isWord d)) H'
theorem sc18 : FnScope ["thing"] ["thing"] (defScope (top 18)) := ⟨rfl, rfl, rfl, by decide +kernel, rfl, by decide +kernel, by decide +kernel⟩
theorem ok_is_word (F : FnP K "is_word" 18 f fd) (hm : mg "is_word" = some (.ref f)) (mi : mg "isinstance" = none) (mint : BTy mg "str" "str") (mR : ∃ t, mg "REPEAT" = some (.str "..." t)) (mA : ∃ t, mg "ANY" = some (.str "_" t)) (D : Def P w K mg base 1 "is_name" (sp_is_name K)) : Def P w K mg base 2 "is_word" (sp_is_word K) := by
  refine Def.mk' F hm sc18 (fun vs H Q E h => ?_) (fun _ _ _ _ _ _ us hl => match us, hl with | [_], _ => rfl) (fun cdv A outer s H vs Q E hr tk h => ?_)
  · obtain ⟨v, d, rfl, _⟩ := h
    rfl
  · obtain ⟨v, d, rfl, hd, hz, q⟩ := h
    have nd := sc18.nd
    keq_hits
    refine ⟨v, d, rfl, hd, hz, fun H1 s1 => ?_⟩
    keq_hits
    refine i_ite (fun e => ?_) (fun e => ?_)
    · exact fin_bl (q _ s1) (by cases d <;> simp_all [isWord, isName, wordS])
    · keq_hits
      refine i_ite (fun e1 => ?_) (fun e1 => ?_)
      · obtain ⟨z, rfl⟩ := dStr_of e1
        cases dp_str hd
        keq_hits
        refine we_cmp op_in_seq rfl ?_
        keq_hits
        refine ⟨by decide, fun p hp => ⟨p, _, rfl, .inr (SqT.of upd_same), rfl, rfl, fin_bl (q _ (s1.trans (Same.new hp))) ?_⟩⟩
        simp only [isName] at e
        simp only [isWord, wordS, e, Bool.false_or, inV, List.any_cons, List.any_nil, Bool.or_false, eqV]
        rw [if_neg Bool.false_ne_true, str_beq, str_beq]
      · exact fin_bl (q _ s1) (by cases d <;> simp_all [isWord, dStr])
end
end
section
section
variable {P : Program} {w : World} {K : PySem.W.Frag} {mg : Str → Option Value} {base : Heap} {f : Addr} {fd : FuncData}
/-- what waits: the pair at a, of the thing v (d) and its depth k -/
structure En where
  a : Addr
  v : V
  d : PyData
  k : Nat
structure EnOk (K : PySem.W.Frag) (H H' : Hp) (e : En) : Prop where
  tu : H' e.a = some (.tup [e.v, .int (e.k : Int)])
  dp : Dp K H e.v e.d
def EnIn (e : En) : Prop := smallD e.d = true ∧ e.k + ddep e.d ≤ 41
def esz (es : List En) : Nat := (es.map fun e => dsize e.d).sum
def many2 (σ : L2.St) : Nat := match σ[2]? with
  | some (some (V.int i)) => (3001 - i).toNat
  | _ => 0
def sp_is_form (K : PySem.W.Frag) : Sp := fun vs H Q _ => ∃ v d, vs = [v] ∧ Dp K H v d ∧ smallD d = true ∧ dsize d ≤ 3000 ∧ ddep d ≤ 40 ∧ ∀ H', Same H H' → Q (.bl (formB d)) H'
theorem sc19 : FnScope ["thing", "waiting", "many", "here", "deep", "part"] ["thing"] (defScope (top 19)) := ⟨rfl, rfl, rfl, by decide +kernel, rfl, by decide +kernel, by decide +kernel⟩
theorem enOk_upd {H H' : Hp} {l : Addr} {xs ys : List V} {e : En} (h : EnOk K H H' e) (hl : H' l = some (.lst xs)) : EnOk K H (upd H' l (.lst ys)) e :=
  ⟨by rw [upd_ne (ne_of h.tu hl (fun z => nomatch z))]; exact h.tu, h.dp⟩
theorem enOk_same {H H' H2 : Hp} {e : En} (h : EnOk K H H' e) (s : Same H' H2) : EnOk K H H2 e := ⟨s _ _ h.tu, h.dp⟩
theorem esz_append (a b : List En) : esz (a ++ b) = esz a + esz b := by simp [esz]
theorem ens_of {H H' : Hp} {k : Nat} : ∀ {xs : List V} {ds : List PyData}, DpAll K H xs ds → ∀ acc : List V, acc.length = xs.length → (∀ i v, acc[i]? = some v → ∃ p, v = .ref p ∧ H' p = some (.tup [xs.getD i .non, .int (k : Int)])) →
    ∃ es : List En, (es.map fun e => V.ref e.a) = acc ∧ (∀ e ∈ es, EnOk K H H' e ∧ e.k = k ∧ e.d ∈ ds) ∧ es.map (·.d) = ds
  | [], [], .nil, acc, hl, _ => ⟨[], by rw [List.length_eq_zero_iff.mp hl]; rfl, (fun _ z => absurd z (by simp)), rfl⟩
  | x :: xs, d :: ds, .cons hx h, [], hl, _ => nomatch hl
  | x :: xs, d :: ds, .cons hx h, y :: acc, hl, hR => by
    obtain ⟨p, rfl, hp⟩ := hR 0 y rfl
    obtain ⟨es, e1, e2, e3⟩ := ens_of h acc (by simpa using hl) fun i v e => hR (i + 1) v (by simpa using e)
    refine ⟨⟨p, x, d, k⟩ :: es, by simp [e1], fun e he => ?_, by simp [e3]⟩
    rcases List.mem_cons.mp he with rfl | he
    · exact ⟨⟨hp, hx⟩, rfl, by simp⟩
    · obtain ⟨a, b, c⟩ := e2 e he
      exact ⟨a, b, List.mem_cons_of_mem _ c⟩
theorem esz_map {es : List En} {ds : List PyData} (h : es.map (·.d) = ds) : esz es = dsizes ds := by
  subst h
  induction es with
  | nil => rfl
  | cons e es ih => simpa [esz, dsizes] using ih
theorem all_map {es : List En} {ds : List PyData} (h : es.map (·.d) = ds) : (es.all fun e => formB e.d) = formBs ds := by
  subst h
  induction es with
  | nil => rfl
  | cons e es ih => simp [formBs, ih]
theorem dsizes_len : ∀ ds : List PyData, ds.length ≤ dsizes ds
  | [] => Nat.le_refl _
  | d :: ds => by
    have h1 := dsizes_len ds
    have h2 := dsize_pos d
    simp only [List.length_cons, dsizes]
    omega
theorem esz_len : ∀ es : List En, es.length ≤ esz es
  | [] => Nat.le_refl _
  | e :: es => by
    have h1 := esz_len es
    have h2 := dsize_pos e.d
    have : esz (e :: es) = dsize e.d + esz es := rfl
    simp only [List.length_cons]
    omega
theorem formB_leaf {d : PyData} (h : dTup d = false) : formB d = (isWord d || isWithin (-1000000000) 1000000000 d) := by
  cases d <;> simp_all [formB, isWord, isWithin, dTup]
theorem ok_is_form (F : FnP K "is_form" 19 f fd) (hm : mg "is_form" = some (.ref f)) (mi : mg "isinstance" = none) (ml : mg "len" = none) (mt : BTy mg "tuple" "tuple")
    (mP : ∃ t, mg "MOST_PARTS" = some (.int 3000 t)) (mD : ∃ t, mg "MOST_DEEP" = some (.int 40 t)) (mI : ∃ t, mg "MOST_INT" = some (.int 1000000000 t))
    (DW : Def P w K mg base 2 "is_word" (sp_is_word K)) (DI : Def P w K mg base 2 "is_within" (sp_is_within K)) : Def P w K mg base 3 "is_form" (sp_is_form K) := by
  refine Def.mk' F hm sc19 (fun vs H Q E h => ?_) (fun _ _ _ _ _ _ us hl => match us, hl with | [_], _ => rfl) (fun cdv A outer s H vs Q E hr tk h => ?_)
  · obtain ⟨v, d, rfl, _⟩ := h
    rfl
  · obtain ⟨v, d, rfl, hd, hz, hsz, hdp, q⟩ := h
    have nd := sc19.nd
    -- waiting, many = [(thing, 1)], 0
    refine wb_cons (ws_par 1 2 rfl nd rfl rfl (by decide) rfl rfl (by rfl) ?_)
    keq_hits
    refine ⟨by show 2 ≤ sizeLine; decide, fun p hp => ?_⟩
    keq_hits
    refine ⟨by show 1 ≤ sizeLine; decide, fun l hl => ?_⟩
    keq_hits
    have hp0 : H p = none := hp
    have hl0 : H l = none := by
      by_cases z : l = p
      · rw [z]; exact hp
      · rwa [upd_ne z] at hl
    have lp : l ≠ p := fun z => by rw [z, upd_same] at hl; cases hl
    -- while len(waiting) > 0
    refine ws_whileI passes_bx (fun σ H' => ∃ (es : List En) (m : Nat) (hv dv pv : Option V), σ = [some v, some (.ref l), some (.int (m : Int)), hv, dv, pv] ∧ Same H H' ∧ H' l = some (.lst (es.map fun e => V.ref e.a)) ∧
      (∀ e ∈ es, EnOk K H H' e ∧ EnIn e) ∧ m + esz es ≤ 3000 ∧ formB d = es.all fun e => formB e.d) (fun σ _ => many2 σ) ?_ ?_
    · refine ⟨[⟨p, v, d, 1⟩], 0, none, none, none, rfl, (Same.new hp).trans (Same.new hl), upd_same, ?_, ?_, ?_⟩
      · intro e he
        rw [List.mem_singleton.mp he]
        exact ⟨⟨by rw [upd_ne (Ne.symm lp), upd_same]; rfl, hd⟩, hz, by show 1 + ddep d ≤ 41; omega⟩
      · show 0 + (dsize d + 0) ≤ 3000
        omega
      · simp
    · rintro σ H1 ⟨es, m, hv, dv, pv, rfl, s1, hl1, hes, hm1, hf⟩
      keq_hits
      refine i_lenLt hl1 ?_
      keq_hits
      refine i_ite (fun e => ?_) (fun e => ?_)
      · obtain ⟨es', en, rfl⟩ : ∃ es' en, es = es' ++ [en] := by
          rcases List.eq_nil_or_concat es with rfl | ⟨es', en, h⟩
          · simp at e
          · exact ⟨es', en, by simpa using h⟩
        have hen := hes en (by simp)
        -- here, deep = waiting.pop()
        keq_hits
        have hl2 : H1 l = some (.lst ((es'.map fun e => V.ref e.a) ++ [V.ref en.a])) := by rw [hl1]; simp
        refine i_lstT hl1 (i_pop hl2 ?_)
        have s2 : Same H (upd H1 l (.lst (es'.map fun e => V.ref e.a))) := s1.mut hl0
        have hl3 : upd H1 l (.lst (es'.map fun e => V.ref e.a)) l = some (.lst (es'.map fun e => V.ref e.a)) := upd_same
        have hes3 : ∀ e ∈ es', EnOk K H (upd H1 l (.lst (es'.map fun e => V.ref e.a))) e ∧ EnIn e := fun e he => ⟨enOk_upd (hes e (by simp [he])).1 hl1, (hes e (by simp [he])).2⟩
        have ten := (enOk_upd (ys := es'.map fun e => V.ref e.a) hen.1 hl1).tu
        have dp0 := hen.1.dp
        obtain ⟨sz0, de0⟩ := hen.2
        rw [esz_append] at hm1
        have hm1 : m + (esz es' + (dsize en.d + 0)) ≤ 3000 := hm1
        have dpos := dsize_pos en.d
        have kpos := ddep_pos en.d
        generalize upd H1 l (.lst (es'.map fun e => V.ref e.a)) = H3 at s2 hl3 hes3 ten ⊢
        refine i_two (SqT.of ten) ?_
        keq_hits
        have e30 : decide ((3000 : Int) < (m : Int) + 1) = false := decide_eq_false (by omega)
        have e40 : decide ((40 : Int) < (en.k : Int)) = false := decide_eq_false (by omega)
        refine i_iff e30 ?_
        keq_hits
        refine i_iff e40 ?_
        keq_hits
        refine i_ite (fun e1 => ?_) (fun e1 => ?_)
        · obtain ⟨ds, hds⟩ := dTup_of e1
          obtain ⟨a, xs, ea, hx, hxs⟩ := dp_tup (hds ▸ dp0)
          rw [ea]
          keq_hits
          have hx3 : SqT K H3 a xs := Same.tup s2 hx
          have dsz : dsize en.d = dsizes ds + 1 := by rw [hds]; rfl
          have ddp : ddep en.d = ddeps ds + 1 := by rw [hds]; rfl
          have hsm : smallDs ds = true := by rw [hds] at sz0; exact sz0
          have hlen := dpAll_len hxs
          have hl1s := dsizes_len ds
          have hl2s := esz_len es'
          refine i_lstT hl3 ?_
          keq_hits
          refine we_lc rfl rfl tk rfl nd (pi_tup pe) (blkOk_by (N := ["thing", "waiting", "many", "here", "deep", "part"]) (sc := defScope (top 19)) (own := [("part", 5)]) (by decide +kernel)) (fun _ _ _ _ _ => by k_memK) ?_
          show WP.WE _ _ _ _ _
          keq_hits
          refine ⟨a, rfl, ⟨xs, hx3⟩, fun D hD => lc_R (fun i H v => ∃ p, v = .ref p ∧ H p = some (.tup [xs.getD i .non, .int ((en.k + 1 : Nat) : Int)])) stay_tup walk_tup (by show xs.length < 16777216; omega) hD (fun H s => s.tup hx3) ?_ teW_mono gName_mono fun H4 acc s4 hl ha hR => ?_⟩
          · rintro i x H5 H6 hi s5 ⟨rfl, hxi⟩
            refine ⟨rfl, fun s0 H0 C cl fp => ?_⟩
            refine we_tup (wa_cons ?_)
            keq_hits
            refine we_op op_add ?_
            keq_hits
            refine ⟨by show 2 ≤ sizeLine; decide, fun p hp => ⟨Same.new hp, p, rfl, ?_⟩⟩
            rw [upd_same, List.getD_eq_getElem?_getD, hxi]
            rfl
          · keq_hits
            obtain ⟨es2, e2a, e2b, e2c⟩ := ens_of hxs acc (by omega) hR
            have hl4 := s4 _ _ hl3
            refine i_extend hl4 hl (by show _ ≤ 16777216; simp; omega) ?_
            keq_hits
            have hzs := esz_map e2c
            refine ⟨⟨es' ++ es2, m + 1, _, _, _, rfl, (s2.trans s4).mut hl0, by rw [upd_same, ← e2a, List.map_append], fun e he => ?_, by rw [esz_append, hzs]; omega, ?_⟩, ?_⟩
            · rcases List.mem_append.mp he with he | he
              · exact ⟨enOk_upd (enOk_same (hes3 e he).1 s4) hl4, (hes3 e he).2⟩
              · obtain ⟨o1, o2, o3⟩ := e2b e he
                have := ddeps_le o3
                exact ⟨enOk_upd o1 hl4, smallDs_mem hsm o3, by rw [o2]; omega⟩
            · rw [hf, List.all_append, List.all_append, all_map e2c]
              simp [hds, formB]
            · show (3001 - ((m : Int) + 1)).toNat < (3001 - (m : Int)).toNat
              omega
        · keq_hits
          have fl := formB_leaf e1
          have dp3 := WP.dp_mono s2 dp0
          refine ⟨_, _, rfl, dp3, sz0, fun H4 s4 => ?_⟩
          keq_hits
          have nxt : ∀ H5, Same H3 H5 → formB en.d = true → ∃ (es : List En) (m' : Nat) (hv' dv' pv' : Option V), [some v, some (.ref l), some (.int ((m : Int) + 1)), some en.v, some (.int (en.k : Int)), pv] = [some v, some (.ref l), some (.int (m' : Int)), hv', dv', pv'] ∧ Same H H5 ∧ H5 l = some (.lst (es.map fun e => V.ref e.a)) ∧
              (∀ e ∈ es, EnOk K H H5 e ∧ EnIn e) ∧ m' + esz es ≤ 3000 ∧ formB d = es.all fun e => formB e.d := fun H5 s5 ht =>
            ⟨es', m + 1, _, _, _, rfl, s2.trans s5, s5 _ _ hl3, fun e he => ⟨enOk_same (hes3 e he).1 s5, (hes3 e he).2⟩, by omega, by rw [hf]; simp [ht]⟩
          have lt : (3001 - ((m : Int) + 1)).toNat < (3001 - (m : Int)).toNat := by omega
          refine i_ite (fun e2 => ?_) (fun e2 => ?_)
          · keq_hits
            refine ⟨_, _, _, _, rfl, WP.dp_mono s4 dp3, fun H5 s5 => ?_⟩
            keq_hits
            refine i_ite (fun e3 => ?_) (fun e3 => ?_)
            · keq_hits
              refine fin_bl (q _ (s2.trans (s4.trans s5))) ?_
              have ff : formB en.d = false := by rw [fl]; simp_all
              rw [hf, List.all_append]
              simp [ff]
            · keq_hits
              exact ⟨nxt _ (s4.trans s5) (by rw [fl]; simp_all), lt⟩
          · keq_hits
            refine i_iff rfl ?_
            keq_hits
            exact ⟨nxt _ s4 (by rw [fl]; simp_all), lt⟩
      · have : es = [] := by
          cases es with
          | nil => rfl
          | cons x r => simp at e
        subst this
        keq_hits
        exact fin_bl (q _ s1) (by rw [hf]; rfl)
end
end
section
def inCls : Stmt → List Stmt
  | .ClassDef (body := b) .. => b
  | _ => []
def mth (i j : Nat) : Stmt := (inCls (top i)).getD j (.Pass ⟨0, 0, 0, 0⟩)
abbrev FnM (K : PySem.W.Frag) (q x : Str) (i j : Nat) (f : Addr) (fd : FuncData) : Prop := FunD K x q (defArgs (mth i j)) (defBody (mth i j)) (defScope (mth i j)) [] [] f fd
section
variable {P : Program} {w : World} {K : PySem.W.Frag} {mg : Str → Option Value} {base : Heap} {f : Addr} {fd : FuncData} {C : Addr}
def sp_key : Sp := fun vs H Q _ => ∃ a v, vs = [a, v] ∧ Q v H
theorem scP3 : FnScope ["self", "node"] ["self", "node"] (defScope (mth 22 3)) := ⟨rfl, rfl, rfl, by decide +kernel, rfl, by decide +kernel, by decide +kernel⟩
theorem ok_key (F : FnM K "Plain.key" "key" 22 3 f fd) (hm : Meth K C "key" f) : MDef P w K mg base 1 C "key" sp_key := by
  refine MDef.mk' F hm scP3 (fun vs H Q E h => ?_) (fun _ _ _ _ _ _ us hl => match us, hl with | [_, _], _ => rfl) (fun cdv A outer s H vs Q E hr tk h => ?_)
  · obtain ⟨a, v, rfl, _⟩ := h
    rfl
  · obtain ⟨a, v, rfl, q⟩ := h
    have nd := scP3.nd
    keq_hits
    exact q
def tupOr (d : PyData) (v : V) : V := if dTup d = true then v else .non
def sp_list_parts (K : PySem.W.Frag) : Sp := fun vs H Q _ => ∃ a v d, vs = [a, v] ∧ Dp K H v d ∧ Q (tupOr d v) H
theorem scP0 : FnScope ["self", "node"] ["self", "node"] (defScope (mth 22 0)) := ⟨rfl, rfl, rfl, by decide +kernel, rfl, by decide +kernel, by decide +kernel⟩
theorem ok_list_parts (F : FnM K "Plain.list_parts" "list_parts" 22 0 f fd) (hm : Meth K C "list_parts" f) (mi : mg "isinstance" = none) (mt : BTy mg "tuple" "tuple") : MDef P w K mg base 1 C "list_parts" (sp_list_parts K) := by
  refine MDef.mk' F hm scP0 (fun vs H Q E h => ?_) (fun _ _ _ _ _ _ us hl => match us, hl with | [_, _], _ => rfl) (fun cdv A outer s H vs Q E hr tk h => ?_)
  · obtain ⟨a, v, d, rfl, _⟩ := h
    rfl
  · obtain ⟨a, v, d, rfl, hd, q⟩ := h
    have nd := scP0.nd
    keq_hits
    refine i_ite (fun e => ?_) (fun e => ?_)
    · keq_hits
      rwa [tupOr, if_pos e] at q
    · keq_hits
      rwa [tupOr, if_neg (by simp [e])] at q
def strOr (d : PyData) (v : V) : V := if dStr d = true then v else .non
def sp_word_in (K : PySem.W.Frag) : Sp := fun vs H Q _ => ∃ a v d, vs = [a, v] ∧ Dp K H v d ∧ Q (strOr d v) H
theorem scP2 : FnScope ["self", "node"] ["self", "node"] (defScope (mth 22 2)) := ⟨rfl, rfl, rfl, by decide +kernel, rfl, by decide +kernel, by decide +kernel⟩
theorem ok_word_in (F : FnM K "Plain.word_in" "word_in" 22 2 f fd) (hm : Meth K C "word_in" f) (mi : mg "isinstance" = none) (mt : BTy mg "str" "str") : MDef P w K mg base 1 C "word_in" (sp_word_in K) := by
  refine MDef.mk' F hm scP2 (fun vs H Q E h => ?_) (fun _ _ _ _ _ _ us hl => match us, hl with | [_, _], _ => rfl) (fun cdv A outer s H vs Q E hr tk h => ?_)
  · obtain ⟨a, v, d, rfl, _⟩ := h
    rfl
  · obtain ⟨a, v, d, rfl, hd, q⟩ := h
    have nd := scP2.nd
    keq_hits
    refine i_ite (fun e => ?_) (fun e => ?_)
    · keq_hits
      rwa [strOr, if_pos e] at q
    · keq_hits
      rwa [strOr, if_neg (by simp [e])] at q
def intOr (d : PyData) (v : V) : V := if isInteger d = true then v else .non
def sp_integer (K : PySem.W.Frag) : Sp := fun vs H Q _ => ∃ a v d, vs = [a, v] ∧ Dp K H v d ∧ ∀ H', Same H H' → Q (intOr d v) H'
theorem scP1 : FnScope ["self", "node"] ["self", "node"] (defScope (mth 22 1)) := ⟨rfl, rfl, rfl, by decide +kernel, rfl, by decide +kernel, by decide +kernel⟩
theorem ok_integer (F : FnM K "Plain.integer" "integer" 22 1 f fd) (hm : Meth K C "integer" f) (D : Def P w K mg base 1 "is_integer" (sp_is_integer K)) : MDef P w K mg base 2 C "integer" (sp_integer K) := by
  refine MDef.mk' F hm scP1 (fun vs H Q E h => ?_) (fun _ _ _ _ _ _ us hl => match us, hl with | [_, _], _ => rfl) (fun cdv A outer s H vs Q E hr tk h => ?_)
  · obtain ⟨a, v, d, rfl, _⟩ := h
    rfl
  · obtain ⟨a, v, d, rfl, hd, q⟩ := h
    have nd := scP1.nd
    keq_hits
    refine ⟨v, d, rfl, hd, fun H1 s1 => ?_⟩
    keq_hits
    have q1 := q _ s1
    refine i_ite (fun e => ?_) (fun e => ?_)
    · keq_hits
      rwa [intOr, if_pos e] at q1
    · keq_hits
      rwa [intOr, if_neg (by simp [e])] at q1
end
end
section
/-! ### the mirror: shapes -/
inductive Sh where
  | any
  | lit (s : Str)
  | nm (s : Str)
  | num (i : Int)
  | lis (a : List Sh)
  | rep (a : List Sh) (r : Sh) (b : List Sh)
mutual
def enc : Sh → PyData
  | .any => .tuple [.str "any"]
  | .lit s => .tuple [.str "literal", .str s]
  | .nm s => .tuple [.str "name", .str s]
  | .num i => .tuple [.str "integer", .int i]
  | .lis a => .tuple [.str "list", .tuple (encs a), .none, .tuple []]
  | .rep a r b => .tuple [.str "list", .tuple (encs a), enc r, .tuple (encs b)]
def encs : List Sh → List PyData
  | [] => []
  | x :: xs => enc x :: encs xs
end
theorem encs_map : ∀ xs, encs xs = xs.map enc
  | [] => rfl
  | x :: xs => by rw [encs, encs_map xs]; rfl
mutual
theorem nolist_enc : ∀ x, nolist (enc x) = true
  | .any => rfl
  | .lit s => rfl
  | .nm s => rfl
  | .num i => rfl
  | .lis a => by simp [enc, nolist, nolists, nolist_encs a]
  | .rep a r b => by simp [enc, nolist, nolists, nolist_encs a, nolist_enc r, nolist_encs b]
theorem nolist_encs : ∀ xs, nolists (encs xs) = true
  | [] => rfl
  | x :: xs => by simp [encs, nolists, nolist_enc x, nolist_encs xs]
end
def isRep : PyData → Bool
  | .str s => decide (s = "...")
  | _ => false
def repAt (ds : List PyData) (i : Nat) : Bool := (ds[i]?.map isRep).getD false
def spots (ds : List PyData) : List Nat := (List.range ds.length).filter (repAt ds)
def seqO {α : Type} : List (Option α) → Option (List α)
  | [] => some []
  | none :: _ => none
  | some x :: r => (seqO r).map (x :: ·)
def joinS (ds : List PyData) (os : List (Option Sh)) : Option Sh :=
  match spots ds with
  | [] => (seqO os).map .lis
  | [i] => if i = 0 then none else
    match seqO (os.take (i - 1)), seqO (os.drop (i + 1)), os[i - 1]? with
    | some a, some b, some (some r) => some (.rep a r b)
    | _, _, _ => none
  | _ => none
mutual
def shapeS (L : List Str) : PyData → Option Sh
  | .str s => if s = "..." then none else if s = "_" then some .any else if s ∈ L then some (.lit s) else some (.nm s)
  | .int i => some (.num i)
  | .tuple ds => joinS ds (shapesS L ds)
  | _ => none
def shapesS (L : List Str) : List PyData → List (Option Sh)
  | [] => []
  | d :: ds => shapeS L d :: shapesS L ds
end
theorem shapesS_map (L : List Str) : ∀ ds, shapesS L ds = ds.map (shapeS L)
  | [] => rfl
  | d :: ds => by rw [shapesS, shapesS_map L ds]; rfl
theorem seqO_some {α : Type} : ∀ {os : List (Option α)} {xs : List α}, seqO os = some xs → os = xs.map some
  | [], xs, h => by cases h; rfl
  | none :: r, xs, h => nomatch h
  | some x :: r, xs, h => by
    cases e : seqO r with
    | none => simp [seqO, e] at h
    | some ys =>
      simp [seqO, e] at h
      subst h
      simp [seqO_some e]
theorem seqO_none {α : Type} : ∀ {os : List (Option α)} {i : Nat}, os[i]? = some none → seqO os = none
  | [], i, h => by simp at h
  | none :: r, i, h => rfl
  | some x :: r, 0, h => by simp at h
  | some x :: r, i + 1, h => by simp [seqO, seqO_none (os := r) (i := i) (by simpa using h)]
def gE (os : List (Option Sh)) (i : Nat) : Option PyData := os[i]?.bind fun (o : Option Sh) => o.map enc
theorem gE_nolist {os : List (Option Sh)} : ∀ i d, gE os i = some d → nolist d = true := by
  intro i d h
  unfold gE at h
  cases e : os[i]? with
  | none => simp [e] at h
  | some o => cases o with
    | none => simp [e] at h
    | some x =>
      simp [e] at h
      rw [← h]
      exact nolist_enc x
section
variable {K : PySem.W.Frag} {H : Hp}
theorem dps_of : ∀ (os : List (Option Sh)) (acc : List V), acc.length = os.length → (∀ i v, acc[i]? = some v → ∃ d, gE os i = some d ∧ Dp K H v d) → ∃ xs, seqO os = some xs ∧ DpAll K H acc (encs xs)
  | [], [], _, _ => ⟨[], rfl, .nil⟩
  | [], _ :: _, h, _ => nomatch h
  | _ :: _, [], h, _ => nomatch h
  | o :: os, v :: acc, h, g => by
    obtain ⟨d, e, hd⟩ := g 0 v rfl
    obtain ⟨xs, ex, hxs⟩ := dps_of os acc (by simpa using h) fun i v e => by simpa [gE] using g (i + 1) v (by simpa using e)
    cases o with
    | none => simp [gE] at e
    | some x =>
      simp [gE] at e
      subst e
      exact ⟨x :: xs, by simp [seqO, ex], .cons hd hxs⟩
end
end
section
section
variable {P : Program} {w : World} {K : PySem.W.Frag} {mg : Str → Option Value} {base : Heap} {f : Addr} {fd : FuncData} {C CB : Addr} {L : List Str}
/-- what the class Plain is -/
structure PlainOk (P : Program) (w : World) (K : PySem.W.Frag) (mg : Str → Option Value) (base : Heap) (C : Addr) : Prop where
  cl : Cls K C
  mz : Mk0 K C
  g : mg "Plain" = some (.ref C)
  lp : MDef P w K mg base 1 C "list_parts" (sp_list_parts K)
  it : MDef P w K mg base 2 C "integer" (sp_integer K)
  wi : MDef P w K mg base 1 C "word_in" (sp_word_in K)
  ke : MDef P w K mg base 1 C "key" sp_key
def sp_shape (K : PySem.W.Frag) (C CB : Addr) (L : List Str) (n : Nat) : Sp := fun vs H Q E => ∃ kk dx v lv d, vs = [.ref kk, v, lv] ∧ H kk = some (.ins C dx []) ∧ Dp K H v d ∧ Dp K H lv (.tuple (L.map .str)) ∧ formB d = true ∧ smallD d = true ∧ dsize d ≤ 3000 ∧ ddep d ≤ n ∧
  (∀ sh, shapeS L d = some sh → ∀ v' H', Same H H' → Dp K H' v' (enc sh) → Q v' H') ∧ (shapeS L d = none → ∀ H', Same H H' → E (.ref CB) none H')
def sp_list_shape (K : PySem.W.Frag) (C CB : Addr) (L : List Str) (n : Nat) : Sp := fun vs H Q E => ∃ kk dx v lv ds, vs = [.ref kk, v, lv] ∧ H kk = some (.ins C dx []) ∧ Dp K H v (.tuple ds) ∧ Dp K H lv (.tuple (L.map .str)) ∧ formBs ds = true ∧ smallDs ds = true ∧ dsizes ds ≤ 3000 ∧ ddeps ds ≤ n ∧
  (∀ sh, joinS ds (shapesS L ds) = some sh → ∀ v' H', Same H H' → Dp K H' v' (enc sh) → Q v' H') ∧ (joinS ds (shapesS L ds) = none → ∀ H', Same H H' → E (.ref CB) none H')
theorem sc24 : FnScope ["kind", "node", "literals", "word"] ["kind", "node", "literals"] (defScope (top 23)) := ⟨rfl, rfl, rfl, by decide +kernel, rfl, by decide +kernel, by decide +kernel⟩
theorem dps_strs {H : Hp} : ∀ {xs : List V} {L : List Str}, DpAll K H xs (L.map .str) → xs = L.map V.str
  | [], [], _ => rfl
  | x :: xs, s :: L, h => by
    cases h with
    | cons a b => rw [WP.dp_str a, dps_strs b]; rfl
theorem inV_strs {s : Str} {L : List Str} : inV (.str s) (L.map V.str) = decide (s ∈ L) := by
  unfold inV
  induction L with
  | nil => rfl
  | cons x L ih =>
    rw [List.map_cons, List.any_cons, ih]
    by_cases h : x = s
    · subst h; simp [eqV]
    · have h' : ¬ s = x := fun z => h z.symm
      simp [eqV, h, h']
theorem flat_strs (L : List Str) : (L.map V.str).all flatV = true := by
  induction L with
  | nil => rfl
  | cons x L ih => rw [List.map_cons, List.all_cons, ih]; rfl
theorem ok_shape {n k : Nat} (F : FnP K "shape" 23 f fd) (hm : mg "shape" = some (.ref f)) (hn : 2 ≤ k) (O : PlainOk P w K mg base C) (Er : ErrC P w K mg base 1 "BadPattern" CB) (mR : ∃ t, mg "REPEAT" = some (.str "..." t)) (mA : ∃ t, mg "ANY" = some (.str "_" t))
    (D : Def P w K mg base k "list_shape" (sp_list_shape K C CB L n)) : Def P w K mg base (k + 1) "shape" (sp_shape K C CB L (n + 1)) := by
  refine Def.mk' F hm sc24 (fun vs H Q E h => ?_) (fun _ _ _ _ _ _ us hl => match us, hl with | [_, _, _], _ => rfl) (fun cdv A outer s H vs Q E hr tk h => ?_)
  · obtain ⟨kk, dx, v, lv, d, rfl, _⟩ := h
    rfl
  · obtain ⟨kk, dx, v, lv, d, rfl, hk, hd, hL, hf, hz, hsz, hdp, q, qe⟩ := h
    obtain ⟨cl, mz, gP, lp, it, wi, ke⟩ := O
    have nd := sc24.nd
    obtain ⟨la, lxs, rfl, hl1, hl2⟩ := dp_tup hL
    cases dps_strs hl2
    have nw : ∀ {H1 : Hp} {vs : List V} {ds : List PyData} {sh : Sh} (p : Addr), Same H H1 → H1 p = none → shapeS L d = some sh → enc sh = .tuple ds → DpAll K H1 vs ds → Q (.ref p) (upd H1 p (.tup vs)) := fun p s1 hp e es hv =>
      q _ e _ _ (s1.trans (Same.new hp)) (es ▸ Dp.tup (SqT.of upd_same) (dpAll_mono (Same.new hp) hv))
    keq_hits
    refine ⟨_, _, _, rfl, hd, ?_⟩
    keq_hits
    cases d with
    | none => simp [formB] at hf
    | bool b => simp [formB] at hf
    | list b => simp [formB] at hf
    | dict b => simp [formB] at hf
    | int i =>
      cases dp_int hd
      refine i_iff rfl ?_
      keq_hits
      have hk1 : ∀ {H1 : Hp}, Same H H1 → H1 kk = some (.ins C dx []) := fun s1 => s1 _ _ hk
      refine ⟨_, _, _, rfl, hd, fun H1 s1 => ?_⟩
      keq_hits
      refine i_ift rfl ?_
      have hk2 := hk1 s1
      keq_hits
      refine ⟨_, _, _, rfl, WP.dp_mono s1 hd, fun H2 s2 => ?_⟩
      keq_hits
      refine ⟨by show 2 ≤ sizeLine; decide, fun p hp => ?_⟩
      exact nw p (s1.trans s2) hp rfl rfl (.cons (.str _) (.cons (.int _) .nil))
    | tuple ds =>
      refine i_iff rfl ?_
      keq_hits
      refine ⟨_, _, _, rfl, hd, fun H1 s1 => ?_⟩
      keq_hits
      refine i_iff rfl ?_
      have hk2 := s1 _ _ hk
      keq_hits
      have hd1 := WP.dp_mono s1 hd
      refine ⟨_, _, _, rfl, hd1, ?_⟩
      keq_hits
      refine ⟨_, _, _, _, ds, rfl, hk2, hd1, WP.dp_mono s1 hL, hf, hz, ?_, ?_, fun sh e v' H' s' dp => q _ e _ _ (s1.trans s') dp, fun e H' s' => qe e _ (s1.trans s')⟩
      · simp [dsize] at hsz; omega
      · simp [ddep] at hdp; omega
    | str z =>
      cases dp_str hd
      refine i_ift rfl ?_
      keq_hits
      refine wt_cmp op_eq rfl ?_
      keq_hits
      refine ⟨rfl, i_bl ?_⟩
      refine i_ite (fun e => ?_) (fun e => ?_)
      · have e : z = "..." := by simpa [strOr, dStr] using e
        keq_hits
        refine ws_raise Er (Room.mono hr (by omega)) rfl tk rfl ?_
        exact qe (by simp [shapeS, e]) _ (Same.refl _)
      · have e : ¬ z = "..." := by simpa [strOr, dStr] using e
        keq_hits
        refine wt_cmp op_eq rfl ?_
        keq_hits
        refine ⟨rfl, i_bl ?_⟩
        refine i_ite (fun e1 => ?_) (fun e1 => ?_)
        · have e1 : z = "_" := by simpa [strOr, dStr] using e1
          keq_hits
          refine ⟨by show 1 ≤ sizeLine; decide, fun p hp => ?_⟩
          exact nw (sh := .any) p (Same.refl _) hp (by simp only [shapeS, if_neg e, if_pos e1]) rfl (.cons (.str _) .nil)
        · have e1 : ¬ z = "_" := by simpa [strOr, dStr] using e1
          keq_hits
          refine wt_cmp op_in_seq rfl ?_
          keq_hits
          refine ⟨_, _, rfl, ?_⟩
          keq_hits
          refine ⟨la, _, rfl, .inr hl1, rfl, flat_strs L, i_bl ?_⟩
          refine i_ite (fun e2 => ?_) (fun e2 => ?_)
          · have e2 : z ∈ L := by rw [if_neg Bool.false_ne_true, inV_strs] at e2; simpa using e2
            keq_hits
            refine ⟨by show 2 ≤ sizeLine; decide, fun p hp => ?_⟩
            exact nw (sh := .lit z) p (Same.refl _) hp (by simp only [shapeS, if_neg e, if_neg e1, if_pos e2]) rfl (.cons (.str _) (.cons (.str _) .nil))
          · have e2 : ¬ z ∈ L := by rw [if_neg Bool.false_ne_true, inV_strs] at e2; simpa using e2
            keq_hits
            refine ⟨_, _, rfl, ?_⟩
            keq_hits
            refine ⟨by show 2 ≤ sizeLine; decide, fun p hp => ?_⟩
            exact nw (sh := .nm z) p (Same.refl _) hp (by simp only [shapeS, if_neg e, if_neg e1, if_neg e2]) rfl (.cons (.str _) (.cons (.str _) .nil))
end
end
section
section
variable {P : Program} {w : World} {K : PySem.W.Frag} {mg : Str → Option Value} {base : Heap} {f : Addr} {fd : FuncData} {C CB : Addr} {L : List Str}
theorem sc25 : FnScope ["kind", "parts", "literals", "spots", "at", "part", "ahead", "behind"] ["kind", "parts", "literals"] (defScope (top 24)) := ⟨rfl, rfl, rfl, by decide +kernel, rfl, by decide +kernel, by decide +kernel⟩
theorem formBs_mem {ds : List PyData} {d : PyData} (h : formBs ds = true) (hd : d ∈ ds) : formB d = true := by
  induction ds with
  | nil => cases hd
  | cons x ds ih =>
    simp only [formBs, Bool.and_eq_true] at h
    rcases List.mem_cons.mp hd with rfl | hd
    · exact h.1
    · exact ih h.2 hd
theorem dsizes_mem {ds : List PyData} {d : PyData} (hd : d ∈ ds) : dsize d ≤ dsizes ds := by
  induction ds with
  | nil => cases hd
  | cons x ds ih =>
    simp only [dsizes]
    rcases List.mem_cons.mp hd with rfl | hd
    · omega
    · have := ih hd
      omega
theorem shape_at {kk dx : Addr} {v lv : V} {d : PyData} {ds : List PyData} {n : Nat} {H : Hp} {Q : VK} {E : XK} (hk : H kk = some (.ins C dx [])) (h : Dp K H v d) (hL : Dp K H lv (.tuple (L.map .str))) (hm : d ∈ ds) (hf : formBs ds = true) (hz : smallDs ds = true) (hsz : dsizes ds ≤ 3000) (hdp : ddeps ds ≤ n)
    (q : ∀ sh, shapeS L d = some sh → ∀ v' H', Same H H' → Dp K H' v' (enc sh) → Q v' H') (qe : shapeS L d = none → ∀ H', Same H H' → E (.ref CB) none H') : sp_shape K C CB L n [.ref kk, v, lv] H Q E :=
  ⟨kk, dx, v, lv, d, rfl, hk, h, hL, formBs_mem hf hm, smallDs_mem hz hm, Nat.le_trans (dsizes_mem hm) hsz, Nat.le_trans (ddeps_le hm) hdp, q, qe⟩
theorem scal_rep {H : Hp} {y : V} {d : PyData} (h : Dp K H y d) : scal (strOr d y) (.str "...") = true := by
  cases h <;> rfl
theorem dec_rep {H : Hp} {y : V} {d : PyData} (h : Dp K H y d) : decide (strOr d y = .str "...") = isRep d := by
  cases h <;> simp [strOr, dStr, isRep]
theorem shapesS_take (L : List Str) (ds : List PyData) (n : Nat) : (shapesS L ds).take n = shapesS L (ds.take n) := by rw [shapesS_map, shapesS_map, List.map_take]
theorem shapesS_drop (L : List Str) (ds : List PyData) (n : Nat) : (shapesS L ds).drop n = shapesS L (ds.drop n) := by rw [shapesS_map, shapesS_map, List.map_drop]
theorem shapesS_len (L : List Str) (ds : List PyData) : (shapesS L ds).length = ds.length := by rw [shapesS_map, List.length_map]
theorem sIx_hi (n k : Nat) : HT.sIx n n (some (k : Int)) = min k n := HT.sIx_nat n n k
theorem cutV_take (xs : List V) (k : Nat) : cutV xs none (some (k : Int)) = xs.take k := by
  unfold cutV
  rw [HT.sIx_none, HT.sIx_nat]
  simp only [List.drop_zero, Nat.sub_zero]
  by_cases h : k ≤ xs.length
  · rw [Nat.min_eq_left h]
  · rw [Nat.min_eq_right (by omega), List.take_length, List.take_of_length_le (by omega)]
theorem cutV_drop (xs : List V) (k : Nat) : cutV xs (some (k : Int)) none = xs.drop k := by
  unfold cutV
  rw [HT.sIx_none, HT.sIx_nat]
  by_cases h : k ≤ xs.length
  · rw [Nat.min_eq_left h]
    apply List.take_of_length_le
    simp
  · rw [Nat.min_eq_right (by omega)]
    simp
    omega
theorem ok_list_shape {n k : Nat} (F : FnP K "list_shape" 24 f fd) (hm : mg "list_shape" = some (.ref f)) (hn : 2 ≤ k) (O : PlainOk P w K mg base C) (Er : ErrC P w K mg base 1 "BadPattern" CB) (mR : ∃ t, mg "REPEAT" = some (.str "..." t))
    (ml : mg "len" = none) (me : mg "enumerate" = none) (mt : mg "tuple" = none) (D : Def P w K mg base k "shape" (sp_shape K C CB L n)) : Def P w K mg base (k + 1) "list_shape" (sp_list_shape K C CB L n) := by
  refine Def.mk' F hm sc25 (fun vs H Q E h => ?_) (fun _ _ _ _ _ _ us hl => match us, hl with | [_, _, _], _ => rfl) (fun cdv A outer s H vs Q E hr tk h => ?_)
  · obtain ⟨kk, dx, v, lv, ds, rfl, _⟩ := h
    rfl
  · obtain ⟨kk, dx, v, lv, ds, rfl, hk, hd, hL, hf, hz, hsz, hdp, q, qe⟩ := h
    obtain ⟨cl, mz, gP, lp, it, wi, ke, il⟩ := O
    have nd := sc25.nd
    obtain ⟨a, xs, rfl, hx, hxs⟩ := dp_tup hd
    have hlen := dpAll_len hxs
    have hl1s := dsizes_len ds
    keq_hits
    refine ws_lcI (g := gTup K 2 (gCons (gName 4) (gCons (gName 5) gNil))) 3 [("at", 4), ("part", 5)] rfl nd rfl rfl rfl rfl rfl (pi_enumT (by rfl) me pa) (blkOk_by (N := ["kind", "parts", "literals", "spots", "at", "part", "ahead", "behind"]) (sc := defScope (top 24)) (own := [("at", 4), ("part", 5)]) (by decide +kernel)) (fun _ _ _ _ _ => pg_two 4 5 rfl nd rfl rfl rfl rfl) ?_
    show WP.WA _ _ _ _ _
    keq_hits
    refine ⟨a, xs, rfl, hx, fun D1 hD1 => lc_F (repAt ds) (fun i => .int (i : Nat)) walk_enumT (by show xs.length < 16777216; omega) hD1 (fun H s => s.tup hx) ?_ teC_mono ttC_mono gTup2_mono fun H4 s4 hl4 => ?_⟩
    · rintro i x H5 H6 hi s5 ⟨T, y, rfl, hT, rfl, hy⟩
      refine i_two (SqT.of upd_same) ⟨rfl, fun s0 H0 C0 cl0 fp => ?_⟩
      obtain ⟨d, hd1, hd2⟩ := dpAll_atv hxs hy
      have s56 : Same H5 (upd H5 T (.tup [.int (i : Nat), y])) := Same.new hT
      have s6 := s5.trans s56
      generalize upd H5 T (.tup [.int (i : Nat), y]) = H6 at s6 s56
      have hk6 := s6 _ _ hk
      refine wt_cmp op_eq rfl ?_
      keq_hits
      refine ⟨_, _, d, rfl, WP.dp_mono s6 hd2, ?_⟩
      keq_hits
      refine ⟨scal_rep hd2, i_bl ⟨s56, ?_, fun _ s0 H0 C0 cl0 fp => ?_⟩⟩
      · rw [dec_rep hd2, repAt, hd1]
        rfl
      · keq_hits
        exact ⟨s56, rfl⟩
    · have hl4 : H4 D1 = some (.lst ((spots ds).map fun i => V.int (i : Nat))) := by rw [hl4, hlen]; rfl
      have hx4 := s4.tup hx
      refine wb_cons ?_
      keq_hits
      refine wt_cmp op_eq rfl ?_
      keq_hits
      refine i_lenLt hl4 ?_
      keq_hits
      refine ⟨rfl, i_bl ?_⟩
      have e0 : spots ds = spots ds := rfl
      rcases hsp : spots ds with _ | ⟨i0, _ | ⟨i1, r⟩⟩
      · have hj : joinS ds (shapesS L ds) = (seqO (shapesS L ds)).map .lis := by unfold joinS; rw [hsp]
        refine i_ift rfl ?_
        keq_hits
        refine we_callTy call_tup (by rfl) mt boot_tuple ?_
        refine wa_cons ?_
        refine we_lc rfl rfl tk rfl nd (pi_tup pe) (blkOk_by (N := ["kind", "parts", "literals", "spots", "at", "part", "ahead", "behind"]) (sc := defScope (top 24)) (own := [("part", 5)]) (by decide +kernel)) (fun _ _ _ _ _ => by k_memK) ?_
        show WP.WE _ _ _ _ _
        keq_hits
        refine ⟨a, rfl, ⟨xs, hx4⟩, fun D2 hD => lc_R (fun i H v => ∃ d, gE (shapesS L (ds)) i = some d ∧ Dp K H v d) (stay_dpo gE_nolist) walk_tup (by have := dpAll_len hxs; have := hl1s; show _ < 16777216; omega) hD (fun H s => s.tup hx4) ?_ teW_mono gName_mono fun H5 acc s5 hl5 ha5 hR5 => ?_⟩
        · rintro i x H6 H7 hi s6 ⟨rfl, hxi⟩
          refine ⟨rfl, fun s0 H0 C0 cl0 fp => ?_⟩
          obtain ⟨d, hd1, hd2⟩ := dpAll_atv hxs hxi
          have s7 := (s4).trans s6
          have hk7 := s7 _ _ hk
          have hos : (shapesS L (ds))[i]? = some (shapeS L d) := by rw [shapesS_map, List.getElem?_map, hd1]; rfl
          keq_hits
          exact shape_at hk7 (WP.dp_mono s7 hd2) (WP.dp_mono s7 hL) (by have := List.mem_of_getElem? hd1; first | exact this | exact List.mem_of_mem_take this | exact List.mem_of_mem_drop this) hf hz hsz hdp (fun sh e v' H' s' dp => ⟨s', enc sh, by simp [gE, hos, e], dp⟩) fun e H' s' => qe (by rw [hj, seqO_none (i := i) (by rw [hos, e])]; rfl) _ (s7.trans s')
        · keq_hits
          refine i_tupL hl5 fun p2 hp2 => ?_
          keq_hits
          refine ⟨by show 0 ≤ sizeLine; decide, fun p3 hp3 => ?_⟩
          keq_hits
          refine ⟨by show 4 ≤ sizeLine; decide, fun p4 hp4 => ?_⟩
          obtain ⟨shs, es, hds⟩ := dps_of (shapesS L ds) acc (by rw [ha5, shapesS_len, hlen]) hR5
          have t3 := Same.new (o := .tup ([] : List V)) hp3
          have t4 := Same.new (o := .tup [.str "list", .ref p2, .non, .ref p3]) hp4
          refine q (.lis shs) (by rw [hj, es]; rfl) _ _ (s4.trans (s5.trans ((Same.new hp2).trans (t3.trans t4)))) ?_
          refine Dp.tup (SqT.of upd_same) (.cons (.str _) (.cons ?_ (.cons .non (.cons ?_ .nil))))
          · exact WP.dp_mono (t3.trans t4) (Dp.tup (SqT.of upd_same) (dpAll_mono (Same.new hp2) hds))
          · exact WP.dp_mono t4 (Dp.tup (SqT.of upd_same) .nil)
      · have hi0 : i0 < ds.length := by
          have : i0 ∈ spots ds := by rw [hsp]; simp
          simpa [spots] using (List.mem_filter.mp this).1
        refine i_iff rfl ?_
        keq_hits
        refine i_lenLt hl4 ?_
        keq_hits
        rw [hsp] at hl4 ⊢
        refine i_iff rfl ?_
        keq_hits
        refine wt_cmp op_eq rfl ?_
        refine we_ix ix_list plainIx_int ?_
        keq_hits
        refine i_ixL (v := .int (i0 : Nat)) (SqL.of hl4) rfl ?_
        keq_hits
        refine ⟨rfl, i_bl ?_⟩
        refine i_ite (fun e1 => ?_) (fun e1 => ?_)
        · have e1 : i0 = 0 := by simpa using e1
          keq_hits
          refine ws_raise Er (Room.mono hr (by omega)) rfl tk rfl ?_
          exact qe (by unfold joinS; rw [hsp]; exact if_pos e1) _ s4
        · have e1 : i0 ≠ 0 := by simpa using e1
          have hj : joinS ds (shapesS L ds) = match seqO (shapesS L (ds.take (i0 - 1))), seqO (shapesS L (ds.drop (i0 + 1))), (shapesS L ds)[i0 - 1]? with
              | some a, some b, some (some r) => some (.rep a r b)
              | _, _, _ => none := by
            unfold joinS
            rw [hsp, ← shapesS_take, ← shapesS_drop]
            exact if_neg e1
          have g1 : ((i0 : Int) - 1) = ((i0 - 1 : Nat) : Int) := by omega
          have g2 : ((i0 : Int) + 1) = ((i0 + 1 : Nat) : Int) := by omega
          have ht1 := dpAll_take (i0 - 1) hxs
          have ht2 := dpAll_drop (i0 + 1) hxs
          keq_hits
          refine we_ix ix_list plainIx_int ?_
          keq_hits
          refine i_ixL (v := .int (i0 : Nat)) (SqL.of hl4) rfl ?_
          keq_hits
          refine we_callTy call_tup (by rfl) mt boot_tuple ?_
          refine wa_cons ?_
          refine we_lc rfl rfl tk rfl nd (pi_tup pe) (blkOk_by (N := ["kind", "parts", "literals", "spots", "at", "part", "ahead", "behind"]) (sc := defScope (top 24)) (own := [("part", 5)]) (by decide +kernel)) (fun _ _ _ _ _ => by k_memK) ?_
          show WP.WE _ _ _ _ _
          refine we_slH sl_tupA ?_
          keq_hits
          refine ⟨_, rfl, i_sl hx4 fun b1 Hb1 sb1 hb1 => ?_⟩
          rw [g1, cutV_take] at hb1
          have s41 := s4.trans sb1
          refine ⟨b1, rfl, ⟨xs.take (i0 - 1), hb1⟩, fun D2 hD => lc_R (fun i H v => ∃ d, gE (shapesS L (ds.take (i0 - 1))) i = some d ∧ Dp K H v d) (stay_dpo gE_nolist) walk_tup (by have := dpAll_len ht1; have := (List.length_take_le (i0 - 1) ds); show _ < 16777216; omega) hD (fun H s => s.tup hb1) ?_ teW_mono gName_mono fun H5 acc s5 hl5 ha5 hR5 => ?_⟩
          · rintro i x H6 H7 hi s6 ⟨rfl, hxi⟩
            refine ⟨rfl, fun s0 H0 C0 cl0 fp => ?_⟩
            obtain ⟨d, hd1, hd2⟩ := dpAll_atv ht1 hxi
            have s7 := (s41).trans s6
            have hk7 := s7 _ _ hk
            have hos : (shapesS L (ds.take (i0 - 1)))[i]? = some (shapeS L d) := by rw [shapesS_map, List.getElem?_map, hd1]; rfl
            keq_hits
            exact shape_at hk7 (WP.dp_mono s7 hd2) (WP.dp_mono s7 hL) (by have := List.mem_of_getElem? hd1; first | exact this | exact List.mem_of_mem_take this | exact List.mem_of_mem_drop this) hf hz hsz hdp (fun sh e v' H' s' dp => ⟨s', enc sh, by simp [gE, hos, e], dp⟩) fun e H' s' => qe (by rw [hj, seqO_none (i := i) (by rw [hos, e])]) _ (s7.trans s')
          · keq_hits
            refine i_tupL hl5 fun p2 hp2 => ?_
            have s42 := s41.trans (s5.trans (Same.new (o := .tup acc) hp2))
            have hq2 : upd H5 p2 (.tup acc) p2 = some (.tup acc) := upd_same
            obtain ⟨shs, es, hds⟩ := dps_of (shapesS L (ds.take (i0 - 1))) acc (by rw [ha5, shapesS_len]; exact dpAll_len ht1) hR5
            have hds2 : Dp K (upd H5 p2 (.tup acc)) (.ref p2) (.tuple (encs shs)) := Dp.tup (SqT.of upd_same) (dpAll_mono (Same.new hp2) hds)
            generalize upd H5 p2 (.tup acc) = H6 at s42 hq2 hds2 ⊢
            have hx6 := s42.tup hx
            keq_hits
            refine we_callTy call_tup (by rfl) mt boot_tuple ?_
            refine wa_cons ?_
            refine we_lc rfl rfl tk rfl nd (pi_tup pe) (blkOk_by (N := ["kind", "parts", "literals", "spots", "at", "part", "ahead", "behind"]) (sc := defScope (top 24)) (own := [("part", 5)]) (by decide +kernel)) (fun _ _ _ _ _ => by k_memK) ?_
            show WP.WE _ _ _ _ _
            refine we_slL sl_tupA ?_
            keq_hits
            refine we_op op_add ?_
            keq_hits
            refine ⟨_, rfl, i_sl hx6 fun b2 Hb2 sb2 hb2 => ?_⟩
            rw [g2, cutV_drop] at hb2
            have s43 := s42.trans sb2
            refine ⟨b2, rfl, ⟨xs.drop (i0 + 1), hb2⟩, fun D3 hD => lc_R (fun i H v => ∃ d, gE (shapesS L (ds.drop (i0 + 1))) i = some d ∧ Dp K H v d) (stay_dpo gE_nolist) walk_tup (by have := dpAll_len ht2; have := (show (ds.drop (i0 + 1)).length ≤ ds.length by simp); show _ < 16777216; omega) hD (fun H s => s.tup hb2) ?_ teW_mono gName_mono fun H7 acc2 s7 hl7 ha7 hR7 => ?_⟩
            · rintro i x H6 H7 hi s6 ⟨rfl, hxi⟩
              refine ⟨rfl, fun s0 H0 C0 cl0 fp => ?_⟩
              obtain ⟨d, hd1, hd2⟩ := dpAll_atv ht2 hxi
              have s7 := (s43).trans s6
              have hk7 := s7 _ _ hk
              have hos : (shapesS L (ds.drop (i0 + 1)))[i]? = some (shapeS L d) := by rw [shapesS_map, List.getElem?_map, hd1]; rfl
              keq_hits
              exact shape_at hk7 (WP.dp_mono s7 hd2) (WP.dp_mono s7 hL) (by have := List.mem_of_getElem? hd1; first | exact this | exact List.mem_of_mem_take this | exact List.mem_of_mem_drop this) hf hz hsz hdp (fun sh e v' H' s' dp => ⟨s', enc sh, by simp [gE, hos, e], dp⟩) fun e H' s' => qe (by rw [hj, seqO_none (os := shapesS L (ds.drop (i0 + 1))) (i := i) (by rw [hos, e])]; cases seqO (shapesS L (ds.take (i0 - 1))) <;> rfl) _ (s7.trans s')
            · keq_hits
              refine i_tupL hl7 fun p3 hp3 => ?_
              have s23 := sb2.trans (s7.trans (Same.new (o := .tup acc2) hp3))
              have s44 := s42.trans s23
              obtain ⟨shs2, es2, hdt⟩ := dps_of (shapesS L (ds.drop (i0 + 1))) acc2 (by rw [ha7, shapesS_len]; exact dpAll_len ht2) hR7
              have hdt2 : Dp K (upd H7 p3 (.tup acc2)) (.ref p3) (.tuple (encs shs2)) := Dp.tup (SqT.of upd_same) (dpAll_mono (Same.new hp3) hdt)
              have hds3 := WP.dp_mono s23 hds2
              generalize upd H7 p3 (.tup acc2) = H8 at s44 hdt2 hds3 ⊢
              have hx8 := s44.tup hx
              have hk8 := s44 _ _ hk
              have hi1 : i0 - 1 < xs.length := by omega
              obtain ⟨d, hd1, hd2⟩ := dpAll_atv hxs (List.getElem?_eq_getElem hi1)
              have hos : (shapesS L ds)[i0 - 1]? = some (shapeS L d) := by rw [shapesS_map, List.getElem?_map, hd1]; rfl
              keq_hits
              refine we_ix ix_tup (plainIx_op) ?_
              keq_hits
              refine i_ixT (v := xs[i0 - 1]) hx8 (by rw [g1, atI_nat hi1]; exact List.getElem?_eq_getElem hi1) ?_
              keq_hits
              refine shape_at hk8 (WP.dp_mono s44 hd2) (WP.dp_mono s44 hL) (List.mem_of_getElem? hd1) hf hz hsz hdp (fun sh e v' H9 s9 dp => ?_) fun e H' s' => qe (by rw [hj, hos, e]; cases seqO (shapesS L (ds.take (i0 - 1))) <;> cases seqO (shapesS L (ds.drop (i0 + 1))) <;> rfl) _ (s44.trans s')
              keq_hits
              refine ⟨by show 4 ≤ sizeLine; decide, fun p4 hp4 => ?_⟩
              have t4 := Same.new (o := .tup [.str "list", .ref p2, v', .ref p3]) hp4
              refine q (.rep shs sh shs2) (by rw [hj, es, es2, hos, e]) _ _ (s44.trans (s9.trans t4)) ?_
              exact Dp.tup (SqT.of upd_same) (.cons (.str _) (.cons (WP.dp_mono (s9.trans t4) hds3) (.cons (WP.dp_mono t4 dp) (.cons (WP.dp_mono (s9.trans t4) hdt2) .nil))))
      · refine i_iff (by simp; omega) ?_
        keq_hits
        refine i_lenLt hl4 ?_
        keq_hits
        rw [hsp]
        refine i_ift (by simp; omega) ?_
        keq_hits
        refine i_ift rfl ?_
        keq_hits
        refine ws_raise Er (Room.mono hr (by omega)) rfl tk rfl ?_
        exact qe (by unfold joinS; rw [hsp]) _ s4
end
end
section
/-! ### depths -/
mutual
def ssize : Sh → Nat
  | .lis a => ssizes a + 1
  | .rep a r b => ssizes a + ssize r + ssizes b + 1
  | _ => 1
def ssizes : List Sh → Nat
  | [] => 0
  | x :: xs => ssize x + ssizes xs
end
mutual
def namesS : Sh → Nat → List (Str × Nat)
  | .nm s, n => [(s, n)]
  | .lis a, n => namesSs a n
  | .rep a r b, n => namesSs a n ++ namesS r (n + 1) ++ namesSs b n
  | _, _ => []
def namesSs : List Sh → Nat → List (Str × Nat)
  | [], _ => []
  | x :: xs, n => namesS x n ++ namesSs xs n
end
mutual
def deepS : Sh → Nat → Bool
  | .lis a, n => decide (n ≤ 3) && deepSs a n
  | .rep a r b, n => decide (n ≤ 3) && (deepSs a n && deepS r (n + 1) && deepSs b n)
  | _, n => decide (n ≤ 3)
def deepSs : List Sh → Nat → Bool
  | [], _ => true
  | x :: xs, n => deepS x n && deepSs xs n
end
def goodS (x : Sh) : Bool := decide ((namesS x 0).map (·.1)).Nodup && deepS x 0
theorem ssize_pos (x : Sh) : 1 ≤ ssize x := by cases x <;> simp [ssize]
theorem ssizes_append (a b : List Sh) : ssizes (a ++ b) = ssizes a + ssizes b := by
  induction a with
  | nil => simp [ssizes]
  | cons x a ih => simp [ssizes, ih]; omega
theorem ssizes_len : ∀ xs : List Sh, xs.length ≤ ssizes xs
  | [] => Nat.le_refl _
  | x :: xs => by
    have h1 := ssizes_len xs
    have h2 := ssize_pos x
    simp only [List.length_cons, ssizes]
    omega
theorem namesSs_append (a b : List Sh) (n : Nat) : namesSs (a ++ b) n = namesSs a n ++ namesSs b n := by
  induction a with
  | nil => simp [namesSs]
  | cons x a ih => simp [namesSs, ih]
theorem deepSs_append (a b : List Sh) (n : Nat) : deepSs (a ++ b) n = (deepSs a n && deepSs b n) := by
  induction a with
  | nil => simp [deepSs]
  | cons x a ih => simp [deepSs, ih, Bool.and_assoc]
mutual
theorem names_len : ∀ (x : Sh) (n : Nat), (namesS x n).length ≤ ssize x
  | .any, n => by simp [namesS]
  | .lit s, n => by simp [namesS]
  | .nm s, n => by simp [namesS, ssize]
  | .num i, n => by simp [namesS]
  | .lis a, n => by
    have := names_lens a n
    simp only [namesS, ssize]
    omega
  | .rep a r b, n => by
    have h1 := names_lens a n
    have h2 := names_len r (n + 1)
    have h3 := names_lens b n
    simp only [namesS, ssize, List.length_append]
    omega
theorem names_lens : ∀ (x : List Sh) (n : Nat), (namesSs x n).length ≤ ssizes x
  | [], n => by simp [namesSs]
  | x :: xs, n => by
    have h1 := names_len x n
    have h2 := names_lens xs n
    simp only [namesSs, ssizes, List.length_append]
    omega
end
theorem deep_le {x : Sh} {n : Nat} (h : ¬ n ≤ 3) : deepS x n = false := by
  cases x <;> simp [deepS, h]
section
variable {P : Program} {w : World} {K : PySem.W.Frag} {mg : Str → Option Value} {base : Heap} {f : Addr} {fd : FuncData} {C CB : Addr} {L : List Str}
/-! a shape's data -/
theorem enc_other {H : Hp} {v : V} : ∀ {x : Sh}, Dp K H v (enc x) → (x matches .any | .lit _ | .num _) → ∃ a tag rest, v = .ref a ∧ SqT K H a (.str tag :: rest) ∧ tag ≠ "name" ∧ tag ≠ "list" := by
  intro x h hx
  cases x with
  | any | lit s | num i =>
    obtain ⟨a, xs, rfl, hs, hd⟩ := dp_tup h
    cases hd with
    | cons a1 r =>
      cases dp_str a1
      exact ⟨a, _, _, rfl, hs, by decide, by decide⟩
  | nm s => simp at hx
  | lis a => simp at hx
  | rep a r b => simp at hx
theorem enc_nm {H : Hp} {v : V} {s : Str} (h : Dp K H v (enc (.nm s))) : ∃ a, v = .ref a ∧ SqT K H a [.str "name", .str s] := by
  obtain ⟨a, xs, rfl, hs, hd⟩ := dp_tup h
  cases hd with
  | cons a1 r =>
    cases dp_str a1
    cases r with
    | cons a2 r2 =>
      cases dp_str a2
      cases r2
      exact ⟨a, rfl, hs⟩
theorem enc_lis {H : Hp} {v : V} {x : List Sh} (h : Dp K H v (enc (.lis x))) : ∃ a ea eb, v = .ref a ∧ SqT K H a [.str "list", ea, .non, eb] ∧ Dp K H ea (.tuple (encs x)) ∧ Dp K H eb (.tuple []) := by
  obtain ⟨a, xs, rfl, hs, hd⟩ := dp_tup h
  cases hd with
  | cons a1 r =>
    cases dp_str a1
    cases r with
    | cons a2 r2 =>
      cases r2 with
      | cons a3 r3 =>
        cases dp_non a3
        cases r3 with
        | cons a4 r4 =>
          cases r4
          exact ⟨a, _, _, rfl, hs, a2, a4⟩
theorem enc_rep {H : Hp} {v : V} {x y : List Sh} {r : Sh} (h : Dp K H v (enc (.rep x r y))) : ∃ a ea er eb, v = .ref a ∧ SqT K H a [.str "list", ea, er, eb] ∧ Dp K H ea (.tuple (encs x)) ∧ Dp K H er (enc r) ∧ Dp K H eb (.tuple (encs y)) := by
  obtain ⟨a, xs, rfl, hs, hd⟩ := dp_tup h
  cases hd with
  | cons a1 r =>
    cases dp_str a1
    cases r with
    | cons a2 r2 =>
      cases r2 with
      | cons a3 r3 =>
        cases r3 with
        | cons a4 r4 =>
          cases r4
          exact ⟨a, _, _, _, rfl, hs, a2, a3, a4⟩
theorem enc_ref {H : Hp} {v : V} {x : Sh} (h : Dp K H v (enc x)) : ∃ a, v = .ref a := by
  cases x <;> exact let ⟨a, _, e, _⟩ := dp_tup h; ⟨a, e⟩
/-- what waits -/
structure Es where
  a : Addr
  v : V
  x : Sh
  k : Nat
structure EsOk (K : PySem.W.Frag) (H H' : Hp) (e : Es) : Prop where
  tu : H' e.a = some (.tup [e.v, .int (e.k : Int)])
  dp : Dp K H e.v (enc e.x)
def zEs (es : List Es) : Nat := (es.map fun e => ssize e.x).sum
def nEs (es : List Es) : List (Str × Nat) := es.flatMap fun e => namesS e.x e.k
def dEs (es : List Es) : Bool := es.all fun e => deepS e.x e.k
theorem esOk_upd {H H' : Hp} {l : Addr} {o o' : HO} {e : Es} (h : EsOk K H H' e) (hl : H' l = some o) (ho : ∀ xs, o ≠ .tup xs) : EsOk K H (upd H' l o') e :=
  ⟨by rw [upd_ne (ne_of h.tu hl (fun z => ho _ z.symm))]; exact h.tu, h.dp⟩
theorem esOk_same {H H' H2 : Hp} {e : Es} (h : EsOk K H H' e) (s : Same H' H2) : EsOk K H H2 e := ⟨s _ _ h.tu, h.dp⟩
theorem ess_of {H H' : Hp} {k : Nat} : ∀ {xs : List V} {ds : List Sh}, DpAll K H xs (encs ds) → ∀ acc : List V, acc.length = xs.length → (∀ i v, acc[i]? = some v → ∃ p, v = .ref p ∧ H' p = some (.tup [xs.getD i .non, .int (k : Int)])) →
    ∃ es : List Es, (es.map fun e => V.ref e.a) = acc ∧ (∀ e ∈ es, EsOk K H H' e) ∧ zEs es = ssizes ds ∧ nEs es = namesSs ds k ∧ dEs es = deepSs ds k
  | [], [], .nil, acc, hl, _ => ⟨[], by rw [List.length_eq_zero_iff.mp hl]; rfl, (fun _ z => absurd z (by simp)), rfl, rfl, rfl⟩
  | x :: xs, d :: ds, .cons hx h, [], hl, _ => nomatch hl
  | x :: xs, d :: ds, .cons hx h, y :: acc, hl, hR => by
    obtain ⟨p, rfl, hp⟩ := hR 0 y rfl
    obtain ⟨es, e1, e2, e3, e4, e5⟩ := ess_of h acc (by simpa using hl) fun i v e => hR (i + 1) v (by simpa using e)
    refine ⟨⟨p, x, d, k⟩ :: es, by simp [e1], fun e he => ?_, ?_, ?_, ?_⟩
    · rcases List.mem_cons.mp he with rfl | he
      · exact ⟨hp, hx⟩
      · exact e2 e he
    · show ssize d + zEs es = _
      rw [e3]
      rfl
    · show namesS d k ++ nEs es = _
      rw [e4]
      rfl
    · show (deepS d k && dEs es) = _
      rw [e5]
      rfl
def kvN (l : List (Str × Nat)) : List (Key × V) := l.map fun p => (.inr p.1, .int (p.2 : Int))
theorem valV_kvN {l : List (Str × Nat)} {s : Str} : (valV (kvN l) (.inr s)).isSome = decide (s ∈ l.map (·.1)) := by
  rw [← valV_any]
  induction l with
  | nil => rfl
  | cons p l ih =>
    simp only [kvN, List.map_cons, List.any_cons] at ih ⊢
    rw [ih]
    by_cases h : p.1 = s
    · simp [h]
    · have h' : ¬ s = p.1 := fun z => h z.symm
      simp [h, h']
theorem putK_kvN {l : List (Str × Nat)} {s : Str} {k : Nat} (h : s ∉ l.map (·.1)) : putK (kvN l) (.inr s) (.int (k : Int)) = kvN (l ++ [(s, k)]) := by
  have e : valV (kvN l) (.inr s) = none := by
    have z := valV_kvN (l := l) (s := s)
    rw [decide_eq_false h] at z
    cases q : valV (kvN l) (.inr s) with
    | none => rfl
    | some v => rw [q] at z; cases z
  rw [putK_new _ e]
  simp [kvN]
end
end
section
section
variable {P : Program} {w : World} {K : PySem.W.Frag} {mg : Str → Option Value} {base : Heap} {f : Addr} {fd : FuncData} {C CB : Addr} {L : List Str}
def sp_depths (K : PySem.W.Frag) (CB : Addr) : Sp := fun vs H Q E => ∃ v x, vs = [v] ∧ Dp K H v (enc x) ∧ ssize x ≤ 3000 ∧
  (goodS x = true → ∀ l p H', l.Perm (namesS x 0) → H p = none → Same H H' → H' p = some (.dK (kvN l)) → Q (.ref p) H') ∧ (goodS x = false → ∀ H', Same H H' → E (.ref CB) none H')
theorem sc26 : FnScope ["told", "found", "waiting", "here", "deep", "part"] ["told"] (defScope (top 25)) := ⟨rfl, rfl, rfl, by decide +kernel, rfl, by decide +kernel, by decide +kernel⟩
theorem nodup_mid {α : Type} {a b : List α} {x : α} (h : (a ++ x :: b).Nodup) : x ∉ a := fun hx => by
  rw [List.nodup_append] at h
  exact h.2.2 x hx x (by simp) rfl
theorem good_dup {x : Sh} {fl r : List (Str × Nat)} {s : Str} {k : Nat} (hp : (namesS x 0).Perm (fl ++ (s, k) :: r)) (hs : s ∈ fl.map (·.1)) : goodS x = false := by
  have : ¬ ((namesS x 0).map (·.1)).Nodup := fun h => by
    have h2 := (hp.map (·.1)).nodup_iff.mp h
    rw [List.map_append, List.map_cons] at h2
    exact nodup_mid h2 hs
  simp [goodS, this]
theorem zEs_len : ∀ es : List Es, es.length ≤ zEs es
  | [] => Nat.le_refl _
  | e :: r => by
    have h1 := ssize_pos e.x
    have h2 := zEs_len r
    have h3 : zEs (e :: r) = ssize e.x + zEs r := rfl
    simp only [List.length_cons]
    omega
theorem encs_append (a b : List Sh) : encs (a ++ b) = encs a ++ encs b := by rw [encs_map, encs_map, encs_map, List.map_append]
theorem zEs_append (a b : List Es) : zEs (a ++ b) = zEs a + zEs b := by simp [zEs]
theorem nEs_append (a b : List Es) : nEs (a ++ b) = nEs a ++ nEs b := by simp [nEs]
theorem dEs_append (a b : List Es) : dEs (a ++ b) = (dEs a && dEs b) := by simp [dEs]
theorem enc_list {H : Hp} {v : V} {x : Sh} (h : Dp K H v (enc x)) (k : Nat) (hk : k ≤ 3) :
    (∃ a tag rest, v = .ref a ∧ SqT K H a (.str tag :: rest) ∧ tag ≠ "name" ∧ tag ≠ "list" ∧ namesS x k = [] ∧ deepS x k = true) ∨
    (∃ a s, v = .ref a ∧ SqT K H a [.str "name", .str s] ∧ namesS x k = [(s, k)] ∧ deepS x k = true) ∨
    (∃ a e1 e2 e3 A B R, v = .ref a ∧ SqT K H a [.str "list", e1, e2, e3] ∧ Dp K H e1 (.tuple (encs A)) ∧ Dp K H e3 (.tuple (encs B)) ∧ ((e2 = .non ∧ R = []) ∨ ∃ b r, e2 = .ref b ∧ R = [r] ∧ Dp K H e2 (enc r)) ∧
      ssize x = ssizes A + ssizes R + ssizes B + 1 ∧ namesS x k = namesSs A k ++ namesSs R (k + 1) ++ namesSs B k ∧ deepS x k = (deepSs A k && deepSs R (k + 1) && deepSs B k)) := by
  cases x with
  | any | lit s | num i =>
    obtain ⟨a, tag, rest, e1, e2, e3, e4⟩ := enc_other h rfl
    exact .inl ⟨a, tag, rest, e1, e2, e3, e4, rfl, by simp [deepS, hk]⟩
  | nm s =>
    obtain ⟨a, e1, e2⟩ := enc_nm h
    exact .inr (.inl ⟨a, s, e1, e2, rfl, by simp [deepS, hk]⟩)
  | lis A =>
    obtain ⟨a, ea, eb, e1, e2, e3, e4⟩ := enc_lis h
    exact .inr (.inr ⟨a, ea, .non, eb, A, [], [], e1, e2, e3, e4, .inl ⟨rfl, rfl⟩, by simp [ssize, ssizes], by simp [namesS, namesSs], by simp [deepS, deepSs, hk]⟩)
  | rep A r B =>
    obtain ⟨a, ea, er, eb, e1, e2, e3, e4, e5⟩ := enc_rep h
    obtain ⟨b, rfl⟩ := enc_ref e4
    exact .inr (.inr ⟨a, ea, _, eb, A, B, [r], e1, e2, e3, e5, .inr ⟨b, r, rfl, rfl, e4⟩, by simp [ssize, ssizes], by simp [namesS, namesSs], by simp [deepS, deepSs, hk]⟩)
theorem ok_depths (F : FnP K "depths" 25 f fd) (hm : mg "depths" = some (.ref f)) (Er : ErrC P w K mg base 1 "BadPattern" CB) (mM : ∃ t, mg "MOST_REPEATS" = some (.int 3 t)) (ml : mg "len" = none) : Def P w K mg base 3 "depths" (sp_depths K CB) := by
  refine Def.mk' F hm sc26 (fun vs H Q E h => ?_) (fun _ _ _ _ _ _ us hl => match us, hl with | [_], _ => rfl) (fun cdv A outer s H vs Q E hr tk h => ?_)
  · obtain ⟨v, x, rfl, _⟩ := h
    rfl
  · obtain ⟨v, x, rfl, hd, hz, q, qe⟩ := h
    have nd := sc26.nd
    refine wb_cons (ws_par 1 2 rfl nd rfl rfl (by decide) rfl rfl (by rfl) ?_)
    refine we_dnew fun p hp => ?_
    keq_hits
    refine ⟨by show 2 ≤ sizeLine; decide, fun p1 hp1 => ?_⟩
    keq_hits
    refine ⟨by show 1 ≤ sizeLine; decide, fun l hl => ?_⟩
    have s0 : Same H (upd H p (.dK [])) := Same.new hp
    have sA : Same H (upd (upd (upd H p (.dK [])) p1 (.tup [v, .int 0])) l (.lst [.ref p1])) := s0.trans ((Same.new hp1).trans (Same.new hl))
    have hpA : upd (upd (upd H p (.dK [])) p1 (.tup [v, .int 0])) l (.lst [.ref p1]) p = some (.dK (kvN [])) := Same.new hl _ _ (Same.new hp1 _ _ upd_same)
    have htA : upd (upd (upd H p (.dK [])) p1 (.tup [v, .int 0])) l (.lst [.ref p1]) p1 = some (.tup [v, .int ((0 : Nat) : Int)]) := Same.new hl _ _ upd_same
    have hlA : upd (upd (upd H p (.dK [])) p1 (.tup [v, .int 0])) l (.lst [.ref p1]) l = some (.lst [.ref p1]) := upd_same
    have hl0 : H l = none := by
      cases z : H l with
      | none => rfl
      | some o =>
        have := (s0.trans (Same.new (o := .tup [v, .int 0]) hp1)) _ _ z
        rw [hl] at this
        cases this
    have lp : l ≠ p := fun z => by rw [z, (Same.new (o := .tup [v, .int 0]) hp1) _ _ (upd_same (o := .dK []))] at hl; cases hl
    generalize upd (upd (upd H p (.dK [])) p1 (.tup [v, .int 0])) l (.lst [.ref p1]) = HA at sA hpA htA hlA ⊢
    keq_hits
    refine ws_whileW passes_bx (fun m σ H' => ∃ (es : List Es) (fl : List (Str × Nat)) (hv dv pv : Option V), σ = [some v, some (.ref p), some (.ref l), hv, dv, pv] ∧ Same H H' ∧ H' l = some (.lst (es.map fun e => V.ref e.a)) ∧ H' p = some (.dK (kvN fl)) ∧
      (∀ e ∈ es, EsOk K H H' e) ∧ zEs es ≤ 3000 ∧ m = zEs es ∧ (namesS x 0).Perm (fl ++ nEs es) ∧ deepS x 0 = dEs es ∧ (fl.map (·.1)).Nodup) ?_ ?_
    · refine ⟨_, [⟨p1, v, x, 0⟩], [], none, none, none, rfl, sA, hlA, hpA, ?_, ?_, rfl, ?_, ?_, List.nodup_nil⟩
      · intro e he
        rw [List.mem_singleton.mp he]
        exact ⟨htA, hd⟩
      · show ssize x + 0 ≤ 3000
        omega
      · simp [nEs]
      · simp [dEs]
    · rintro m σ H1 ⟨es, fl, hv, dv, pv, rfl, s1, hl1, hp1, hes, hz1, rfl, hn, hdd, hnd⟩
      keq_hits
      refine i_lenLt hl1 ?_
      keq_hits
      refine i_ite (fun e => ?_) (fun e => ?_)
      · obtain ⟨es', en, rfl⟩ : ∃ es' en, es = es' ++ [en] := by
          rcases List.eq_nil_or_concat es with rfl | ⟨es', en, h⟩
          · simp at e
          · exact ⟨es', en, by simpa using h⟩
        have hen := hes en (by simp)
        keq_hits
        have hl2 : H1 l = some (.lst ((es'.map fun e => V.ref e.a) ++ [V.ref en.a])) := by rw [hl1]; simp
        refine i_lstT hl1 (i_pop hl2 ?_)
        have s2 : Same H (upd H1 l (.lst (es'.map fun e => V.ref e.a))) := s1.mut hl0
        have hl3 : upd H1 l (.lst (es'.map fun e => V.ref e.a)) l = some (.lst (es'.map fun e => V.ref e.a)) := upd_same
        have hp3 : upd H1 l (.lst (es'.map fun e => V.ref e.a)) p = some (.dK (kvN fl)) := by rw [upd_ne (Ne.symm lp)]; exact hp1
        have hes3 : ∀ e ∈ es', EsOk K H (upd H1 l (.lst (es'.map fun e => V.ref e.a))) e := fun e he => esOk_upd (hes e (by simp [he])) hl1 (fun _ z => nomatch z)
        have ten := (esOk_upd (o' := .lst (es'.map fun e => V.ref e.a)) hen hl1 (fun _ z => nomatch z)).tu
        have dp0 := hen.dp
        have hz2 : zEs es' + ssize en.x ≤ 3000 := by have : zEs (es' ++ [en]) = zEs es' + (ssize en.x + 0) := by simp [zEs]
                                                     omega
        have hz3 : zEs (es' ++ [en]) = zEs es' + ssize en.x := by simp [zEs]
        have hn2 : (namesS x 0).Perm (fl ++ (nEs es' ++ namesS en.x en.k)) := by simpa [nEs] using hn
        have hd2 : deepS x 0 = (dEs es' && deepS en.x en.k) := by simpa [dEs] using hdd
        have hfl : fl.length ≤ 3000 := by
          have h1 := hn2.length_eq
          have h2 := names_len x 0
          rw [List.length_append] at h1
          omega
        generalize upd H1 l (.lst (es'.map fun e => V.ref e.a)) = H3 at s2 hl3 hp3 hes3 ten ⊢
        clear hes hen hl1 hl2 hn hdd hz1
        refine i_two (SqT.of ten) ?_
        keq_hits
        refine i_ite (fun e1 => ?_) (fun e1 => ?_)
        · keq_hits
          refine ws_raise Er hr rfl tk rfl ?_
          exact qe (by rw [goodS, hd2, deep_le (by have := of_decide_eq_true e1; omega)]; simp) _ s2
        · have hk3 : en.k ≤ 3 := by have := of_decide_eq_false e1; omega
          keq_hits
          refine wt_cmp op_eq rfl ?_
          refine we_ix ix_tup plainIx_int ?_
          keq_hits
          rcases enc_list dp0 en.k hk3 with ⟨a, tag, rest, ev, hT, t1, t2, hnx, hdx⟩ | ⟨a, nm, ev, hT, hnx, hdx⟩ | ⟨a, v1, v2, v3, A1, B1, R1, ev, hT, d1, d3, h2, hsx, hnx, hdx⟩
          · rw [ev]
            replace hT := s2.tup hT
            refine i_ixT hT atI0 ?_
            keq_hits
            refine ⟨rfl, i_bl (i_iff (by simpa using t1) ?_)⟩
            keq_hits
            refine wt_cmp op_eq rfl ?_
            refine we_ix ix_tup plainIx_int ?_
            keq_hits
            refine i_ixT hT atI0 ?_
            keq_hits
            refine ⟨rfl, i_bl (i_iff (by simpa using t2) ?_)⟩
            keq_hits
            have := ssize_pos en.x
            exact ⟨zEs es', by omega, es', fl, _, _, _, rfl, s2, hl3, hp3, hes3, by omega, rfl, by rw [hnx] at hn2; simpa using hn2, by rw [hd2, hdx, Bool.and_true], hnd⟩
          · rw [ev]
            replace hT := s2.tup hT
            refine i_ixT hT atI0 ?_
            keq_hits
            refine ⟨rfl, i_bl (i_ift rfl ?_)⟩
            keq_hits
            refine wt_din hr rfl ?_
            refine we_ix ix_tup plainIx_int ?_
            keq_hits
            refine i_ixT hT atI1 ?_
            keq_hits
            refine i_dget (key := .inr nm) hp3 ?_
            rw [valV_kvN]
            rw [hnx] at hn2
            refine i_ite (fun e2 => ?_) (fun e2 => ?_)
            · keq_hits
              refine ws_raise Er hr rfl tk rfl ?_
              refine qe (good_dup (fl := fl) (r := nEs es') (s := nm) (k := en.k) (hn2.trans ?_) (by simpa using e2)) _ s2
              exact List.Perm.append_left fl (List.perm_append_comm (l₁ := nEs es') (l₂ := [(nm, en.k)]))
            · have e2 : nm ∉ fl.map (·.1) := of_decide_eq_false e2
              keq_hits
              refine ws_dput hr ?_
              keq_hits
              refine we_ix ix_tup plainIx_int ?_
              keq_hits
              refine i_ixT hT atI1 ?_
              refine i_dput (key := .inr nm) hp3 (by show _ < 16777216; simp [kvN]; omega) ?_
              rw [putK_kvN e2]
              keq_hits
              have := ssize_pos en.x
              refine ⟨zEs es', by omega, es', fl ++ [(nm, en.k)], _, _, _, rfl, s2.mut hp, by rw [upd_ne lp]; exact hl3, upd_same, fun e he => esOk_upd (hes3 e he) hp3 (fun _ z => nomatch z), by omega, rfl, hn2.trans ?_, by rw [hd2, hdx, Bool.and_true], ?_⟩
              · rw [List.append_assoc]
                exact List.Perm.append_left fl (List.perm_append_comm (l₁ := nEs es') (l₂ := [(nm, en.k)]))
              · rw [List.map_append]
                refine List.nodup_append.mpr ⟨hnd, by simp, fun y hy z hz => ?_⟩
                intro e
                simp at hz
                rw [e, hz] at hy
                exact e2 hy
          · obtain ⟨a1, xs1, rfl, hx1, hxs1⟩ := dp_tup d1
            obtain ⟨a3, xs3, rfl, hx3, hxs3⟩ := dp_tup d3
            have ln1 := dpAll_len hxs1
            have ln3 := dpAll_len hxs3
            have lm1 := ssizes_len A1
            have lm3 := ssizes_len B1
            rw [encs_map, List.length_map] at ln1 ln3
            have lz := zEs_len es'
            have hy1 := s2.tup hx1
            have hy3 := s2.tup hx3
            have hTH := hT
            replace hT := s2.tup hT
            rw [ev]
            refine i_ixT hT atI0 ?_
            keq_hits
            refine ⟨rfl, i_bl (i_iff rfl ?_)⟩
            keq_hits
            refine wt_cmp op_eq rfl ?_
            refine we_ix ix_tup plainIx_int ?_
            keq_hits
            refine i_ixT hT atI0 ?_
            keq_hits
            refine ⟨rfl, i_bl (i_ift rfl ?_)⟩
            keq_hits
            refine i_lstT hl3 ?_
            refine wa_cons ?_
            refine we_lc rfl rfl tk rfl nd (pi_tup pe) (blkOk_by (N := ["told", "found", "waiting", "here", "deep", "part"]) (sc := defScope (top 25)) (own := [("part", 5)]) (by decide +kernel)) (fun _ _ _ _ _ => by k_memK) ?_
            show WP.WE _ _ _ _ _
            refine we_op op_catA ?_
            refine we_ix ix_tup plainIx_int ?_
            keq_hits
            refine i_ixT hT atI1 ?_
            refine we_ix ix_tup plainIx_int ?_
            keq_hits
            refine i_ixT hT rfl ?_
            refine i_cat hy1 hy3 (by show _ ≤ 16777216; omega) fun b Hb sb hb => ?_
            refine ⟨b, rfl, ⟨_, hb⟩, fun D hD => lc_R (fun i H v => ∃ p, v = .ref p ∧ H p = some (.tup [(xs1 ++ xs3).getD i .non, .int ((en.k : Nat) : Int)])) stay_tup walk_tup (by rw [List.length_append]; show _ < 16777216; omega) hD (fun H s => s.tup hb) ?_ teW_mono gName_mono fun H4 acc s4 hl ha hR => ?_⟩
            · rintro i y H5 H6 hi s5 ⟨rfl, hxi⟩
              refine ⟨rfl, fun s0 H0 C cl fp => ?_⟩
              refine we_tup (wa_cons ?_)
              keq_hits
              refine ⟨by show 2 ≤ sizeLine; decide, fun p hp => ⟨Same.new hp, p, rfl, ?_⟩⟩
              rw [upd_same, List.getD_eq_getElem?_getD, hxi]
              rfl
            · keq_hits
              have s34 := sb.trans s4
              have hl4 := s34 _ _ hl3
              have hp4 := s34 _ _ hp3
              obtain ⟨es2, e2a, e2b, e2c, e2d, e2e⟩ := ess_of (ds := A1 ++ B1) (by rw [encs_append]; exact dpAll_app hxs1 hxs3) acc ha hR
              have hz1 : acc.length = xs1.length + xs3.length := by rw [ha, List.length_append]
              refine i_extend hl4 hl (by show _ ≤ 16777216; rw [List.length_map]; omega) ?_
              have s5 := (s2.trans s34).mut (o := .lst ((es'.map fun e => V.ref e.a) ++ acc)) hl0
              have hl5 : upd H4 l (.lst ((es'.map fun e => V.ref e.a) ++ acc)) l = some (.lst ((es' ++ es2).map fun e => V.ref e.a)) := by rw [upd_same, ← e2a, List.map_append]
              have hp5 : upd H4 l (.lst ((es'.map fun e => V.ref e.a) ++ acc)) p = some (.dK (kvN fl)) := by rw [upd_ne (Ne.symm lp)]; exact hp4
              have hes5 : ∀ e ∈ es' ++ es2, EsOk K H (upd H4 l (.lst ((es'.map fun e => V.ref e.a) ++ acc))) e := fun e he => by
                rcases List.mem_append.mp he with he | he
                · exact esOk_upd (esOk_same (hes3 e he) s34) hl4 (fun _ z => nomatch z)
                · exact esOk_upd (e2b e he) hl4 (fun _ z => nomatch z)
              have hz5 : zEs (es' ++ es2) = zEs es' + (ssizes A1 + ssizes B1) := by rw [zEs_append, e2c, ssizes_append]
              have hn5 : nEs (es' ++ es2) = nEs es' ++ (namesSs A1 en.k ++ namesSs B1 en.k) := by rw [nEs_append, e2d, namesSs_append]
              have hd5 : dEs (es' ++ es2) = (dEs es' && (deepSs A1 en.k && deepSs B1 en.k)) := by rw [dEs_append, e2e, deepSs_append]
              have lz5 := zEs_len (es' ++ es2)
              generalize upd H4 l (.lst ((es'.map fun e => V.ref e.a) ++ acc)) = H5 at s5 hl5 hp5 hes5 ⊢
              generalize es' ++ es2 = es3 at hl5 hes5 hz5 hn5 hd5 lz5
              have hT5 := s5.tup hTH
              keq_hits
              refine i_lstT hl5 ?_
              keq_hits
              refine we_ix ix_tup plainIx_int ?_
              keq_hits
              refine i_ixT hT5 rfl ?_
              keq_hits
              rcases h2 with ⟨rfl, rfl⟩ | ⟨b2, r2, rfl, rfl, dr⟩
              · refine i_iff rfl ?_
                keq_hits
                refine ⟨by show 0 ≤ sizeLine; decide, fun l2 hl2 => ?_⟩
                keq_hits
                have nl : l ≠ l2 := fun z => by rw [← z, hl5] at hl2; cases hl2
                have s6 := Same.new (o := .lst ([] : List V)) hl2
                refine i_extend (s6 _ _ hl5) upd_same (by show _ ≤ 16777216; rw [List.length_map]; simp; omega) ?_
                keq_hits
                refine ⟨zEs es3, by simp [ssizes] at hsx; omega, es3, fl, _, _, _, rfl, (s5.trans s6).mut hl0, by rw [upd_same, List.append_nil], by rw [upd_ne (Ne.symm lp)]; exact s6 _ _ hp5, fun e he => esOk_upd (esOk_same (hes5 e he) s6) (s6 _ _ hl5) (fun _ z => nomatch z), by simp [ssizes] at hsx; omega, rfl, ?_, ?_, hnd⟩
                · rw [hnx] at hn2
                  rw [hn5]
                  simpa [namesSs] using hn2
                · rw [hd2, hdx, hd5]
                  simp [deepSs]
              · refine i_ift rfl ?_
                keq_hits
                refine we_ix ix_tup plainIx_int ?_
                keq_hits
                refine i_ixT hT5 rfl ?_
                keq_hits
                refine we_op op_add ?_
                keq_hits
                refine ⟨by show 2 ≤ sizeLine; decide, fun p5 hp5' => ?_⟩
                keq_hits
                refine ⟨by show 1 ≤ sizeLine; decide, fun l2 hl2 => ?_⟩
                keq_hits
                have s6 := (Same.new (o := .tup [V.ref b2, .int ((en.k : Int) + 1)]) hp5').trans (Same.new (o := .lst [V.ref p5]) hl2)
                have t6 : upd (upd H5 p5 (.tup [V.ref b2, .int ((en.k : Int) + 1)])) l2 (.lst [V.ref p5]) p5 = some (.tup [V.ref b2, .int ((en.k + 1 : Nat) : Int)]) := Same.new (o := .lst [V.ref p5]) hl2 _ _ upd_same
                have l6 : upd (upd H5 p5 (.tup [V.ref b2, .int ((en.k : Int) + 1)])) l2 (.lst [V.ref p5]) l2 = some (.lst [V.ref p5]) := upd_same
                generalize upd (upd H5 p5 (.tup [V.ref b2, .int ((en.k : Int) + 1)])) l2 (.lst [V.ref p5]) = H6 at s6 t6 l6 ⊢
                have hl6 := s6 _ _ hl5
                refine i_extend hl6 l6 (by show _ ≤ 16777216; rw [List.length_map]; simp; omega) ?_
                keq_hits
                have zz : zEs (es3 ++ [⟨p5, .ref b2, r2, en.k + 1⟩]) = zEs es3 + ssize r2 := by rw [zEs_append]; simp [zEs]
                refine ⟨zEs (es3 ++ [⟨p5, .ref b2, r2, en.k + 1⟩]), by rw [zz]; simp [ssizes] at hsx; omega, es3 ++ [⟨p5, .ref b2, r2, en.k + 1⟩], fl, _, _, _, rfl, (s5.trans s6).mut hl0, by rw [upd_same, List.map_append]; rfl, by rw [upd_ne (Ne.symm lp)]; exact s6 _ _ hp5, fun e he => ?_, by rw [zz]; simp [ssizes] at hsx; omega, rfl, ?_, ?_, hnd⟩
                · refine esOk_upd ?_ hl6 (fun _ z => nomatch z)
                  rcases List.mem_append.mp he with he | he
                  · exact esOk_same (hes5 e he) s6
                  · rw [List.mem_singleton.mp he]
                    exact ⟨t6, dr⟩
                · rw [hnx] at hn2
                  rw [nEs_append, hn5]
                  refine hn2.trans (List.Perm.append_left fl ?_)
                  simp only [nEs, namesSs, List.flatMap_cons, List.flatMap_nil, List.append_nil, List.append_assoc]
                  refine List.Perm.append_left _ (List.Perm.append_left _ ?_)
                  exact List.perm_append_comm
                · rw [hd2, hdx, dEs_append, hd5]
                  simp only [dEs, deepSs, List.all_cons, List.all_nil, Bool.and_true]
                  generalize (es'.all fun e => deepS e.x e.k) = b0
                  cases b0 <;> cases deepSs A1 en.k <;> cases deepSs B1 en.k <;> cases deepS r2 (en.k + 1) <;> rfl
      · have : es = [] := by
          cases es with
          | nil => rfl
          | cons x r => simp at e
        subst this
        keq_hits
        have hn3 : (namesS x 0).Perm fl := by simpa [nEs] using hn
        refine q ?_ fl p _ hn3.symm hp s1 hp1
        have h1 := (hn3.map (·.1)).nodup_iff.mpr hnd
        simp [goodS, h1, hdd, dEs]
end
end
section
section
variable {P : Program} {w : World} {K : PySem.W.Frag} {mg : Str → Option Value} {base : Heap} {f f2 : Addr} {fd fd2 : FuncData} {C CB : Addr} {L : List Str}
theorem ok_shape0 (F : FnP K "shape" 23 f fd) (hm : mg "shape" = some (.ref f)) : Def P w K mg base 4 "shape" (sp_shape K C CB L 0) := by
  refine Def.mk' F hm sc24 (fun vs H Q E h => ?_) (fun _ _ _ _ _ _ us hl => match us, hl with | [_, _, _], _ => rfl) (fun cdv A outer s H vs Q E hr tk h => ?_)
  · obtain ⟨kk, dx, v, lv, d, rfl, _⟩ := h
    rfl
  · obtain ⟨kk, dx, v, lv, d, rfl, hk, hd, hL, hf, hz, hsz, hdp, q, qe⟩ := h
    have := ddep_pos d
    omega
theorem ok_shapes (F : FnP K "shape" 23 f fd) (hm : mg "shape" = some (.ref f)) (F2 : FnP K "list_shape" 24 f2 fd2) (hm2 : mg "list_shape" = some (.ref f2)) (O : PlainOk P w K mg base C) (Er : ErrC P w K mg base 1 "BadPattern" CB) (mR : ∃ t, mg "REPEAT" = some (.str "..." t)) (mA : ∃ t, mg "ANY" = some (.str "_" t))
    (ml : mg "len" = none) (me : mg "enumerate" = none) (mt : mg "tuple" = none) : ∀ n, Def P w K mg base (2 * n + 4) "shape" (sp_shape K C CB L n)
  | 0 => ok_shape0 F hm
  | n + 1 => ok_shape F hm (by omega) O Er mR mA (ok_list_shape F2 hm2 (by omega) O Er mR ml me mt (ok_shapes F hm F2 hm2 O Er mR mA ml me mt n))
/-- a shape is not larger than its form -/
def osz : Option Sh → Nat
  | some x => ssize x
  | none => 0
def oszs : List (Option Sh) → Nat
  | [] => 0
  | o :: os => osz o + oszs os
theorem oszs_some : ∀ xs : List Sh, oszs (xs.map some) = ssizes xs
  | [] => rfl
  | x :: xs => by simp [oszs, osz, ssizes, oszs_some xs]
theorem oszs_append (a b : List (Option Sh)) : oszs (a ++ b) = oszs a + oszs b := by
  induction a with
  | nil => simp [oszs]
  | cons x a ih => simp [oszs, ih]; omega
theorem oszs_drop (n : Nat) (a : List (Option Sh)) : oszs (a.drop n) ≤ oszs a := by
  have h := oszs_append (a.take n) (a.drop n)
  rw [List.take_append_drop] at h
  omega
theorem oszs_cut {os : List (Option Sh)} {i : Nat} {r : Sh} (h0 : i ≠ 0) (h : os[i - 1]? = some (some r)) : oszs (os.take (i - 1)) + ssize r + oszs (os.drop (i + 1)) ≤ oszs os := by
  have hl := (List.getElem?_eq_some_iff.mp h).1
  have e : os = os.take (i - 1) ++ (some r :: os.drop i) := by
    have e1 := (List.take_append_drop (i - 1) os).symm
    rw [List.drop_eq_getElem_cons hl] at e1
    have e2 : os[i - 1] = some r := by
      rw [List.getElem?_eq_getElem hl] at h
      exact Option.some.inj h
    rw [e2] at e1
    have e3 : i - 1 + 1 = i := by omega
    rw [e3] at e1
    exact e1
  have e4 := congrArg oszs e
  rw [oszs_append] at e4
  simp only [oszs, osz] at e4
  have h5 := oszs_drop 1 (os.drop i)
  rw [List.drop_drop] at h5
  omega
theorem joinS_size {ds : List PyData} {os : List (Option Sh)} {x : Sh} (h : joinS ds os = some x) : ssize x ≤ oszs os + 1 := by
  unfold joinS at h
  split at h
  · cases e : seqO os with
    | none => rw [e] at h; cases h
    | some a =>
      rw [e] at h
      cases h
      rw [seqO_some e, oszs_some]
      exact Nat.le_refl _
  · rename_i i hs
    by_cases h0 : i = 0
    · rw [if_pos h0] at h; cases h
    · rw [if_neg h0] at h
      split at h
      · rename_i a b r e1 e2 e3
        cases h
        have := oszs_cut h0 e3
        rw [seqO_some e1, seqO_some e2, oszs_some, oszs_some] at this
        simp only [ssize]
        omega
      · cases h
  · cases h
mutual
theorem shape_size (L : List Str) : ∀ (d : PyData) (x : Sh), shapeS L d = some x → ssize x ≤ dsize d
  | .none, x, h => by simp [shapeS] at h
  | .bool b, x, h => by simp [shapeS] at h
  | .int i, x, h => by
    simp [shapeS] at h
    subst h
    exact Nat.le_refl _
  | .str s, x, h => by
    simp only [shapeS] at h
    split at h
    · cases h
    · split at h
      · cases h
        exact Nat.le_refl _
      · split at h <;> cases h <;> exact Nat.le_refl _
  | .list ds, x, h => by simp [shapeS] at h
  | .dict ds, x, h => by simp [shapeS] at h
  | .tuple ds, x, h => by
    have h1 := joinS_size (show joinS ds (shapesS L ds) = some x from h)
    have h2 := shape_sizes L ds
    simp only [dsize]
    omega
theorem shape_sizes (L : List Str) : ∀ ds : List PyData, oszs (shapesS L ds) ≤ dsizes ds
  | [] => Nat.le_refl _
  | d :: ds => by
    have h2 := shape_sizes L ds
    have h1 : osz (shapeS L d) ≤ dsize d := by
      cases e : shapeS L d with
      | none => exact Nat.zero_le _
      | some x => exact shape_size L d x e
    simp only [shapesS, oszs, dsizes]
    omega
end
def goodD (L : List Str) (d : PyData) : Bool := match shapeS L d with
  | some x => goodS x
  | none => false
/-- what a form of the law's is -/
structure FormOk (d : PyData) : Prop where
  sm : smallD d = true
  sz : dsize d ≤ 3000
  dp : ddep d ≤ 20
def sp_is_good (K : PySem.W.Frag) (L : List Str) : Sp := fun vs H Q _ => ∃ lv v d, vs = [lv, v] ∧ Dp K H lv (.tuple (L.map .str)) ∧ Dp K H v d ∧ formB d = true ∧ FormOk d ∧ ∀ H', Same H H' → Q (.bl (goodD L d)) H'
theorem sc32 : FnScope ["literals", "form"] ["literals", "form"] (defScope (top 28)) := ⟨rfl, rfl, rfl, by decide +kernel, rfl, by decide +kernel, by decide +kernel⟩
theorem ok_is_good (F : FnP K "is_good" 28 f fd) (hm : mg "is_good" = some (.ref f)) (O : PlainOk P w K mg base C) (Er : ErrC P w K mg base 1 "BadPattern" CB) (hx : PySem.W.exmOne K (.ref CB) (.ref CB) = some true)
    (DS : Def P w K mg base 44 "shape" (sp_shape K C CB L 20)) (DD : Def P w K mg base 3 "depths" (sp_depths K CB)) : Def P w K mg base 45 "is_good" (sp_is_good K L) := by
  refine Def.mk' F hm sc32 (fun vs H Q E h => ?_) (fun _ _ _ _ _ _ us hl => match us, hl with | [_, _], _ => rfl) (fun cdv A outer s H vs Q E hr tk h => ?_)
  · obtain ⟨lv, v, d, rfl, _⟩ := h
    rfl
  · obtain ⟨lv, v, d, rfl, hL, hd, hf, ⟨hz, hsz, hdp⟩, q⟩ := h
    obtain ⟨cl, mz, gP, lp, it, wi, ke⟩ := O
    have nd := sc32.nd
    refine wb_cons ?_
    refine ws_try rfl rfl ⟨rfl, by decide, .inl Er.gC⟩ tk fun pn xe tk' => ?_
    refine wb_one (ws_expr ?_)
    refine we_call' DD (Room.mono hr (by omega)) (pas_of tk') (by rfl) ?_
    refine wa_cons ?_
    refine we_call' DS (Room.mono hr (by omega)) (pas_of tk') (by rfl) ?_
    refine wa_cons ?_
    refine we_make0 mz (by rfl) gP fun y dx hy hdx hne => ?_
    have sI : Same H (upd (upd H dx (.own y)) y (.ins C dx [])) := (Same.new hdx).trans (Same.new (by rw [upd_ne hne.symm]; exact hy))
    have hI : upd (upd H dx (.own y)) y (.ins C dx []) y = some (.ins C dx []) := upd_same
    generalize upd (upd H dx (.own y)) y (.ins C dx []) = H1 at sI hI ⊢
    have bad : goodD L d = false → ∀ H', Same H H' → wOnly K (.ref CB) (tsB (bx P w K mg base ["literals", "form"] "is_good" (defScope (top 28)) f cdv A outer s H E) [.Return (some (.Constant (.bool false) 0 ⟨111, 15, 111, 20⟩)) ⟨111, 8, 111, 20⟩]) (fun cls d _ H => E cls d H) { nx := WB (bx P w K mg base ["literals", "form"] "is_good" (defScope (top 28)) f cdv A outer s H E) [.Return (some (.Constant (.bool true) 0 ⟨112, 11, 112, 15⟩)) ⟨112, 4, 112, 15⟩] { nx := fun _ H' => Q .non H', rt := Q }, rt := Q } (.ref CB) none (L2.start ["literals", "form"] [lv, v]) H' := by
      intro e H' s'
      refine i_caught hx fun a ha oe pn' hz hd => ?_
      refine wb_one (ws_ret (we_bl ?_))
      exact fin_bl (q _ s') e.symm
    refine wa_cons ?_
    keq_hits
    refine ⟨y, dx, v, lv, d, rfl, hI, WP.dp_mono sI hd, WP.dp_mono sI hL, hf, hz, hsz, hdp, fun x ex v' H2 s2 dp => ?_, fun e H' s' => ?_⟩
    · keq_hits
      refine ⟨v', x, rfl, dp, Nat.le_trans (shape_size L d x ex) hsz, fun g l p H3 hp h3 s3 hk3 => ?_, fun g H' s' => ?_⟩
      · keq_hits
        exact fin_bl (q _ (sI.trans (s2.trans s3))) (by simp [goodD, ex, g])
      · exact bad (by simp [goodD, ex, g]) _ (sI.trans (s2.trans s'))
    · exact bad (by simp [goodD, e]) _ (sI.trans s')
end
end
section
section
variable {P : Program} {w : World} {K : PySem.W.Frag} {mg : Str → Option Value} {base : Heap} {f : Addr} {fd : FuncData} {C CB : Addr} {L : List Str}
structure LitsOk (L : List Str) : Prop where
  len : L.length ≤ 12
  nm : ∀ s ∈ L, nameS s = true
  nd : L.Nodup
def sp_check_literals (K : PySem.W.Frag) (L : List Str) : Sp := fun vs H Q _ => ∃ v, vs = [v] ∧ Dp K H v (.tuple (L.map .str)) ∧ ∀ H', Same H H' → Q .non H'
theorem sc30 : FnScope ["thing", "name"] ["thing"] (defScope (top 26)) := ⟨rfl, rfl, rfl, by decide +kernel, rfl, by decide +kernel, by decide +kernel⟩
theorem nameS_small {s : Str} (h : nameS s = true) : s.length ≤ 12 := by
  simp only [nameS, Bool.and_eq_true, decide_eq_true_eq] at h
  exact h.1.2
theorem ok_check_literals (F : FnP K "check_literals" 26 f fd) (hm : mg "check_literals" = some (.ref f)) (LO : LitsOk L) (ml : mg "len" = none) (ma : mg "all" = none) (DZ : Def P w K mg base 1 "is_sized" (sp_is_sized K)) (DN : Def P w K mg base 1 "is_name" (sp_is_name K)) : Def P w K mg base 3 "check_literals" (sp_check_literals K L) := by
  refine Def.mk' F hm sc30 (fun vs H Q E h => ?_) (fun _ _ _ _ _ _ us hl => match us, hl with | [_], _ => rfl) (fun cdv A outer s H vs Q E hr tk h => ?_)
  · obtain ⟨v, rfl, _⟩ := h
    rfl
  · obtain ⟨v, rfl, hd, q⟩ := h
    have nd := sc30.nd
    have hln := LO.len
    obtain ⟨a, xs, rfl, hx, hxs⟩ := dp_tup hd
    cases dps_strs hxs
    keq_hits
    refine ⟨_, _, _, _, rfl, hd, fun H1 s1 => ?_⟩
    have eS : isSized 0 12 (.tuple (L.map .str)) = true := by
      simp only [isSized, List.length_map, Bool.and_eq_true, decide_eq_true_eq]
      omega
    keq_hits
    refine i_iff (by rw [eS]; rfl) ?_
    keq_hits
    refine we_callB (cr_all rfl) (by rfl) (by assumption) boot_all ?_
    refine wa_cons ?_
    refine we_lc rfl rfl tk rfl nd (pi_tup pe) (blkOk_by (N := ["thing", "name"]) (sc := defScope (top 26)) (own := [("name", 1)]) (by decide +kernel)) (fun _ _ _ _ _ => by k_memK) ?_
    show WP.WE _ _ _ _ _
    keq_hits
    have hx1 := s1.tup hx
    refine ⟨a, rfl, ⟨_, hx1⟩, fun D hD => lc_R (fun i _ v => v = .bl true) stay_val walk_tup (by rw [List.length_map]; show _ < 16777216; omega) hD (fun H s => s.tup hx1) ?_ teW_mono gName_mono fun H2 acc s2 hl ha hR => ?_⟩
    · rintro i x H3 H4 hi s3 ⟨rfl, hxi⟩
      refine ⟨rfl, fun s0 H0 C cl fp => ?_⟩
      rw [List.getElem?_map] at hxi
      cases e : L[i]? with
      | none => rw [e] at hxi; cases hxi
      | some z =>
        rw [e] at hxi
        cases hxi
        have hz := LO.nm z (List.mem_of_getElem? e)
        keq_hits
        exact ⟨_, .str z, rfl, .str z, by have := nameS_small hz; simp [smallD]; omega, fun H5 s5 => ⟨s5, by simp [isName, hz]⟩⟩
    · keq_hits
      have ea : acc = (List.replicate acc.length true).map V.bl := by
        apply List.ext_getElem?
        intro i
        by_cases hi : i < acc.length
        · rw [List.getElem?_eq_getElem hi, hR i _ (List.getElem?_eq_getElem hi)]
          simp [hi]
        · rw [List.getElem?_eq_none (by omega), List.getElem?_eq_none (by simp; omega)]
      refine ⟨D, List.replicate acc.length true, rfl, SqL.of (by rw [hl, ← ea]), ?_⟩
      refine i_bl ?_
      refine i_iff (by simp) ?_
      keq_hits
      refine we_dc rfl nd (pi_tup pe) (blkOk_by (N := ["thing", "name"]) (sc := defScope (top 26)) (own := [("name", 1)]) (by decide +kernel)) (fun _ _ _ _ _ => by k_memK) ?_
      show WP.WE _ _ _ _ _
      keq_hits
      have s12 := s1.trans s2
      have hx2 := s12.tup hx
      refine ⟨a, rfl, ⟨_, hx2⟩, fun D2 hD2 => dc_it walk_tup (fun i H => Same H2 H ∧ H D2 = some (.dK ((L.take i).map fun s => (.inr s, .bl true)))) ⟨Same.new hD2, upd_same⟩ (fun i H _ h => h.1.tup hx2) ?_ fun H3 h3 => ?_⟩
      · rintro i x H3 H4 hi ⟨s3, h3⟩ ⟨rfl, hxi⟩
        refine ⟨rfl, ?_⟩
        unfold tYes
        refine i_ift rfl ?_
        rw [List.getElem?_map] at hxi
        cases e : L[i]? with
        | none => rw [e] at hxi; cases hxi
        | some z =>
          rw [e] at hxi
          cases hxi
          intro s0 H0 C0 cl fp
          keq_hits
          intro s0 H0 C0 cl fp
          keq_hits
          refine ⟨_, .inr z, rfl, h3, by rw [List.length_map, List.length_take]; show _ < 16777216; omega, s3.mut hD2, ?_⟩
          have hz : z ∉ L.take i := fun hz => by
            have hn := LO.nd
            have hi' := (List.getElem?_eq_some_iff.mp e).1
            rw [← List.take_append_drop i L, List.drop_eq_getElem_cons hi'] at hn
            have e2 : L[i] = z := (List.getElem?_eq_some_iff.mp e).2
            rw [e2] at hn
            exact nodup_mid hn hz
          have en : valV ((L.take i).map fun s => ((.inr s : Key), V.bl true)) (.inr z) = none := by
            cases q : valV ((L.take i).map fun s => ((.inr s : Key), V.bl true)) (.inr z) with
            | none => rfl
            | some v =>
              have := valV_any (.inr z) ((L.take i).map fun s => ((.inr s : Key), V.bl true))
              rw [q] at this
              simp only [List.any_map, Option.isSome_some] at this
              obtain ⟨y, hy, e3⟩ := List.any_eq_true.mp this
              have e3 : y = z := by simpa using e3
              exact absurd (e3 ▸ hy) hz
          rw [putK_new _ en, upd_same]
          have hi' := (List.getElem?_eq_some_iff.mp e)
          rw [List.take_succ, e]
          simp
      · obtain ⟨s3, h3⟩ := h3
        keq_hits
        refine i_lenK h3 ?_
        keq_hits
        have hx3 := s3.tup hx2
        refine i_lenT hx3 ?_
        keq_hits
        refine i_iff (by simp) ?_
        keq_hits
        exact q _ (s12.trans s3)
def sp_is_pattern (K : PySem.W.Frag) (L : List Str) : Sp := fun vs H Q _ => ∃ lv v d, vs = [lv, v] ∧ Dp K H lv (.tuple (L.map .str)) ∧ Dp K H v d ∧ FormOk d ∧ ∀ H', Same H H' → Q (.bl (formB d && goodD L d)) H'
theorem sc31 : FnScope ["literals", "thing"] ["literals", "thing"] (defScope (top 27)) := ⟨rfl, rfl, rfl, by decide +kernel, rfl, by decide +kernel, by decide +kernel⟩
theorem ok_is_pattern (F : FnP K "is_pattern" 27 f fd) (hm : mg "is_pattern" = some (.ref f)) (DL : Def P w K mg base 3 "check_literals" (sp_check_literals K L)) (DF : Def P w K mg base 3 "is_form" (sp_is_form K)) (DG : Def P w K mg base 45 "is_good" (sp_is_good K L)) : Def P w K mg base 46 "is_pattern" (sp_is_pattern K L) := by
  refine Def.mk' F hm sc31 (fun vs H Q E h => ?_) (fun _ _ _ _ _ _ us hl => match us, hl with | [_, _], _ => rfl) (fun cdv A outer s H vs Q E hr tk h => ?_)
  · obtain ⟨lv, v, d, rfl, _⟩ := h
    rfl
  · obtain ⟨lv, v, d, rfl, hL, hd, ⟨hz, hsz, hdp⟩, q⟩ := h
    have nd := sc31.nd
    keq_hits
    refine ⟨_, rfl, hL, fun H1 s1 => ?_⟩
    keq_hits
    refine ⟨_, _, rfl, WP.dp_mono s1 hd, hz, hsz, by omega, fun H2 s2 => ?_⟩
    keq_hits
    have s12 := s1.trans s2
    refine i_ite (fun e => ?_) (fun e => ?_)
    · keq_hits
      refine ⟨_, _, _, rfl, WP.dp_mono s12 hL, WP.dp_mono s12 hd, e, ⟨hz, hsz, hdp⟩, fun H3 s3 => ?_⟩
      keq_hits
      exact fin_bl (q _ (s12.trans s3)) (by rw [e]; rfl)
    · exact fin_bl (q _ s12) (by rw [e]; rfl)
def sp_check_pattern (K : PySem.W.Frag) (CB : Addr) (L : List Str) : Sp := fun vs H Q E => ∃ lv v d, vs = [lv, v] ∧ Dp K H lv (.tuple (L.map .str)) ∧ Dp K H v d ∧ FormOk d ∧
  ((formB d && goodD L d) = true → ∀ H', Same H H' → Q .non H') ∧ ((formB d && goodD L d) = false → ∀ H', Same H H' → E (.ref CB) none H')
theorem sc33 : FnScope ["literals", "thing"] ["literals", "thing"] (defScope (top 29)) := ⟨rfl, rfl, rfl, by decide +kernel, rfl, by decide +kernel, by decide +kernel⟩
theorem ok_check_pattern (F : FnP K "check_pattern" 29 f fd) (hm : mg "check_pattern" = some (.ref f)) (Er : ErrC P w K mg base 1 "BadPattern" CB) (D : Def P w K mg base 46 "is_pattern" (sp_is_pattern K L)) : Def P w K mg base 47 "check_pattern" (sp_check_pattern K CB L) := by
  refine Def.mk' F hm sc33 (fun vs H Q E h => ?_) (fun _ _ _ _ _ _ us hl => match us, hl with | [_, _], _ => rfl) (fun cdv A outer s H vs Q E hr tk h => ?_)
  · obtain ⟨lv, v, d, rfl, _⟩ := h
    rfl
  · obtain ⟨lv, v, d, rfl, hL, hd, hf, q, qe⟩ := h
    have nd := sc33.nd
    keq_hits
    refine ⟨_, _, _, rfl, hL, hd, hf, fun H1 s1 => ?_⟩
    keq_hits
    refine i_ite (fun e => ?_) (fun e => ?_)
    · keq_hits
      refine ws_raise Er (Room.mono hr (by omega)) rfl tk rfl ?_
      exact qe (by revert e; cases (formB d && goodD L d) <;> simp) _ s1
    · keq_hits
      exact q (by revert e; cases (formB d && goodD L d) <;> simp) _ s1
end
end
end K9
/- l_ints: more rules by form (law texts); kst_all: readings of what stands there; kt_ors: all together -/
local macro_rules | `(tactic| l_ints) => `(tactic| first
  | (show WP.WE _ (Expr.Subscript _ (Expr.Constant (Const.int _) _ _) _) _ _ _; refine WP.we_ix ix_seq WP.plainIx_int ?_)
  | (show WP.WE _ (Expr.Subscript _ (Expr.Name _ _) _) _ _ _; refine WP.we_ix ix_seq WP.plainIx_name ?_)
  | (show WP.WE _ (Expr.Subscript _ (Expr.Subscript _ _ _) _) _ _ _; refine WP.we_ix ix_seq (fun _ _ => by with_unfolding_all rfl) ?_)
  | (show WP.WE _ (Expr.Subscript _ (Expr.Call _ _ _ _) _) _ _ _; refine WP.we_ix ix_seq (fun _ _ => by with_unfolding_all rfl) ?_)
  | (show WP.WE _ (Expr.BinOp _ .Mult _ _) _ _ _; refine WP.we_op op_mul ?_)
  | (show WP.WE _ (Expr.BinOp _ .Mod _ _) _ _ _; refine WP.we_op op_mod ?_)
  | (show WP.WE _ (Expr.BinOp _ .FloorDiv _ _) _ _ _; refine WP.we_op op_fdiv ?_)
  | (show WP.WE _ (Expr.BinOp _ .Pow _ _) _ _ _; refine WP.we_op op_pow ?_)
  | (show WP.WE _ (Expr.BinOp _ .Add _ _) _ _ _; refine WP.we_op op_add ?_)
  | (show WP.WE _ (Expr.Call (Expr.Name _ _) [_] [] _) _ _ _; refine WP.we_callTy call_int1 (by rfl) (WP.BTy.m (by assumption)) (WP.BTy.b (by assumption)) ?_)
  | (show WP.WS _ (Stmt.Assign [Expr.Subscript _ _ _] _ _) _ _ _; refine WP.ws_put ?_)
  | (show WP.WT _ (Expr.Compare _ [CmpOp.Eq] _ _) _ _ _; refine WP.wt_cmp op_eq (by rfl) ?_))
local macro_rules | `(tactic| kst_all) => `(tactic| first
  | (show rIx _ _ _ _ _; refine .inl ⟨_, _, _, _, rfl, rfl, SqL.of (by first | assumption | exact upd_same), by rfl, ?_⟩)
  | (show rSetL _ _ _ _ _; refine ⟨_, _, _, _, rfl, rfl, by first | assumption | exact upd_same, by rfl, ?_⟩)
  | (show rI _ _ _ _ _ _; refine WP.i_I (by first | decide | exact .inr (by decide) | exact .inl (by decide) | exact ⟨by decide, by decide⟩ | exact ⟨by decide, by decide, by decide⟩ | assumption | exact Or.inl ⟨by omega, by omega⟩ | exact ⟨by omega, by omega⟩ | omega) ?_)
  | (show WP.rLn _ _ _ _; refine WP.i_lenL (SqL.of (by assumption)) ?_)
  | (show (∃ i, _ = [V.int i] ∧ _) ∨ _; first | refine .inl ⟨_, rfl, ?_⟩ | refine .inr ⟨_, rfl, ?_⟩)
  | (show rEq _ _ _ _; first | refine ⟨by rfl, WP.i_bl ?_⟩ | refine ⟨by rfl, ?_⟩))
local macro_rules | `(tactic| kt_ors) => `(tactic| repeat' first | keq_rows | l_ints | kst_all)
namespace K9
section
/-! ### data that == takes -/
theorem signs_ok : ∀ c ∈ signs.cps.toList, c < 1114112 ∧ c < 55296 := by decide +kernel
theorem nameS_mem {s : Str} (h : nameS s = true) : ∀ c ∈ s.cps.toList, c ∈ signs.cps.toList := by
  simp only [nameS, Bool.and_eq_true, decide_eq_true_eq, List.all_eq_true] at h
  exact h.2
theorem strOk_word {s : Str} (h : wordS s = true) : PyData.strOk s = true := by
  simp only [wordS, Bool.or_eq_true, decide_eq_true_eq] at h
  rcases h with (h | h) | h
  · have g := nameS_mem h
    unfold PyData.strOk
    rw [← Array.all_toList, List.all_eq_true]
    intro c hc
    have := (signs_ok c (g c hc)).1
    simp only [decide_eq_true_eq]
    omega
  · rw [h]
    decide +kernel
  · rw [h]
    decide +kernel
mutual
theorem canLay_form : ∀ d, formB d = true → d.canLay0 = true
  | .none, h => rfl
  | .bool b, h => rfl
  | .int i, h => rfl
  | .str s, h => strOk_word (show wordS s = true from h)
  | .list ds, h => by simp [formB] at h
  | .dict ds, h => by simp [formB] at h
  | .tuple ds, h => canLay_forms ds (show formBs ds = true from h)
theorem canLay_forms : ∀ ds, formBs ds = true → PyData.canLayAll0 ds = true
  | [], _ => rfl
  | d :: ds, h => by
    simp only [formBs, Bool.and_eq_true] at h
    simp only [PyData.canLayAll0, Bool.and_eq_true]
    exact ⟨canLay_form d h.1, canLay_forms ds h.2⟩
end
mutual
theorem depth_form : ∀ d, formB d = true → d.depth ≤ ddep d
  | .none, h => by simp [formB] at h
  | .bool b, h => by simp [formB] at h
  | .int i, h => by simp [PyData.depth, ddep]
  | .str s, h => by simp [PyData.depth, ddep]
  | .list ds, h => by simp [formB] at h
  | .dict ds, h => by simp [formB] at h
  | .tuple ds, h => by
    have := depth_forms ds (show formBs ds = true from h)
    simp only [PyData.depth, ddep]
    omega
theorem depth_forms : ∀ ds, formBs ds = true → PyData.depthAll ds ≤ ddeps ds
  | [], _ => Nat.le_refl _
  | d :: ds, h => by
    simp only [formBs, Bool.and_eq_true] at h
    have h1 := depth_form d h.1
    have h2 := depth_forms ds h.2
    simp only [PyData.depthAll, ddeps]
    omega
end
theorem shaped_form {d : PyData} (h : formB d = true) (hd : ddep d ≤ 60) : SeqAt.shaped d = true := by
  unfold SeqAt.shaped
  have := depth_form d h
  simp only [Bool.and_eq_true, decide_eq_true_eq]
  exact ⟨canLay_form d h, by omega⟩
theorem eqv_rep {d : PyData} : PyData.eqv d (.str "...") = isRep d := by
  cases d with
  | str s => rw [PyData.eqv, isRep, Bool.eq_iff_iff]; simp
  | _ => simp [PyData.eqv, isRep]
theorem shaped_rep : SeqAt.shaped (.str "...") = true := by decide +kernel
end
section
/-! ### data that == takes, slices -/
theorem canAll_iff : ∀ {ds : List PyData}, PyData.canLayAll0 ds = true ↔ ∀ d ∈ ds, d.canLay0 = true
  | [] => by simp [PyData.canLayAll0]
  | d :: ds => by simp [PyData.canLayAll0, canAll_iff (ds := ds)]
theorem depAll_iff {m : Nat} : ∀ {ds : List PyData}, PyData.depthAll ds ≤ m ↔ ∀ d ∈ ds, d.depth ≤ m
  | [] => by simp [PyData.depthAll]
  | d :: ds => by simp [PyData.depthAll, Nat.max_le, depAll_iff (ds := ds)]
theorem shaped_tup {ds : List PyData} : SeqAt.shaped (.tuple ds) = true ↔ (∀ d ∈ ds, d.canLay0 = true) ∧ ∀ d ∈ ds, d.depth ≤ 63 := by
  have e1 : (PyData.tuple ds).depth = PyData.depthAll ds + 1 := rfl
  have e2 : (PyData.tuple ds).canLay0 = PyData.canLayAll0 ds := rfl
  unfold SeqAt.shaped
  rw [Bool.and_eq_true, decide_eq_true_eq, e1, e2, canAll_iff, ← depAll_iff]
  exact ⟨fun h => ⟨h.1, by omega⟩, fun h => ⟨h.1, by omega⟩⟩
theorem shaped_sub {ds es : List PyData} (h : SeqAt.shaped (.tuple ds) = true) (hs : ∀ d ∈ es, d ∈ ds) : SeqAt.shaped (.tuple es) = true :=
  shaped_tup.mpr ⟨fun d hd => (shaped_tup.mp h).1 d (hs d hd), fun d hd => (shaped_tup.mp h).2 d (hs d hd)⟩
theorem shaped_mem {ds : List PyData} {d : PyData} (h : SeqAt.shaped (.tuple ds) = true) (hd : d ∈ ds) : SeqAt.shaped d = true := by
  have h1 := (shaped_tup.mp h).1 d hd
  have h2 := (shaped_tup.mp h).2 d hd
  unfold SeqAt.shaped
  rw [Bool.and_eq_true, decide_eq_true_eq]
  exact ⟨h1, by omega⟩
theorem shaped_slice {ds : List PyData} (h : SeqAt.shaped (.tuple ds) = true) (i k : Nat) : SeqAt.shaped (.tuple ((ds.drop i).take k)) = true := shaped_sub h fun d hd => List.mem_of_mem_drop (List.mem_of_mem_take hd)
def repHd : List PyData → Bool
  | d :: _ => isRep d
  | [] => false
theorem slice_rep (es : List PyData) : PyData.eqv (.tuple (es.take 1)) (.tuple [.str "..."]) = repHd es := by
  cases es with
  | nil => simp [PyData.eqv, PyData.eqvAll, repHd]
  | cons d es =>
    have : PyData.eqv (.tuple [d]) (.tuple [.str "..."]) = PyData.eqv d (.str "...") := by simp [PyData.eqv, PyData.eqvAll]
    rw [List.take_succ_cons, List.take_zero, this, eqv_rep]
    rfl
theorem cutV_one (xs : List V) (i : Nat) : cutV xs (some ((i : Int) + 1)) (some ((i : Int) + 2)) = (xs.drop (i + 1)).take 1 := by
  have e1 : HT.sIx xs.length 0 (some ((i : Int) + 1)) = min (i + 1) xs.length := HT.sIx_nat _ _ (i + 1)
  have e2 : HT.sIx xs.length xs.length (some ((i : Int) + 2)) = min (i + 2) xs.length := HT.sIx_nat _ _ (i + 2)
  unfold cutV
  rw [e1, e2]
  by_cases h : i + 1 ≤ xs.length
  · rw [Nat.min_eq_left h]
    by_cases h2 : i + 2 ≤ xs.length
    · rw [Nat.min_eq_left h2, show i + 2 - (i + 1) = 1 by omega]
    · have : xs.length = i + 1 := by omega
      rw [List.drop_of_length_le (by omega)]
      simp
  · rw [List.drop_of_length_le (by omega), List.drop_of_length_le (by omega)]
    simp
theorem dots_data {K : PySem.W.Frag} {H : Hp} {p : Addr} (h : SqT K H p [.str "..."]) : Dp K H (.ref p) (.tuple [.str "..."]) := .tup h (.cons (.str _) .nil)
theorem shaped_dots : SeqAt.shaped (.tuple [.str "..."]) = true := by decide +kernel
theorem word_short {s : Str} (h : wordS s = true) : s.length ≤ 12 := by
  simp only [wordS, nameS, Bool.or_eq_true, Bool.and_eq_true, decide_eq_true_eq] at h
  rcases h with (h | h) | h
  · exact h.1.2
  · rw [h]
    decide +kernel
  · rw [h]
    decide +kernel
mutual
theorem small_form : ∀ d, formB d = true → smallD d = true
  | .none, _ => rfl
  | .bool _, _ => rfl
  | .int _, _ => rfl
  | .str s, h => by
    have := word_short (show wordS s = true from h)
    simp only [smallD, decide_eq_true_eq]
    omega
  | .list _, h => by simp [formB] at h
  | .dict _, _ => rfl
  | .tuple ds, h => small_forms ds h
theorem small_forms : ∀ ds, formBs ds = true → smallDs ds = true
  | [], _ => rfl
  | d :: ds, h => by
    simp only [formBs, Bool.and_eq_true] at h
    simp [smallDs, small_form d h.1, small_forms ds h.2]
end
end
section
/-! ### the law's hand: cells, and four numbers -/
/-- what stands in the hand's list at h -/
structure HandL (H : Hp) (h c : Addr) (vs : List V) : Prop where
  ex : ∃ (ns : List Int) (i1 i2 i3 i4 : Int), vs = [.ref c, .int i1, .int i2, .int i3, .int i4] ∧ H c = some (.lst (ns.map V.int)) ∧ c ≠ h ∧ 0 ≤ i1
def HandP (H : Hp) (h c : Addr) : Prop := ∃ vs, H h = some (.lst vs) ∧ HandL H h c vs
theorem HandL.put {H : Hp} {h c p : Addr} {o : HO} {vs : List V} (hl : HandL H h c vs) (hp : p ≠ c) : HandL (upd H p o) h c vs := by
  obtain ⟨ns, i1, i2, i3, i4, e, hc, n, p1⟩ := hl
  exact ⟨ns, i1, i2, i3, i4, e, by rw [upd_ne (Ne.symm hp)]; exact hc, n, p1⟩
theorem HandL.ne {H : Hp} {h c : Addr} {vs : List V} (hl : HandL H h c vs) : h ≠ c := by
  obtain ⟨ns, i1, i2, i3, i4, e, hc, n, p1⟩ := hl
  exact n.symm
theorem HandP.put {H : Hp} {h c : Addr} {vs : List V} (hl : HandL H h c vs) : HandP (upd H h (.lst vs)) h c := ⟨vs, upd_same, hl.put hl.ne⟩
theorem HandP.same {H H' : Hp} {h c : Addr} (hp : HandP H h c) (s : Same H H') : HandP H' h c := by
  obtain ⟨vs, e, ns, i1, i2, i3, i4, ev, hc, n, p1⟩ := hp
  exact ⟨vs, s _ _ e, ns, i1, i2, i3, i4, ev, s _ _ hc, n, p1⟩
theorem HandP.off {H : Hp} {h c p : Addr} {o : HO} (hp : HandP H h c) (n1 : p ≠ h) (n2 : p ≠ c) : HandP (upd H p o) h c := by
  obtain ⟨vs, e, hl⟩ := hp
  exact ⟨vs, by rw [upd_ne (Ne.symm n1)]; exact e, hl.put n2⟩
theorem HandP.fresh {H : Hp} {h c p : Addr} {o : HO} (hp : HandP H h c) (hn : H p = none) : HandP (upd H p o) h c := by
  obtain ⟨vs, e, hl⟩ := id hp
  obtain ⟨_, _, _, _, _, _, hc, _⟩ := hl
  exact hp.off (ne_of_none e hn).symm (ne_of_none hc hn).symm
theorem upd_id {H : Hp} {a : Addr} {o : HO} (h : H a = some o) : upd H a o = H := by
  funext b
  by_cases e : b = a
  · rw [e, upd_same, h]
  · rw [upd_ne e]
section
variable {P : Program} {w : World} {K : PySem.W.Frag} {mg : Str → Option Value} {base : Heap} {f : Addr} {fd : FuncData}
def sp_draw : Sp := fun vs H Q _ => ∃ h c many, vs = [.ref h, .int many] ∧ HandP H h c ∧ 0 < many ∧ many < 1000000 ∧ ∀ n ws, 0 ≤ n → n < many → HandL H h c ws → Q (.int n) (upd H h (.lst ws))
theorem sc53 : FnScope ["hand", "many", "cell", "digit", "number"] ["hand", "many"] (defScope (top 49)) := ⟨rfl, rfl, rfl, by decide +kernel, rfl, by decide +kernel, by decide +kernel⟩
theorem atI0' {α : Type} {a b c d e : α} : atI [a, b, c, d, e] 0 = some a := rfl
theorem ok_draw (F : FnP K "_law_draw" 49 f fd) (hm : mg "_law_draw" = some (.ref f)) (ml : mg "len" = none) (mint : BTy mg "int" "int") : Def P w K mg base 1 "_law_draw" sp_draw := by
  refine Def.mk' F hm sc53 (fun vs H Q E h => ?_) (fun _ _ _ _ _ _ us hl => match us, hl with | [_, _], _ => rfl) (fun cdv A outer s H vs Q E hr tk h => ?_)
  · obtain ⟨hh, c, many, rfl, _⟩ := h
    rfl
  · obtain ⟨hh, c, many, rfl, hp, m0, m1, q⟩ := h
    have nd := sc53.nd
    obtain ⟨vs, hv, ns, i1, i2, i3, i4, rfl, hc, nc, p1⟩ := hp
    refine wb_cut (fun σ' H' => ∃ r ws, σ' = [some (.ref hh), some (.int many)] ++ r ∧ r.length = 3 ∧ H' = upd H hh (.lst ws) ∧ HandL H hh c ws) ?_ ?_
    · refine ws_if ?_
      kt_ors
      have stay : upd H hh (.lst [.ref c, .int i1, .int i2, .int i3, .int i4]) = H := upd_id hv
      have L0 : HandL H hh c [.ref c, .int i1, .int i2, .int i3, .int i4] := ⟨ns, i1, i2, i3, i4, rfl, hc, nc, p1⟩
      refine i_ite (fun e1 => ?_) (fun _ => wb_nil ⟨[none, none, none], _, rfl, rfl, stay.symm, L0⟩)
      kt_ors
      refine i_ite (fun e2 => ?_) (fun _ => wb_nil ⟨[none, none, none], _, rfl, rfl, stay.symm, L0⟩)
      have e3 : i1 < ((ns.map V.int).length : Int) := of_decide_eq_true e2
      rw [List.length_map] at e3
      obtain ⟨j, rfl⟩ : ∃ j : Nat, i1 = j := ⟨i1.toNat, by omega⟩
      have hj : j < ns.length := by omega
      have at_ : atI (ns.map V.int) (j : Int) = some (.int ns[j]) := by
        rw [atI_nat (by simpa using hj)]
        simp [hj]
      kt_ors
      refine .inl ⟨_, _, _, _, rfl, rfl, SqL.of hc, at_, ?_⟩
      kt_ors
      refine i_ite (fun e4 => ?_) (fun _ => ?_)
      · kt_ors
        exact ⟨_, _, rfl, rfl, by rw [upd_upd, upd_upd] <;> rfl, ⟨ns, (j : Int) + 1, _, _, _, rfl, hc, nc, by omega⟩⟩
      · kt_ors
        exact ⟨_, _, rfl, rfl, by rw [upd_upd] <;> rfl, ⟨ns, (j : Int) + 1, _, _, _, rfl, hc, nc, by omega⟩⟩
    · rintro σ' H' ⟨r, ws, rfl, hr3, rfl, L⟩
      match r, hr3 with
      | [r2, r3, r4], _ =>
      obtain ⟨ns, i1, i2, i3, i4, rfl, hc, nc, p1⟩ := L
      kt_ors
      refine i_ite (fun e1 => ?_) (fun _ => ?_)
      · kt_ors
        have fin := q (i2 % many) [.ref c, .int i1, .int (i2 / many), .int i3, .int i4] (Int.emod_nonneg _ (by omega)) (Int.emod_lt_of_pos _ m0) ⟨ns, i1, _, _, _, rfl, hc, nc, p1⟩
        rw [upd_upd]
        exact fin
      · kt_ors
        rw [upd_upd]
        exact q _ [.ref c, .int i1, .int i2, .int i3, .int (i4 + 1)] (Int.emod_nonneg _ (by omega)) (Int.emod_lt_of_pos _ m0) ⟨ns, i1, _, _, _, rfl, hc, nc, p1⟩
/-- one of some things, drawn -/
def sp_any (K : PySem.W.Frag) : Sp := fun vs H Q _ => ∃ (h c l : Addr) (xs : List V), vs = [.ref h, .ref l] ∧ HandP H h c ∧ l ≠ h ∧ H l = some (.lst xs) ∧ 0 < xs.length ∧ xs.length < 1000000 ∧ ∀ (n : Nat) (ws : List V) (v : V), xs[n]? = some v → HandL H h c ws → Q v (upd H h (.lst ws))
theorem sc54 : FnScope ["hand", "some"] ["hand", "some"] (defScope (top 50)) := ⟨rfl, rfl, rfl, by decide +kernel, rfl, by decide +kernel, by decide +kernel⟩
theorem ok_any (F : FnP K "_law_any" 50 f fd) (hm : mg "_law_any" = some (.ref f)) (ml : mg "len" = none) (DD : Def P w K mg base 1 "_law_draw" sp_draw) : Def P w K mg base 2 "_law_any" (sp_any K) := by
  refine Def.mk' F hm sc54 (fun vs H Q E h => ?_) (fun _ _ _ _ _ _ us hl => match us, hl with | [_, _], _ => rfl) (fun cdv A outer s H vs Q E hr tk h => ?_)
  · obtain ⟨hh, c, l, xs, rfl, _⟩ := h
    rfl
  · obtain ⟨hh, c, l, xs, rfl, hp, nl, hs, h0, h1, q⟩ := h
    have nd := sc54.nd
    kt_ors
    refine ⟨hh, c, _, rfl, hp, by omega, by omega, fun n ws n0 n1 L => ?_⟩
    obtain ⟨j, rfl⟩ : ∃ j : Nat, n = j := ⟨n.toNat, by omega⟩
    have hj : j < xs.length := by omega
    refine .inl ⟨_, _, _, _, rfl, rfl, SqL.of (by rw [upd_ne nl]; exact hs), by rw [atI_nat hj, List.getElem?_eq_getElem hj], ?_⟩
    exact q j ws _ (List.getElem?_eq_getElem hj) L
def cutL (ns : List Int) : List Int := (ns.drop (HT.sIx ns.length 0 none)).take (HT.sIx ns.length ns.length (some 63) - HT.sIx ns.length 0 none)
theorem cutL_len (ns : List Int) : (cutL ns).length ≤ 63 := by
  have e : HT.sIx ns.length ns.length (some 63) = min 63 ns.length := HT.sIx_nat _ _ 63
  unfold cutL
  rw [e]
  simp only [HT.sIx_none, List.drop_zero, List.length_take]
  omega
theorem none_of_same {H H' : Hp} {a : Addr} (s : Same H H') (h : H' a = none) : H a = none := by
  cases e : H a with
  | none => rfl
  | some o =>
    rw [s _ _ e] at h
    cases h
/-- the hand of a script -/
def sp_hand (K : PySem.W.Frag) : Sp := fun vs H Q _ => ∃ (a : Addr) (ns : List Int), vs = [.ref a] ∧ SqL K H a (ns.map V.int) ∧ ∀ h c H', Same H H' → HandP H' h c → H h = none → Q (.ref h) H'
theorem sc52 : FnScope ["script", "cells", "cell"] ["script"] (defScope (top 48)) := ⟨rfl, rfl, rfl, by decide +kernel, rfl, by decide +kernel, by decide +kernel⟩
theorem ok_hand (F : FnP K "_law_hand" 48 f fd) (hm : mg "_law_hand" = some (.ref f)) (ml : mg "len" = none) (ma : mg "abs" = none) (mint : BTy mg "int" "int") : Def P w K mg base 1 "_law_hand" (sp_hand K) := by
  refine Def.mk' F hm sc52 (fun vs H Q E h => ?_) (fun _ _ _ _ _ _ us hl => match us, hl with | [_], _ => rfl) (fun cdv A outer s H vs Q E hr tk h => ?_)
  · obtain ⟨a, ns, rfl, _⟩ := h
    rfl
  · obtain ⟨a, ns, rfl, hs, q⟩ := h
    have nd := sc52.nd
    kt_ors
    refine ws_lc 1 [("cell", 2)] rfl nd rfl rfl rfl rfl rfl (pi_list pe) (blkOk_by (N := ["script", "cells", "cell"]) (sc := defScope (top 48)) (own := [("cell", 2)]) (by decide +kernel)) (fun _ _ _ _ _ => by k_memK) ?_
    refine we_slH sl_list ?_
    kt_ors
    refine ⟨_, rfl, a, _, rfl, hs, fun p hp => ?_⟩
    have ec : cutV (ns.map V.int) none (some 63) = (cutL ns).map V.int := by unfold cutL cutV; simp [List.map_drop, List.map_take]
    rw [ec]
    have hl : upd H p (.lst ((cutL ns).map V.int)) p = some (.lst ((cutL ns).map V.int)) := upd_same
    have s1 : Same H (upd H p (.lst ((cutL ns).map V.int))) := Same.new hp
    generalize upd H p (.lst ((cutL ns).map V.int)) = H1 at hl s1 ⊢
    refine ⟨p, rfl, ⟨_, SqL.of hl⟩, fun D hD => lc_R (fun _ _ v => ∃ z, v = V.int z) (stay_ex fun z => stay_val (f := fun _ => V.int z)) walk_list ?_ hD (fun H s => SqL.of (s _ _ hl)) ?_ teC_mono (fun x σ H Q Q' h q => h _ _ q) fun H4 acc s4 hl4 hz hR => ?_⟩
    · rw [List.length_map]
      have := cutL_len ns
      show _ < 16777216
      omega
    · rintro i x H5 H6 hi s5 ⟨rfl, ex⟩
      obtain ⟨z, rfl⟩ : ∃ z, x = .int z := by
        rw [List.getElem?_map] at ex
        cases e : (cutL ns)[i]? with
        | none => rw [e] at ex; cases ex
        | some z => rw [e] at ex; exact ⟨z, (Option.some.inj ex).symm⟩
      refine ⟨rfl, fun s0 H0 C0 cl0 fp => ?_⟩
      kt_ors
      refine we_callB call_abs (by rfl) (by assumption) boot_abs ?_
      kt_ors
      refine ⟨_, rfl, ?_⟩
      kt_ors
      exact ⟨Same.refl _, _, rfl⟩
    · obtain ⟨ms, rfl⟩ : ∃ ms : List Int, acc = ms.map V.int := by
        refine ⟨acc.map fun v => match v with | .int z => z | _ => 0, ?_⟩
        rw [List.map_map]
        refine List.ext_getElem? fun i => ?_
        rw [List.getElem?_map]
        cases e : acc[i]? with
        | none => rfl
        | some v =>
          obtain ⟨z, rfl⟩ := hR i v e
          rfl
      kt_ors
      refine ⟨by simp [sizeLine], fun h hh => ?_⟩
      refine q h D _ (s1.trans (s4.trans (Same.new hh))) ⟨_, upd_same, ms, 0, 0, _, 0, rfl, ?_, ?_, by omega⟩ ?_
      · rw [upd_ne (ne_of_none hl4 hh)]
        exact hl4
      · exact ne_of_none hl4 hh
      · exact none_of_same (s1.trans s4) hh
end
end
section
section
variable {P : Program} {w : World} {K : PySem.W.Frag} {mg : Str → Option Value} {base : Heap} {f : Addr} {fd : FuncData} {C CB : Addr} {L : List Str}
/-! ### how deep told says of a name; words that stand so deep -/
def lvl (l : List (Str × Nat)) (s : Str) : Nat := (l.lookup s).getD 0
mutual
def anyK (l : List (Str × Nat)) (n : Nat) : PyData → Bool
  | .str s => decide (n ≤ lvl l s)
  | .tuple ds => anyKs l n ds
  | _ => false
def anyKs (l : List (Str × Nat)) (n : Nat) : List PyData → Bool
  | [] => false
  | d :: ds => anyK l n d || anyKs l n ds
end
theorem anyKs_app (l : List (Str × Nat)) (n : Nat) : ∀ a b, anyKs l n (a ++ b) = (anyKs l n a || anyKs l n b)
  | [], b => by simp [anyKs]
  | d :: a, b => by simp [anyKs, anyKs_app l n a b, Bool.or_assoc]
theorem new_of {H H' : Hp} {a : Addr} (s : Same H H') (h : H' a = none) : H a = none := by
  cases z : H a with
  | none => rfl
  | some o =>
    rw [s _ _ z] at h
    cases h
theorem valK {l : List (Str × Nat)} {s : Str} : valV (kvN l) (.inr s) = (l.lookup s).map fun n => V.int (n : Int) := by
  induction l with
  | nil => rfl
  | cons p l ih =>
    obtain ⟨x, n⟩ := p
    unfold valV at ih ⊢
    simp only [kvN, List.map_cons, List.find?_cons, List.lookup_cons] at ih ⊢
    by_cases h : s = x
    · subst h
      simp
    · have h1 : ¬ (Sum.inr x : Key) = Sum.inr s := fun z => h (Sum.inr.inj z).symm
      have h2 : (s == x) = false := by simpa using h
      simp only [h1, decide_false, h2]
      exact ih
theorem dpAll_last {H : Hp} : ∀ {xs : List V} {ds : List PyData}, DpAll K H xs ds → xs ≠ [] → ∃ xs' x ds' d, xs = xs' ++ [x] ∧ ds = ds' ++ [d] ∧ DpAll K H xs' ds' ∧ Dp K H x d
  | [], _, _, h => absurd rfl h
  | [x], [d], .cons h .nil, _ => ⟨[], x, [], d, rfl, rfl, .nil, h⟩
  | x :: y :: xs, d :: ds, .cons h g, _ => by
    obtain ⟨xs', z, ds', e, e1, e2, e3, e4⟩ := dpAll_last g (by simp)
    exact ⟨x :: xs', z, d :: ds', e, by rw [e1]; rfl, by rw [e2]; rfl, .cons h e3, e4⟩
theorem dsizes_app : ∀ a b : List PyData, dsizes (a ++ b) = dsizes a + dsizes b
  | [], b => by simp [dsizes]
  | d :: a, b => by simp [dsizes, dsizes_app a b]; omega
theorem smallDs_app : ∀ a b : List PyData, smallDs (a ++ b) = (smallDs a && smallDs b)
  | [], b => by simp [smallDs]
  | d :: a, b => by simp [smallDs, smallDs_app a b, Bool.and_assoc]
theorem putK_le (kvs : List (Key × V)) (k : Key) (v : V) : (putK kvs k v).length ≤ kvs.length + 1 := by
  unfold putK
  split <;> simp
theorem putK_ne (kvs : List (Key × V)) (k : Key) (v : V) : putK kvs k v ≠ [] := by
  unfold putK
  split
  · rename_i h
    intro z
    rw [List.map_eq_nil_iff.mp z] at h
    simp at h
  · simp
def sp_rep (K : PySem.W.Frag) (C : Addr) : Sp := fun vs H Q _ => ∃ kk dx v tp d l lev, vs = [.ref kk, v, .ref tp, .int ((lev : Nat) : Int)] ∧ H kk = some (.ins C dx []) ∧ Dp K H v d ∧ smallD d = true ∧ dsize d ≤ 3000 ∧ H tp = some (.dK (kvN l)) ∧ anyK l lev d = true ∧ 
  ∀ a xs H', Same H H' → H' a = some (.lst xs) → xs ≠ [] → Q (.ref a) H'
theorem sq33 : FnScope ["kind", "node", "told", "level", "found", "waiting", "here"] ["kind", "node", "told", "level"] (defScope (top 33)) := ⟨rfl, rfl, rfl, by decide +kernel, rfl, by decide +kernel, by decide +kernel⟩
theorem we_get2 {X : Cx} {o e g : Expr} {apos cpos : Pos} {k : Nat} {σ : L2.St} {H : Hp} {Q : VK} (hr : Room k X.A) (m : M2 X o "get" apos e g cpos)
    (q : WE X o σ H fun x H1 => ∃ a, x = .ref a ∧ IsD H1 a ∧ WE X e σ H1 fun y H2 => WE X g σ H2 fun z H3 => ∃ o, DGet H3 a y o ∧ Q (o.getD z) H3) : WE X (.Call (.Attribute o "get" apos) [e, g] [] cpos) σ H Q := .of (pe_dget2 (by have := hr.units; omega) pe pe pe m) q
theorem ok_rep (F : FnP K "repeated_keys" 33 f fd) (hm : mg "repeated_keys" = some (.ref f)) (O : PlainOk P w K mg base C) (ml : mg "len" = none) (mli : BTy mg "list" "list") : Def P w K mg base 3 "repeated_keys" (sp_rep K C) := by
  refine Def.mk' F hm sq33 (fun vs H Q E h => ?_) (fun _ _ _ _ _ _ us hl => match us, hl with | [_, _, _, _], _ => rfl) (fun cdv A outer s H vs Q E hr tk h => ?_)
  · obtain ⟨kk, dx, v, tp, d, l, lev, rfl, _⟩ := h
    rfl
  · obtain ⟨kk, dx, v, tp, d, l, lev, rfl, hk, hd, hsm, hz, ht, ha, q⟩ := h
    obtain ⟨cl, mz, gP, lp, it, wi, ke⟩ := O
    have nd := sq33.nd
    refine wb_cons (ws_par 4 5 rfl nd rfl rfl (by decide) rfl rfl (by rfl) ?_)
    refine we_dnew fun p hp => ?_
    keq_hits
    refine ⟨by show 1 ≤ sizeLine; decide, fun wl hwl => ?_⟩
    have s0 : Same H (upd (upd H p (.dK [])) wl (.lst [v])) := (Same.new hp).trans (Same.new hwl)
    have hpA : upd (upd H p (.dK [])) wl (.lst [v]) p = some (.dK []) := Same.new hwl _ _ upd_same
    have hlA : upd (upd H p (.dK [])) wl (.lst [v]) wl = some (.lst [v]) := upd_same
    have hl0 : H wl = none := new_of (Same.new (o := .dK []) hp) hwl
    have lp' : wl ≠ p := fun z => by rw [z, upd_same (o := .dK [])] at hwl; cases hwl
    generalize upd (upd H p (.dK [])) wl (.lst [v]) = HA at s0 hpA hlA ⊢
    keq_hits
    refine ws_whileW passes_bx (fun m σ H' => ∃ (xs : List V) (ds : List PyData) (kvs : List (Key × V)) (r : Option V), σ = [some (.ref kk), some v, some (.ref tp), some (.int (lev : Int)), some (.ref p), some (.ref wl), r] ∧ Same H H' ∧ H' wl = some (.lst xs) ∧ H' p = some (.dK kvs) ∧
      DpAll K H xs ds ∧ smallDs ds = true ∧ m = dsizes ds ∧ dsizes ds + kvs.length ≤ 3000 ∧ (kvs ≠ [] ∨ anyKs l lev ds = true)) ?_ ?_
    · exact ⟨_, [v], [d], [], none, rfl, s0, hlA, hpA, .cons hd .nil, by simp [smallDs, hsm], rfl, by simp [dsizes]; omega, .inr (by simp [anyKs, ha])⟩
    · rintro m σ H1 ⟨xs, ds, kvs, r, rfl, s1, hl1, hp1, hds, hs1, rfl, hz1, hany⟩
      keq_hits
      refine i_lenLt hl1 ?_
      keq_hits
      refine i_ite (fun e => ?_) (fun e => ?_)
      · obtain ⟨xs', x, ds', dd, rfl, rfl, hds', hdx⟩ := dpAll_last hds (fun z => by rw [z] at e; simp at e)
        keq_hits
        refine i_lstT hl1 (i_pop hl1 ?_)
        have s2 : Same H (upd H1 wl (.lst xs')) := s1.mut hl0
        have hl2 : upd H1 wl (.lst xs') wl = some (.lst xs') := upd_same
        have hp2 : upd H1 wl (.lst xs') p = some (.dK kvs) := by rw [upd_ne lp'.symm]; exact hp1
        generalize upd H1 wl (.lst xs') = H2 at s2 hl2 hp2 ⊢
        have hz2 : dsizes (ds' ++ [dd]) = dsizes ds' + dsize dd := by rw [dsizes_app]; simp [dsizes]
        have ha2 : anyKs l lev (ds' ++ [dd]) = (anyKs l lev ds' || anyK l lev dd) := by rw [anyKs_app]; simp [anyKs]
        have hs2 : smallDs ds' = true ∧ smallD dd = true := by
          rw [smallDs_app] at hs1
          simp only [smallDs, Bool.and_true] at hs1
          exact Bool.and_eq_true_iff.mp hs1
        rw [hz2] at hz1 
        rw [ha2] at hany
        have pz := dsize_pos dd
        have hk2 := s2 _ _ hk
        have ht2 := s2 _ _ ht
        have dd2 := WP.dp_mono s2 hdx
        keq_hits
        refine ⟨_, _, dd, rfl, dd2, ?_⟩
        keq_hits
        by_cases hstr : ∃ s, dd = .str s
        · obtain ⟨s, rfl⟩ := hstr
          cases dd2
          refine i_ift rfl ?_
          keq_hits
          refine we_get2 hr ⟨rfl, rfl, rfl, rfl⟩ ?_
          keq_hits
          refine ⟨tp, rfl, .inl ⟨_, .inl ht2⟩, ?_⟩
          keq_hits
          refine ⟨_, _, rfl, ?_⟩
          keq_hits
          refine ⟨_, DGet.k (k := .inr s) ht2, ?_⟩
          rw [valK]
          have ev : ((l.lookup s).map fun n => V.int (n : Int)).getD (.int 0) = .int ((lvl l s : Nat) : Int) := by
            unfold lvl
            cases l.lookup s <;> rfl
          rw [ev]
          keq_hits
          refine i_ite (fun e1 => ?_) (fun e1 => ?_)
          · keq_hits
            refine ws_dput hr ?_
            keq_hits
            refine ⟨_, _, rfl, ?_⟩
            refine i_dput (key := .inr s) hp2 (by show _ < 16777216; omega) ?_
            keq_hits
            have hz4 : (putK kvs (.inr s) (.bl true)).length ≤ kvs.length + 1 := putK_le _ _ _
            refine ⟨dsizes ds', by omega, xs', ds', _, _, rfl, s2.mut hp, by rw [upd_ne lp']; exact hl2, upd_same, hds', hs2.1, rfl, by omega, .inl (putK_ne _ _ _)⟩
          · keq_hits
            refine ⟨dsizes ds', by omega, xs', ds', kvs, _, rfl, s2, hl2, hp2, hds', hs2.1, rfl, by omega, ?_⟩
            have e3 : anyK l lev (.str s) = false := by
              have := of_decide_eq_false e1
              simp only [anyK, decide_eq_false_iff_not]
              omega
            rw [e3, Bool.or_false] at hany
            exact hany
        · have e1 : strOr dd x = .non := by
            cases dd <;> first | rfl | exact absurd ⟨_, rfl⟩ hstr
          refine i_iff (by rw [e1]; rfl) ?_
          keq_hits
          refine ⟨_, _, dd, rfl, dd2, ?_⟩
          keq_hits
          by_cases htup : ∃ es, dd = .tuple es
          · obtain ⟨es, rfl⟩ := htup
            obtain ⟨b, ys, rfl, hb0, hys⟩ := dp_tup hdx
            have hb := s2.tup hb0
            refine i_ift rfl ?_
            keq_hits
            refine i_lstT hl2 ?_
            keq_hits
            refine we_callTy call_list_of (by rfl) mli.m mli.b ?_
            keq_hits
            refine ⟨_, _, .tuple es, rfl, dd2, ?_⟩
            keq_hits
            refine ⟨b, ys, rfl, .inr hb, fun l2 hl2' => ?_⟩
            keq_hits
            have sx := s2.trans (Same.new (o := .lst ys) hl2')
            refine i_extend (Same.new hl2' _ _ hl2) upd_same (by show _ ≤ 16777216; rw [dpAll_len hds', dpAll_len hys]; have := dsizes_len ds'; have := dsizes_len es; simp only [dsize] at hz1; omega) ?_
            keq_hits
            have hz5 : dsize (.tuple es) = dsizes es + 1 := by simp only [dsize]
            refine ⟨dsizes (ds' ++ es), by rw [dsizes_app]; omega, xs' ++ ys, ds' ++ es, kvs, _, rfl, (sx.mut hl0), upd_same, by rw [upd_ne lp'.symm]; exact Same.new hl2' _ _ hp2, dpAll_app hds' hys, by rw [smallDs_app, hs2.1]; simpa [smallD] using hs2.2, rfl, by rw [dsizes_app]; omega, ?_⟩
            rw [anyKs_app]
            simpa [anyK] using hany
          · have e2 : tupOr dd x = .non := by
              cases dd <;> first | rfl | exact absurd ⟨_, rfl⟩ htup
            refine i_iff (by rw [e2]; rfl) ?_
            keq_hits
            refine ⟨dsizes ds', by omega, xs', ds', kvs, _, rfl, s2, hl2, hp2, hds', hs2.1, rfl, by omega, ?_⟩
            have e3 : anyK l lev dd = false := by
              cases dd <;> first | rfl | exact absurd ⟨_, rfl⟩ hstr | exact absurd ⟨_, rfl⟩ htup
            rw [e3, Bool.or_false] at hany
            exact hany
      · have e0 : xs = [] := by
          cases xs with
          | nil => rfl
          | cons a b => simp at e
        subst e0
        cases hds
        keq_hits
        refine we_callTy (call_list_dK rfl) (by rfl) mli.m mli.b ?_
        keq_hits
        refine ⟨p, kvs, rfl, hp1, fun qa hqa => ?_⟩
        refine q qa _ _ (s1.trans (Same.new hqa)) upd_same ?_
        rcases hany with h | h
        · simpa using h
        · cases h
end
end
section
/-! ### templates -/
mutual
def tmplB (l : List (Str × Nat)) : Nat → PyData → Bool
  | lev, .str s => !(decide (s = "...")) && (match l.lookup s with
    | some n => decide (n = 0 ∨ n = lev)
    | none => true)
  | lev, .tuple ds => tmplBs l lev true ds
  | _, _ => true
def tmplBs (l : List (Str × Nat)) : Nat → Bool → List PyData → Bool
  | _, _, [] => true
  | lev, prev, d :: ds => (if isRep d then !prev else (!repHd ds || anyK l (lev + 1) d) && tmplB l (lev + if repHd ds then 1 else 0) d) && tmplBs l lev (isRep d) ds
end
theorem tmplBs_at {l : List (Str × Nat)} {lev : Nat} : ∀ {ds : List PyData} {prev : Bool} {i : Nat} {d : PyData}, tmplBs l lev prev ds = true → ds[i]? = some d →
    (isRep d = true → (i = 0 → prev = false) ∧ ∀ j e, i = j + 1 → ds[j]? = some e → isRep e = false) ∧ (isRep d = false → (repHd (ds.drop (i + 1)) = true → anyK l (lev + 1) d = true) ∧ tmplB l (lev + if repHd (ds.drop (i + 1)) then 1 else 0) d = true)
  | e :: ds, prev, 0, d, h, he => by
    cases he
    simp only [tmplBs, Bool.and_eq_true] at h
    obtain ⟨h1, _⟩ := h
    refine ⟨fun hr => ⟨fun _ => ?_, fun j _ z => by omega⟩, fun hr => ?_⟩
    · rw [hr] at h1
      simpa using h1
    · rw [hr] at h1
      simp only [Bool.false_eq_true, if_false, Bool.and_eq_true, Bool.or_eq_true, Bool.not_eq_true'] at h1
      refine ⟨fun z => ?_, h1.2⟩
      rcases h1.1 with h2 | h2
      · rw [show (e :: ds).drop (0 + 1) = ds from rfl] at z
        rw [z] at h2
        cases h2
      · exact h2
  | e :: ds, prev, i + 1, d, h, he => by
    simp only [tmplBs, Bool.and_eq_true] at h
    obtain ⟨_, h2⟩ := h
    obtain ⟨g1, g2⟩ := tmplBs_at h2 (show ds[i]? = some d by simpa using he)
    refine ⟨fun hr => ⟨fun z => by omega, fun j x ej hx => ?_⟩, g2⟩
    obtain ⟨g3, g4⟩ := g1 hr
    cases j with
    | zero =>
      have : i = 0 := by omega
      have z := g3 this
      simp only [List.getElem?_cons_zero, Option.some.injEq] at hx
      rw [← hx]
      exact z
    | succ j => exact g4 j x (by omega) (by simpa using hx)
theorem repHd_drop {ds : List PyData} {i : Nat} : repHd (ds.drop i) = ((ds[i]?.map isRep).getD false) := by
  cases h : ds[i]? with
  | none =>
    rw [List.drop_of_length_le (by rw [List.getElem?_eq_none_iff] at h; exact h)]
    rfl
  | some d =>
    obtain ⟨hi, e⟩ := List.getElem?_eq_some_iff.mp h
    rw [List.drop_eq_getElem_cons hi, e]
    rfl
section
variable {P : Program} {w : World} {K : PySem.W.Frag} {mg : Str → Option Value} {base : Heap} {f : Addr} {fd : FuncData} {C CB CT : Addr} {L : List Str}
def sp_cs (K : PySem.W.Frag) (C : Addr) : Sp := fun vs H Q _ => ∃ kk dx v tp d l, vs = [.ref kk, v, .ref tp, .int ((0 : Nat) : Int)] ∧ H kk = some (.ins C dx []) ∧ Dp K H v d ∧ smallD d = true ∧ dsize d ≤ 3000 ∧ H tp = some (.dK (kvN l)) ∧ tmplB l 0 d = true ∧ ∀ H', Same H H' → Q .non H'
theorem sq32 : FnScope ["kind", "node", "told", "deep", "waiting", "here", "level", "word", "parts", "key", "at", "part", "more"] ["kind", "node", "told", "deep"] (defScope (top 32)) := ⟨rfl, rfl, rfl, by decide +kernel, rfl, by decide +kernel, by decide +kernel⟩
structure TnOk (K : PySem.W.Frag) (H : Hp) (l : List (Str × Nat)) (H' : Hp) (e : En) : Prop where
  en : EnOk K H H' e
  t : tmplB l e.k e.d = true
  s : smallD e.d = true
theorem tnOk_upd {H H' : Hp} {l : List (Str × Nat)} {a : Addr} {xs ys : List V} {e : En} (h : TnOk K H l H' e) (hl : H' a = some (.lst xs)) : TnOk K H l (upd H' a (.lst ys)) e := ⟨enOk_upd h.en hl, h.t, h.s⟩
theorem tnOk_same {H H' H2 : Hp} {l : List (Str × Nat)} {e : En} (h : TnOk K H l H' e) (s : Same H' H2) : TnOk K H l H2 e := ⟨enOk_same h.en s, h.t, h.s⟩
theorem ok_cs (F : FnP K "check_shape" 32 f fd) (hm : mg "check_shape" = some (.ref f)) (O : PlainOk P w K mg base C) (ml : mg "len" = none) (me : mg "enumerate" = none) (mint : BTy mg "int" "int") (mR : ∃ t, mg "REPEAT" = some (.str "..." t)) (DR : Def P w K mg base 3 "repeated_keys" (sp_rep K C)) : Def P w K mg base 4 "check_shape" (sp_cs K C) := by
  refine Def.mk' F hm sq32 (fun vs H Q E h => ?_) (fun _ _ _ _ _ _ us hl => match us, hl with | [_, _, _, _], _ => rfl) (fun cdv A outer s H vs Q E hr tk h => ?_)
  · obtain ⟨kk, dx, v, tp, d, l, rfl, _⟩ := h
    rfl
  · obtain ⟨kk, dx, v, tp, d, l, rfl, hk, hd, hsm, hz, ht, hT, q⟩ := h
    obtain ⟨cl, mz, gP, lp, it, wi, ke⟩ := O
    have nd := sq32.nd
    keq_hits
    refine ⟨by show 2 ≤ sizeLine; decide, fun p hp => ?_⟩
    keq_hits
    refine ⟨by show 1 ≤ sizeLine; decide, fun wl hwl => ?_⟩
    keq_hits
    have s0 := (Same.new (o := .tup [v, .int ((0 : Nat) : Int)]) hp).trans (Same.new (o := .lst [.ref p]) hwl)
    have hpA : upd (upd H p (.tup [v, .int ((0 : Nat) : Int)])) wl (.lst [.ref p]) p = some (.tup [v, .int ((0 : Nat) : Int)]) := Same.new (o := .lst [.ref p]) hwl _ _ upd_same
    have hlA : upd (upd H p (.tup [v, .int ((0 : Nat) : Int)])) wl (.lst [.ref p]) wl = some (.lst [.ref p]) := upd_same
    have hl0 : H wl = none := new_of (Same.new (o := .tup [v, .int ((0 : Nat) : Int)]) hp) hwl
    generalize upd (upd H p (.tup [v, .int ((0 : Nat) : Int)])) wl (.lst [.ref p]) = HA at s0 hpA hlA ⊢
    refine ws_whileW passes_bx (fun m σ H' => ∃ (es : List En) (r : List (Option V)), σ = [some (.ref kk), some v, some (.ref tp), some (.int ((0 : Nat) : Int)), some (.ref wl)] ++ r ∧ r.length = 8 ∧ Same H H' ∧ H' wl = some (.lst (es.map fun e => V.ref e.a)) ∧ (∀ e ∈ es, TnOk K H l H' e) ∧ m = esz es ∧ esz es ≤ 3000) ?_ ?_
    · exact ⟨_, [⟨p, v, d, 0⟩], _, rfl, rfl, s0, hlA, fun e he => by rw [List.mem_singleton.mp he]; exact ⟨⟨hpA, hd⟩, hT, hsm⟩, rfl, by simp [esz]; omega⟩
    · rintro m σ H1 ⟨es, r, rfl, hr8, s1, hl1, hes, rfl, hz1⟩
      match r, hr8 with
      | [r0, r1, r2, r3, r4, r5, r6, r7], _ =>
      keq_hits
      refine i_lenLt hl1 ?_
      keq_hits
      refine i_ite (fun e => ?_) (fun e => ?_)
      · obtain ⟨es', en, rfl⟩ : ∃ es' en, es = es' ++ [en] := by
          rcases List.eq_nil_or_concat es with rfl | ⟨es', en, h⟩
          · simp at e
          · exact ⟨es', en, by simpa using h⟩
        keq_hits
        have hen := hes en (by simp)
        have hl2 : H1 wl = some (.lst ((es'.map fun e => V.ref e.a) ++ [V.ref en.a])) := by rw [hl1]; simp
        refine i_lstT hl1 (i_pop hl2 ?_)
        have s2 : Same H (upd H1 wl (.lst (es'.map fun e => V.ref e.a))) := s1.mut hl0
        have hl3 : upd H1 wl (.lst (es'.map fun e => V.ref e.a)) wl = some (.lst (es'.map fun e => V.ref e.a)) := upd_same
        have hes3 : ∀ e ∈ es', TnOk K H l (upd H1 wl (.lst (es'.map fun e => V.ref e.a))) e := fun e he => tnOk_upd (hes e (by simp [he])) hl1
        have ten := (tnOk_upd (ys := es'.map fun e => V.ref e.a) hen hl1).en.tu
        have dp0 := hen.en.dp
        have hz3 : esz (es' ++ [en]) = esz es' + dsize en.d := by rw [esz_append]; simp [esz]
        have ht3 := hen.t
        have hsm3 := hen.s
        generalize upd H1 wl (.lst (es'.map fun e => V.ref e.a)) = H3 at s2 hl3 hes3 ten ⊢
        clear hes hen hl1 hl2
        refine i_two (SqT.of ten) ?_
        obtain ⟨ea, ev, ed, ek⟩ := en
        refine wb_cons (ws_par 7 8 rfl nd rfl rfl (by decide) rfl rfl (by rfl) ?_)
        have hk2 := s2 _ _ hk
        have ht2 := s2 _ _ ht
        have dd2 := WP.dp_mono s2 dp0
        keq_hits
        refine ⟨_, _, ed, rfl, dd2, ?_⟩
        keq_hits
        refine ⟨_, _, ed, rfl, dd2, ?_⟩
        keq_hits
        have pz := dsize_pos ed
        by_cases hstr : ∃ s, ed = .str s
        · obtain ⟨s, rfl⟩ := hstr
          cases dd2
          refine i_ift rfl ?_
          keq_hits
          refine ⟨_, _, rfl, ?_⟩
          keq_hits
          have hT2 := ht3
          simp only [tmplB, Bool.and_eq_true, Bool.not_eq_true', decide_eq_false_iff_not] at hT2
          obtain ⟨hT2, hT4⟩ := hT2
          refine wt_cmp op_eq rfl ?_
          keq_hits
          have e1 : decide (V.str s = V.str "...") = false := by simpa using hT2
          refine ⟨rfl, i_bl (i_iff e1 ?_)⟩
          keq_hits
          refine wt_din hr rfl ?_
          keq_hits
          refine i_dget (key := .inr s) ht2 ?_
          rw [valK]
          cases hlk : l.lookup s with
          | none =>
            refine i_iff rfl (i_iff rfl ?_)
            keq_hits
            exact ⟨esz es', by rw [hz3]; show _ < _ + dsize (PyData.str s); omega, es', _, rfl, rfl, s2, hl3, hes3, rfl, by rw [hz3] at hz1; omega⟩
          | some n =>
            rw [hlk] at hT4
            refine i_ift rfl ?_
            keq_hits
            refine we_dget hr (fun _ _ => by with_unfolding_all rfl) ?_
            keq_hits
            have hg : DGet H3 tp (.str s) (some (.int (n : Int))) := by
              have z := DGet.k (k := .inr s) ht2
              rw [valK, hlk] at z
              exact z
            refine ⟨_, _, rfl, hg, ?_⟩
            keq_hits
            refine i_ite (fun e2 => ?_) (fun e2 => i_iff rfl ?_)
            rotate_left
            · keq_hits
              exact ⟨esz es', by rw [hz3]; show _ < _ + dsize (PyData.str s); omega, es', _, rfl, rfl, s2, hl3, hes3, rfl, by rw [hz3] at hz1; omega⟩
            have hn : n = ek := by
              have h2 : (0 : Int) < (n : Int) := of_decide_eq_true e2
              have h1 : n = 0 ∨ n = ek := of_decide_eq_true hT4
              rcases h1 with h1 | h1
              · rw [h1] at h2
                exact absurd h2 (by decide)
              · exact h1
            keq_hits
            refine wt_cmp op_ne rfl ?_
            refine we_dget hr (fun _ _ => by with_unfolding_all rfl) ?_
            keq_hits
            refine ⟨_, _, rfl, hg, ?_⟩
            keq_hits
            refine ⟨rfl, i_bl (i_iff (by rw [hn]; simp) ?_)⟩
            keq_hits
            exact ⟨esz es', by rw [hz3]; show _ < _ + dsize (PyData.str s); omega, es', _, rfl, rfl, s2, hl3, hes3, rfl, by rw [hz3] at hz1; omega⟩
        · have e1 : strOr ed ev = .non := by
            cases ed <;> first | rfl | exact absurd ⟨_, rfl⟩ hstr
          refine i_iff (by rw [e1]; rfl) ?_
          keq_hits
          by_cases htup : ∃ es, ed = .tuple es
          · obtain ⟨ds, rfl⟩ := htup
            obtain ⟨b, ys, rfl, hb0, hys⟩ := dp_tup dp0
            refine i_ift rfl ?_
            keq_hits
            refine ws_forI (walk_enumT (K := K) (a := b) (xs := ys)) passes_bx rfl (pi_enumT (by rfl) me pa) (by k_memK) ?_ iEnumT_mono
            show WP.WA _ _ _ _ _
            have lny := dpAll_len hys
            keq_hits
            refine ⟨b, ys, rfl, s2.tup hb0, rfl, fun i σ H' => ∃ (es1 : List En) (r9 r10 r11 r12 : Option V), σ = [some (.ref kk), some v, some (.ref tp), some (.int ((0 : Nat) : Int)), some (.ref wl), some (.ref b), some (.int (ek : Int)), some .non, some (.ref b), r9, r10, r11, r12] ∧ Same H H' ∧ H' wl = some (.lst ((es' ++ es1).map fun e => V.ref e.a)) ∧ (∀ e ∈ es' ++ es1, TnOk K H l H' e) ∧ esz es1 ≤ dsizes (ds.take i),
              ⟨[], _, _, _, _, rfl, s2, by rw [List.append_nil]; exact hl3, by rw [List.append_nil]; exact hes3, by simp [esz]⟩, fun i σ H' _ ⟨_, _, _, _, _, _, s, _⟩ => s.tup hb0, ?_, ?_⟩
            · rintro i x' σ H4 H5 hi ⟨es1, r9, r10, r11, r12, rfl, s4, hl4, hes4, hz4⟩ ⟨T, y, rfl, hT4, rfl, hy⟩
              refine i_two (SqT.of upd_same) ?_
              have s45 : Same H4 (upd H4 T (.tup [.int (i : Nat), y])) := Same.new hT4
              have s5 := s4.trans s45
              generalize upd H4 T (.tup [.int (i : Nat), y]) = H5 at s45 s5 ⊢
              obtain ⟨d, hd1, hd2⟩ := dpAll_atv hys hy
              have hil : i < ds.length := by omega
              have hzt : dsizes (ds.take (i + 1)) = dsizes (ds.take i) + dsize d := by
                rw [List.take_add_one, hd1, dsizes_app]
                simp [dsizes]
              have hds : tmplBs l ek true ds = true := ht3
              obtain ⟨g1, g2⟩ := tmplBs_at hds hd1
              have hk5 := s5 _ _ hk
              have dd5 := WP.dp_mono s5 hd2
              have hb5 := s5.tup hb0
              have ht5 := s5 _ _ ht
              have hl5 := s45 _ _ hl4
              have hes5 : ∀ e ∈ es' ++ es1, TnOk K H l H5 e := fun e he => tnOk_same (hes4 e he) s45
              refine wb_one (ws_if ?_)
              refine wt_cmp op_ne rfl ?_
              keq_hits
              refine ⟨_, _, d, rfl, dd5, ?_⟩
              keq_hits
              refine ⟨scal_rep hd2, i_bl ?_⟩
              rw [dec_rep hd2]
              cases hrp : isRep d with
              | true =>
                obtain ⟨g3, g4⟩ := g1 hrp
                obtain ⟨j, rfl⟩ : ∃ j, i = j + 1 := ⟨i - 1, by
                  cases i with
                  | zero => exact absurd (g3 rfl) (by simp)
                  | succ j => omega⟩
                obtain ⟨z, hz1', hz2'⟩ := dpAll_at hys (List.getElem?_eq_getElem (show j < ds.length by omega))
                have g5 := g4 j _ rfl (List.getElem?_eq_getElem (show j < ds.length by omega))
                refine i_iff rfl ?_
                refine wb_one (ws_if (wt_ww (ww_or (wt_cmp op_eq rfl ?_))))
                keq_hits
                refine ⟨rfl, i_bl (i_iff (by simp; omega) (ww_or1 (wt_cmp op_eq rfl ?_)))⟩
                keq_hits
                refine we_ix ix_tup plainIx_op ?_
                keq_hits
                refine i_ixT (v := z) hb5 (by rw [show ((j + 1 : Nat) : Int) - 1 = (j : Int) by omega]; exact L2.atI_nat hz1') ?_
                keq_hits
                refine ⟨_, _, _, rfl, WP.dp_mono s5 hz2', ?_⟩
                keq_hits
                refine ⟨scal_rep hz2', i_bl (i_iff (by rw [dec_rep hz2']; exact g5) ?_)⟩
                keq_hits
                exact ⟨es1, _, _, _, _, rfl, s5, hl5, hes5, by rw [hzt]; omega⟩
              | false =>
                obtain ⟨g3, g4⟩ := g2 hrp
                refine i_ift rfl ?_
                refine wb_cons (ws_set 12 nd rfl (by k_clsL) ?_)
                refine WE.mono (Q := fun v H' => v = .bl (repHd (ds.drop (i + 1))) ∧ H' = H5) ?_ (fun v6 H6 ⟨ev6, eH6⟩ => ?_)
                · rw [repHd_drop]
                  keq_hits
                  refine we_op op_add ?_
                  keq_hits
                  refine i_ite (fun e1 => ?_) (fun e1 => ?_)
                  · have hj : i + 1 < ds.length := by have := of_decide_eq_true e1; omega
                    obtain ⟨z, hz1', hz2'⟩ := dpAll_at hys (List.getElem?_eq_getElem hj)
                    keq_hits
                    refine we_cmp op_eq rfl ?_
                    keq_hits
                    refine we_ix ix_tup plainIx_op ?_
                    keq_hits
                    refine we_op op_add ?_
                    keq_hits
                    refine i_ixT (v := z) hb5 (by rw [show (i : Int) + 1 = ((i + 1 : Nat) : Int) by omega]; exact L2.atI_nat hz1') ?_
                    keq_hits
                    refine ⟨_, _, _, rfl, WP.dp_mono s5 hz2', ?_⟩
                    keq_hits
                    refine ⟨scal_rep hz2', ?_, rfl⟩
                    rw [dec_rep hz2', List.getElem?_eq_getElem hj]
                    rfl
                  · have hj : ds.length ≤ i + 1 := by have := of_decide_eq_false e1; omega
                    rw [List.getElem?_eq_none hj]
                    exact ⟨rfl, rfl⟩
                subst ev6 eH6
                have dsm : smallD d = true := smallDs_mem (show smallDs ds = true by simpa [smallD] using hsm3) (List.mem_of_getElem? hd1)
                have dsz : dsize d ≤ 3000 := by
                  have z1 := dsizes_mem (List.mem_of_getElem? hd1)
                  have z2 : esz es' + dsize (PyData.tuple ds) ≤ 3000 := by rw [hz3] at hz1; exact hz1
                  simp only [dsize] at z2
                  omega
                show WP.WB _ _ _ _ _
                refine wb_cons (ws_if (wt_mono (QT := fun b H' => b = false ∧ Same H6 H') (fun b7 H7 q7 => ?_) ?_))
                rotate_left
                · keq_hits
                  cases hmr : repHd (ds.drop (i + 1)) with
                  | true =>
                    refine i_ift rfl (ww_and1 (wt_cmp op_eq rfl ?_))
                    keq_hits
                    refine we_op op_add ?_
                    keq_hits
                    refine ⟨kk, dx, y, tp, d, l, ek + 1, rfl, hk5, dd5, dsm, dsz, ht5, g3 hmr, fun a7 xs7 H7 s7 h7 hne => ?_⟩
                    keq_hits
                    refine i_lenL (SqL.of h7) ?_
                    keq_hits
                    refine ⟨rfl, i_bl ⟨?_, s7⟩⟩
                    cases xs7 with
                    | nil => exact absurd rfl hne
                    | cons a b => simp; omega
                  | false =>
                    refine i_iff rfl ?_
                    exact ⟨rfl, Same.refl _⟩
                obtain ⟨rfl, s7⟩ := q7
                refine i_iff rfl ?_
                keq_hits
                have hl7 := s7 _ _ hl5
                refine i_lstT hl7 ?_
                keq_hits
                refine we_op op_add ?_
                keq_hits
                refine we_callTy call_int1 (by rfl) mint.m mint.b ?_
                keq_hits
                refine .inr ⟨_, rfl, ?_⟩
                keq_hits
                refine ⟨by show 2 ≤ sizeLine; decide, fun p8 hp8 => ?_⟩
                have eint : ((ek : Int) + if repHd (ds.drop (i + 1)) = true then 1 else 0) = ((ek + (if repHd (ds.drop (i + 1)) = true then 1 else 0) : Nat) : Int) := by
                  cases repHd (ds.drop (i + 1)) <;> simp
                rw [eint]
                keq_hits
                have s8 : Same H7 (upd H7 p8 (.tup [y, .int ((ek + (if repHd (ds.drop (i + 1)) = true then 1 else 0) : Nat) : Int)])) := Same.new hp8
                have h8 : upd H7 p8 (.tup [y, .int ((ek + (if repHd (ds.drop (i + 1)) = true then 1 else 0) : Nat) : Int)]) p8 = some (.tup [y, .int ((ek + (if repHd (ds.drop (i + 1)) = true then 1 else 0) : Nat) : Int)]) := upd_same
                generalize upd H7 p8 (.tup [y, .int ((ek + (if repHd (ds.drop (i + 1)) = true then 1 else 0) : Nat) : Int)]) = H8 at s8 h8 ⊢
                have hl8 := s8 _ _ hl7
                have zl := esz_len (es' ++ es1)
                rw [esz_append] at zl
                have zt : dsizes (ds.take i) ≤ dsizes ds := by
                  have z := dsizes_app (ds.take i) (ds.drop i)
                  rw [List.take_append_drop] at z
                  omega
                have z3 : esz es' + (dsizes ds + 1) ≤ 3000 := by
                  have z2 : esz es' + dsize (PyData.tuple ds) ≤ 3000 := by rw [hz3] at hz1; exact hz1
                  simpa only [dsize] using z2
                refine i_append hl8 (by show _ < 16777216; rw [List.length_map]; omega) ?_
                keq_hits
                refine ⟨es1 ++ [⟨p8, y, d, ek + (if repHd (ds.drop (i + 1)) = true then 1 else 0)⟩], _, _, _, _, rfl, ((s5.trans s7).trans s8).mut hl0, ?_, fun e he => ?_, ?_⟩
                · rw [upd_same]
                  simp
                · refine tnOk_upd ?_ hl8
                  rw [← List.append_assoc] at he
                  rcases List.mem_append.mp he with he | he
                  · exact tnOk_same (hes5 e he) (s7.trans s8)
                  · rw [List.mem_singleton.mp he]
                    exact ⟨⟨h8, hd2⟩, g4, dsm⟩
                · rw [esz_append, hzt]
                  have : esz [(⟨p8, y, d, ek + (if repHd (ds.drop (i + 1)) = true then 1 else 0)⟩ : En)] = dsize d := by simp [esz]
                  omega
            · rintro σ H4 ⟨es1, r9, r10, r11, r12, rfl, s4, hl4, hes4, hz4⟩
              show WP.WB _ _ _ _ _
              keq_hits
              refine ⟨esz (es' ++ es1), ?_, es' ++ es1, [_, _, _, _, _, _, _, _], rfl, rfl, s4, hl4, hes4, rfl, ?_⟩
              · rw [hz3, esz_append]
                rw [List.take_of_length_le (by omega)] at hz4
                show _ < _ + dsize (PyData.tuple ds)
                simp only [dsize]
                omega
              · rw [hz3] at hz1
                rw [esz_append]
                rw [List.take_of_length_le (by omega)] at hz4
                have z : dsize (PyData.tuple ds) = dsizes ds + 1 := by simp only [dsize]
                have z2 : esz es' + dsize (PyData.tuple ds) ≤ 3000 := hz1
                omega
          · have e2 : tupOr ed ev = .non := by
              cases ed <;> first | rfl | exact absurd ⟨_, rfl⟩ htup
            refine i_iff (by rw [e2]; rfl) ?_
            keq_hits
            exact ⟨esz es', by rw [hz3]; show _ < _ + dsize ed; omega, es', _, rfl, rfl, s2, hl3, hes3, rfl, by rw [hz3] at hz1; omega⟩
      · have : es = [] := by
          cases es with
          | nil => rfl
          | cons x r => simp at e
        subst this
        keq_hits
        exact q _ s1
end
end
section
section
variable {P : Program} {w : World} {K : PySem.W.Frag} {mg : Str → Option Value} {base : Heap} {f f2 : Addr} {fd fd2 : FuncData} {C CB CM : Addr} {L : List Str}
/-- t is a template of the pattern d -/
def TmOk (L : List Str) (d t : PyData) : Prop := ∀ x, shapeS L d = some x → ∀ l, l.Perm (namesS x 0) → tmplB l 0 t = true
theorem good_shape {d : PyData} (g : goodD L d = true) : ∃ x, shapeS L d = some x ∧ goodS x = true := by
  unfold goodD at g
  split at g
  · rename_i x ex
    exact ⟨x, ex, g⟩
  · cases g
def sp_is_fit (K : PySem.W.Frag) (L : List Str) : Sp := fun vs H Q _ => ∃ lv v d tv t, vs = [lv, v, tv] ∧ Dp K H lv (.tuple (L.map .str)) ∧ Dp K H v d ∧ formB d = true ∧ FormOk d ∧ goodD L d = true ∧ Dp K H tv t ∧ smallD t = true ∧ dsize t ≤ 3000 ∧ TmOk L d t ∧ ∀ H', Same H H' → Q (.bl true) H'
theorem sq35 : FnScope ["literals", "pattern", "form"] ["literals", "pattern", "form"] (defScope (top 35)) := ⟨rfl, rfl, rfl, by decide +kernel, rfl, by decide +kernel, by decide +kernel⟩
theorem ok_is_fit (F : FnP K "is_fit" 35 f fd) (hm : mg "is_fit" = some (.ref f)) (O : PlainOk P w K mg base C) (ErT : ErrC P w K mg base 1 "BadTemplate" CM) 
    (DS : Def P w K mg base 44 "shape" (sp_shape K C CB L 20)) (DD : Def P w K mg base 3 "depths" (sp_depths K CB)) (DC : Def P w K mg base 4 "check_shape" (sp_cs K C)) : Def P w K mg base 45 "is_fit" (sp_is_fit K L) := by
  refine Def.mk' F hm sq35 (fun vs H Q E h => ?_) (fun _ _ _ _ _ _ us hl => match us, hl with | [_, _, _], _ => rfl) (fun cdv A outer s H vs Q E hr tk h => ?_)
  · obtain ⟨lv, v, d, tv, t, rfl, _⟩ := h
    rfl
  · obtain ⟨lv, v, d, tv, t, rfl, hL, hd, hf, ⟨hz, hsz, hdp⟩, hg, hd9, ht1, ht2, hto, q⟩ := h
    obtain ⟨cl, mz, gP, lp, it, wi, ke⟩ := O
    have nd := sq35.nd
    obtain ⟨x, ex, gx⟩ := good_shape hg
    refine wb_cons ?_
    refine ws_try rfl rfl ⟨rfl, by decide, .inl ErT.gC⟩ tk fun pn xe tk' => ?_
    refine wb_one (ws_expr ?_)
    refine we_call' DC (Room.mono hr (by omega)) (pas_of tk') (by rfl) ?_
    refine wa_cons ?_
    refine we_make0 mz (by rfl) gP fun y dx hy hdx hne => ?_
    have sI : Same H (upd (upd H dx (.own y)) y (.ins C dx [])) := (Same.new hdx).trans (Same.new (by rw [upd_ne hne.symm]; exact hy))
    have hI : upd (upd H dx (.own y)) y (.ins C dx []) y = some (.ins C dx []) := upd_same
    generalize upd (upd H dx (.own y)) y (.ins C dx []) = H1 at sI hI ⊢
    refine wa_cons ?_
    l_intsC
    refine wa_cons ?_
    refine we_call' DD (Room.mono hr (by omega)) (pas_of tk') (by rfl) ?_
    refine wa_cons ?_
    refine we_call' DS (Room.mono hr (by omega)) (pas_of tk') (by rfl) ?_
    refine wa_cons ?_
    refine we_make0 mz (by rfl) gP fun y2 dx2 hy2 hdx2 hne2 => ?_
    have sI2 : Same H1 (upd (upd H1 dx2 (.own y2)) y2 (.ins C dx2 [])) := (Same.new hdx2).trans (Same.new (by rw [upd_ne hne2.symm]; exact hy2))
    have hI2 : upd (upd H1 dx2 (.own y2)) y2 (.ins C dx2 []) y2 = some (.ins C dx2 []) := upd_same
    generalize upd (upd H1 dx2 (.own y2)) y2 (.ins C dx2 []) = H2 at sI2 hI2 ⊢
    have s2 := sI.trans sI2
    keq_hits
    refine ⟨y2, dx2, v, lv, d, rfl, hI2, WP.dp_mono s2 hd, WP.dp_mono s2 hL, hf, hz, hsz, hdp, fun x' ex' v' H3 s3 dp => ?_, fun e H' s' => by rw [ex] at e; cases e⟩
    rw [ex] at ex'
    cases ex'
    keq_hits
    refine ⟨v', x, rfl, dp, Nat.le_trans (shape_size L d x ex) hsz, fun _ l p H4 hp h4 s4 hk4 => ?_, fun g H' s' => by rw [gx] at g; cases g⟩
    have hI4 := s4 _ _ (s3 _ _ (sI2 _ _ hI))
    keq_hits
    refine ⟨y, dx, tv, p, t, l, rfl, hI4, WP.dp_mono (s2.trans (s3.trans s4)) hd9, ht1, ht2, hk4, hto x ex l hp, fun H5 s5 => ?_⟩
    keq_hits
    exact q _ (s2.trans (s3.trans (s4.trans s5)))
def sp_is_template (K : PySem.W.Frag) (L : List Str) : Sp := fun vs H Q _ => ∃ lv v d tv t, vs = [lv, v, tv] ∧ Dp K H lv (.tuple (L.map .str)) ∧ Dp K H v d ∧ formB d = true ∧ FormOk d ∧ goodD L d = true ∧ Dp K H tv t ∧ FormOk t ∧ formB t = true ∧ TmOk L d t ∧ ∀ H', Same H H' → Q (.bl true) H'
theorem sq34 : FnScope ["literals", "pattern", "thing"] ["literals", "pattern", "thing"] (defScope (top 34)) := ⟨rfl, rfl, rfl, by decide +kernel, rfl, by decide +kernel, by decide +kernel⟩
theorem ok_is_template (F : FnP K "is_template" 34 f fd) (hm : mg "is_template" = some (.ref f)) (DC : Def P w K mg base 47 "check_pattern" (sp_check_pattern K CB L)) (DF : Def P w K mg base 3 "is_form" (sp_is_form K)) (DT : Def P w K mg base 45 "is_fit" (sp_is_fit K L)) : Def P w K mg base 48 "is_template" (sp_is_template K L) := by
  refine Def.mk' F hm sq34 (fun vs H Q E h => ?_) (fun _ _ _ _ _ _ us hl => match us, hl with | [_, _, _], _ => rfl) (fun cdv A outer s H vs Q E hr tk h => ?_)
  · obtain ⟨lv, v, d, tv, t, rfl, _⟩ := h
    rfl
  · obtain ⟨lv, v, d, tv, t, rfl, hL, hd, hf, hfo, hg, hd9, hft, hi, hto, q⟩ := h
    have nd := sq34.nd
    have gd : (formB d && goodD L d) = true := by rw [hf, hg]; rfl
    keq_hits
    refine ⟨_, _, _, rfl, hL, hd, hfo, fun _ H1 s1 => ?_, fun g => by rw [gd] at g; cases g⟩
    keq_hits
    refine ⟨_, t, rfl, WP.dp_mono s1 hd9, hft.sm, hft.sz, by have := hft.dp; omega, fun H2 s2 => ?_⟩
    rw [hi]
    have s12 := s1.trans s2
    keq_hits
    refine i_ift rfl ?_
    keq_hits
    refine ⟨_, _, _, _, _, rfl, WP.dp_mono s12 hL, WP.dp_mono s12 hd, hf, hfo, hg, WP.dp_mono s12 hd9, hft.sm, hft.sz, hto, fun H3 s3 => ?_⟩
    keq_hits
    exact q _ (s12.trans s3)
theorem dp_two {H : Hp} {v : V} {d e : PyData} (h : Dp K H v (.tuple [d, e])) : ∃ a x y, v = .ref a ∧ SqT K H a [x, y] ∧ Dp K H x d ∧ Dp K H y e := by
  obtain ⟨a, xs, rfl, hs, hd⟩ := dp_tup h
  cases hd with
  | cons h1 r =>
    cases r with
    | cons h2 r2 =>
      cases r2
      exact ⟨a, _, _, rfl, hs, h1, h2⟩
/-- a rule: the pattern's parts behind its first word, the template -/
abbrev Rl : Type := List PyData × PyData
def ruleD (r : Rl) : PyData := .tuple [.tuple (.str "_" :: r.1), r.2]
structure RuleP (L : List Str) (r : Rl) : Prop where
  fo : FormOk (.tuple (.str "_" :: r.1))
  fb : formBs r.1 = true
  tm : goodD L (.tuple r.1) = true → FormOk r.2 ∧ formB r.2 = true ∧ TmOk L (.tuple r.1) r.2
def rulesD (L : List Str) (rs : List Rl) : PyData := .tuple [.tuple (L.map .str), .tuple (rs.map ruleD)]
theorem RuleP.fp {L : List Str} {r : Rl} (h : RuleP L r) : FormOk (.tuple r.1) := by
  obtain ⟨h1, h2, h3⟩ := h.fo
  refine ⟨?_, ?_, ?_⟩
  · simpa [smallD, smallDs] using (by simpa [smallD, smallDs] using h1 : _ ∧ _).2
  · simp only [dsize, dsizes] at h2 ⊢
    omega
  · simp only [ddep, ddeps] at h3 ⊢
    omega
theorem dp_consT {H : Hp} {v : V} {d : PyData} {ds : List PyData} (h : Dp K H v (.tuple (d :: ds))) : ∃ a x xs, v = .ref a ∧ SqT K H a (x :: xs) ∧ Dp K H x d ∧ DpAll K H xs ds := by
  obtain ⟨a, xs, rfl, hs, hd⟩ := dp_tup h
  cases hd with
  | cons h1 r => exact ⟨a, _, _, rfl, hs, h1, r⟩
def sp_are_rules (K : PySem.W.Frag) (L : List Str) : Sp := fun vs H Q _ => ∃ v rs, vs = [v] ∧ Dp K H v (rulesD L rs) ∧ rs.length ≤ 20 ∧ (∀ r ∈ rs, RuleP L r) ∧ ∀ H', Same H H' → Q (.bl (decide (1 ≤ rs.length) && rs.all fun r => goodD L (.tuple r.1))) H'
theorem sq36 : FnScope ["thing", "rule"] ["thing"] (defScope (top 36)) := ⟨rfl, rfl, rfl, by decide +kernel, rfl, by decide +kernel, by decide +kernel⟩
theorem ok_are_rules (F : FnP K "are_rules" 36 f fd) (hm : mg "are_rules" = some (.ref f)) (Er : ErrC P w K mg base 1 "BadPattern" CB) (mi : mg "isinstance" = none) (ml : mg "len" = none) (mtu : BTy mg "tuple" "tuple") (mst : BTy mg "str" "str") (mR : ∃ t, mg "REPEAT" = some (.str "..." t)) (mM : ∃ t, mg "MOST_RULES" = some (.int 20 t))
    (DT : Def P w K mg base 1 "is_tuple" (sp_is_tuple K)) (DZ : Def P w K mg base 1 "is_sized" (sp_is_sized K)) (DL : Def P w K mg base 3 "check_literals" (sp_check_literals K L)) (DP : Def P w K mg base 46 "is_pattern" (sp_is_pattern K L)) (DM : Def P w K mg base 48 "is_template" (sp_is_template K L)) (DF : Def P w K mg base 3 "is_form" (sp_is_form K)) :
    Def P w K mg base 49 "are_rules" (sp_are_rules K L) := by
  refine Def.mk' F hm sq36 (fun vs H Q E h => ?_) (fun _ _ _ _ _ _ us hl => match us, hl with | [_], _ => rfl) (fun cdv A outer s H vs Q E hr tk h => ?_)
  · obtain ⟨v, rs, rfl, _⟩ := h
    rfl
  · obtain ⟨v, rs, rfl, hd, hr20, hro, q⟩ := h
    have nd := sq36.nd
    have hd0 := hd
    obtain ⟨a, v0, v1, rfl, hT, d0, d1⟩ := dp_two hd
    keq_hits
    refine ⟨_, _, _, rfl, hd0, fun H1 s1 => ?_⟩
    keq_hits
    refine i_iff rfl ?_
    keq_hits
    refine we_ix ix_tup plainIx_int ?_
    keq_hits
    refine i_ixT (s1.tup hT) atI1 ?_
    keq_hits
    refine ⟨_, _, _, _, rfl, WP.dp_mono s1 d1, fun H2 s2 => ?_⟩
    have eS : isSized 1 20 (.tuple (rs.map ruleD)) = decide (1 ≤ rs.length) := by
      simp only [isSized, List.length_map]
      rw [decide_eq_true (show (rs.length : Int) ≤ 20 by omega), Bool.and_true, decide_eq_decide]
      omega
    keq_hits
    rw [eS]
    cases hr1 : decide (1 ≤ rs.length) with
    | false =>
      refine i_ift rfl ?_
      keq_hits
      have z := q _ (s1.trans s2)
      rw [hr1] at z
      exact z
    | true =>
    refine i_iff rfl ?_
    keq_hits
    have s12 := s1.trans s2
    refine ws_try rfl rfl ⟨rfl, by decide, .inl Er.gC⟩ tk fun pn xe tk' => ?_
    refine wb_one (ws_expr ?_)
    refine we_call' DL (Room.mono hr (by omega)) (pas_of tk') (by rfl) ?_
    refine wa_cons ?_
    refine we_ix ix_tup plainIx_int ?_
    l_intsC
    keq_hits
    refine i_ixT (s12.tup hT) atI0 ?_
    keq_hits
    refine ⟨_, rfl, WP.dp_mono s12 d0, fun H3 s3 => ?_⟩
    have s13 := s12.trans s3
    obtain ⟨b, xs, rfl, hb, hbs⟩ := dp_tup d1
    have hlb := dpAll_len hbs
    rw [List.length_map] at hlb
    refine wb_cons ?_
    refine ws_forI (g := gName 1) (walk_tup (K := K) (a := b) (xs := xs)) passes_bx rfl (pi_tup pe) (by k_memK) ?_ iTup_mono
    show WP.WE _ _ _ _ _
    refine we_ix ix_tup plainIx_int ?_
    keq_hits
    refine i_ixT (s13.tup hT) atI1 ?_
    refine ⟨b, rfl, ⟨_, s13.tup hb⟩, rfl, fun i σ H' => Same H H' ∧ (∃ o, σ = [some (.ref a), o]) ∧ ∀ r ∈ rs.take i, goodD L (.tuple r.1) = true, ⟨s13, ⟨_, rfl⟩, fun r hr => by simp at hr⟩, fun i σ H' _ h => h.1.tup hb, ?_, ?_⟩
    · rintro i x σ H4 H5 hi ⟨s4, ⟨o, rfl⟩, hgood⟩ ⟨rfl, hx⟩
      obtain ⟨dr, hdr, hdx⟩ := dpAll_atv hbs hx
      rw [List.getElem?_map] at hdr
      cases e : rs[i]? with
      | none => rw [e] at hdr; cases hdr
      | some r =>
        rw [e] at hdr
        cases hdr
        have hrp := hro r (List.mem_of_getElem? e)
        have fp := hrp.fp
        obtain ⟨fo, fb, htm⟩ := hrp
        obtain ⟨ps, tm⟩ := r
        obtain ⟨ra, r0, r1, rfl, hR, dr0, dr1⟩ := dp_two hdx
        have dr00 := dr0
        obtain ⟨pa0, p0, pxs, rfl, hP, dp0, dpx⟩ := dp_consT dr0
        cases dp_str dp0
        show WP.WB _ _ _ _ _
        keq_hits
        refine ⟨_, _, _, rfl, WP.dp_mono s4 hdx, fun H6 s6 => ?_⟩
        have s46 := s4.trans s6
        keq_hits
        refine i_iff rfl ?_
        keq_hits
        refine we_ix ix_tup plainIx_int ?_
        keq_hits
        refine i_ixT (s46.tup hR) atI0 ?_
        keq_hits
        refine i_iff rfl ?_
        keq_hits
        refine wt_cmp op_eq rfl ?_
        keq_hits
        refine we_ix ix_tup plainIx_int ?_
        keq_hits
        refine i_ixT (s46.tup hR) atI0 ?_
        keq_hits
        refine ⟨rfl, i_bl ?_⟩
        refine i_iff rfl ?_
        keq_hits
        -- not is_pattern(thing[0], rule[0][1:]) or not is_template(thing[0], rule[0][1:], rule[1])
        have sl1 : ∀ {H7 : Hp} {Q' : VK}, Same H H7 → (∀ d' H8, Same H7 H8 → Dp K H8 (.ref d') (.tuple ps) → Q' (.ref d') H8) → rSlA K (.ref pa0) (some 1) none H7 Q' := fun {H7 Q'} s7 qq =>
          i_sl (s7.tup hP) fun d' H8 s8 h8 => qq d' H8 s8 (by
            have e1 : cutV (V.str "_" :: pxs) (some 1) none = pxs := by
              have := cutV_drop (V.str "_" :: pxs) 1
              simpa using this
            rw [e1] at h8
            exact Dp.tup h8 (dpAll_mono (s7.trans s8) dpx))
        refine we_ix ix_tup plainIx_int ?_
        keq_hits
        refine i_ixT (s46.tup hT) atI0 ?_
        keq_hits
        refine we_slL sl_tupA ?_
        refine we_ix ix_tup plainIx_int ?_
        keq_hits
        refine i_ixT (s46.tup hR) atI0 ?_
        keq_hits
        refine ⟨_, rfl, sl1 s46 fun d7 H7 s7 h7 => ?_⟩
        have s47 := s46.trans s7
        keq_hits
        refine ⟨_, _, _, rfl, WP.dp_mono s47 d0, h7, fp, fun H8 s8 => ?_⟩
        have s48 := s47.trans s8
        have ef : (formB (.tuple ps) && goodD L (.tuple ps)) = goodD L (.tuple ps) := by simp [formB, fb]
        rw [ef]
        keq_hits
        cases gd : goodD L (.tuple ps) with
        | false =>
          refine i_ift rfl ?_
          refine i_ift rfl ?_
          keq_hits
          have ea : (rs.all fun r => goodD L (.tuple r.1)) = false := by
            rw [List.all_eq_false]
            exact ⟨(ps, tm), List.mem_of_getElem? e, by simp [gd]⟩
          have z := q _ s48
          rw [ea, Bool.and_false] at z
          exact z
        | true =>
        obtain ⟨ft, fi, hto⟩ := htm gd
        refine i_iff rfl ?_
        keq_hits
        refine we_ix ix_tup plainIx_int ?_
        keq_hits
        refine i_ixT (s48.tup hT) atI0 ?_
        keq_hits
        refine we_slL sl_tupA ?_
        refine we_ix ix_tup plainIx_int ?_
        keq_hits
        refine i_ixT (s48.tup hR) atI0 ?_
        keq_hits
        refine ⟨_, rfl, sl1 s48 fun d9 H9 s9 h9 => ?_⟩
        have s49 := s48.trans s9
        keq_hits
        refine we_ix ix_tup plainIx_int ?_
        keq_hits
        refine i_ixT (s49.tup hR) atI1 ?_
        keq_hits
        refine ⟨_, _, _, _, _, rfl, WP.dp_mono s49 d0, h9, by simp [formB, fb], fp, gd, WP.dp_mono s49 dr1, ft, fi, hto, fun H10 s10 => ?_⟩
        have s410 := s49.trans s10
        keq_hits
        refine i_iff rfl ?_
        keq_hits
        refine we_ix ix_tup plainIx_int ?_
        refine we_ix ix_tup plainIx_int ?_
        keq_hits
        refine i_ixT (s410.tup hR) atI0 ?_
        keq_hits
        refine i_ixT (s410.tup hP) atI0 ?_
        keq_hits
        refine i_iff rfl ?_
        keq_hits
        refine wt_cmp op_eq rfl ?_
        refine we_ix ix_tup plainIx_int ?_
        refine we_ix ix_tup plainIx_int ?_
        keq_hits
        refine i_ixT (s410.tup hR) atI0 ?_
        keq_hits
        refine i_ixT (s410.tup hP) atI0 ?_
        keq_hits
        refine ⟨rfl, i_bl (i_iff (by simp; decide +kernel) ?_)⟩
        keq_hits
        refine we_ix ix_tup plainIx_int ?_
        keq_hits
        refine i_ixT (s410.tup hR) atI0 ?_
        keq_hits
        refine ⟨_, _, rfl, WP.dp_mono s410 dr00, fo.sm, fo.sz, by have := fo.dp; omega, fun H11 s11 => ?_⟩
        have eg : formB (.tuple (.str "_" :: ps)) = true := by
          have : wordS "_" = true := by decide +kernel
          simp [formB, formBs, fb, this]
        rw [eg]
        keq_hits
        refine i_iff rfl ?_
        keq_hits
        refine ⟨s410.trans s11, ⟨_, rfl⟩, fun r hr => ?_⟩
        rw [List.take_add_one, e] at hr
        rcases List.mem_append.mp hr with hr | hr
        · exact hgood r hr
        · have : r = (ps, tm) := by simpa using hr
          rw [this]
          exact gd
    · rintro σ H4 ⟨s4, ⟨o, rfl⟩, hgood⟩
      keq_hits
      have lx : rs.take xs.length = rs := List.take_of_length_le (by omega)
      rw [lx] at hgood
      have ea : (rs.all fun r => goodD L (.tuple r.1)) = true := List.all_eq_true.mpr hgood
      have z := q _ s4
      rw [ea, hr1] at z
      exact z
end
end
section
/-! ### macros -/
def dictN (l : List Str) : List (Key × V) := l.foldl (fun kvs s => putK kvs (.inr s) (.bl true)) []
theorem dictN_snoc (l : List Str) (s : Str) : dictN (l ++ [s]) = putK (dictN l) (.inr s) (.bl true) := by simp [dictN]
theorem putK_len2 (kvs : List (Key × V)) (k : Key) (v : V) : (putK kvs k v).length = if (valV kvs k).isSome = true then kvs.length else kvs.length + 1 := by
  unfold putK
  rw [valV_any]
  split <;> simp
theorem dictN_in (s : Str) (l : List Str) : (valV (dictN l) (.inr s)).isSome = decide (s ∈ l) := by
  obtain ⟨n, hn⟩ : ∃ n, l.length = n := ⟨_, rfl⟩
  induction n generalizing l with
  | zero =>
    rw [List.length_eq_zero_iff.mp hn]
    rfl
  | succ n ih =>
    rcases List.eq_nil_or_concat l with rfl | ⟨r, x, h⟩
    · simp at hn
    · have e : l = r ++ [x] := by simpa using h
      subst e
      rw [dictN_snoc, valV_put]
      by_cases hx : (.inr s : Key) = .inr x
      · have : s = x := Sum.inr.inj hx
        rw [if_pos hx]
        simp [this]
      · rw [if_neg hx, ih r (by simpa using hn)]
        have : s ≠ x := fun z => hx (by rw [z])
        simp [this]
theorem dictN_le (l : List Str) : (dictN l).length ≤ l.length ∧ (decide ((dictN l).length = l.length) = decide l.Nodup) := by
  obtain ⟨n, hn⟩ : ∃ n, l.length = n := ⟨_, rfl⟩
  induction n generalizing l with
  | zero =>
    rw [List.length_eq_zero_iff.mp hn]
    exact ⟨Nat.le_refl _, by decide⟩
  | succ n ih =>
    rcases List.eq_nil_or_concat l with rfl | ⟨r, x, h⟩
    · simp at hn
    · have e : l = r ++ [x] := by simpa using h
      subst e
      obtain ⟨i1, i2⟩ := ih r (by simpa using hn)
      rw [dictN_snoc, putK_len2, dictN_in]
      by_cases hx : x ∈ r
      · rw [if_pos (by simpa using hx)]
        refine ⟨by simp; omega, ?_⟩
        rw [decide_eq_decide]
        constructor
        · intro z
          simp at z
          omega
        · intro z
          exact absurd hx fun hx => (List.nodup_append.mp z).2.2 x hx x (by simp) rfl
      · rw [if_neg (by simpa using hx)]
        refine ⟨by simp; omega, ?_⟩
        rw [decide_eq_decide] at i2 ⊢
        simp only [List.length_append, List.length_singleton]
        rw [List.nodup_append]
        constructor
        · intro z
          refine ⟨i2.mp (by omega), by simp, fun a ha b hb z2 => ?_⟩
          have : b = x := by simpa using hb
          rw [z2, this] at ha
          exact hx ha
        · intro z
          have := i2.mpr z.1
          omega
inductive It9 where
  | pair (nm : PyData) (L : List Str) (rs : List Rl)
  | one (d : PyData)
  | wrd (s : Str)
def it9D : It9 → PyData
  | .pair nm L rs => .tuple [nm, rulesD L rs]
  | .one d => .tuple [d]
  | .wrd s => .str s
def rulesB (L : List Str) (rs : List Rl) : Bool := decide (1 ≤ rs.length) && rs.all fun r => goodD L (.tuple r.1)
def it9B : It9 → Bool
  | .pair nm L rs => isName nm && rulesB L rs
  | _ => false
def it9N : It9 → Str
  | .pair (.str s) _ _ => s
  | _ => ""
structure It9Ok (i : It9) : Prop where
  ok : ∀ nm L rs, i = .pair nm L rs → smallD nm = true ∧ LitsOk L ∧ rs.length ≤ 20 ∧ ∀ r ∈ rs, RuleP L r
def macB (is : List It9) : Bool := decide (1 ≤ is.length ∧ is.length ≤ 12) && (is.all it9B && decide (is.map it9N).Nodup)
section
variable {P : Program} {w : World} {K : PySem.W.Frag} {mg : Str → Option Value} {base : Heap} {f f2 : Addr} {fd fd2 : FuncData} {C CB CM : Addr} {L : List Str}
/-- what are_macros is asked of -/
inductive MacQ (K : PySem.W.Frag) (H : Hp) : V → Bool → Prop where
  | non {v : V} {d : PyData} (h : Dp K H v d) (t : dTup d = false) : MacQ K H v false
  | dict {a : Addr} {kvs : List (Key × V)} (h : H a = some (.dK kvs)) : MacQ K H (.ref a) false
  | tup {v : V} {is : List It9} (h : Dp K H v (.tuple (is.map it9D))) (l : is.length ≤ 1000) (o : ∀ i ∈ is, It9Ok i) : MacQ K H v (macB is)
def sp_are_macros (K : PySem.W.Frag) : Sp := fun vs H Q _ => ∃ v b, vs = [v] ∧ MacQ K H v b ∧ ∀ H', Same H H' → Q (.bl b) H'
theorem wt_chain {X : Cx} {a b c : Expr} {op op' : CmpOp} {r r' : R2} {σ : L2.St} {H : Hp} {pos : Pos} {QT : Bool → Hp → Prop} (ho : OpR X (compareOp op) r) (ho' : OpR X (compareOp op') r')
    (q : WE X a σ H fun x H1 => WE X b σ H1 fun y H2 => r x y H2 fun z H3 => ∃ k, z = .bl k ∧ (if k = true then WE X c σ H3 fun w' H4 => r' y w' H4 fun v H5 => ∃ k, v = .bl k ∧ QT k H5 else ∃ k', V.bl false = .bl k' ∧ QT k' H3))
    (hm : lastMarks [op, op'] [b, c] = false := by with_unfolding_all rfl) : WT X (.Compare a [op, op'] [b, c] pos) σ H QT := .of (pt_chain ho ho' pe pe pe hm) q
theorem sq38 : FnScope ["thing", "pair"] ["thing"] (defScope (top 38)) := ⟨rfl, rfl, rfl, by decide +kernel, rfl, by decide +kernel, by decide +kernel⟩
theorem ok_are_macros (F : FnP K "are_macros" 38 f fd) (hm : mg "are_macros" = some (.ref f)) (mi : mg "isinstance" = none) (ml : mg "len" = none) (mtu : BTy mg "tuple" "tuple") (DN : Def P w K mg base 1 "is_name" (sp_is_name K)) (DR : ∀ L, LitsOk L → Def P w K mg base 49 "are_rules" (sp_are_rules K L)) :
    Def P w K mg base 50 "are_macros" (sp_are_macros K) := by
  refine Def.mk' F hm sq38 (fun vs H Q E h => ?_) (fun _ _ _ _ _ _ us hl => match us, hl with | [_], _ => rfl) (fun cdv A outer s H vs Q E hr tk h => ?_)
  · obtain ⟨v, b, rfl, _⟩ := h
    rfl
  · obtain ⟨v, b, rfl, hq, q⟩ := h
    have nd := sq38.nd
    cases hq with
    | @dict a kvs hk =>
      refine wb_cons (ws_if (wt_ww (ww_or (wt_not (wt_val ?_)))))
      refine we_callB call_isi (by rfl) mi boot_isinstance ?_
      keq_hits
      refine ⟨.ref a, .ty "tuple", .type "dict", .type "tuple", false, rfl, .ty "tuple", .base (.dK hk), kit_ty (by decide +kernel), ?_⟩
      keq_hits
      refine i_ift rfl ?_
      refine i_ift rfl ?_
      keq_hits
      exact q _ (Same.refl _)
    | non hd ht =>
      keq_hits
      rw [ht]
      refine i_ift rfl ?_
      refine i_ift rfl ?_
      keq_hits
      exact q _ (Same.refl _)
    | @tup _ is hd hl ho =>
      have hd0 := hd
      obtain ⟨a, xs, rfl, hx, hxs⟩ := dp_tup hd
      keq_hits
      refine i_iff rfl ?_
      keq_hits
      have lx := dpAll_len hxs
      rw [List.length_map] at lx
      refine wt_mono (QT := fun k H' => k = decide (1 ≤ is.length ∧ is.length ≤ 12) ∧ H' = H) (fun k H' ⟨e1, e2⟩ => ?_) (wt_chain op_le op_le ?_)
      rotate_left
      · keq_hits
        refine i_ite (fun e => ?_) (fun e => ?_)
        · keq_hits
          refine ⟨?_, rfl⟩
          have := of_decide_eq_true e
          simp only [List.length_map] at this ⊢
          rw [decide_eq_decide]
          omega
        · refine ⟨_, rfl, ?_, rfl⟩
          have := of_decide_eq_false e
          simp only [List.length_map] at this
          rw [eq_comm, decide_eq_false_iff_not]
          omega
      subst e1 e2
      cases hsz : decide (1 ≤ is.length ∧ is.length ≤ 12) with
      | false =>
        refine i_ift rfl ?_
        keq_hits
        have z := q _ (Same.refl _)
        rw [macB, hsz, Bool.false_and] at z
        exact z
      | true =>
        refine i_iff rfl ?_
        keq_hits
        refine ws_forI (g := gName 1) (walk_tup (K := K) (a := a) (xs := xs)) passes_bx rfl (pi_tup pe) (by k_memK) ?_ iTup_mono
        show WP.WE _ _ _ _ _
        keq_hits
        refine ⟨a, rfl, ⟨_, hx⟩, rfl, fun i σ H1 => Same H' H1 ∧ (∃ o, σ = [some (.ref a), o]) ∧ ∀ j ∈ is.take i, it9B j = true, ⟨Same.refl _, ⟨_, rfl⟩, fun r hr => by simp at hr⟩, fun i σ H1 _ h => h.1.tup hx, ?_, ?_⟩
        · rintro i x σ H4 H5 hi ⟨s4, ⟨o, rfl⟩, hgood⟩ ⟨rfl, hxi⟩
          obtain ⟨di, hdi, hdx⟩ := dpAll_atv hxs hxi
          rw [List.getElem?_map] at hdi
          cases e : is[i]? with
          | none => rw [e] at hdi; cases hdi
          | some j =>
            rw [e] at hdi
            cases hdi
            have hj := ho j (List.mem_of_getElem? e)
            have dx4 := WP.dp_mono s4 hdx
            have done : it9B j = false → ∀ H6, Same H5 H6 → Q (.bl false) H6 := fun ej H6 s6 => by
              have z := q H6 (s4.trans s6)
              have ea : is.all it9B = false := by
                rw [List.all_eq_false]
                exact ⟨j, List.mem_of_getElem? e, by simp [ej]⟩
              rw [macB, ea, Bool.false_and, Bool.and_false] at z
              exact z
            show WP.WB _ _ _ _ _
            keq_hits
            cases j with
            | wrd z =>
              refine i_ift rfl ?_
              refine i_ift rfl ?_
              keq_hits
              exact done rfl _ (Same.refl _)
            | one d =>
              refine i_iff rfl ?_
              keq_hits
              refine wt_cmp op_ne rfl ?_
              keq_hits
              refine ⟨rfl, i_bl (i_ift rfl (i_ift rfl ?_))⟩
              keq_hits
              exact done rfl _ (Same.refl _)
            | pair nme Lr rs =>
              obtain ⟨hj1, hj2, hj3, hj4⟩ := hj.ok nme Lr rs rfl
              obtain ⟨pa, y0, y1, rfl, hP, dp0, dp1⟩ := dp_two hdx
              have DA := DR Lr hj2
              refine i_iff rfl ?_
              keq_hits
              refine wt_cmp op_ne rfl ?_
              keq_hits
              refine ⟨rfl, i_bl (i_iff rfl ?_)⟩
              keq_hits
              refine we_ix ix_tup plainIx_int ?_
              keq_hits
              refine i_ixT (s4.tup hP) atI0 ?_
              keq_hits
              refine ⟨_, nme, rfl, WP.dp_mono s4 dp0, hj1, fun H6 s6 => ?_⟩
              keq_hits
              cases en : isName nme with
              | false =>
                refine i_ift rfl (i_ift rfl ?_)
                keq_hits
                exact done (by simp [it9B, en]) _ s6
              | true =>
                refine i_iff rfl ?_
                keq_hits
                refine we_ix ix_tup plainIx_int ?_
                keq_hits
                have s46 := s4.trans s6
                refine i_ixT (s46.tup hP) atI1 ?_
                keq_hits
                refine ⟨_, rs, rfl, WP.dp_mono s46 dp1, hj3, hj4, fun H7 s7 => ?_⟩
                keq_hits
                have eb : (decide (1 ≤ rs.length) && rs.all fun r => goodD Lr (.tuple r.1)) = rulesB Lr rs := rfl
                rw [eb]
                cases er : rulesB Lr rs with
                | false =>
                  refine i_ift rfl ?_
                  keq_hits
                  exact done (by simp [it9B, er]) _ (s6.trans s7)
                | true =>
                  refine i_iff rfl ?_
                  keq_hits
                  refine ⟨s46.trans s7, ⟨_, rfl⟩, fun j hj => ?_⟩
                  rw [List.take_add_one, e] at hj
                  rcases List.mem_append.mp hj with hj | hj
                  · exact hgood j hj
                  · have : j = .pair nme Lr rs := by simpa using hj
                    rw [this]
                    simp [it9B, en, er]
        · rintro σ H4 ⟨s4, ⟨o, rfl⟩, hgood⟩
          show WP.WB _ _ _ _ _
          have hall : is.all it9B = true := by
            rw [List.take_of_length_le (by omega)] at hgood
            exact List.all_eq_true.mpr hgood
          keq_hits
          refine we_cmp op_eq rfl ?_
          keq_hits
          refine we_dc rfl nd (pi_tup pe) (blkOk_by (N := ["thing", "pair"]) (sc := defScope (top 38)) (own := [("pair", 1)]) (by decide +kernel)) (fun _ _ _ _ _ => by k_memK) ?_
          show WP.WE _ _ _ _ _
          keq_hits
          have hx2 := s4.tup hx
          refine ⟨a, rfl, ⟨_, hx2⟩, fun D2 hD2 => dc_it walk_tup (fun i H3 => Same H4 H3 ∧ H3 D2 = some (.dK (dictN ((is.map it9N).take i)))) ⟨Same.new hD2, upd_same⟩ (fun i H3 _ h => h.1.tup hx2) ?_ fun H3 h3 => ?_⟩
          · rintro i x H3 H5 hi ⟨s3, h3⟩ ⟨rfl, hxi⟩
            refine ⟨rfl, ?_⟩
            unfold tYes
            refine i_ift rfl ?_
            obtain ⟨di, hdi, hdx⟩ := dpAll_atv hxs hxi
            rw [List.getElem?_map] at hdi
            cases e : is[i]? with
            | none => rw [e] at hdi; cases hdi
            | some j =>
              rw [e] at hdi
              cases hdi
              have hjb := List.all_eq_true.mp hall j (List.mem_of_getElem? e)
              obtain ⟨z, Lr, rs, rfl⟩ : ∃ z Lr rs, j = .pair (.str z) Lr rs := by
                cases j with
                | one d => cases hjb
                | wrd s => cases hjb
                | pair nme Lr rs =>
                  cases nme with
                  | str z => exact ⟨z, Lr, rs, rfl⟩
                  | _ => cases hjb
              obtain ⟨pa, y0, y1, rfl, hP, dp0, dp1⟩ := dp_two hdx
              cases dp_str dp0
              intro s0 H0 C0 cl fp
              refine we_ix ix_tup plainIx_int ?_
              keq_hits
              refine i_ixT ((s4.trans s3).tup hP) atI0 ?_
              intro s0 H0 C0 cl fp
              keq_hits
              have hd3 := (dictN_le ((is.map it9N).take i)).1
              rw [List.length_take] at hd3
              refine ⟨_, .inr z, rfl, h3, by show _ < 16777216; omega, s3.mut hD2, ?_⟩
              rw [upd_same, List.take_add_one, List.getElem?_map, e]
              exact congrArg (fun q => some (HO.dK q)) (dictN_snoc _ _).symm
          · obtain ⟨s3, h3⟩ := h3
            keq_hits
            refine i_lenK h3 ?_
            keq_hits
            have hx3 := s3.tup hx2
            refine i_lenT hx3 ?_
            refine ⟨rfl, ?_⟩
            rw [List.take_of_length_le (by rw [List.length_map]; omega)]
            have z := q _ (s4.trans s3)
            have e9 := (dictN_le (is.map it9N)).2
            rw [List.length_map] at e9
            rw [macB, hsz, hall, ← e9] at z
            have e8 : decide (V.int (((dictN (is.map it9N)).length : Nat) : Int) = V.int ((xs.length : Nat) : Int)) = decide ((dictN (is.map it9N)).length = is.length) := by
              rw [decide_eq_decide]
              constructor
              · intro y
                have y2 := V.int.inj y
                omega
              · intro y
                rw [y, lx]
            rw [e8]
            exact z
def sp_check_macros (K : PySem.W.Frag) (CN : Addr) : Sp := fun vs H Q E => ∃ v b, vs = [v] ∧ MacQ K H v b ∧ (b = true → ∀ H', Same H H' → Q .non H') ∧ (b = false → ∀ H', Same H H' → E (.ref CN) none H')
theorem sq39 : FnScope ["thing"] ["thing"] (defScope (top 39)) := ⟨rfl, rfl, rfl, by decide +kernel, rfl, by decide +kernel, by decide +kernel⟩
theorem ok_check_macros {CN : Addr} (F : FnP K "check_macros" 39 f fd) (hm : mg "check_macros" = some (.ref f)) (Er : ErrC P w K mg base 1 "NoRules" CN) (D : Def P w K mg base 50 "are_macros" (sp_are_macros K)) : Def P w K mg base 51 "check_macros" (sp_check_macros K CN) := by
  refine Def.mk' F hm sq39 (fun vs H Q E h => ?_) (fun _ _ _ _ _ _ us hl => match us, hl with | [_], _ => rfl) (fun cdv A outer s H vs Q E hr tk h => ?_)
  · obtain ⟨v, b, rfl, _⟩ := h
    rfl
  · obtain ⟨v, b, rfl, hq, q1, q2⟩ := h
    have nd := sq39.nd
    keq_hits
    refine ⟨_, b, rfl, hq, fun H1 s1 => ?_⟩
    keq_hits
    cases b with
    | true =>
      refine i_iff rfl ?_
      keq_hits
      exact q1 rfl _ s1
    | false =>
      refine i_ift rfl ?_
      keq_hits
      refine ws_raise Er (Room.mono hr (by omega)) rfl tk rfl ?_
      exact q2 rfl _ s1
end
end
section
/-! ### weights -/
mutual
def wgt : PyData → Nat
  | .tuple ds => 1 + wgts ds
  | _ => 1
def wgts : List PyData → Nat
  | [] => 0
  | d :: ds => (if isRep d || repHd ds then 0 else wgt d) + wgts ds
end
mutual
theorem wgt_le : ∀ d, wgt d ≤ dsize d
  | .none => Nat.le_refl _
  | .bool _ => Nat.le_refl _
  | .int _ => Nat.le_refl _
  | .str _ => Nat.le_refl _
  | .list _ => by simp [wgt, dsize]
  | .dict _ => by simp [wgt, dsize]
  | .tuple ds => by
    have := wgts_le ds
    simp only [wgt, dsize]
    omega
theorem wgts_le : ∀ ds, wgts ds ≤ dsizes ds
  | [] => Nat.le_refl _
  | d :: ds => by
    have h1 := wgts_le ds
    have h2 := wgt_le d
    simp only [wgts, dsizes]
    split <;> omega
end
theorem repHd_drop' {ds : List PyData} {i : Nat} : repHd (ds.drop i) = ((ds[i]?.map isRep).getD false) := repHd_drop
section
variable {P : Program} {w : World} {K : PySem.W.Frag} {mg : Str → Option Value} {base : Heap} {f f2 : Addr} {fd fd2 : FuncData} {C CB CM : Addr} {L : List Str}
def sp_weight (K : PySem.W.Frag) (n : Nat) : Sp := fun vs H Q _ => ∃ v d, vs = [v] ∧ Dp K H v d ∧ formB d = true ∧ ddep d ≤ n + 1 ∧ n ≤ 50 ∧ dsize d ≤ 3000 ∧ ∀ H', Same H H' → Q (.int ((wgt d : Nat) : Int)) H'
theorem sq40 : FnScope ["form", "found", "at", "part", "is_repeated"] ["form"] (defScope (top 40)) := ⟨rfl, rfl, rfl, by decide +kernel, rfl, by decide +kernel, by decide +kernel⟩
theorem ok_weight (F : FnP K "weight" 40 f fd) (hm : mg "weight" = some (.ref f)) (mi : mg "isinstance" = none) (ml : mg "len" = none) (me : mg "enumerate" = none) (mtu : BTy mg "tuple" "tuple") (mR : ∃ t, mg "REPEAT" = some (.str "..." t)) (n : Nat)
    (DN : ∀ m, m < n → Def P w K mg base (m + 1) "weight" (sp_weight K m)) : Def P w K mg base (n + 1) "weight" (sp_weight K n) := by
  refine Def.mk' F hm sq40 (fun vs H Q E h => ?_) (fun _ _ _ _ _ _ us hl => match us, hl with | [_], _ => rfl) (fun cdv A outer s H vs Q E hr tk h => ?_)
  · obtain ⟨v, d, rfl, _⟩ := h
    rfl
  · obtain ⟨v, d, rfl, hd, hf, hdp, hn50, hz, q⟩ := h
    have nd := sq40.nd
    have hd0 := hd
    keq_hits
    by_cases htup : ∃ es, d = .tuple es
    · obtain ⟨ds, rfl⟩ := htup
      obtain ⟨a, xs, rfl, hx, hxs⟩ := dp_tup hd
      have hfs : formBs ds = true := hf
      have hdd : ddeps ds ≤ n := by simp only [ddep] at hdp; omega
      have lx := dpAll_len hxs
      refine i_iff rfl ?_
      keq_hits
      refine ws_forI (walk_enumT (K := K) (a := a) (xs := xs)) passes_bx rfl (pi_enumT (by rfl) me pa) (by k_memK) ?_ iEnumT_mono
      show WP.WA _ _ _ _ _
      keq_hits
      refine ⟨a, xs, rfl, hx, rfl, fun i σ H' => (∃ r2 r3 r4 acc, σ = [some (.ref a), some (.int ((acc : Nat) : Int)), r2, r3, r4] ∧ acc + wgts (ds.drop i) = 1 + wgts ds) ∧ Same H H',
        ⟨⟨_, _, _, 1, rfl, rfl⟩, Same.refl _⟩, fun i σ H' _ h => h.2.tup hx, ?_, ?_⟩
      · rintro i x' σ H1 H2 hi ⟨⟨r2, r3, r4, acc, rfl, hacc⟩, s1⟩ ⟨T, y, rfl, hT1, rfl, hy⟩
        refine i_two (SqT.of upd_same) ?_
        have s2 : Same H1 (upd H1 T (.tup [.int (i : Nat), y])) := Same.new hT1
        generalize upd H1 T (.tup [.int (i : Nat), y]) = H2 at s2 ⊢
        have s02 := s1.trans s2
        obtain ⟨d, hd1, hd2⟩ := dpAll_atv hxs hy
        have hil : i < ds.length := by omega
        have ed : ds.drop i = d :: ds.drop (i + 1) := by
          rw [List.drop_eq_getElem_cons hil]
          rw [List.getElem?_eq_getElem hil] at hd1
          cases hd1
          rfl
        have dm := List.mem_of_getElem? hd1
        have hfd := formBs_mem hfs dm
        have hdpd : ddep d ≤ n := by have := ddeps_le dm; omega
        rw [ed, wgts] at hacc
        have hx2 := s02.tup hx
        have dd2 := WP.dp_mono s02 hd2
        refine wb_cons (ws_set 4 nd rfl (by k_clsL) ?_)
        refine WE.mono (Q := fun v H' => v = .bl (isRep d || repHd (ds.drop (i + 1))) ∧ H' = H2) ?_ (fun v6 H6 ⟨ev6, eH6⟩ => ?_)
        · refine we_or ?_
          refine we_cmp (op_eqD hr.units) rfl ?_
          keq_hits
          refine ⟨_, _, dd2, .str "...", shaped_form hfd (by omega), by decide +kernel, ?_⟩
          rw [eqv_rep]
          keq_hits
          refine i_ite (fun e1 => ?_) (fun e1 => ?_)
          · rw [e1]
            exact ⟨rfl, rfl⟩
          · rw [e1, Bool.false_or, repHd_drop']
            keq_hits
            refine we_op op_add ?_
            keq_hits
            refine i_ite (fun e2 => ?_) (fun e2 => ?_)
            · have hj : i + 1 < ds.length := by have := of_decide_eq_true e2; omega
              obtain ⟨z, hz1', hz2'⟩ := dpAll_at hxs (List.getElem?_eq_getElem hj)
              have hfz : formB ds[i + 1] = true := formBs_mem hfs (List.getElem_mem hj)
              have hdz : ddep ds[i + 1] ≤ n := by have := ddeps_le (List.getElem_mem hj); omega
              keq_hits
              refine we_cmp (op_eqD hr.units) rfl ?_
              keq_hits
              refine we_ix ix_tup plainIx_op ?_
              keq_hits
              refine we_op op_add ?_
              keq_hits
              refine i_ixT (v := z) hx2 (by rw [show (i : Int) + 1 = ((i + 1 : Nat) : Int) by omega]; exact L2.atI_nat hz1') ?_
              keq_hits
              refine ⟨_, _, WP.dp_mono s02 hz2', .str "...", shaped_form hfz (by omega), by decide +kernel, ?_, rfl⟩
              rw [eqv_rep, List.getElem?_eq_getElem hj]
              rfl
            · have hj : ds.length ≤ i + 1 := by have := of_decide_eq_false e2; omega
              rw [List.getElem?_eq_none hj]
              exact ⟨rfl, rfl⟩
        subst ev6 eH6
        show WP.WB _ _ _ _ _
        have hzd : dsize d ≤ 3000 := by
          have := dsizes_mem dm
          simp only [dsize] at hz
          omega
        cases hrr : isRep d || repHd (ds.drop (i + 1)) with
        | true =>
          rw [hrr] at hacc
          keq_hits
          refine i_ift rfl ?_
          keq_hits
          have e0 : V.int ((acc : Int) + 0) = V.int ((acc : Nat) : Int) := by rw [Int.add_zero]
          exact ⟨⟨_, _, _, acc, by rw [← e0]; rfl, by simpa using hacc⟩, s02⟩
        | false =>
          rw [hrr] at hacc
          obtain ⟨m, rfl⟩ : ∃ m, n = m + 1 := ⟨n - 1, by have := ddep_pos d; omega⟩
          have D := DN m (by omega)
          keq_hits
          refine i_iff rfl ?_
          keq_hits
          refine ⟨_, d, rfl, dd2, hfd, hdpd, by omega, hzd, fun H7 s7 => ?_⟩
          keq_hits
          have e0 : V.int ((acc : Int) + ((wgt d : Nat) : Int)) = V.int ((acc + wgt d : Nat) : Int) := by rw [Int.natCast_add]
          refine ⟨⟨_, _, _, acc + wgt d, by rw [← e0]; rfl, by simp only [Bool.false_eq_true, if_false] at hacc; omega⟩, s02.trans s7⟩
      · rintro σ H1 ⟨⟨r2, r3, r4, acc, rfl, hacc⟩, s1⟩
        show WP.WB _ _ _ _ _
        rw [List.drop_of_length_le (by omega)] at hacc
        simp only [wgts, Nat.add_zero] at hacc
        keq_hits
        rw [hacc]
        exact q _ s1
    · have e1 : dTup d = false := by
        cases d <;> first | rfl | exact absurd ⟨_, rfl⟩ htup
      rw [e1]
      refine i_ift rfl ?_
      keq_hits
      have e2 : wgt d = 1 := by
        cases d <;> first | rfl | exact absurd ⟨_, rfl⟩ htup
      have z := q _ (Same.refl _)
      rw [e2] at z
      exact z
theorem ok_weights (F : FnP K "weight" 40 f fd) (hm : mg "weight" = some (.ref f)) (mi : mg "isinstance" = none) (ml : mg "len" = none) (me : mg "enumerate" = none) (mtu : BTy mg "tuple" "tuple") (mR : ∃ t, mg "REPEAT" = some (.str "..." t)) :
    ∀ n, Def P w K mg base (n + 1) "weight" (sp_weight K n) := by
  intro n
  induction n using Nat.strongRecOn with
  | _ n ih => exact ok_weight F hm mi ml me mtu mR n ih
end
end
section
/-! ### how often words stand how deep -/
mutual
def wds : PyData → Nat → List (Str × Nat)
  | .str s, l => [(s, l)]
  | .tuple ds, l => wdss ds l
  | _, _ => []
def wdss : List PyData → Nat → List (Str × Nat)
  | [], _ => []
  | d :: ds, l => (if isRep d then [] else wds d (l + if repHd ds then 1 else 0)) ++ wdss ds l
end
mutual
theorem wds_len : ∀ (d : PyData) (l : Nat), (wds d l).length ≤ dsize d
  | .none, _ => Nat.zero_le _
  | .bool _, _ => Nat.zero_le _
  | .int _, _ => Nat.zero_le _
  | .str _, _ => by simp [wds, dsize]
  | .list _, _ => Nat.zero_le _
  | .dict _, _ => Nat.zero_le _
  | .tuple ds, l => by
    have := wdss_len ds l
    simp only [wds, dsize]
    omega
theorem wdss_len : ∀ (ds : List PyData) (l : Nat), (wdss ds l).length ≤ dsizes ds
  | [], _ => Nat.zero_le _
  | d :: ds, l => by
    have h1 := wdss_len ds l
    simp only [wdss, dsizes, List.length_append]
    split
    · simp
      omega
    · have h2 := wds_len d (l + if repHd ds then 1 else 0)
      omega
end
def kyT (p : Str × Nat) : List Key := [.inr p.1, .inl (p.2 : Int)]
theorem kyT_inj {p q : Str × Nat} (h : kyT p = kyT q) : p = q := by
  obtain ⟨a, b⟩ := p
  obtain ⟨c, d⟩ := q
  simp only [kyT, List.cons.injEq, Sum.inr.injEq, Sum.inl.injEq, and_true] at h
  obtain ⟨h1, h2⟩ := h
  rw [h1, Int.ofNat.inj h2]
structure CntOf (kvs : List (List Key × V)) (ws : List (Str × Nat)) : Prop where
  val : ∀ p, valV kvs (kyT p) = if p ∈ ws then some (.int ((ws.count p : Nat) : Int)) else none
  keys : ∀ kv ∈ kvs, ∃ p, kv.1 = kyT p ∧ p ∈ ws
  len : kvs.length ≤ ws.length
theorem CntOf.nil : CntOf [] [] := ⟨fun p => rfl, fun kv h => absurd h (by simp), Nat.le_refl _⟩
theorem CntOf.perm {kvs : List (List Key × V)} {ws ws' : List (Str × Nat)} (c : CntOf kvs ws) (h : ws.Perm ws') : CntOf kvs ws' := by
  refine ⟨fun p => ?_, fun kv hk => ?_, by rw [← h.length_eq]; exact c.len⟩
  · rw [c.val p, h.count_eq p]
    simp only [h.mem_iff]
  · obtain ⟨p, e, hp⟩ := c.keys kv hk
    exact ⟨p, e, h.mem_iff.mp hp⟩
theorem CntOf.put {kvs : List (List Key × V)} {ws : List (Str × Nat)} (c : CntOf kvs ws) (p : Str × Nat) : CntOf (putK kvs (kyT p) (.int ((ws.count p + 1 : Nat) : Int))) (ws ++ [p]) := by
  refine ⟨fun q => ?_, fun kv hk => ?_, ?_⟩
  · rw [valV_put]
    by_cases h : kyT q = kyT p
    · rw [if_pos h]
      have := kyT_inj h
      subst this
      rw [if_pos (by simp), List.count_append]
      simp
    · rw [if_neg h, c.val q]
      have hne : q ≠ p := fun z => h (by rw [z])
      have hne' : ¬ p = q := fun z => hne z.symm
      simp [hne, List.count_append, List.count_singleton, hne']
  · unfold putK at hk
    split at hk
    · obtain ⟨kv0, h0, e0⟩ := List.mem_map.mp hk
      obtain ⟨q, eq, hq⟩ := c.keys kv0 h0
      refine ⟨q, ?_, List.mem_append_left _ hq⟩
      rw [← e0]
      split <;> exact eq
    · rcases List.mem_append.mp hk with hk | hk
      · obtain ⟨q, eq, hq⟩ := c.keys kv hk
        exact ⟨q, eq, List.mem_append_left _ hq⟩
      · rw [List.mem_singleton.mp hk]
        exact ⟨p, rfl, by simp⟩
  · have := c.len
    unfold putK
    split <;> simp <;> omega
theorem CntOf.get {kvs : List (List Key × V)} {ws : List (Str × Nat)} (c : CntOf kvs ws) (p : Str × Nat) : (valV kvs (kyT p)).getD (.int 0) = .int ((ws.count p : Nat) : Int) := by
  rw [c.val p]
  by_cases h : p ∈ ws
  · rw [if_pos h]
    rfl
  · rw [if_neg h, List.count_eq_zero.mpr h]
    rfl
theorem CntOf.mem {kvs : List (List Key × V)} {ws : List (Str × Nat)} (c : CntOf kvs ws) {p : Str × Nat} (h : p ∈ ws) : ∃ v, (kyT p, v) ∈ kvs := by
  have e := valV_any (kyT p) kvs
  rw [c.val p, if_pos h] at e
  obtain ⟨kv, h1, h2⟩ := List.any_eq_true.mp e
  exact ⟨kv.2, by rw [← of_decide_eq_true h2]; exact h1⟩
def wEs (es : List En) : List (Str × Nat) := es.flatMap fun e => wds e.d e.k
theorem wEs_app (a b : List En) : wEs (a ++ b) = wEs a ++ wEs b := by simp [wEs]
section
variable {P : Program} {w : World} {K : PySem.W.Frag} {mg : Str → Option Value} {base : Heap} {f f2 : Addr} {fd fd2 : FuncData} {C CB CM : Addr} {L : List Str}
def sp_often (K : PySem.W.Frag) : Sp := fun vs H Q _ => ∃ v d, vs = [v, .int ((0 : Nat) : Int)] ∧ Dp K H v d ∧ formB d = true ∧ ddep d ≤ 50 ∧ dsize d ≤ 3000 ∧ ∀ p kvs H', Same H H' → H p = none → H' p = some (.dT kvs) → CntOf kvs (wds d 0) → Q (.ref p) H'
theorem sq41 : FnScope ["form", "deep", "found", "waiting", "here", "level", "at", "part", "more"] ["form", "deep"] (defScope (top 41)) := ⟨rfl, rfl, rfl, by decide +kernel, rfl, by decide +kernel, by decide +kernel⟩
structure FnE (K : PySem.W.Frag) (H H' : Hp) (e : En) : Prop where
  en : EnOk K H H' e
  f : formB e.d = true
  s : ddep e.d ≤ 50
theorem fnE_upd {H H' : Hp} {a : Addr} {o o' : HO} {e : En} (h : FnE K H H' e) (hl : H' a = some o) (ho : ∀ xs, o ≠ .tup xs) : FnE K H (upd H' a o') e := ⟨⟨by rw [upd_ne (ne_of h.en.tu hl (fun z => ho _ z.symm))]; exact h.en.tu, h.en.dp⟩, h.f, h.s⟩
theorem fnE_same {H H' H2 : Hp} {e : En} (h : FnE K H H' e) (s : Same H' H2) : FnE K H H2 e := ⟨enOk_same h.en s, h.f, h.s⟩
theorem ok_often (F : FnP K "often" 41 f fd) (hm : mg "often" = some (.ref f)) (mi : mg "isinstance" = none) (ml : mg "len" = none) (me : mg "enumerate" = none) (mtu : BTy mg "tuple" "tuple") (mst : BTy mg "str" "str") (mint : BTy mg "int" "int") (mR : ∃ t, mg "REPEAT" = some (.str "..." t)) :
    Def P w K mg base 3 "often" (sp_often K) := by
  refine Def.mk' F hm sq41 (fun vs H Q E h => ?_) (fun _ _ _ _ _ _ us hl => match us, hl with | [_, _], _ => rfl) (fun cdv A outer s H vs Q E hr tk h => ?_)
  · obtain ⟨v, d, rfl, _⟩ := h
    rfl
  · obtain ⟨v, d, rfl, hd, hf, hdp, hz, q⟩ := h
    have nd := sq41.nd
    refine wb_cons (ws_par 2 3 rfl nd rfl rfl (by decide) rfl rfl (by rfl) ?_)
    refine .of pe_dnewT fun fo hfo => ?_
    keq_hits
    refine ⟨by show 2 ≤ sizeLine; decide, fun p1 hp1 => ?_⟩
    keq_hits
    refine ⟨by show 1 ≤ sizeLine; decide, fun l hl => ?_⟩
    have s0 : Same H (upd H fo (.dT [])) := Same.new hfo
    have sA : Same H (upd (upd (upd H fo (.dT [])) p1 (.tup [v, .int ((0 : Nat) : Int)])) l (.lst [.ref p1])) := s0.trans ((Same.new hp1).trans (Same.new hl))
    have hpA : upd (upd (upd H fo (.dT [])) p1 (.tup [v, .int ((0 : Nat) : Int)])) l (.lst [.ref p1]) fo = some (.dT []) := Same.new hl _ _ (Same.new hp1 _ _ upd_same)
    have htA : upd (upd (upd H fo (.dT [])) p1 (.tup [v, .int ((0 : Nat) : Int)])) l (.lst [.ref p1]) p1 = some (.tup [v, .int ((0 : Nat) : Int)]) := Same.new hl _ _ upd_same
    have hlA : upd (upd (upd H fo (.dT [])) p1 (.tup [v, .int ((0 : Nat) : Int)])) l (.lst [.ref p1]) l = some (.lst [.ref p1]) := upd_same
    have hl0 : H l = none := new_of (s0.trans (Same.new (o := .tup [v, .int ((0 : Nat) : Int)]) hp1)) hl
    have lp : l ≠ fo := fun z => by rw [z, (Same.new (o := .tup [v, .int ((0 : Nat) : Int)]) hp1) _ _ (upd_same (o := .dT []))] at hl; cases hl
    generalize upd (upd (upd H fo (.dT [])) p1 (.tup [v, .int ((0 : Nat) : Int)])) l (.lst [.ref p1]) = HA at sA hpA htA hlA ⊢
    keq_hits
    refine ws_whileW passes_bx (fun m σ H' => ∃ (es : List En) (kvs : List (List Key × V)) (fl : List (Str × Nat)) (r : List (Option V)), σ = [some v, some (.int ((0 : Nat) : Int)), some (.ref fo), some (.ref l)] ++ r ∧ r.length = 5 ∧ Same H H' ∧ H' l = some (.lst (es.map fun e => V.ref e.a)) ∧ H' fo = some (.dT kvs) ∧
      (∀ e ∈ es, FnE K H H' e) ∧ esz es ≤ 3000 ∧ m = esz es ∧ (wds d 0).Perm (fl ++ wEs es) ∧ CntOf kvs fl) ?_ ?_
    · refine ⟨_, [⟨p1, v, d, 0⟩], [], [], [_, _, _, _, _], rfl, rfl, sA, hlA, hpA, ?_, ?_, rfl, ?_, CntOf.nil⟩
      · intro e he
        rw [List.mem_singleton.mp he]
        exact ⟨⟨htA, hd⟩, hf, hdp⟩
      · simp [esz]; omega
      · simp [wEs]
    · rintro m σ H1 ⟨es, kvs, fl, r, rfl, hr5, s1, hl1, hf1, hes, hz1, rfl, hw, hc⟩
      match r, hr5 with
      | [r0, r1, r2, r3, r4], _ =>
      keq_hits
      refine i_lenLt hl1 ?_
      keq_hits
      refine i_ite (fun e => ?_) (fun e => ?_)
      · obtain ⟨es', en, rfl⟩ : ∃ es' en, es = es' ++ [en] := by
          rcases List.eq_nil_or_concat es with rfl | ⟨es', en, h⟩
          · simp at e
          · exact ⟨es', en, by simpa using h⟩
        keq_hits
        have hen := hes en (by simp)
        have hl2 : H1 l = some (.lst ((es'.map fun e => V.ref e.a) ++ [V.ref en.a])) := by rw [hl1]; simp
        refine i_lstT hl1 (i_pop hl2 ?_)
        have s2 : Same H (upd H1 l (.lst (es'.map fun e => V.ref e.a))) := s1.mut hl0
        have hl3 : upd H1 l (.lst (es'.map fun e => V.ref e.a)) l = some (.lst (es'.map fun e => V.ref e.a)) := upd_same
        have hf3 : upd H1 l (.lst (es'.map fun e => V.ref e.a)) fo = some (.dT kvs) := by rw [upd_ne lp.symm]; exact hf1
        have hes3 : ∀ e ∈ es', FnE K H (upd H1 l (.lst (es'.map fun e => V.ref e.a))) e := fun e he => fnE_upd (hes e (by simp [he])) hl1 (fun _ z => nomatch z)
        have ten := (fnE_upd (o' := .lst (es'.map fun e => V.ref e.a)) hen hl1 (fun _ z => nomatch z)).en.tu
        have dp0 := hen.en.dp
        have hz3 : esz (es' ++ [en]) = esz es' + dsize en.d := by rw [esz_append]; simp [esz]
        have hff := hen.f
        have hss := hen.s
        have hw3 : (wds d 0).Perm (fl ++ (wEs es' ++ wds en.d en.k)) := by rw [wEs_app] at hw; simpa [wEs] using hw
        generalize upd H1 l (.lst (es'.map fun e => V.ref e.a)) = H3 at s2 hl3 hf3 hes3 ten ⊢
        clear hes hen hl1 hl2 hw
        rw [hz3] at hz1
        refine i_two (SqT.of ten) ?_
        obtain ⟨ea, ev, ed, ek⟩ := en
        have dd2 := WP.dp_mono s2 dp0
        have pz := dsize_pos ed
        show WP.WB _ _ _ _ _
        keq_hits
        by_cases htup : ∃ es, ed = .tuple es
        · obtain ⟨ds, rfl⟩ := htup
          obtain ⟨b, ys, rfl, hb0, hys⟩ := dp_tup dp0
          refine i_ift rfl ?_
          keq_hits
          refine ws_forI (walk_enumT (K := K) (a := b) (xs := ys)) passes_bx rfl (pi_enumT (by rfl) me pa) (by k_memK) ?_ iEnumT_mono
          show WP.WA _ _ _ _ _
          have lny := dpAll_len hys
          have hfs : formBs ds = true := hff
          have hdd : ddeps ds ≤ 50 := by
            have z : ddep (PyData.tuple ds) ≤ 50 := hss
            simp only [ddep] at z
            omega
          have z3 : esz es' + (dsizes ds + 1) ≤ 3000 := by
            have z2 : esz es' + dsize (PyData.tuple ds) ≤ 3000 := hz1
            simpa only [dsize] using z2
          keq_hits
          refine ⟨b, ys, rfl, s2.tup hb0, rfl, fun i σ H' => ∃ (es1 : List En) (r6 r7 r8 : Option V), σ = [some v, some (.int ((0 : Nat) : Int)), some (.ref fo), some (.ref l), some (.ref b), some (.int (ek : Int)), r6, r7, r8] ∧ Same H H' ∧ H' l = some (.lst ((es' ++ es1).map fun e => V.ref e.a)) ∧ H' fo = some (.dT kvs) ∧ (∀ e ∈ es' ++ es1, FnE K H H' e) ∧ esz es1 ≤ dsizes (ds.take i) ∧ wEs es1 ++ wdss (ds.drop i) ek = wdss ds ek,
            ⟨[], _, _, _, rfl, s2, by rw [List.append_nil]; exact hl3, hf3, by rw [List.append_nil]; exact hes3, by simp [esz], by simp [wEs]⟩, fun i σ H' _ ⟨_, _, _, _, _, s, _⟩ => s.tup hb0, ?_, ?_⟩
          · rintro i x' σ H4 H5 hi ⟨es1, r6, r7, r8, rfl, s4, hl4, hf4, hes4, hz4, hw4⟩ ⟨T, y, rfl, hT4, rfl, hy⟩
            refine i_two (SqT.of upd_same) ?_
            have s45 : Same H4 (upd H4 T (.tup [.int (i : Nat), y])) := Same.new hT4
            have s5 := s4.trans s45
            generalize upd H4 T (.tup [.int (i : Nat), y]) = H5 at s45 s5 ⊢
            obtain ⟨d, hd1, hd2⟩ := dpAll_atv hys hy
            have hil : i < ds.length := by omega
            have hzt : dsizes (ds.take (i + 1)) = dsizes (ds.take i) + dsize d := by
              rw [List.take_add_one, hd1, dsizes_app]
              simp [dsizes]
            have edr : ds.drop i = d :: ds.drop (i + 1) := by
              rw [List.drop_eq_getElem_cons hil]
              rw [List.getElem?_eq_getElem hil] at hd1
              cases hd1
              rfl
            rw [edr, wdss] at hw4
            have dm := List.mem_of_getElem? hd1
            have hfd := formBs_mem hfs dm
            have hdpd : ddep d ≤ 50 := by have := ddeps_le dm; omega
            have dd5 := WP.dp_mono s5 hd2
            have hb5 := s5.tup hb0
            have hl5 := s45 _ _ hl4
            have hf5 := s45 _ _ hf4
            have hes5 : ∀ e ∈ es' ++ es1, FnE K H H5 e := fun e he => fnE_same (hes4 e he) s45
            refine wb_one (ws_if ?_)
            refine wt_cmp (op_neD hr.units) rfl ?_
            keq_hits
            refine ⟨_, _, dd5, .str "...", shaped_form hfd (by omega), by decide +kernel, i_bl ?_⟩
            rw [eqv_rep]
            cases hrp : isRep d with
            | true =>
              rw [hrp] at hw4
              refine i_iff rfl ?_
              keq_hits
              exact ⟨es1, _, _, _, rfl, s5, hl5, hf5, hes5, by rw [hzt]; omega, by simpa using hw4⟩
            | false =>
              rw [hrp] at hw4
              refine i_ift rfl ?_
              refine wb_cons (ws_set 8 nd rfl (by k_clsL) ?_)
              refine WE.mono (Q := fun v H' => v = .bl (repHd (ds.drop (i + 1))) ∧ H' = H5) ?_ (fun v6 H6 ⟨ev6, eH6⟩ => ?_)
              · rw [repHd_drop]
                keq_hits
                refine we_op op_add ?_
                keq_hits
                refine i_ite (fun e1 => ?_) (fun e1 => ?_)
                · have hj : i + 1 < ds.length := by have := of_decide_eq_true e1; omega
                  obtain ⟨z, hz1', hz2'⟩ := dpAll_at hys (List.getElem?_eq_getElem hj)
                  have hfz : formB ds[i + 1] = true := formBs_mem hfs (List.getElem_mem hj)
                  have hdz : ddep ds[i + 1] ≤ 50 := by have := ddeps_le (List.getElem_mem hj); omega
                  keq_hits
                  refine we_cmp (op_eqD hr.units) rfl ?_
                  keq_hits
                  refine we_ix ix_tup plainIx_op ?_
                  keq_hits
                  refine we_op op_add ?_
                  keq_hits
                  refine i_ixT (v := z) hb5 (by rw [show (i : Int) + 1 = ((i + 1 : Nat) : Int) by omega]; exact L2.atI_nat hz1') ?_
                  keq_hits
                  refine ⟨_, _, WP.dp_mono s5 hz2', .str "...", shaped_form hfz (by omega), by decide +kernel, ?_, rfl⟩
                  rw [eqv_rep, List.getElem?_eq_getElem hj]
                  rfl
                · have hj : ds.length ≤ i + 1 := by have := of_decide_eq_false e1; omega
                  rw [List.getElem?_eq_none hj]
                  exact ⟨rfl, rfl⟩
              subst ev6 eH6
              show WP.WB _ _ _ _ _
              keq_hits
              refine i_lstT hl5 ?_
              keq_hits
              refine we_op op_add ?_
              keq_hits
              refine we_callTy call_int1 (by rfl) mint.m mint.b ?_
              keq_hits
              refine .inr ⟨_, rfl, ?_⟩
              keq_hits
              refine ⟨by show 2 ≤ sizeLine; decide, fun p8 hp8 => ?_⟩
              have eint : ((ek : Int) + if repHd (ds.drop (i + 1)) = true then 1 else 0) = ((ek + (if repHd (ds.drop (i + 1)) = true then 1 else 0) : Nat) : Int) := by
                cases repHd (ds.drop (i + 1)) <;> simp
              rw [eint]
              keq_hits
              have s8 : Same H6 (upd H6 p8 (.tup [y, .int ((ek + (if repHd (ds.drop (i + 1)) = true then 1 else 0) : Nat) : Int)])) := Same.new hp8
              have h8 : upd H6 p8 (.tup [y, .int ((ek + (if repHd (ds.drop (i + 1)) = true then 1 else 0) : Nat) : Int)]) p8 = some (.tup [y, .int ((ek + (if repHd (ds.drop (i + 1)) = true then 1 else 0) : Nat) : Int)]) := upd_same
              generalize upd H6 p8 (.tup [y, .int ((ek + (if repHd (ds.drop (i + 1)) = true then 1 else 0) : Nat) : Int)]) = H8 at s8 h8 ⊢
              have hl8 := s8 _ _ hl5
              have hf8 := s8 _ _ hf5
              have zl := esz_len (es' ++ es1)
              rw [esz_append] at zl
              have zt : dsizes (ds.take i) ≤ dsizes ds := by
                have z := dsizes_app (ds.take i) (ds.drop i)
                rw [List.take_append_drop] at z
                omega
              refine i_append hl8 (by show _ < 16777216; rw [List.length_map]; omega) ?_
              keq_hits
              refine ⟨es1 ++ [⟨p8, y, d, ek + (if repHd (ds.drop (i + 1)) = true then 1 else 0)⟩], _, _, _, rfl, (s5.trans s8).mut hl0, ?_, by rw [upd_ne lp.symm]; exact hf8, fun e he => ?_, ?_, ?_⟩
              · rw [upd_same]
                simp
              · refine fnE_upd ?_ hl8 (fun _ z => nomatch z)
                rw [← List.append_assoc] at he
                rcases List.mem_append.mp he with he | he
                · exact fnE_same (hes5 e he) s8
                · rw [List.mem_singleton.mp he]
                  exact ⟨⟨h8, hd2⟩, hfd, hdpd⟩
              · rw [esz_append, hzt]
                have : esz [(⟨p8, y, d, ek + (if repHd (ds.drop (i + 1)) = true then 1 else 0)⟩ : En)] = dsize d := by simp [esz]
                omega
              · rw [wEs_app, List.append_assoc]
                simpa [wEs] using hw4
          · rintro σ H4 ⟨es1, r6, r7, r8, rfl, s4, hl4, hf4, hes4, hz4, hw4⟩
            show WP.WB _ _ _ _ _
            keq_hits
            rw [List.take_of_length_le (by omega)] at hz4
            rw [List.drop_of_length_le (by omega)] at hw4
            simp only [wdss, List.append_nil] at hw4
            refine ⟨esz (es' ++ es1), ?_, es' ++ es1, kvs, fl, [_, _, _, _, _], rfl, rfl, s4, hl4, hf4, hes4, ?_, rfl, ?_, hc⟩
            · rw [hz3, esz_append]
              show _ < _ + dsize (PyData.tuple ds)
              simp only [dsize]
              omega
            · rw [esz_append]
              omega
            · rw [wEs_app, hw4]
              exact hw3
        · have e1 : dTup ed = false := by
            cases ed <;> first | rfl | exact absurd ⟨_, rfl⟩ htup
          refine i_iff e1 ?_
          keq_hits
          by_cases hstr : ∃ s, ed = .str s
          · obtain ⟨s, rfl⟩ := hstr
            cases dd2
            refine i_ift rfl ?_
            refine wb_one (ws_dput hr ?_)
            refine we_op op_add ?_
            refine we_get2 hr ⟨rfl, rfl, rfl, rfl⟩ ?_
            keq_hits
            refine ⟨fo, rfl, .inr ⟨_, .inl hf3⟩, ?_⟩
            keq_hits
            refine ⟨by show 2 ≤ sizeLine; decide, fun p6 hp6 => ?_⟩
            have s6 : Same H3 (upd H3 p6 (.tup [.str s, .int (ek : Int)])) := Same.new hp6
            have h6 : upd H3 p6 (.tup [.str s, .int (ek : Int)]) p6 = some (.tup [.str s, .int (ek : Int)]) := upd_same
            generalize upd H3 p6 (.tup [.str s, .int (ek : Int)]) = H6 at s6 h6 ⊢
            have hf6 := s6 _ _ hf3
            keq_hits
            refine ⟨_, DGet.t (k := kyT (s, ek)) hf6 h6, ?_⟩
            rw [hc.get (s, ek)]
            keq_hits
            refine ⟨by show 2 ≤ sizeLine; decide, fun p7 hp7 => ?_⟩
            have s7 : Same H6 (upd H6 p7 (.tup [.str s, .int (ek : Int)])) := Same.new hp7
            have h7 : upd H6 p7 (.tup [.str s, .int (ek : Int)]) p7 = some (.tup [.str s, .int (ek : Int)]) := upd_same
            generalize upd H6 p7 (.tup [.str s, .int (ek : Int)]) = H7 at s7 h7 ⊢
            have hf7 := s7 _ _ hf6
            have hlen : kvs.length ≤ 3000 := by
              have z1 := hc.len
              have z2 := hw3.length_eq
              have z3 := wds_len d 0
              rw [List.length_append] at z2
              omega
            have ei : V.int (((fl.count (s, ek) : Nat) : Int) + 1) = V.int ((fl.count (s, ek) + 1 : Nat) : Int) := rfl
            rw [ei]
            refine ⟨fo, _, rfl, DPut.t (k := kyT (s, ek)) hf7 h7 (by show kvs.length < 16777216; omega), ?_⟩
            keq_hits
            have hl7 := s7 _ _ (s6 _ _ hl3)
            refine ⟨esz es', by rw [hz3]; show _ < _ + dsize (PyData.str s); omega, es', _, fl ++ [(s, ek)], _, rfl, rfl, (s2.trans (s6.trans s7)).mut hfo, by rw [upd_ne lp]; exact hl7, upd_same, fun e he => fnE_upd (fnE_same (hes3 e he) (s6.trans s7)) hf7 (fun _ z => nomatch z), by omega, rfl, ?_, hc.put (s, ek)⟩
            refine hw3.trans ?_
            rw [List.append_assoc]
            exact List.Perm.append_left fl List.perm_append_comm
          · have e2 : dStr ed = false := by
              cases ed <;> first | rfl | exact absurd ⟨_, rfl⟩ hstr
            refine i_iff e2 ?_
            keq_hits
            have e3 : wds ed ek = [] := by
              cases ed <;> first | rfl | exact absurd ⟨_, rfl⟩ hstr | exact absurd ⟨_, rfl⟩ htup
            have hw5 : (wds d 0).Perm (fl ++ wEs es') := by
              have z : (wds d 0).Perm (fl ++ (wEs es' ++ wds ed ek)) := hw3
              rw [e3, List.append_nil] at z
              exact z
            exact ⟨esz es', by rw [hz3]; show _ < _ + dsize ed; omega, es', kvs, fl, _, rfl, rfl, s2, hl3, hf3, hes3, by omega, rfl, hw5, hc⟩
      · have : es = [] := by
          cases es with
          | nil => rfl
          | cons x r => simp at e
        subst this
        keq_hits
        have hw3 : (wds d 0).Perm fl := by simpa [wEs] using hw
        exact q fo kvs _ s1 hfo hf1 (hc.perm hw3.symm)
end
end
section
/-! ### uses in a template -/
def headIn (ns : List Str) : List PyData → Bool
  | .str s :: _ => decide (s ∈ ns)
  | _ => false
mutual
def usD (ns : List Str) : PyData → List PyData
  | .tuple ds => (if headIn ns ds then [.tuple ds] else []) ++ usDs ns ds
  | _ => []
def usDs (ns : List Str) : List PyData → List PyData
  | [] => []
  | d :: ds => usD ns d ++ usDs ns ds
end
theorem usDs_app (ns : List Str) : ∀ a b, usDs ns (a ++ b) = usDs ns a ++ usDs ns b
  | [], b => by simp [usDs]
  | d :: a, b => by simp [usDs, usDs_app ns a b]
mutual
theorem usD_len (ns : List Str) : ∀ d, (usD ns d).length ≤ dsize d
  | .none => Nat.zero_le _
  | .bool _ => Nat.zero_le _
  | .int _ => Nat.zero_le _
  | .str _ => Nat.zero_le _
  | .list _ => Nat.zero_le _
  | .dict _ => Nat.zero_le _
  | .tuple ds => by
    have := usDs_len ns ds
    simp only [usD, dsize, List.length_append]
    split <;> simp <;> omega
theorem usDs_len (ns : List Str) : ∀ ds, (usDs ns ds).length ≤ dsizes ds
  | [] => Nat.zero_le _
  | d :: ds => by
    have h1 := usD_len ns d
    have h2 := usDs_len ns ds
    simp only [usDs, dsizes, List.length_append]
    omega
end
theorem dpAll_rev {K : PySem.W.Frag} {H : Hp} : ∀ {xs : List V} {ds : List PyData}, DpAll K H xs ds → DpAll K H xs.reverse ds.reverse
  | _, _, .nil => .nil
  | _, _, .cons h g => by
    rw [List.reverse_cons, List.reverse_cons]
    exact dpAll_app (dpAll_rev g) (.cons h .nil)
section
variable {P : Program} {w : World} {K : PySem.W.Frag} {mg : Str → Option Value} {base : Heap} {f f2 : Addr} {fd fd2 : FuncData} {C CB CM : Addr} {L : List Str}
theorem dsizes_rev : ∀ ds : List PyData, dsizes ds.reverse = dsizes ds
  | [] => rfl
  | d :: ds => by
    rw [List.reverse_cons, dsizes_app, dsizes_rev ds]
    simp [dsizes]
    omega
theorem ws_cut {X : Cx} {st : Stmt} {D : Ends} {σ : L2.St} {H : Hp} (Z : L2.St → Hp → Prop) (h : WS X st { D with nx := Z } σ H) (k : ∀ σ' H', Z σ' H' → D.nx σ' H') : WS X st D σ H :=
  ⟨fun pins s I => wpAny_mono (h.run pins s I) (fun fl s' q => by
    cases fl with
    | next =>
      obtain ⟨σ', H', I', z⟩ := q
      exact ⟨σ', H', I', k _ _ z⟩
    | _ => exact q) (fun _ _ q => q)⟩
theorem we_rev {X : Cx} {e : Expr} {k : Nat} {p1 p2 p3 pos : Pos} {σ : L2.St} {H : Hp} {Q : VK} (q : WE X e σ H fun x H1 => ∃ a xs, x = .ref a ∧ SqL X.K H1 a xs ∧ ∀ p, H1 p = none → Q (.ref p) (upd H1 p (.lst xs.reverse))) : WE X (.Subscript e (.Slice none none (some (.UnaryOp .USub (.Constant (.int 1) k p1) p2)) p3) pos) σ H Q := .of (pe_revL pe) q
def sp_uses (K : PySem.W.Frag) : Sp := fun vs H Q _ => ∃ v d na ns, vs = [v, .ref na] ∧ Dp K H v d ∧ dsize d ≤ 3000 ∧ H na = some (.lst (ns.map V.str)) ∧ ∀ p us H', Same H H' → H p = none → H' p = some (.lst us) → DpAll K H us (usD ns d) → Q (.ref p) H'
theorem sq42 : FnScope ["template", "names", "found", "waiting", "here"] ["template", "names"] (defScope (top 42)) := ⟨rfl, rfl, rfl, by decide +kernel, rfl, by decide +kernel, by decide +kernel⟩
theorem ok_uses (F : FnP K "uses_in" 42 f fd) (hm : mg "uses_in" = some (.ref f)) (mi : mg "isinstance" = none) (ml : mg "len" = none) (mli : BTy mg "list" "list") (mtu : BTy mg "tuple" "tuple") (mst : BTy mg "str" "str") : Def P w K mg base 3 "uses_in" (sp_uses K) := by
  refine Def.mk' F hm sq42 (fun vs H Q E h => ?_) (fun _ _ _ _ _ _ us hl => match us, hl with | [_, _], _ => rfl) (fun cdv A outer s H vs Q E hr tk h => ?_)
  · obtain ⟨v, d, na, ns, rfl, _⟩ := h
    rfl
  · obtain ⟨v, d, na, ns, rfl, hd, hz, hna, q⟩ := h
    have nd := sq42.nd
    refine wb_cons (ws_par 2 3 rfl nd rfl rfl (by decide) rfl rfl (by rfl) ?_)
    keq_hits
    refine ⟨by show 0 ≤ sizeLine; decide, fun fo hfo => ?_⟩
    keq_hits
    refine ⟨by show 1 ≤ sizeLine; decide, fun l hl => ?_⟩
    have s0 : Same H (upd H fo (.lst [])) := Same.new hfo
    have sA : Same H (upd (upd H fo (.lst [])) l (.lst [v])) := s0.trans (Same.new hl)
    have hfA : upd (upd H fo (.lst [])) l (.lst [v]) fo = some (.lst []) := Same.new hl _ _ upd_same
    have hlA : upd (upd H fo (.lst [])) l (.lst [v]) l = some (.lst [v]) := upd_same
    have hl0 : H l = none := new_of s0 hl
    have lp : l ≠ fo := fun z => by rw [z, upd_same (o := .lst [])] at hl; cases hl
    generalize upd (upd H fo (.lst [])) l (.lst [v]) = HA at sA hfA hlA ⊢
    keq_hits
    refine ws_whileW passes_bx (fun m σ H' => ∃ (xs : List V) (ds : List PyData) (us : List V) (done : List PyData) (r : Option V), σ = [some v, some (.ref na), some (.ref fo), some (.ref l), r] ∧ Same H H' ∧ H' l = some (.lst xs) ∧ H' fo = some (.lst us) ∧
      DpAll K H xs ds ∧ DpAll K H us done ∧ m = dsizes ds ∧ dsizes ds ≤ 3000 ∧ usD ns d = done ++ usDs ns ds.reverse) ?_ ?_
    · exact ⟨_, [v], [d], [], [], none, rfl, sA, hlA, hfA, .cons hd .nil, .nil, rfl, by simp [dsizes]; omega, by simp [usDs]⟩
    · rintro m σ H1 ⟨xs, ds, us, done, r, rfl, s1, hl1, hf1, hds, hus, rfl, hz1, heq⟩
      keq_hits
      refine i_lenLt hl1 ?_
      keq_hits
      refine i_ite (fun e => ?_) (fun e => ?_)
      · obtain ⟨xs', x, ds', dd, rfl, rfl, hds', hdx⟩ := dpAll_last hds (fun z => by rw [z] at e; simp at e)
        keq_hits
        refine i_lstT hl1 (i_pop hl1 ?_)
        have s2 : Same H (upd H1 l (.lst xs')) := s1.mut hl0
        have hl2 : upd H1 l (.lst xs') l = some (.lst xs') := upd_same
        have hf2 : upd H1 l (.lst xs') fo = some (.lst us) := by rw [upd_ne lp.symm]; exact hf1
        generalize upd H1 l (.lst xs') = H2 at s2 hl2 hf2 ⊢
        have hz2 : dsizes (ds' ++ [dd]) = dsizes ds' + dsize dd := by rw [dsizes_app]; simp [dsizes]
        have heq2 : usD ns d = done ++ (usD ns dd ++ usDs ns ds'.reverse) := by rw [heq, List.reverse_append]; simp [usDs]
        rw [hz2] at hz1
        have pz := dsize_pos dd
        have dd2 := WP.dp_mono s2 hdx
        have hna2 := s2 _ _ hna
        keq_hits
        by_cases htup : ∃ es, dd = .tuple es
        · obtain ⟨es, rfl⟩ := htup
          obtain ⟨b, ys, rfl, hb0, hys⟩ := dp_tup hdx
          have hb2 := s2.tup hb0
          have ly := dpAll_len hys
          refine i_ift rfl ?_
          have hze : dsize (.tuple es) = dsizes es + 1 := by simp only [dsize]
          have ldone : done.length ≤ 3000 := by
            have z1 := congrArg List.length heq2
            have z2 := usD_len ns d
            rw [List.length_append] at z1
            omega
          refine wb_cons (ws_cut (fun σ' H3 => σ' = [some v, some (V.ref na), some (V.ref fo), some (V.ref l), some (V.ref b)] ∧ ∃ us' done', Same H H3 ∧ H3 l = some (.lst xs') ∧ H3 fo = some (.lst us') ∧ DpAll K H us' done' ∧ usD ns d = done' ++ (usDs ns es ++ usDs ns ds'.reverse)) ?_ ?_)
          · refine ws_if (wt_mono (QT := fun k H' => k = headIn ns es ∧ H' = H2) (fun k H' ⟨e1, e2⟩ => ?_) ?_)
            rotate_left
            · keq_hits
              refine i_ite (fun e3 => ?_) (fun e3 => ?_)
              · obtain ⟨d0, es', rfl⟩ : ∃ d0 es', es = d0 :: es' := by
                  cases es with
                  | nil => simp at e3
                  | cons a b => exact ⟨_, _, rfl⟩
                obtain ⟨y0, ys', rfl, h0⟩ : ∃ y0 ys', ys = y0 :: ys' ∧ Dp K H y0 d0 := by
                  cases hys with
                  | cons h0 hr => exact ⟨_, _, rfl, h0⟩
                have dd0 := WP.dp_mono s2 h0
                keq_hits
                refine we_ix ix_tup plainIx_int ?_
                keq_hits
                refine i_ixT hb2 atI0 ?_
                keq_hits
                by_cases hstr : ∃ s, d0 = .str s
                · obtain ⟨s, rfl⟩ := hstr
                  cases dd0
                  refine i_ift rfl ?_
                  keq_hits
                  refine wt_cmp op_in_seq rfl ?_
                  refine we_ix ix_tup plainIx_int ?_
                  keq_hits
                  refine i_ixT hb2 atI0 ?_
                  keq_hits
                  refine ⟨na, _, rfl, .inl (SqL.of hna2), rfl, flat_strs ns, i_bl ⟨?_, rfl⟩⟩
                  simp only [Bool.false_eq_true, if_false]
                  rw [inV_strs]
                  rfl
                · have e5 : dStr d0 = false := by
                    cases d0 <;> first | rfl | exact absurd ⟨_, rfl⟩ hstr
                  refine i_iff e5 ?_
                  refine ⟨?_, rfl⟩
                  cases d0 <;> first | rfl | exact absurd ⟨_, rfl⟩ hstr
              · have : es = [] := by
                  cases es with
                  | nil => rfl
                  | cons a b => simp at e3
                subst this
                exact ⟨rfl, rfl⟩
            subst e1 e2
            refine i_ite (fun e3 => ?_) (fun e3 => ?_)
            · keq_hits
              refine i_lstT hf2 ?_
              keq_hits
              have lus := dpAll_len hus
              refine i_append hf2 (by show _ < 16777216; omega) ?_
              keq_hits
              refine ⟨rfl, _, done ++ [.tuple es], s2.mut hfo, by rw [upd_ne lp]; exact hl2, upd_same, dpAll_snoc hus hdx, ?_⟩
              rw [heq2]
              simp [usD, e3]
            · keq_hits
              refine ⟨rfl, _, done, s2, hl2, hf2, hus, ?_⟩
              rw [heq2]
              simp [usD, e3]
          · rintro σ' H3 ⟨rfl, us', done', s3, hl3, hf3, hus3, heq3⟩
            show WP.WB _ _ _ _ _
            keq_hits
            refine i_lstT hl3 ?_
            keq_hits
            refine we_rev ?_
            refine we_callTy call_list_of (by rfl) mli.m mli.b ?_
            keq_hits
            refine ⟨b, ys, rfl, .inr (s3.tup hb0), fun p4 hp4 => ?_⟩
            have s4 : Same H3 (upd H3 p4 (.lst ys)) := Same.new hp4
            have h4 : upd H3 p4 (.lst ys) p4 = some (.lst ys) := upd_same
            generalize upd H3 p4 (.lst ys) = H4 at s4 h4 ⊢
            refine ⟨p4, ys, rfl, SqL.of h4, fun p5 hp5 => ?_⟩
            have s5 : Same H4 (upd H4 p5 (.lst ys.reverse)) := Same.new hp5
            have h5 : upd H4 p5 (.lst ys.reverse) p5 = some (.lst ys.reverse) := upd_same
            generalize upd H4 p5 (.lst ys.reverse) = H5 at s5 h5 ⊢
            have hl5 := s5 _ _ (s4 _ _ hl3)
            have hf5 := s5 _ _ (s4 _ _ hf3)
            keq_hits
            have lx' := dpAll_len hds'
            have zl := dsizes_len ds'
            have zl2 := dsizes_len es
            refine i_extend hl5 h5 (by show _ ≤ 16777216; rw [List.length_reverse]; omega) ?_
            keq_hits
            have er : dsizes es.reverse = dsizes es := dsizes_rev es
            refine ⟨dsizes (ds' ++ es.reverse), by rw [dsizes_app, er]; omega, xs' ++ ys.reverse, ds' ++ es.reverse, us', done', _, rfl, (s3.trans (s4.trans s5)).mut hl0, upd_same, by rw [upd_ne lp.symm]; exact hf5, dpAll_app hds' (dpAll_rev hys), hus3, rfl, by rw [dsizes_app, er]; omega, ?_⟩
            rw [heq3, List.reverse_append, List.reverse_reverse, usDs_app]
        · have e1 : dTup dd = false := by
            cases dd <;> first | rfl | exact absurd ⟨_, rfl⟩ htup
          refine i_iff e1 ?_
          keq_hits
          have e3 : usD ns dd = [] := by
            cases dd <;> first | rfl | exact absurd ⟨_, rfl⟩ htup
          rw [e3, List.nil_append] at heq2
          exact ⟨dsizes ds', by omega, xs', ds', us, done, _, rfl, s2, hl2, hf2, hds', hus, rfl, by omega, heq2⟩
      · have e0 : xs = [] := by
          cases xs with
          | nil => rfl
          | cons a b => simp at e
        subst e0
        cases hds
        keq_hits
        have e4 : usD ns d = done := by simpa [usDs] using heq
        exact q fo us _ s1 hfo hf1 (by rw [e4]; exact hus)
end
end
section
/-! ### less than was there -/
section
variable {X : Cx} {σ : L2.St} {H : Hp} {D : Ends} {Q : VK} {kx vx tg iter c : Expr} {scope : Scope} {own : List (Str × Nat)} {pos spos py : Pos} {y : Str} {wi : TI} {g : TG}
theorem we_dcI (hc : X.calm = true) (hN : X.N.Nodup) (hi : PI X tg iter wi) (ok : BlkOk X.N X.env.scope scope own)
    (hg : ∀ (s : Shared) (H : Hp) (C : Addr) (cl : List (Str × Addr)) (fp : List Addr), PG (X.blk s H scope (compEnvC scope cl C X.env) fp) tg g)
    (h : tDc wi g (ttC X scope [c]) (teC X scope kx) (teC X scope vx) (own.map (·.2)) σ H Q) (hs : ∀ x, foldedSetIterable iter X.env x = pure x := by intro _; rfl) : WE X (.DictComp kx vx [⟨tg, iter, [c], 0⟩] scope pos) σ H Q :=
  .of (pe_dc hc hN hi ok hg (fun s H C cl fp => pts_one (ttC_pt s H C cl fp)) (fun s H C cl fp => teC_pe s H C cl fp) (fun s H C cl fp => teC_pe s H C cl fp) hs) h
theorem sw_trueD {gs : List Comprehension} {l : Nat} {env : Env} (hk : env.scope.kind = .function) (hy : env.scope.names.lookup y = some .local) (hl : (py.line == pos.line) = true)
    (ha : (scope.names.any fun (n, k) => n == y && (k == .local || k == .cell)) = false) : swapsWith (.DictComp kx vx gs scope pos) (some (.Name y py)) l env = pure true := by
  have ky : env.kindOf y = some .local := hy
  have hb : env.blockKind = .function := by unfold Env.blockKind; rw [hk]; rfl
  unfold swapsWith
  simp only [hb, ky, ha, Expr.pos, hl]
  rfl
theorem ps_setDc {i : Nat} {ifs : List Expr} {tt : TT} {tk tv : TE} (hc : X.calm = true) (hN : X.N.Nodup) (hy : X.N[i]? = some y) (hyl : X.env.scope.names.lookup y = some .local)
    (hsw : swapsWith (.DictComp kx vx [⟨tg, iter, ifs, 0⟩] scope pos) (some (.Name y py)) spos.line X.env = pure true) (hi : PI X tg iter wi) (ok : BlkOk X.N X.env.scope scope own)
    (hg : ∀ (s : Shared) (H : Hp) (C : Addr) (cl : List (Str × Addr)) (fp : List Addr), PG (X.blk s H scope (compEnvC scope cl C X.env) fp) tg g) (ht : ∀ (s : Shared) (H : Hp) (C : Addr) (cl : List (Str × Addr)) (fp : List Addr), PTs (X.blk s H scope (compEnvC scope cl C X.env) fp) ifs tt)
    (hk : ∀ (s : Shared) (H : Hp) (C : Addr) (cl : List (Str × Addr)) (fp : List Addr), PE (X.blk s H scope (compEnvC scope cl C X.env) fp) kx tk)
    (he : ∀ (s : Shared) (H : Hp) (C : Addr) (cl : List (Str × Addr)) (fp : List Addr), PE (X.blk s H scope (compEnvC scope cl C X.env) fp) vx tv) (hs : ∀ x, foldedSetIterable iter X.env x = pure x := by intro _; rfl) :
    PS X (.Assign [.Name y py] (.DictComp kx vx [⟨tg, iter, ifs, 0⟩] scope pos) spos) (tAsg (tDc wi g tt tk tv (own.map (·.2))) (gName i)) := by
  refine ⟨fun pins s σ H D I h => ?_⟩
  rw [exec_Assign_Name_used _ _ _ _ hsw]
  refine wpAny_bind (wpAny_standAt (wpAny_bind ?_))
  show wpAny _ X.A (do let _ ← comprehension (.DictComp kx vx [⟨tg, iter, ifs, 0⟩] scope pos) scope X.env (firstIterPos [⟨tg, iter, ifs, 0⟩] pos) newDict false (eval iter X.env) (some (assign (.Name y py) X.env))) _ _ s
  have h : tDc wi g tt tk tv (own.map (·.2)) σ H (fun x H1 => gName i x σ H1 D.nx) := h
  refine wpAny_bind (thn (dc_core (Qf := fun _ s' => SP X pins D .next s') hc hN I hi ok hg ht hk he hs h fun L C s' m H' I' q hn f => ?_) fun _ s' hq => wpAny_pure (wpAny_pure hq))
  show wpAny _ _ (assign (.Name y py) X.env (.ref L)) _ _ _
  refine wpAny_assign_Name (store_ok2 (v := V.ref L) I' hN hy (.inl hyl) rfl (fun s2 I2 ⟨a, sb, ha⟩ => ?_) (.inr hyl))
  obtain ⟨f0, f1, f2, f3, f4, f5⟩ := f
  have haC : C ≠ a := by
    rcases ha with z | z
    · rw [z]; exact f1
    · exact fun e => f4 y a z e.symm
  refine ⟨m, hn.sameBut sb haC, fun h3 sb3 => ?_⟩
  exact ⟨_, H', I2.turned (t' := s2.toks) (fun b o hb e => (sb3.2 b hb).trans e) f0 f1 f3 f4 f5, q⟩
theorem ws_dcI (i : Nat) (hc : X.calm = true) (hN : X.N.Nodup) (hy : X.N[i]? = some y) (hk : X.env.scope.kind = .function) (hyl : X.env.scope.names.lookup y = some .local) (hl : (py.line == pos.line) = true)
    (ha : (scope.names.any fun (n, k) => n == y && (k == .local || k == .cell)) = false) (hi : PI X tg iter wi) (ok : BlkOk X.N X.env.scope scope own)
    (hg : ∀ (s : Shared) (H : Hp) (C : Addr) (cl : List (Str × Addr)) (fp : List Addr), PG (X.blk s H scope (compEnvC scope cl C X.env) fp) tg g)
    (h : tDc wi g (ttC X scope [c]) (teC X scope kx) (teC X scope vx) (own.map (·.2)) σ H fun v H1 => D.nx (σ.set i (some v)) H1) (hs : ∀ x, foldedSetIterable iter X.env x = pure x := by intro _; rfl) :
    WS X (.Assign [.Name y py] (.DictComp kx vx [⟨tg, iter, [c], 0⟩] scope pos) spos) D σ H :=
  .of (ps_setDc hc hN hy hyl (sw_trueD hk hyl hl ha) hi ok hg (fun s H C cl fp => pts_one (ttC_pt s H C cl fp)) (fun s H C cl fp => teC_pe s H C cl fp) (fun s H C cl fp => teC_pe s H C cl fp) hs) h
end
section
variable {J : It} {n : Nat} {G : Hp → Prop} {Y : Nat → Hp → V → Hp → Prop} {g : TG} {tt : TT} {tk tv : TE} {vs : List Nat} {σ : L2.St} {H1 : Hp} {D : Addr} {Qd : Hp → Prop}
theorem dc_itI (w : Walk J n G Y) (Pv : Nat → Hp → Prop) (h0 : Pv 0 (upd H1 D (.dK []))) (hG : ∀ i H, i ≤ n → Pv i H → G H)
    (hs : ∀ i x H H', i < n → Pv i H → Y i H x H' → g x (wipe σ vs) H' fun σ2 H2 => wipe σ2 vs = wipe σ vs ∧ tt σ2 H2 fun b H3 =>
      if b = true then tk σ2 H3 fun y H4 => tv σ2 H4 fun z H5 => ∃ kvs k, y = kV k ∧ H5 D = some (.dK kvs) ∧ kvs.length < sizeLine ∧ Pv (i + 1) (upd H5 D (.dK (putK kvs k z))) else Pv (i + 1) H3) (hd : ∀ H, Pv n H → Qd H) :
    ∃ W : Nat → Nat → Hp → Prop, (∃ m, W 0 m (upd H1 D (.dK []))) ∧ ∀ i m H, W i m H →
      (J.stop i H ∧ Qd H) ∨ (J.go i H ∧ ∃ Nx : Hp → Prop, (∀ H', Nx H' → ∃ m', m' < m ∧ W (i + 1) m' H') ∧ ∀ x H', J.yld i H x H' → g x (wipe σ vs) H' fun σ2 H2 => wipe σ2 vs = wipe σ vs ∧ tt σ2 H2 fun b H3 =>
        if b = true then tk σ2 H3 fun y H4 => tv σ2 H4 fun z H5 => ∃ kvs k, y = kV k ∧ H5 D = some (.dK kvs) ∧ kvs.length < sizeLine ∧ Nx (upd H5 D (.dK (putK kvs k z))) else Nx H3) := by
  refine ⟨fun i m H => m + i = n ∧ Pv i H, ⟨n, rfl, h0⟩, fun i m H ⟨hm, p⟩ => ?_⟩
  have q := hG i H (by omega) p
  by_cases hlt : i < n
  · exact .inr ⟨w.goes i H hlt q, Pv (i + 1), fun H' p' => ⟨n - (i + 1), by omega, by omega, p'⟩, fun x H' y => hs i x H H' hlt p (w.yields i H x H' hlt q y)⟩
  · have e : i = n := by omega
    subst e
    exact .inl ⟨w.stops H q, hd H p⟩
end
def nmOf (L : List Str) (ps : List PyData) (s : Str) : Bool := (wdss ps 0).any (fun q => decide (q.1 = s)) && !decide (s ∈ L)
def tooMany (L : List Str) (us ps : List PyData) (p : Str × Nat) : Bool := nmOf L ps p.1 && decide ((wdss ps 0).count p < (wdss us 0).count p)
def lessP (L : List Str) (us ps : List PyData) : Bool := !((wdss us 0).any (tooMany L us ps)) && decide (wgts us < wgts ps)
theorem cutV_tl {α : V} {xs : List V} : cutV (α :: xs) (some 1) none = xs := by
  unfold cutV HT.sIx
  simp
section
variable {P : Program} {w : World} {K : PySem.W.Frag} {mg : Str → Option Value} {base : Heap} {f f2 : Addr} {fd fd2 : FuncData} {C CB CM : Addr} {L : List Str}
def sp_is_less (K : PySem.W.Frag) : Sp := fun vs H Q _ => ∃ vu vp vl h0 us p0 ps L, vs = [vu, vp, vl] ∧ Dp K H vu (.tuple (h0 :: us)) ∧ Dp K H vp (.tuple (p0 :: ps)) ∧ Dp K H vl (.tuple (L.map .str)) ∧
  formBs us = true ∧ formBs ps = true ∧ ddep (.tuple us) ≤ 20 ∧ ddep (.tuple ps) ≤ 20 ∧ dsize (.tuple us) ≤ 3000 ∧ dsize (.tuple ps) ≤ 3000 ∧ L.length ≤ 100 ∧ ∀ H', Same H H' → Q (.bl (lessP L us ps)) H'
theorem sq43 : FnScope ["use", "pattern", "literals", "one", "other", "word", "deep", "names"] ["use", "pattern", "literals"] (defScope (top 43)) := ⟨rfl, rfl, rfl, by decide +kernel, rfl, by decide +kernel, by decide +kernel⟩
theorem CntOf.keyAt {kvs : List (List Key × V)} {ws : List (Str × Nat)} (c : CntOf kvs ws) {p : Str × Nat} (h : p ∈ ws) : ∃ kv ∈ kvs, kv.1 = kyT p := by
  have z := c.val p
  rw [if_pos h] at z
  have a := valV_any (kyT p) kvs
  rw [z] at a
  simp only [Option.isSome_some] at a
  obtain ⟨kv, h1, h2⟩ := List.any_eq_true.mp a
  exact ⟨kv, h1, of_decide_eq_true h2⟩
theorem ok_is_less (F : FnP K "is_less" 43 f fd) (hm : mg "is_less" = some (.ref f)) (DO : Def P w K mg base 3 "often" (sp_often K)) (DW : Def P w K mg base 20 "weight" (sp_weight K 19)) : Def P w K mg base 21 "is_less" (sp_is_less K) := by
  refine Def.mk' F hm sq43 (fun vs H Q E h => ?_) (fun _ _ _ _ _ _ us hl => match us, hl with | [_, _, _], _ => rfl) (fun cdv A outer s H vs Q E hr tk h => ?_)
  · obtain ⟨vu, vp, vl, h0, us, p0, ps, L, rfl, _⟩ := h
    rfl
  · obtain ⟨vu, vp, vl, h0, us, p0, ps, L, rfl, hu, hp, hl, fu, fp, du, dp, zu, zp, hL, q⟩ := h
    have nd := sq43.nd
    obtain ⟨au, xu, xus, rfl, tu, _, dus⟩ := dp_consT hu
    obtain ⟨ap, xp, xps, rfl, tp, _, dps⟩ := dp_consT hp
    obtain ⟨al, ls, rfl, tl, dls⟩ := dp_tup hl
    refine wb_cons (ws_par 3 4 rfl nd rfl rfl (by decide) rfl rfl (by rfl) ?_)
    keq_hits
    refine we_slL sl_tupA ?_
    keq_hits
    refine ⟨_, rfl, i_sl tu fun c1 H1 s1 h1 => ?_⟩
    rw [cutV_tl] at h1
    keq_hits
    refine ⟨_, .tuple us, rfl, .tup h1 (dpAll_mono s1 dus), fu, by omega, zu, fun d1 kv1 H2 s2 hn1 h2 c1' => ?_⟩
    keq_hits
    refine we_slL sl_tupA ?_
    keq_hits
    refine ⟨_, rfl, i_sl ((s1.trans s2).tup tp) fun c2 H3 s3 h3 => ?_⟩
    rw [cutV_tl] at h3
    keq_hits
    refine ⟨_, .tuple ps, rfl, .tup h3 (dpAll_mono (s1.trans (s2.trans s3)) dps), fp, by omega, zp, fun d2 kv2 H4 s4 hn2 h4 c2' => ?_⟩
    have s03 := s1.trans (s2.trans s3)
    have g1 := s4 _ _ (s3 _ _ h2)
    have dls' := dps_strs dls
    subst dls'
    refine wb_cons ?_
    refine ws_dcI (g := gTup K 2 (gCons (gName 5) (gCons (gName 6) gNil))) 7 rfl nd rfl rfl rfl rfl rfl (pi_keys peL) (blkOk_by (N := ["use", "pattern", "literals", "one", "other", "word", "deep", "names"]) (sc := defScope (top 43)) (own := [("word", 5), ("deep", 6)]) (by decide +kernel)) (fun _ _ _ _ _ => by k_memK) ?_
    show WP.WE _ _ _ _ _
    keq_hits
    refine ⟨d2, _, rfl, h4, True.intro, fun od => ⟨d2, od, rfl, .inr ⟨kv2, upd_same, fun D hD => ?_⟩⟩⟩
    have s5 : Same H3 (upd H4 d2 (.frz od (.dT kv2))) := s4.mut hn2
    have f5 : upd H4 d2 (.frz od (.dT kv2)) d2 = some (.frz od (.dT kv2)) := upd_same
    have h3d : H3 d1 = some (.dT kv1) := s3 _ _ h2
    generalize upd H4 d2 (.frz od (.dT kv2)) = H5 at s5 f5 hD ⊢
    have g5 := s5 _ _ h3d
    have tl5 := (s03.trans s5).tup tl
    refine dc_itI (walk_keysT (d := d2) (o := od) (kvs := kv2)) (fun i H' => ∃ kn, Same H5 H' ∧ H' D = some (.dK kn) ∧ kn.length ≤ i ∧ ∀ s, (valV kn (.inr s)).isSome = true ↔ s ∉ L ∧ ∃ kv ∈ kv2.take i, ∃ n, kv.1 = kyT (s, n)) ⟨[], Same.new hD, upd_same, Nat.le_refl _, fun s => by simp [valV]⟩ (fun i H' _ ⟨_, h, _⟩ => h _ _ f5) ?_ (fun H7 h7 => ?_)
    · rintro i x' H6 H6' hi ⟨kn, s6, hk6, hle, hiff⟩ ⟨rfl, k, vv, qa, hkv, rfl, hqa⟩
      have hmem := List.mem_of_getElem? hkv
      obtain ⟨p, hp1, hp2⟩ := c2'.keys _ hmem
      have hp1 : k = kyT p := hp1
      subst hp1
      have etk : kv2.take (i + 1) = kv2.take i ++ [(kyT p, vv)] := by rw [List.take_add_one, hkv]; rfl
      have hqa : H6' qa = some (.tup [.str p.1, .int (p.2 : Int)]) := hqa
      have hlen2 : kv2.length ≤ 3000 := Nat.le_trans c2'.len (Nat.le_trans (wds_len _ _) zp)
      refine i_two (SqT.of hqa) ⟨rfl, ?_⟩
      intro s0 H0 C0 cl0 fp0
      refine wt_cmp op_notIn_seq rfl ?_
      keq_hits
      refine ⟨al, _, rfl, .inr (s6.tup tl5), rfl, flat_strs L, i_bl ?_⟩
      rw [if_pos rfl, inV_strs]
      cases hin : decide (p.1 ∈ L) with
      | true =>
        refine i_iff rfl ⟨kn, s6, hk6, by omega, fun s => ?_⟩
        rw [hiff s, etk]
        constructor
        · rintro ⟨a, kv, hkv1, n, e⟩
          exact ⟨a, kv, by simp [hkv1], n, e⟩
        · rintro ⟨a, kv, hkv1, n, e⟩
          rcases List.mem_append.mp hkv1 with hk | hk
          · exact ⟨a, kv, hk, n, e⟩
          · rw [List.mem_singleton.mp hk] at e
            have := kyT_inj e
            rw [this] at hin
            exact absurd (of_decide_eq_true hin) a
      | false =>
        refine i_ift rfl ?_
        intro s0' H0' C0' cl0' fp0'
        keq_hits
        intro s0' H0' C0' cl0' fp0'
        keq_hits
        refine ⟨kn, .inr p.1, rfl, hk6, by show _ < 16777216; omega, _, s6.mut hD, upd_same, Nat.le_trans (putK_le _ _ _) (by omega), fun s => ?_⟩
        rw [valV_put, etk]
        by_cases hs : (.inr s : Key) = .inr p.1
        · have hs' : s = p.1 := Sum.inr.inj hs
          subst hs'
          rw [if_pos rfl]
          refine ⟨fun _ => ⟨of_decide_eq_false hin, _, List.mem_append_right _ (List.mem_singleton.mpr rfl), p.2, rfl⟩, fun _ => rfl⟩
        · rw [if_neg hs, hiff s]
          constructor
          · rintro ⟨a, kv, hkv1, n, e⟩
            exact ⟨a, kv, by simp [hkv1], n, e⟩
          · rintro ⟨a, kv, hkv1, n, e⟩
            rcases List.mem_append.mp hkv1 with hk | hk
            · exact ⟨a, kv, hk, n, e⟩
            · rw [List.mem_singleton.mp hk] at e
              have := kyT_inj e
              rw [this] at hs
              exact absurd rfl hs
    · obtain ⟨kn, s7, hk7, hle7, hiff7⟩ := h7
      rw [List.take_of_length_le (Nat.le_refl _)] at hiff7
      have hnm : ∀ s, (valV kn (.inr s)).isSome = nmOf L ps s := fun s => by
        rw [Bool.eq_iff_iff, hiff7 s]
        unfold nmOf
        simp only [Bool.and_eq_true, List.any_eq_true, decide_eq_true_eq, Bool.not_eq_true', decide_eq_false_iff_not]
        constructor
        · rintro ⟨a, kv, hkv, n, e⟩
          obtain ⟨p, e2, hp⟩ := c2'.keys kv hkv
          have := kyT_inj (e.symm.trans e2)
          exact ⟨⟨p, hp, by rw [← this]⟩, a⟩
        · rintro ⟨⟨p, hp, rfl⟩, a⟩
          obtain ⟨kv, hkv, e⟩ := c2'.keyAt hp
          exact ⟨a, kv, hkv, p.2, e⟩
      show WP.WB _ _ _ _ _
      have g7 := s7 _ _ g5
      have hn17 : H1 d1 = none := hn1
      refine wb_cons ?_
      refine ws_for passes_bx rfl (pi_keys peL) (by k_memK) ?_
      show WP.WE _ _ _ _ _
      keq_hits
      refine ⟨d1, _, rfl, g7, True.intro, fun od1 => ⟨d1, od1, rfl, .inr ⟨kv1, upd_same, ?_⟩⟩⟩
      have s8 : Same H1 (upd H7 d1 (.frz od1 (.dT kv1))) := (s2.trans (s3.trans (s5.trans s7))).mut hn17
      have f8 : upd H7 d1 (.frz od1 (.dT kv1)) d1 = some (.frz od1 (.dT kv1)) := upd_same
      have d21 : d2 ≠ d1 := fun z => by rw [z, h3d] at hn2; cases hn2
      have k8 : upd H7 d1 (.frz od1 (.dT kv1)) D = some (.dK kn) := by
        rw [upd_ne (fun z => ?_)]
        · exact hk7
        · rw [z] at hk7
          rw [g7] at hk7
          cases hk7
      have e8 : upd H7 d1 (.frz od1 (.dT kv1)) d2 = some (.frz od (.dT kv2)) := by
        rw [upd_ne d21]
        exact s7 _ _ f5
      generalize upd H7 d1 (.frz od1 (.dT kv1)) = H8 at s8 f8 k8 e8 ⊢
      refine for_it (walk_keysT (d := d1) (o := od1) (kvs := kv1)) (fun i σ H' => Same H8 H' ∧ (∃ r5 r6, σ = [some (.ref au), some (.ref ap), some (.ref al), some (.ref d1), some (.ref d2), r5, r6, some (.ref D)]) ∧ ∀ kv ∈ kv1.take i, ∀ p, kv.1 = kyT p → tooMany L us ps p = false)
        ⟨Same.refl _, ⟨_, _, rfl⟩, fun kv hk => by simp at hk⟩ (fun i σ H' _ h => h.1 _ _ f8) ?_ ?_
      · rintro i x' σ H9 H9' hi ⟨s9, ⟨r5, r6, rfl⟩, hall⟩ ⟨rfl, k, vv, qa, hkv, rfl, hqa⟩
        have hmem := List.mem_of_getElem? hkv
        obtain ⟨p, hp1, hp2⟩ := c1'.keys _ hmem
        have hp1 : k = kyT p := hp1
        subst hp1
        have etk : kv1.take (i + 1) = kv1.take i ++ [(kyT p, vv)] := by rw [List.take_add_one, hkv]; rfl
        have hqa : H9' qa = some (.tup [.str p.1, .int (p.2 : Int)]) := hqa
        have next : tooMany L us ps p = false → ∀ kv ∈ kv1.take (i + 1), ∀ p, kv.1 = kyT p → tooMany L us ps p = false := fun hf kv hk q eq => by
          rw [etk] at hk
          rcases List.mem_append.mp hk with hk | hk
          · exact hall kv hk q eq
          · rw [List.mem_singleton.mp hk] at eq
            rw [← kyT_inj eq]
            exact hf
        refine i_two (SqT.of hqa) ?_
        show WP.WB _ _ _ _ _
        refine wb_one (ws_if (wt_ww (ww_and (wt_din (k := 20) hr (by rfl) ?_))))
        keq_hits
        refine ⟨D, _, rfl, DGet.k (k := .inr p.1) (s9 _ _ k8), ?_⟩
        rw [hnm]
        cases hnn : nmOf L ps p.1 with
        | false =>
          refine i_iff rfl ?_
          have ht : tooMany L us ps p = false := by rw [tooMany, hnn, Bool.false_and]
          refine i_iff rfl ?_
          keq_hits
          exact ⟨s9, ⟨_, _, rfl⟩, next ht⟩
        | true =>
          refine i_ift rfl ?_
          refine ww_and1 (wt_cmp op_gt rfl ?_)
          refine we_dget (k := 20) hr (fun _ _ => by with_unfolding_all rfl) ?_
          keq_hits
          refine ⟨by show 2 ≤ sizeLine; decide, fun p6 hp6 => ?_⟩
          have s10 : Same H9' (upd H9' p6 (.tup [.str p.1, .int (p.2 : Int)])) := Same.new hp6
          have h10 : upd H9' p6 (.tup [.str p.1, .int (p.2 : Int)]) p6 = some (.tup ((kyT p).map kV)) := upd_same
          generalize upd H9' p6 (.tup [.str p.1, .int (p.2 : Int)]) = H10 at s10 h10 ⊢
          have dg1 : DGet H10 d1 (.ref p6) (some (.int ((((wdss us 0).count p : Nat) : Int)))) := by
            have z := c1'.val p
            rw [if_pos hp2] at z
            have z2 : valV kv1 (kyT p) = some (.int ((((wdss us 0).count p : Nat) : Int))) := z
            rw [← z2]
            exact .inr ⟨kv1, kyT p, p6, .inr ⟨od1, s10 _ _ (s9 _ _ f8)⟩, rfl, h10, rfl⟩
          refine ⟨d1, _, rfl, dg1, ?_⟩
          refine we_get2 (k := 20) hr ⟨rfl, rfl, rfl, rfl⟩ ?_
          keq_hits
          refine ⟨d2, rfl, .inr ⟨_, .inr ⟨od, s10 _ _ (s9 _ _ e8)⟩⟩, ?_⟩
          keq_hits
          refine ⟨by show 2 ≤ sizeLine; decide, fun p7 hp7 => ?_⟩
          have s11 : Same H10 (upd H10 p7 (.tup [.str p.1, .int (p.2 : Int)])) := Same.new hp7
          have h11 : upd H10 p7 (.tup [.str p.1, .int (p.2 : Int)]) p7 = some (.tup ((kyT p).map kV)) := upd_same
          generalize upd H10 p7 (.tup [.str p.1, .int (p.2 : Int)]) = H11 at s11 h11 ⊢
          keq_hits
          refine ⟨_, .inr ⟨kv2, kyT p, p7, .inr ⟨od, s11 _ _ (s10 _ _ (s9 _ _ e8))⟩, rfl, h11, rfl⟩, ?_⟩
          rw [c2'.get p]
          keq_hits
          refine i_ite (fun e => ?_) (fun e => ?_)
          · keq_hits
            have hlt : (wdss ps 0).count p < (wdss us 0).count p := by
              have z := of_decide_eq_true e
              exact Int.ofNat_lt.mp z
            have hl : lessP L us ps = false := by
              have z : (wdss us 0).any (tooMany L us ps) = true := List.any_eq_true.mpr ⟨p, hp2, by rw [tooMany, hnn, decide_eq_true hlt]; rfl⟩
              rw [lessP, z]
              rfl
            have z := q _ (s1.trans (s8.trans (s9.trans (s10.trans s11))))
            rw [hl] at z
            exact z
          · keq_hits
            refine ⟨s9.trans (s10.trans s11), ⟨_, _, rfl⟩, next ?_⟩
            have hlt : ¬ (wdss ps 0).count p < (wdss us 0).count p := fun z => by
              have z2 := of_decide_eq_false e
              exact z2 (Int.ofNat_lt.mpr z)
            rw [tooMany, decide_eq_false hlt, Bool.and_false]
      · rintro σ H9 ⟨s9, ⟨r5, r6, rfl⟩, hall⟩
        have s19 := s1.trans (s8.trans s9)
        show WP.WB _ _ _ _ _
        refine wb_one (ws_ret (we_cmp op_lt rfl ?_))
        keq_hits
        refine we_slL sl_tupA ?_
        keq_hits
        refine ⟨_, rfl, i_sl (s19.tup tu) fun c3 H10 s10 h10 => ?_⟩
        rw [cutV_tl] at h10
        keq_hits
        refine ⟨_, .tuple us, rfl, .tup h10 (dpAll_mono (s19.trans s10) dus), fu, by omega, by omega, zu, fun H11 s11 => ?_⟩
        keq_hits
        refine we_slL sl_tupA ?_
        keq_hits
        refine ⟨_, rfl, i_sl ((s19.trans (s10.trans s11)).tup tp) fun c4 H12 s12 h12 => ?_⟩
        rw [cutV_tl] at h12
        keq_hits
        refine ⟨_, .tuple ps, rfl, .tup h12 (dpAll_mono (s19.trans (s10.trans (s11.trans s12))) dps), fp, by omega, by omega, zp, fun H13 s13 => ?_⟩
        keq_hits
        refine fin_bl (q _ (s19.trans (s10.trans (s11.trans (s12.trans s13))))) ?_
        have hno : (wdss us 0).any (tooMany L us ps) = false := by
          rw [List.any_eq_false]
          intro p hp
          obtain ⟨kv, hkv, e⟩ := c1'.keyAt (show p ∈ wds (.tuple us) 0 from hp)
          have z := hall kv (by rw [List.take_of_length_le (Nat.le_refl _)]; exact hkv) p e
          rw [z]
          exact Bool.false_ne_true
        rw [lessP, hno, Bool.not_false, Bool.true_and, decide_eq_decide]
        simp only [wgt]
        omega
end
end
section
/-! ### ends and orders: plain -/
theorem nodup_le {α : Type} [DecidableEq α] : ∀ {a b : List α}, a.Nodup → (∀ x ∈ a, x ∈ b) → a.length ≤ b.length
  | [], _, _, _ => Nat.zero_le _
  | x :: a, b, nd, h => by
    have hx := h x (by simp)
    have h2 := nodup_le (a := a) (b := b.erase x) (List.nodup_cons.mp nd).2 fun y hy => by
      refine (List.mem_erase_of_ne ?_).mpr (h y (by simp [hy]))
      intro e
      rw [e] at hy
      exact (List.nodup_cons.mp nd).1 hy
    rw [List.length_erase_of_mem hx] at h2
    have := List.length_pos_of_mem hx
    simp only [List.length_cons]
    omega
theorem nodup_perm {α : Type} [DecidableEq α] {a b : List α} (na : a.Nodup) (h : ∀ x ∈ a, x ∈ b) (hl : b.length ≤ a.length) : a.Perm b := by
  induction a generalizing b with
  | nil =>
    have : b = [] := List.length_eq_zero_iff.mp (by simpa using hl)
    rw [this]
  | cons x a ih =>
    have hx := h x (by simp)
    have hp := List.perm_cons_erase hx
    refine (List.Perm.cons x ?_).trans hp.symm
    refine ih (List.nodup_cons.mp na).2 (fun y hy => ?_) ?_
    · refine (List.mem_erase_of_ne ?_).mpr (h y (by simp [hy]))
      intro e
      rw [e] at hy
      exact (List.nodup_cons.mp na).1 hy
    · rw [List.length_erase_of_mem hx]
      simp only [List.length_cons] at hl
      omega
theorem first_out {α : Type} [DecidableEq α] (found : List α) : ∀ nms : List α, (∀ y ∈ nms, y ∈ found) ∨ ∃ pre x post, nms = pre ++ x :: post ∧ (∀ y ∈ pre, y ∈ found) ∧ x ∉ found
  | [] => .inl (by simp)
  | a :: r => by
    by_cases h : a ∈ found
    · rcases first_out found r with g | ⟨pre, x, post, e, g1, g2⟩
      · exact .inl (by simpa [h] using g)
      · exact .inr ⟨a :: pre, x, post, by simp [e], by simpa [h] using g1, g2⟩
    · exact .inr ⟨[], a, r, rfl, by simp, h⟩
/-- the least ready first -/
def readyL (ns : List Str) (W : Str → List Str) (found : List Str) : List Str := ns.filter fun s => !decide (s ∈ found) && (W s).all fun x => decide (x ∈ found)
def ordG (ns : List Str) (W : Str → List Str) : Nat → List Str → Option (List Str)
  | 0, found => some found
  | k + 1, found => match readyL ns W found with
    | [] => none
    | s :: _ => ordG ns W k (found ++ [s])
theorem ready_mem {ns : List Str} {W : Str → List Str} {found : List Str} {s : Str} : s ∈ readyL ns W found ↔ s ∈ ns ∧ s ∉ found ∧ ∀ x ∈ W s, x ∈ found := by
  simp [readyL, List.mem_filter]
theorem ordG_ok {ns : List Str} {W : Str → List Str} : ∀ {k : Nat} {found l : List Str}, found.Nodup → (∀ x ∈ found, x ∈ ns) → ordG ns W k found = some l → l.Nodup ∧ (∀ x ∈ l, x ∈ ns) ∧ l.length = found.length + k
  | 0, found, l, nd, h, e => by
    cases e
    exact ⟨nd, h, rfl⟩
  | k + 1, found, l, nd, h, e => by
    unfold ordG at e
    cases er : readyL ns W found with
    | nil => rw [er] at e; cases e
    | cons s r =>
      rw [er] at e
      obtain ⟨m1, m2, _⟩ := ready_mem.mp (show s ∈ readyL ns W found by rw [er]; simp)
      obtain ⟨a, b, c⟩ := ordG_ok (k := k) (found := found ++ [s]) (by
        rw [List.nodup_append]
        refine ⟨nd, by simp, fun x hx y hy z => ?_⟩
        rw [List.mem_singleton.mp hy] at z
        rw [z] at hx
        exact m2 hx) (by
        intro x hx
        rcases List.mem_append.mp hx with hx | hx
        · exact h x hx
        · rw [List.mem_singleton.mp hx]
          exact m1) e
      refine ⟨a, b, ?_⟩
      rw [c, List.length_append, List.length_singleton]
      omega
theorem ordG_some {ns nms : List Str} {W : Str → List Str} (hp : nms.Perm ns) (nd : nms.Nodup) (hw : ∀ pre x post, nms = pre ++ x :: post → ∀ y ∈ W x, y ∈ pre) :
    ∀ {k : Nat} {found : List Str}, found.length + k ≤ nms.length → ordG ns W k found ≠ none
  | 0, found, _ => by simp [ordG]
  | k + 1, found, hl => by
    have hne : readyL ns W found ≠ [] := by
      rcases first_out found nms with g | ⟨pre, x, post, e, g1, g2⟩
      · have := nodup_le nd g
        omega
      · have : x ∈ readyL ns W found := ready_mem.mpr ⟨hp.mem_iff.mp (by rw [e]; simp), g2, fun y hy => g1 y (hw pre x post e y hy)⟩
        intro z
        rw [z] at this
        simp at this
    unfold ordG
    cases er : readyL ns W found with
    | nil => exact absurd er hne
    | cons s r =>
      exact ordG_some hp nd hw (by rw [List.length_append, List.length_singleton]; omega)
/-! ### macros, ends, order: what the law says -/
structure Mac where
  nm : Str
  L : List Str
  rs : List (List PyData × PyData)
/-- a use that is none of a macro ahead nor of itself and less -/
def badU (ahead : List Str) (m : Mac) (ps : List PyData) : PyData → Bool
  | .tuple (.str h :: us) => !decide (h ∈ ahead) && !(decide (h = m.nm) && lessP m.L us ps)
  | _ => false
def badR (ns ahead : List Str) (m : Mac) (r : List PyData × PyData) : Bool := (usD ns r.2).any (badU ahead m r.1)
def badRs (ns ahead : List Str) (m : Mac) : List (List PyData × PyData) → Nat → Option Nat
  | [], _ => none
  | r :: rs, n => if badR ns ahead m r then some n else badRs ns ahead m rs (n + 1)
def endsG (ns : List Str) : List Str → List Mac → Option (Str × Nat)
  | _, [] => none
  | ahead, m :: ms => match badRs ns ahead m m.rs 0 with
    | some n => some (m.nm, n)
    | none => endsG ns (ahead ++ [m.nm]) ms
def nmsOf (ms : List Mac) : List Str := ms.map Mac.nm
def endsM (ms : List Mac) : Option (Str × Nat) := endsG (nmsOf ms) [] ms
def hdS : PyData → Option Str
  | .tuple (.str h :: _) => some h
  | _ => none
/-- names of uses of others in a macro's templates -/
def wantR (ns : List Str) (nm : Str) (r : List PyData × PyData) : List Str := ((usD ns r.2).filterMap hdS).filter fun s => !decide (s = nm)
def wantM (ns : List Str) (m : Mac) : List Str := m.rs.flatMap (wantR ns m.nm)
def wantOf (ns : List Str) (ms : List Mac) (s : Str) : List Str := match ms.find? (fun m => decide (m.nm = s)) with
  | some m => wantM ns m
  | none => []
def orderM (ns : List Str) (ms : List Mac) : Option (List Str) := ordG ns (wantOf ns ms) ns.length []
mutual
theorem usD_head (ns : List Str) : ∀ d u, u ∈ usD ns d → ∃ h us, u = .tuple (.str h :: us) ∧ h ∈ ns
  | .tuple ds, u, hu => by
    simp only [usD, List.mem_append] at hu
    rcases hu with hu | hu
    · split at hu
      · rename_i e
        rw [List.mem_singleton.mp hu]
        cases ds with
        | nil => cases e
        | cons d r =>
          cases d with
          | str s => exact ⟨s, r, rfl, by simpa [headIn] using e⟩
          | _ => cases e
      · cases hu
    · exact usDs_head ns ds u hu
  | .none, _, hu => by cases hu
  | .bool _, _, hu => by cases hu
  | .int _, _, hu => by cases hu
  | .str _, _, hu => by cases hu
  | .list _, _, hu => by cases hu
  | .dict _, _, hu => by cases hu
theorem usDs_head (ns : List Str) : ∀ ds u, u ∈ usDs ns ds → ∃ h us, u = .tuple (.str h :: us) ∧ h ∈ ns
  | [], _, hu => by cases hu
  | d :: ds, u, hu => by
    simp only [usDs, List.mem_append] at hu
    rcases hu with hu | hu
    · exact usD_head ns d u hu
    · exact usDs_head ns ds u hu
end
mutual
theorem usD_congr {ns ns' : List Str} (h : ∀ s, s ∈ ns ↔ s ∈ ns') : ∀ d, usD ns d = usD ns' d
  | .tuple ds => by
    have e : headIn ns ds = headIn ns' ds := by
      cases ds with
      | nil => rfl
      | cons d r =>
        cases d with
        | str s => simp only [headIn, h s]
        | _ => rfl
    simp only [usD, e, usDs_congr h ds]
  | .none => rfl
  | .bool _ => rfl
  | .int _ => rfl
  | .str _ => rfl
  | .list _ => rfl
  | .dict _ => rfl
theorem usDs_congr {ns ns' : List Str} (h : ∀ s, s ∈ ns ↔ s ∈ ns') : ∀ ds, usDs ns ds = usDs ns' ds
  | [] => rfl
  | d :: ds => by simp only [usDs, usD_congr h d, usDs_congr h ds]
end
theorem badRs_none {ns ahead : List Str} {m : Mac} : ∀ {rs : List (List PyData × PyData)} {n : Nat}, badRs ns ahead m rs n = none → ∀ r ∈ rs, badR ns ahead m r = false
  | [], _, _, r, hr => by cases hr
  | r0 :: rs, n, e, r, hr => by
    unfold badRs at e
    split at e
    · cases e
    · rename_i h0
      rcases List.mem_cons.mp hr with rfl | hr
      · simpa using h0
      · exact badRs_none e r hr
theorem endsG_none {ns : List Str} : ∀ {ms : List Mac} {ahead : List Str}, endsG ns ahead ms = none → ∀ pre m post, ms = pre ++ m :: post → ∀ r ∈ m.rs, badR ns (ahead ++ nmsOf pre) m r = false
  | [], _, _, pre, m, post, e => by simp at e
  | m0 :: ms, ahead, h, pre, m, post, e => by
    unfold endsG at h
    split at h
    · cases h
    · rename_i h0
      cases pre with
      | nil =>
        simp only [List.nil_append, List.cons.injEq] at e
        obtain ⟨rfl, _⟩ := e
        simpa [nmsOf] using badRs_none h0
      | cons p pre =>
        simp only [List.cons_append, List.cons.injEq] at e
        obtain ⟨rfl, e⟩ := e
        have := endsG_none h pre m post e
        simpa [nmsOf, List.append_assoc] using this
theorem find_mac {ms : List Mac} (nd : (nmsOf ms).Nodup) {m : Mac} (h : m ∈ ms) : ms.find? (fun m' => decide (m'.nm = m.nm)) = some m := by
  induction ms with
  | nil => cases h
  | cons a r ih =>
    have nd := List.nodup_cons.mp (show (a.nm :: nmsOf r).Nodup from nd)
    rcases List.mem_cons.mp h with rfl | h
    · simp
    · have : a.nm ≠ m.nm := fun e => nd.1 (by rw [e]; exact List.mem_map_of_mem h)
      rw [List.find?_cons_of_neg (by simpa using this)]
      exact ih nd.2 h
theorem wantOf_at {ns : List Str} {ms : List Mac} (nd : (nmsOf ms).Nodup) {m : Mac} (h : m ∈ ms) : wantOf ns ms m.nm = wantM ns m := by
  unfold wantOf
  rw [find_mac nd h]
theorem split_map {α β : Type} {f : α → β} : ∀ {l : List α} {pre : List β} {x : β} {post : List β}, l.map f = pre ++ x :: post → ∃ p a q, l = p ++ a :: q ∧ p.map f = pre ∧ f a = x
  | [], pre, x, post, e => by simp at e
  | a :: l, [], x, post, e => by
    simp only [List.map_cons, List.nil_append, List.cons.injEq] at e
    exact ⟨[], a, l, rfl, rfl, e.1⟩
  | a :: l, b :: pre, x, post, e => by
    simp only [List.map_cons, List.cons_append, List.cons.injEq] at e
    obtain ⟨p, c, q, e1, e2, e3⟩ := split_map e.2
    exact ⟨a :: p, c, q, by rw [e1]; rfl, by rw [List.map_cons, e2, e.1], e3⟩
theorem ends_order {ms : List Mac} {ns : List Str} (nd : (nmsOf ms).Nodup) (hp : (nmsOf ms).Perm ns) (he : endsM ms = none) : orderM ns ms ≠ none := by
  refine ordG_some hp nd (fun pre x post e y hy => ?_) (by rw [← hp.length_eq]; simp)
  obtain ⟨p, m, q, e1, e2, e3⟩ := split_map e
  subst e3
  rw [wantOf_at nd (by rw [e1]; simp)] at hy
  unfold wantM at hy
  obtain ⟨r, hr, hy⟩ := List.mem_flatMap.mp hy
  obtain ⟨hy, hne⟩ := List.mem_filter.mp hy
  obtain ⟨u, hu, eu⟩ := List.mem_filterMap.mp hy
  have hb := endsG_none he p m q e1 r hr
  rw [List.nil_append, show nmsOf p = pre from e2] at hb
  rw [usD_congr (ns' := nmsOf ms) (fun s => hp.mem_iff.symm)] at hu
  obtain ⟨h, us, rfl, hin⟩ := usD_head _ _ _ hu
  have hh : h = y := by simpa [hdS] using eu
  subst hh
  have z := (List.any_eq_false.mp (show (usD (nmsOf ms) r.2).any (badU pre m r.1) = false from hb)) _ hu
  simp only [badU, Bool.and_eq_true, Bool.not_eq_true', decide_eq_false_iff_not, not_and] at z
  have hne : h ≠ m.nm := by simpa using hne
  by_cases hp : h ∈ pre
  · exact hp
  · exact absurd (z hp) (by simp [hne])
end
section
/-! ### ends_told -/
section
variable {P : Program} {w : World} {K : PySem.W.Frag} {mg : Str → Option Value} {base : Heap} {f f2 : Addr} {fd fd2 : FuncData} {C CB CM : Addr} {L : List Str}
theorem i_num2 {i j k : Nat} {a b : Addr} {v x y : V} {σ : L2.St} {H : Hp} {Q : L2.St → Hp → Prop} (h : SqT K H a [v, .ref b]) (hb : SqT K H b [x, y]) (q : Q (((σ.set i (some v)).set j (some x)).set k (some y)) H) :
    gTup K 2 (gCons (gName i) (gCons (gTup K 2 (gCons (gName j) (gCons (gName k) gNil))) gNil)) (.ref a) σ H Q :=
  ⟨a, _, rfl, h, rfl, v, _, rfl, .ref b, _, rfl, ⟨b, _, rfl, hb, rfl, x, _, rfl, y, _, rfl, rfl, rfl, q⟩⟩
def macI (m : Mac) : It9 := .pair (.str m.nm) m.L m.rs
def macD (m : Mac) : PyData := .tuple [.str m.nm, rulesD m.L m.rs]
def macsD (ms : List Mac) : PyData := .tuple (ms.map macD)
structure MacOk (m : Mac) : Prop where
  sm : smallD (.str m.nm) = true
  lits : LitsOk m.L
  few : m.rs.length ≤ 20
  rules : ∀ r ∈ m.rs, RuleP m.L r
  name : isName (.str m.nm) = true
  some : 1 ≤ m.rs.length
  good : ∀ r ∈ m.rs, goodD m.L (.tuple r.1) = true
structure MacsOk (ms : List Mac) : Prop where
  ok : ∀ m ∈ ms, MacOk m
  len : 1 ≤ ms.length ∧ ms.length ≤ 12
  nd : (nmsOf ms).Nodup
theorem macs_items (ms : List Mac) : ((ms.map macI).map it9D) = ms.map macD := by
  rw [List.map_map]
  rfl
theorem MacsOk.q {H : Hp} {v : V} {ms : List Mac} (h : MacsOk ms) (d : Dp K H v (macsD ms)) : MacQ K H v true := by
  have e : macB (ms.map macI) = true := by
    have e1 : ((ms.map macI).map it9N) = nmsOf ms := by
      rw [List.map_map]
      rfl
    unfold macB
    rw [e1, List.length_map, decide_eq_true h.len, decide_eq_true h.nd, Bool.true_and, Bool.and_true, List.all_eq_true]
    intro i hi
    obtain ⟨m, hm, rfl⟩ := List.mem_map.mp hi
    have o := h.ok m hm
    show (isName (.str m.nm) && rulesB m.L m.rs) = true
    rw [o.name, Bool.true_and, rulesB, decide_eq_true o.some, Bool.true_and, List.all_eq_true]
    exact o.good
  rw [← e]
  refine .tup (by rw [macs_items]; exact d) (by rw [List.length_map]; have := h.len.2; omega) fun i hi => ?_
  obtain ⟨m, hm, rfl⟩ := List.mem_map.mp hi
  have o := h.ok m hm
  refine ⟨fun nm L rs e => ?_⟩
  cases e
  exact ⟨o.sm, o.lits, o.few, o.rules⟩
theorem MacOk.form {m : Mac} (h : MacOk m) {r : Rl} (hr : r ∈ m.rs) : FormOk r.2 ∧ formB r.2 = true :=
  let ⟨a, b, _⟩ := (h.rules r hr).tm (h.good r hr)
  ⟨a, b⟩
def endsD : Option (Str × Nat) → PyData
  | none => .tuple [.str "ends"]
  | some (s, n) => .tuple [.str "rule", .str s, .int (n : Int)]
structure SubOk (d u : PyData) : Prop where
  f : formB d = true → formB u = true
  dp : ddep u ≤ ddep d
  sz : dsize u ≤ dsize d
theorem ddeps_le' {d : PyData} {ds : List PyData} (h : d ∈ ds) : ddep d ≤ ddeps ds := ddeps_le h
mutual
theorem usD_sub (ns : List Str) : ∀ d u, u ∈ usD ns d → SubOk d u
  | .tuple ds, u, hu => by
    simp only [usD, List.mem_append] at hu
    rcases hu with hu | hu
    · split at hu
      · rw [List.mem_singleton.mp hu]
        exact ⟨id, Nat.le_refl _, Nat.le_refl _⟩
      · cases hu
    · obtain ⟨d, hd, h⟩ := usDs_sub ns ds u hu
      refine ⟨fun hf => h.f (formBs_mem hf hd), ?_, ?_⟩
      · have := ddeps_le hd
        have := h.dp
        simp only [ddep]
        omega
      · have := dsizes_mem hd
        have := h.sz
        simp only [dsize]
        omega
  | .none, _, hu => by cases hu
  | .bool _, _, hu => by cases hu
  | .int _, _, hu => by cases hu
  | .str _, _, hu => by cases hu
  | .list _, _, hu => by cases hu
  | .dict _, _, hu => by cases hu
theorem usDs_sub (ns : List Str) : ∀ ds u, u ∈ usDs ns ds → ∃ d ∈ ds, SubOk d u
  | [], _, hu => by cases hu
  | d :: ds, u, hu => by
    simp only [usDs, List.mem_append] at hu
    rcases hu with hu | hu
    · exact ⟨d, by simp, usD_sub ns d u hu⟩
    · obtain ⟨e, he, h⟩ := usDs_sub ns ds u hu
      exact ⟨e, by simp [he], h⟩
end
def sp_ends_told (K : PySem.W.Frag) (CN : Addr) : Sp := fun vs H Q E => ∃ v, vs = [v] ∧ ((MacQ K H v false ∧ ∀ H', Same H H' → E (.ref CN) none H') ∨ ∃ ms, Dp K H v (macsD ms) ∧ MacsOk ms ∧ ∀ p H', Same H H' → Dp K H' p (endsD (endsM ms)) → Q p H')
theorem sq44 : FnScope ["macros", "ahead", "name", "rules", "pair", "later", "number", "pattern", "template", "use"] ["macros"] (defScope (top 44)) := ⟨rfl, rfl, rfl, by decide +kernel, rfl, by decide +kernel, by decide +kernel⟩
/-- names that come later -/
def laterL (ns ahead : List Str) (nm : Str) : List Str := ns.filter fun s => !decide (s ∈ ahead) && !decide (s = nm)
theorem filter_at {p : Str → Bool} : ∀ ns : List Str, ((List.range ns.length).filter fun i => p (ns.getD i "")).map (fun i => V.str (ns.getD i "")) = (ns.filter p).map V.str := by
  intro ns
  have e : ns = (List.range ns.length).map fun i => ns.getD i "" := by
    apply List.ext_getElem
    · simp
    · intro i h1 h2
      simp [List.getD, h1]
  conv => rhs; rw [e]
  rw [List.filter_map, List.map_map]
  rfl
theorem nms_at {ms : List Mac} {j : Nat} {m : Mac} (h : ms[j]? = some m) : (nmsOf ms).getD j "" = m.nm := by
  unfold nmsOf
  rw [List.getD, List.getElem?_map, h]
  rfl
theorem macs_at {H : Hp} {ms : List Mac} {xs : List V} (h : DpAll K H xs (ms.map macD)) {j : Nat} {x : V} (e : xs[j]? = some x) : ∃ m pa y1, ms[j]? = some m ∧ x = .ref pa ∧ SqT K H pa [.str ((nmsOf ms).getD j ""), y1] ∧ Dp K H y1 (rulesD m.L m.rs) := by
  obtain ⟨dx, hdx, hdp⟩ := dpAll_atv h e
  rw [List.getElem?_map] at hdx
  cases em : ms[j]? with
  | none => rw [em] at hdx; cases hdx
  | some m =>
    rw [em] at hdx
    cases hdx
    obtain ⟨pa, y0, y1, rfl, hP, dp0, dp1⟩ := dp_two hdp
    cases dp_str dp0
    exact ⟨m, pa, y1, rfl, rfl, by rw [nms_at em]; exact hP, dp1⟩
theorem decV {a b : Str} : decide (V.str a = V.str b) = decide (a = b) := decide_eq_decide.mpr ⟨fun z => V.str.inj z, fun z => congrArg V.str z⟩
theorem prog_bad {ns ahead : List Str} {m : Mac} {ps us : List PyData} {h : Str} (hn : h ∈ ns) (hm : m.nm ∉ ahead) : (decide (h ∈ laterL ns ahead m.nm) || (decide (h = m.nm) && !lessP m.L us ps)) = badU ahead m ps (.tuple (.str h :: us)) := by
  have e1 : decide (h ∈ laterL ns ahead m.nm) = (!decide (h ∈ ahead) && !decide (h = m.nm)) := by
    unfold laterL
    rw [Bool.eq_iff_iff]
    simp [List.mem_filter, hn]
  rw [e1]
  unfold badU
  by_cases e2 : h = m.nm
  · subst e2
    simp [hm]
  · simp [e2]
theorem acc_names {ns : List Str} {acc : List V} (h1 : acc.length = ns.length) (h2 : ∀ j v, acc[j]? = some v → v = V.str (ns.getD j "")) : acc = ns.map V.str := by
  refine List.ext_getElem? fun j => ?_
  rw [List.getElem?_map]
  by_cases hj : j < ns.length
  · have e1 : acc[j]? = some acc[j] := List.getElem?_eq_getElem (by omega)
    rw [e1, h2 j _ e1, List.getElem?_eq_getElem hj, List.getD, List.getElem?_eq_getElem hj]
    rfl
  · rw [List.getElem?_eq_none (by omega), List.getElem?_eq_none (by omega)]
    rfl
theorem nd_take {l : List Str} (nd : l.Nodup) {i : Nat} {x : Str} (h : l[i]? = some x) : x ∉ l.take i := by
  obtain ⟨hi, e⟩ := List.getElem?_eq_some_iff.mp h
  have nd2 : (l.take i ++ x :: l.drop (i + 1)).Nodup := by
    rw [← e, ← List.drop_eq_getElem_cons hi, List.take_append_drop]
    exact nd
  intro hx
  exact (List.nodup_append.mp nd2).2.2 x hx x (by simp) rfl
abbrev NE : List Str := ["macros", "ahead", "name", "rules", "pair", "later", "number", "pattern", "template", "use"]
theorem ok_ends_told {CN : Addr} (F : FnP K "ends_told" 44 f fd) (hm : mg "ends_told" = some (.ref f)) (me : mg "enumerate" = none) (DC : Def P w K mg base 51 "check_macros" (sp_check_macros K CN)) (DU : Def P w K mg base 3 "uses_in" (sp_uses K)) (DL : Def P w K mg base 21 "is_less" (sp_is_less K)) :
    Def P w K mg base 52 "ends_told" (sp_ends_told K CN) := by
  refine Def.mk' F hm sq44 (fun vs H Q E h => ?_) (fun _ _ _ _ _ _ us hl => match us, hl with | [_], _ => rfl) (fun cdv A outer s H vs Q E hr tk h => ?_)
  · obtain ⟨v, rfl, _⟩ := h
    rfl
  · obtain ⟨v, rfl, h⟩ := h
    have nd := sq44.nd
    rcases h with ⟨hq, hE⟩ | ⟨ms, hd, hok, q⟩
    · keq_hits
      refine ⟨_, false, rfl, hq, fun z => absurd z (by decide), fun _ H' s' => hE _ s'⟩
    keq_hits
    refine ⟨_, true, rfl, hok.q hd, fun _ H1 s1 => ?_, fun z => absurd z (by decide)⟩
    keq_hits
    obtain ⟨a, xs, rfl, hx, hxs⟩ := dp_tup hd
    have lx := dpAll_len hxs
    rw [List.length_map] at lx
    refine ⟨by show 0 ≤ sizeLine; decide, fun al hal => ?_⟩
    have s2 : Same H (upd H1 al (.lst [])) := s1.trans (Same.new hal)
    have ha2 : upd H1 al (.lst []) al = some (.lst []) := upd_same
    have hal0 : H al = none := new_of s1 hal
    generalize upd H1 al (.lst []) = H2 at s2 ha2 ⊢
    keq_hits
    refine ws_forI (walk_tup (K := K) (a := a) (xs := xs)) passes_bx rfl (pi_tup pe) (by k_memK) ?_ iTup_mono
    show WP.WE _ _ _ _ _
    keq_hits
    have hms12 := hok.len.2
    refine ⟨a, rfl, ⟨_, s2.tup hx⟩, rfl, fun i σ H' => Same H H' ∧ H' al = some (.lst (((nmsOf ms).take i).map V.str)) ∧ (∃ r, σ = [some (.ref a), some (.ref al)] ++ r ∧ r.length = 8) ∧ endsG (nmsOf ms) ((nmsOf ms).take i) (ms.drop i) = endsM ms,
      ⟨s2, by simpa using ha2, ⟨_, rfl, rfl⟩, by simp [endsM]⟩, fun i σ H' _ h => h.1.tup hx, ?_, ?_⟩
    · rintro i x σ H3 H3' hi ⟨s3, ha3, ⟨r, rfl, hr8⟩, hE⟩ ⟨rfl, ex⟩
      obtain ⟨dx, hdx, hdp⟩ := dpAll_atv hxs ex
      rw [List.getElem?_map] at hdx
      have him : i < ms.length := by omega
      rw [List.getElem?_eq_getElem him] at hdx
      have hmm : ms[i] ∈ ms := List.getElem_mem him
      have eni : (nmsOf ms)[i]? = some ms[i].nm := by unfold nmsOf; rw [List.getElem?_map, List.getElem?_eq_getElem him]; rfl
      have edr : ms.drop i = ms[i] :: ms.drop (i + 1) := List.drop_eq_getElem_cons him
      generalize ms[i] = m at hdx hmm eni edr
      cases hdx
      have mok := hok.ok m hmm
      obtain ⟨pa, y0, y1, rfl, hP, dp0, dp1⟩ := dp_two hdp
      cases dp_str dp0
      obtain ⟨ra, z0, z1, rfl, hR, dz0, dz1⟩ := dp_two dp1
      obtain ⟨rb, rxs, rfl, hRb, dRs⟩ := dp_tup dz1
      have lr := dpAll_len dRs
      rw [List.length_map] at lr
      match r, hr8 with
      | [r0, r1, r2, r3, r4, r5, r6, r7], _ =>
      refine i_two (s3.tup hP) ?_
      show WP.WB _ _ _ _ _
      refine wb_cons ?_
      refine ws_lcI 5 [("pair", 4)] rfl nd rfl rfl rfl rfl rfl (pi_tup pe) (blkOk_by (N := NE) (sc := defScope (top 44)) (own := [("pair", 4)]) (by decide +kernel)) (fun _ _ _ _ _ => by k_memK) ?_
      show WP.WE _ _ _ _ _
      keq_hits
      have lnm : (nmsOf ms).length = xs.length := by rw [lx]; exact List.length_map _
      refine ⟨a, rfl, ⟨_, s3.tup hx⟩, fun D hD => lc_F (fun j => (fun s => !decide (s ∈ (nmsOf ms).take i) && !decide (s = m.nm)) ((nmsOf ms).getD j "")) (fun j => V.str ((nmsOf ms).getD j "")) walk_tup (by show _ < 16777216; omega) hD (fun H s => (s3.trans s).tup hx) ?_ teC_mono ttC_mono gName_mono fun H4 s4 hl4 => ?_⟩
      · rintro j x H5 H6 hj s5 ⟨rfl, exj⟩
        obtain ⟨m', pj, yj, emj, rfl, hPj, _⟩ := macs_at hxs exj
        refine ⟨rfl, fun s0 H0 C0 cl0 fp => ?_⟩
        have hP5 := (s3.trans s5).tup hPj
        refine wt_ww (ww_and (wt_cmp op_notIn_seq rfl ?_))
        keq_hits
        refine we_ix ix_tup plainIx_int ?_
        keq_hits
        refine i_ixT hP5 atI0 ?_
        keq_hits
        refine ⟨al, _, rfl, .inl (SqL.of (s5 _ _ ha3)), rfl, flat_strs _, i_bl ?_⟩
        rw [if_pos rfl, inV_strs]
        cases e1 : decide ((nmsOf ms).getD j "" ∈ (nmsOf ms).take i) with
        | true =>
          refine i_iff rfl ⟨Same.refl _, by show false = (!decide (_ ∈ _) && _); rw [e1]; rfl, fun z => absurd z (by decide)⟩
        | false =>
          refine i_ift rfl ?_
          refine ww_and1 (wt_cmp op_ne rfl ?_)
          keq_hits
          refine we_ix ix_tup plainIx_int ?_
          keq_hits
          refine i_ixT hP5 atI0 ?_
          keq_hits
          refine ⟨rfl, i_bl ⟨Same.refl _, ?_, fun _ s0' H0' C0' cl0' fp0' => ?_⟩⟩
          · show _ = (!decide (_ ∈ _) && !decide _)
            rw [e1, Bool.not_false, Bool.true_and, decV]
          · keq_hits
            refine we_ix ix_tup plainIx_int ?_
            keq_hits
            refine i_ixT hP5 atI0 ?_
            exact ⟨Same.refl _, rfl⟩
      · have hl4' : H4 D = some (.lst ((laterL (nmsOf ms) ((nmsOf ms).take i) m.nm).map V.str)) := by
          rw [hl4, ← lnm]
          exact congrArg (fun z => some (HO.lst z)) (filter_at (p := fun s => !decide (s ∈ (nmsOf ms).take i) && !decide (s = m.nm)) (nmsOf ms))
        show WP.WB _ _ _ _ _
        have s04 := s3.trans s4
        refine wb_cons ?_
        refine ws_forI (walk_enumT (K := K) (a := rb) (xs := rxs)) passes_bx rfl (pi_enumT (by rfl) me WP.pa) (by k_memK) ?_ iEnumT_mono
        show WP.WA _ _ _ _ _
        refine wa_cons ?_
        refine we_ix ix_tup plainIx_int ?_
        keq_hits
        refine i_ixT (s04.tup hR) atI1 ?_
        keq_hits
        have ha4 := s4 _ _ ha3
        have hRb4 := s04.tup hRb
        refine ⟨rb, rxs, rfl, hRb4, rfl, fun j σ H' => Same H4 H' ∧ (∃ o4 o6 o7 o8 o9, σ = [some (.ref a), some (.ref al), some (.str m.nm), some (.ref ra), o4, some (.ref D), o6, o7, o8, o9]) ∧ badRs (nmsOf ms) ((nmsOf ms).take i) m (m.rs.drop j) j = badRs (nmsOf ms) ((nmsOf ms).take i) m m.rs 0,
          ⟨Same.refl _, ⟨_, _, _, _, _, rfl⟩, rfl⟩, fun j σ H' _ h => h.1.tup hRb4, ?_, ?_⟩
        · rintro j x σ H5 H5' hj ⟨s5, ⟨o4, o6, o7, o8, o9, rfl⟩, hB⟩ ⟨T, y, rfl, hT5, rfl, hy⟩
          obtain ⟨dr, hdr, hdy⟩ := dpAll_atv dRs hy
          rw [List.getElem?_map] at hdr
          have hjm : j < m.rs.length := by omega
          rw [List.getElem?_eq_getElem hjm] at hdr
          have hrm : m.rs[j] ∈ m.rs := List.getElem_mem hjm
          have edj : m.rs.drop j = m.rs[j] :: m.rs.drop (j + 1) := List.drop_eq_getElem_cons hjm
          generalize m.rs[j] = r at hdr hrm edj
          cases hdr
          obtain ⟨rp, p0, p1, rfl, hRp, dq0, dq1⟩ := dp_two hdy
          have s45 : Same H5 (upd H5 T (.tup [.int (j : Nat), .ref rp])) := Same.new hT5
          have s6 := (s04.trans s5).trans s45
          have hT6 : SqT K (upd H5 T (.tup [.int (j : Nat), .ref rp])) T [.int (j : Nat), .ref rp] := SqT.of upd_same
          refine i_num2 hT6 (s6.tup hRp) ?_
          generalize upd H5 T (.tup [.int (j : Nat), .ref rp]) = H6 at s45 s6 hT6 ⊢
          have s46 := s5.trans s45
          show WP.WB _ _ _ _ _
          refine wb_one ?_
          refine ws_for passes_bx rfl (pi_list pe) (by k_memK) ?_
          show WP.WE _ _ _ _ _
          keq_hits
          refine we_lcc rfl nd (pi_tup pe) (blkOk_by (N := NE) (sc := defScope (top 44)) (own := [("pair", 4)]) (by decide +kernel)) (fun _ _ _ _ _ => by k_memK) ?_
          show WP.WE _ _ _ _ _
          keq_hits
          refine ⟨a, rfl, ⟨_, s6.tup hx⟩, fun D2 hD2 => lc_R (fun j _ v => v = .str ((nmsOf ms).getD j "")) stay_val walk_tup (by show _ < 16777216; omega) hD2 (fun H s => (s6.trans s).tup hx) ?_ teC_mono gName_mono fun H7 acc s7 hl7 ha7 hv7 => ?_⟩
          · rintro j x H8 H8' hj s8 ⟨rfl, exj⟩
            obtain ⟨m', pj, yj, emj, rfl, hPj, _⟩ := macs_at hxs exj
            refine ⟨rfl, fun s0 H0 C0 cl0 fp0 => ?_⟩
            have hP8 := (s6.trans s8).tup hPj
            keq_hits
            refine we_ix ix_tup plainIx_int ?_
            keq_hits
            refine i_ixT hP8 atI0 ?_
            exact ⟨Same.refl _, rfl⟩
          · rw [acc_names (by rw [ha7, lnm]) hv7] at hl7
            have s07 := s6.trans s7
            obtain ⟨fo2, fb2⟩ := mok.form hrm
            have rok := mok.rules r hrm
            keq_hits
            refine ⟨p1, r.2, D2, nmsOf ms, rfl, WP.dp_mono s07 dq1, fo2.sz, hl7, fun pl us H8 s8 hpl hus8 hdus => ?_⟩
            have s08 := s07.trans s8
            refine ⟨pl, rfl, ⟨_, SqL.of hus8⟩, for_it (walk_list (K := K) (a := pl) (xs := us)) (fun k σ H' => Same H8 H' ∧ (∃ o9, σ = [some (.ref a), some (.ref al), some (.str m.nm), some (.ref ra), o4, some (.ref D), some (.int (j : Int)), some p0, some p1, o9]) ∧ ∀ u ∈ (usD (nmsOf ms) r.2).take k, badU ((nmsOf ms).take i) m r.1 u = false)
              ⟨Same.refl _, ⟨_, rfl⟩, fun u hu => by simp at hu⟩ (fun k σ H' _ h => SqL.of (h.1 _ _ hus8)) ?_ ?_⟩
            · rintro k x σ H9 H9' hk ⟨s9, ⟨o9', rfl⟩, hall⟩ ⟨rfl, exk⟩
              obtain ⟨u, hu, hdu⟩ := dpAll_atv hdus exk
              have hum := List.mem_of_getElem? hu
              have etk : (usD (nmsOf ms) r.2).take (k + 1) = (usD (nmsOf ms) r.2).take k ++ [u] := by rw [List.take_add_one, hu]; rfl
              obtain ⟨h, uus, rfl, hin⟩ := usD_head _ _ _ hum
              have sub := usD_sub _ _ _ hum
              obtain ⟨ua, ux, uxs, rfl, hU, du0, dus⟩ := dp_consT hdu
              cases dp_str du0
              show WP.WB _ _ _ _ _
              have s89 := s08.trans s9
              have hU9 := (s8.trans s9).tup hU
              have hP9 := s89.tup hP
              have hnn : m.nm ∉ (nmsOf ms).take i := nd_take hok.nd eni
              have hpb := prog_bad (ps := r.1) (us := uus) hin hnn
              have hlat : H9' D = some (.lst ((laterL (nmsOf ms) ((nmsOf ms).take i) m.nm).map V.str)) := (s46.trans (s7.trans (s8.trans s9))) _ _ hl4'
              refine wb_one (ws_if (wt_mono (QT := fun k H' => k = badU ((nmsOf ms).take i) m r.1 (.tuple (.str h :: uus)) ∧ Same H9' H') (fun kk H10 ⟨ek, s10⟩ => ?_) ?_))
              · subst ek
                refine i_ite (fun e => ?_) (fun e => ?_)
                · keq_hits
                  refine ⟨by show 3 ≤ sizeLine; decide, fun pr hpr => ?_⟩
                  refine q _ _ ((s89.trans s10).trans (Same.new hpr)) ?_
                  have eB : badR (nmsOf ms) ((nmsOf ms).take i) m r = true := List.any_eq_true.mpr ⟨_, hum, e⟩
                  have eE : endsM ms = some (m.nm, j) := by
                    rw [← hE, edr, endsG, ← hB, edj, badRs, eB]
                    rfl
                  rw [eE]
                  exact .tup (SqT.of upd_same) (.cons (.str _) (.cons (.str _) (.cons (.int _) .nil)))
                · keq_hits
                  refine ⟨s9.trans s10, ⟨_, rfl⟩, fun u hu => ?_⟩
                  rw [etk] at hu
                  rcases List.mem_append.mp hu with hu | hu
                  · exact hall u hu
                  · rw [List.mem_singleton.mp hu]
                    exact e
              · rw [← hpb]
                refine wt_ww (ww_or (wt_cmp op_in_seq rfl ?_))
                keq_hits
                refine we_ix ix_tup plainIx_int ?_
                keq_hits
                refine i_ixT hU9 atI0 ?_
                keq_hits
                refine ⟨D, _, rfl, .inl (SqL.of hlat), rfl, flat_strs _, i_bl ?_⟩
                rw [if_neg Bool.false_ne_true, inV_strs]
                cases e1 : decide (h ∈ laterL (nmsOf ms) ((nmsOf ms).take i) m.nm) with
                | true => exact i_ift rfl ⟨rfl, Same.refl _⟩
                | false =>
                  refine i_iff rfl ?_
                  rw [Bool.false_or]
                  refine ww_or1 (wt_ww (ww_and (wt_cmp op_eq rfl ?_)))
                  keq_hits
                  refine we_ix ix_tup plainIx_int ?_
                  keq_hits
                  refine i_ixT hU9 atI0 ?_
                  keq_hits
                  refine ⟨rfl, i_bl ?_⟩
                  rw [decV]
                  cases e2 : decide (h = m.nm) with
                  | false => exact i_iff rfl ⟨rfl, Same.refl _⟩
                  | true =>
                    refine i_ift rfl ?_
                    rw [Bool.true_and]
                    refine ww_and1 (wt_not (wt_val ?_))
                    keq_hits
                    refine we_ix ix_tup plainIx_int ?_
                    keq_hits
                    refine i_ixT (s89.tup hR) atI0 ?_
                    keq_hits
                    have hfu := sub.f fb2
                    have hdu1 : ddep (.tuple (.str h :: uus)) ≤ 20 := Nat.le_trans sub.dp fo2.dp
                    have hzu := Nat.le_trans sub.sz fo2.sz
                    have hfp := rok.fp
                    refine ⟨_, _, _, .str h, uus, .str "_", r.1, m.L, rfl, WP.dp_mono (s8.trans s9) hdu, WP.dp_mono s89 dq0, WP.dp_mono s89 dz0, ?_, rok.fb, ?_, hfp.dp, ?_, hfp.sz, Nat.le_trans mok.lits.len (by decide), fun H11 s11 => ?_⟩
                    · simpa [formB, formBs] using (by simpa [formB, formBs] using hfu : _ ∧ _).2
                    · simp only [ddep, ddeps] at hdu1 ⊢
                      omega
                    · simp only [dsize, dsizes] at hzu ⊢
                      omega
                    · exact i_bl ⟨rfl, s11⟩
            · rintro σ H9 ⟨s9, ⟨o9', rfl⟩, hall⟩
              rw [List.take_of_length_le (by rw [← dpAll_len hdus]; exact Nat.le_refl _)] at hall
              have eB : badR (nmsOf ms) ((nmsOf ms).take i) m r = false := List.any_eq_false.mpr fun u hu => by rw [hall u hu]; exact Bool.false_ne_true
              refine ⟨s46.trans (s7.trans (s8.trans s9)), ⟨_, _, _, _, _, rfl⟩, ?_⟩
              rw [← hB, edj, badRs, eB]
              rfl
        · rintro σ H5 ⟨s5, ⟨o4, o6, o7, o8, o9, rfl⟩, hB⟩
          rw [List.drop_of_length_le (by omega)] at hB
          have hB : none = badRs (nmsOf ms) ((nmsOf ms).take i) m m.rs 0 := hB
          show WP.WB _ _ _ _ _
          keq_hits
          have ha5 := s5 _ _ ha4
          refine i_lstT ha5 ?_
          keq_hits
          refine i_append ha5 (by rw [List.length_map, List.length_take]; show _ < 16777216; omega) ?_
          keq_hits
          refine ⟨(s04.trans s5).mut hal0, ?_, ⟨_, rfl, rfl⟩, ?_⟩
          · rw [upd_same, List.take_add_one, eni, List.map_append]
            rfl
          · rw [← hE, edr, endsG, ← hB, List.take_add_one, eni]
            rfl
    · rintro σ H3 ⟨s3, ha3, ⟨r, rfl, hr8⟩, hE⟩
      rw [List.drop_of_length_le (by omega)] at hE
      have hE : none = endsM ms := by rw [← hE, endsG]
      match r, hr8 with
      | [r0, r1, r2, r3, r4, r5, r6, r7], _ =>
      show WP.WB _ _ _ _ _
      keq_hits
      refine ⟨by show 1 ≤ sizeLine; decide, fun pr hpr => ?_⟩
      refine q _ _ (s3.trans (Same.new hpr)) ?_
      rw [← hE]
      exact .tup (SqT.of upd_same) (.cons (.str _) .nil)
end
end
section
/-! ### is_ending, order_for -/
section
variable {P : Program} {w : World} {K : PySem.W.Frag} {mg : Str → Option Value} {base : Heap} {f f2 : Addr} {fd fd2 : FuncData} {C CB CM : Addr} {L : List Str}
theorem endsD_eqv (e : Option (Str × Nat)) : PyData.eqv (endsD e) (.tuple [.str "ends"]) = decide (e = none) := by
  cases e with
  | none => decide +kernel
  | some p => rfl
theorem endsG_name {ns : List Str} : ∀ {ms : List Mac} {ahead : List Str} {s : Str} {n : Nat}, endsG ns ahead ms = some (s, n) → s ∈ nmsOf ms
  | [], _, _, _, h => by cases h
  | m :: ms, ahead, s, n, h => by
    unfold endsG at h
    split at h
    · cases h
      simp [nmsOf]
    · have := endsG_name h
      simp only [nmsOf, List.map_cons, List.mem_cons] at this ⊢
      exact .inr this
theorem MacsOk.word {ms : List Mac} (h : MacsOk ms) {s : Str} (hs : s ∈ nmsOf ms) : nameS s = true := by
  obtain ⟨m, hm, rfl⟩ := List.mem_map.mp hs
  exact (h.ok m hm).name
theorem strOk_name {s : Str} (h : nameS s = true) : PyData.strOk s = true := strOk_word (by rw [wordS, h]; rfl)
theorem endsD_shaped {ms : List Mac} (h : MacsOk ms) : SeqAt.shaped (endsD (endsM ms)) = true := by
  cases e : endsM ms with
  | none => decide +kernel
  | some p =>
    obtain ⟨s, n⟩ := p
    have z := strOk_name (h.word (endsG_name e))
    have z2 : PyData.strOk "rule" = true := by decide +kernel
    refine shaped_tup.mpr ⟨fun d hd => ?_, fun d hd => ?_⟩
    · simp only [List.mem_cons, List.not_mem_nil, or_false] at hd
      rcases hd with rfl | rfl | rfl <;> simp [PyData.canLay0, z, z2]
    · simp only [List.mem_cons, List.not_mem_nil, or_false] at hd
      rcases hd with rfl | rfl | rfl <;> simp [PyData.depth]
def sp_is_ending (K : PySem.W.Frag) : Sp := fun vs H Q _ => ∃ v, vs = [v] ∧ ((MacQ K H v false ∧ ∀ H', Same H H' → Q (.bl false) H') ∨ ∃ ms, Dp K H v (macsD ms) ∧ MacsOk ms ∧ ∀ H', Same H H' → Q (.bl (decide (endsM ms = none))) H')
theorem sq45 : FnScope ["macros"] ["macros"] (defScope (top 45)) := ⟨rfl, rfl, rfl, by decide +kernel, rfl, by decide +kernel, by decide +kernel⟩
theorem ok_is_ending {CN : Addr} (F : FnP K "is_ending" 45 f fd) (hm : mg "is_ending" = some (.ref f)) (DA : Def P w K mg base 50 "are_macros" (sp_are_macros K)) (DE : Def P w K mg base 52 "ends_told" (sp_ends_told K CN)) : Def P w K mg base 53 "is_ending" (sp_is_ending K) := by
  refine Def.mk' F hm sq45 (fun vs H Q E h => ?_) (fun _ _ _ _ _ _ us hl => match us, hl with | [_], _ => rfl) (fun cdv A outer s H vs Q E hr tk h => ?_)
  · obtain ⟨v, rfl, _⟩ := h
    rfl
  · obtain ⟨v, rfl, h⟩ := h
    have nd := sq45.nd
    rcases h with ⟨hq, q⟩ | ⟨ms, hd, hok, q⟩
    · keq_hits
      refine ⟨_, false, rfl, hq, fun H' s' => ?_⟩
      exact i_bl (i_iff rfl (q _ s'))
    · keq_hits
      refine ⟨_, true, rfl, hok.q hd, fun H1 s1 => i_bl (i_ift rfl ?_)⟩
      keq_hits
      refine we_cmp (op_eqD hr.units) rfl ?_
      keq_hits
      refine ⟨_, rfl, .inr ⟨ms, WP.dp_mono s1 hd, hok, fun p H2 s2 dp => ?_⟩⟩
      keq_hits
      refine ⟨by show 1 ≤ sizeLine; decide, fun pr hpr => ?_⟩
      have s3 : Same H2 (upd H2 pr (.tup [.str "ends"])) := Same.new hpr
      refine ⟨_, _, WP.dp_mono s3 dp, .tup (SqT.of upd_same) (.cons (.str _) .nil), endsD_shaped hok, by decide +kernel, ?_⟩
      rw [endsD_eqv]
      exact q _ (s1.trans (s2.trans s3))
/-- a dict whose keys are the texts of a list -/
structure DSet (kv : List (Key × V)) (l : List Str) : Prop where
  keys : ∀ e ∈ kv, ∃ s, e.1 = .inr s ∧ s ∈ l
  has : ∀ s ∈ l, (valV kv (.inr s)).isSome = true
theorem DSet.nil : DSet [] [] := ⟨fun e h => absurd h (by simp), fun s h => absurd h (by simp)⟩
theorem keys_put {kv : List (Key × V)} {k : Key} {v : V} {e : Key × V} (h : e ∈ putK kv k v) : e.1 = k ∨ ∃ e' ∈ kv, e'.1 = e.1 := by
  unfold putK at h
  split at h
  · obtain ⟨e0, h0, rfl⟩ := List.mem_map.mp h
    refine .inr ⟨e0, h0, ?_⟩
    split <;> rfl
  · rcases List.mem_append.mp h with h | h
    · exact .inr ⟨e, h, rfl⟩
    · rw [List.mem_singleton.mp h]
      exact .inl rfl
theorem DSet.put {kv : List (Key × V)} {l : List Str} (d : DSet kv l) (s : Str) (v : V) : DSet (putK kv (.inr s) v) (l ++ [s]) := by
  refine ⟨fun e he => ?_, fun x hx => ?_⟩
  · rcases keys_put he with h | ⟨e', h', h2⟩
    · exact ⟨s, h, by simp⟩
    · obtain ⟨x, e1, e2⟩ := d.keys e' h'
      exact ⟨x, h2.symm.trans e1, by simp [e2]⟩
  · rw [valV_put]
    by_cases hs : (.inr x : Key) = .inr s
    · rw [if_pos hs]
      rfl
    · rw [if_neg hs]
      rcases List.mem_append.mp hx with hx | hx
      · exact d.has x hx
      · exact absurd (by rw [List.mem_singleton.mp hx]) hs
theorem DSet.merge : ∀ {more kv : List (Key × V)} {l l' : List Str}, DSet kv l → DSet more l' → DSet (mergeK kv more) (l ++ l') := by
  intro more
  have gen : ∀ (more : List (Key × V)) (kv : List (Key × V)), (∀ e ∈ mergeK kv more, (∃ e' ∈ kv, e'.1 = e.1) ∨ ∃ e' ∈ more, e'.1 = e.1) ∧ ∀ k, (valV (mergeK kv more) k).isSome = ((valV kv k).isSome || (valV more k).isSome) := by
    intro more
    induction more with
    | nil => exact fun kv => ⟨fun e h => .inl ⟨e, h, rfl⟩, fun k => by simp [mergeK, valV]⟩
    | cons p r ih =>
      intro kv
      have e0 : mergeK kv (p :: r) = mergeK (putK kv p.1 p.2) r := rfl
      rw [e0]
      obtain ⟨h1, h2⟩ := ih (putK kv p.1 p.2)
      refine ⟨fun e he => ?_, fun k => ?_⟩
      · rcases h1 e he with ⟨e', h, eq⟩ | ⟨e', h, eq⟩
        · rcases keys_put h with z | ⟨e2, h3, h4⟩
          · exact .inr ⟨p, by simp, z.symm.trans eq⟩
          · exact .inl ⟨e2, h3, h4.trans eq⟩
        · exact .inr ⟨e', by simp [h], eq⟩
      · rw [h2 k, valV_put, ← valV_any k (p :: r), ← valV_any k r, ← valV_any k kv, List.any_cons]
        by_cases hk : k = p.1
        · rw [if_pos hk]
          simp [hk]
        · rw [if_neg hk]
          have : decide (p.1 = k) = false := decide_eq_false fun z => hk z.symm
          rw [this, Bool.false_or, ← valV_any k kv]
  intro kv l l' d d'
  obtain ⟨h1, h2⟩ := gen more kv
  refine ⟨fun e he => ?_, fun s hs => ?_⟩
  · rcases h1 e he with ⟨e', h, eq⟩ | ⟨e', h, eq⟩
    · obtain ⟨s, a, b⟩ := d.keys e' h
      exact ⟨s, eq.symm.trans a, by simp [b]⟩
    · obtain ⟨s, a, b⟩ := d'.keys e' h
      exact ⟨s, eq.symm.trans a, by simp [b]⟩
  · rw [h2]
    rcases List.mem_append.mp hs with hs | hs
    · rw [d.has s hs]
      rfl
    · rw [d'.has s hs, Bool.or_true]
theorem mergeK_len : ∀ (more kv : List (Key × V)), (mergeK kv more).length ≤ kv.length + more.length
  | [], kv => by simp [mergeK]
  | p :: r, kv => by
    have h := mergeK_len r (putK kv p.1 p.2)
    have h2 := putK_le kv p.1 p.2
    have e0 : mergeK kv (p :: r) = mergeK (putK kv p.1 p.2) r := rfl
    rw [e0, List.length_cons]
    omega
/-- is a key's text found -/
def keyIn (found : List Str) (e : Key × V) : Bool := match e.1 with
  | .inr s => decide (s ∈ found)
  | _ => false
theorem DSet.all {kv : List (Key × V)} {l found : List Str} (d : DSet kv l) : kv.all (keyIn found) = l.all fun x => decide (x ∈ found) := by
  rw [Bool.eq_iff_iff, List.all_eq_true, List.all_eq_true]
  constructor
  · intro h s hs
    have z := d.has s hs
    rw [← valV_any] at z
    obtain ⟨e, he, e2⟩ := List.any_eq_true.mp z
    have y := h e he
    unfold keyIn at y
    rw [of_decide_eq_true e2] at y
    exact y
  · intro h e he
    obtain ⟨s, e1, e2⟩ := d.keys e he
    unfold keyIn
    rw [e1]
    exact h s e2
def ordD : Option (List Str) → PyData
  | none => .none
  | some l => .tuple (l.map .str)
def WantAt (H : Hp) (kvs : List (Key × V)) (nm : Str) (l : List Str) : Prop := ∃ d od kv, valV kvs (.inr nm) = some (.ref d) ∧ H d = some (.frz od (.dK kv)) ∧ DSet kv l ∧ kv.length ≤ 100000
end
end
section
/-! ### order_for -/
section
variable {P : Program} {w : World} {K : PySem.W.Frag} {mg : Str → Option Value} {base : Heap} {f f2 : Addr} {fd fd2 : FuncData} {C CB CM : Addr} {L : List Str}
def sp_order_for (K : PySem.W.Frag) (CN : Addr) : Sp := fun vs H Q E => ∃ v, vs = [v] ∧ ((MacQ K H v false ∧ ∀ H', Same H H' → E (.ref CN) none H') ∨ ∃ ms, Dp K H v (macsD ms) ∧ MacsOk ms ∧ ∀ ns p H', ns.Perm (nmsOf ms) → sortedS ns = true → Same H H' → Dp K H' p (ordD (orderM ns ms)) → Q p H')
theorem dpAll_strs {H : Hp} : ∀ ns : List Str, DpAll K H (ns.map V.str) (ns.map PyData.str)
  | [] => .nil
  | s :: ns => .cons (.str s) (dpAll_strs ns)
theorem WantAt.same {H H' : Hp} {kvs : List (Key × V)} {nm : Str} {l : List Str} (h : WantAt H kvs nm l) (s : Same H H') : WantAt H' kvs nm l :=
  let ⟨d, od, kv, e1, e2, e3⟩ := h
  ⟨d, od, kv, e1, s _ _ e2, e3⟩
theorem WantAt.upd {H : Hp} {a : Addr} {o o' : HO} {kvs : List (Key × V)} {nm : Str} {l : List Str} (h : WantAt H kvs nm l) (ha : H a = some o) (hf : ∀ od u, o ≠ .frz od u) : WantAt (upd H a o') kvs nm l := by
  obtain ⟨d, od, kv, e1, e2, e3⟩ := h
  refine ⟨d, od, kv, e1, ?_, e3⟩
  rw [upd_ne]
  · exact e2
  · intro z
    rw [z, ha] at e2
    exact hf _ _ (Option.some.inj e2)
theorem WantAt.put {H : Hp} {kvs : List (Key × V)} {nm : Str} {l : List Str} {k : Str} {v : V} (h : WantAt H kvs nm l) (hk : nm ≠ k) : WantAt H (putK kvs (.inr k) v) nm l := by
  obtain ⟨d, od, kv, e1, e2, e3⟩ := h
  refine ⟨d, od, kv, ?_, e2, e3⟩
  rw [valV_put, if_neg (fun z => hk (Sum.inr.inj z))]
  exact e1
theorem wantM_congr {ns ns' : List Str} (h : ∀ s, s ∈ ns ↔ s ∈ ns') (m : Mac) : wantM ns m = wantM ns' m := by
  unfold wantM
  congr 1
  funext r
  unfold wantR
  rw [usD_congr h]
theorem acc_bls {α : Type} {kv : List α} {g : α → Bool} {acc : List V} (h1 : acc.length = kv.length) (h2 : ∀ (j : Nat) (v : V), acc[j]? = some v → v = V.bl ((kv[j]?.map g).getD false)) : acc = (kv.map g).map V.bl := by
  refine List.ext_getElem? fun j => ?_
  rw [List.getElem?_map, List.getElem?_map]
  by_cases hj : j < kv.length
  · have e1 : acc[j]? = some acc[j] := List.getElem?_eq_getElem (by omega)
    rw [e1, h2 j _ e1, List.getElem?_eq_getElem hj]
    rfl
  · rw [List.getElem?_eq_none (by omega), List.getElem?_eq_none (by omega)]
    rfl
abbrev NO : List Str := ["macros", "pair", "names", "found", "wants", "name", "rules", "some", "pattern", "template", "use", "one", "ready"]
theorem sq46 : FnScope NO ["macros"] (defScope (top 46)) := ⟨rfl, rfl, rfl, by decide +kernel, rfl, by decide +kernel, by decide +kernel⟩
theorem ok_order_for {CN : Addr} (F : FnP K "order_for" 46 f fd) (hm : mg "order_for" = some (.ref f)) (ms' : mg "sorted" = none) (ml : mg "len" = none) (ma : mg "all" = none) (mt : mg "tuple" = none) (DC : Def P w K mg base 51 "check_macros" (sp_check_macros K CN)) (DU : Def P w K mg base 3 "uses_in" (sp_uses K)) :
    Def P w K mg base 52 "order_for" (sp_order_for K CN) := by
  refine Def.mk' F hm sq46 (fun vs H Q E h => ?_) (fun _ _ _ _ _ _ us hl => match us, hl with | [_], _ => rfl) (fun cdv A outer s H vs Q E hr tk h => ?_)
  · obtain ⟨v, rfl, _⟩ := h
    rfl
  · obtain ⟨v, rfl, h⟩ := h
    have nd := sq46.nd
    rcases h with ⟨hq, hE⟩ | ⟨ms, hd, hok, q⟩
    · keq_hits
      refine ⟨_, false, rfl, hq, fun z => absurd z (by decide), fun _ H' s' => hE _ s'⟩
    keq_hits
    refine ⟨_, true, rfl, hok.q hd, fun _ H1 s1 => ?_, fun z => absurd z (by decide)⟩
    obtain ⟨a, xs, rfl, hx, hxs⟩ := dp_tup hd
    have lx := dpAll_len hxs
    rw [List.length_map] at lx
    have lnm : (nmsOf ms).length = xs.length := by rw [lx]; exact List.length_map _
    have hms12 := hok.len.2
    refine wb_cons (ws_asg (by k_memK) (we_tup (wa_cons ?_)))
    refine we_callB (cr_sortedS) (by rfl) ms' boot_sorted ?_
    refine wa_cons ?_
    refine we_lcc rfl nd (pi_tup pe) (blkOk_by (N := NO) (sc := defScope (top 46)) (own := [("pair", 1)]) (by decide +kernel)) (fun _ _ _ _ _ => by k_memK) ?_
    show WP.WE _ _ _ _ _
    keq_hits
    refine ⟨a, rfl, ⟨_, s1.tup hx⟩, fun D2 hD2 => lc_R (fun j _ v => v = .str ((nmsOf ms).getD j "")) stay_val walk_tup (by show _ < 16777216; omega) hD2 (fun H s => (s1.trans s).tup hx) ?_ teC_mono gName_mono fun H2 acc s2 hl2 ha2 hv2 => ?_⟩
    · rintro j x H8 H8' hj s8 ⟨rfl, exj⟩
      obtain ⟨m', pj, yj, emj, rfl, hPj, _⟩ := macs_at hxs exj
      refine ⟨rfl, fun s0 H0 C0 cl0 fp0 => ?_⟩
      have hP8 := (s1.trans s8).tup hPj
      keq_hits
      refine we_ix ix_tup plainIx_int ?_
      keq_hits
      refine i_ixT hP8 atI0 ?_
      exact ⟨Same.refl _, rfl⟩
    · rw [acc_names (by rw [ha2, lnm]) hv2] at hl2
      keq_hits
      refine ⟨D2, nmsOf ms, rfl, SqL.of hl2, by omega, fun ns nl hperm hsort hnl => ?_⟩
      have s12 := s1.trans s2
      have nl0 : H nl = none := new_of s12 hnl
      have s3 : Same H (upd H2 nl (.lst (ns.map V.str))) := s12.trans (Same.new hnl)
      have hn3 : upd H2 nl (.lst (ns.map V.str)) nl = some (.lst (ns.map V.str)) := upd_same
      generalize upd H2 nl (.lst (ns.map V.str)) = H3 at s3 hn3 ⊢
      keq_hits
      refine ⟨by show 0 ≤ sizeLine; decide, fun fl hfl => ?_⟩
      have fl0 : H fl = none := new_of s3 hfl
      have nlfl : nl ≠ fl := fun z => by rw [← z, hn3] at hfl; cases hfl
      have s4 : Same H (upd H3 fl (.lst [])) := s3.trans (Same.new hfl)
      have hn4 : upd H3 fl (.lst []) nl = some (.lst (ns.map V.str)) := Same.new hfl _ _ hn3
      have hf4 : upd H3 fl (.lst []) fl = some (.lst []) := upd_same
      generalize upd H3 fl (.lst []) = H4 at s4 hn4 hf4 ⊢
      keq_hits
      refine ⟨by show 2 ≤ sizeLine; decide, fun tp htp => ?_⟩
      have t4 : Same H4 (upd H4 tp (.tup [.ref nl, .ref fl])) := Same.new htp
      refine i_two (SqT.of upd_same) ?_
      have s4 := s4.trans t4
      have hn4 := t4 _ _ hn4
      have hf4 := t4 _ _ hf4
      generalize upd H4 tp (.tup [.ref nl, .ref fl]) = H4 at s4 hn4 hf4 ⊢
      show WP.WB _ _ _ _ _
      keq_hits
      refine we_dnew fun wd hwd => ?_
      have wd0 : H wd = none := new_of s4 hwd
      have s5 : Same H (upd H4 wd (.dK [])) := s4.trans (Same.new hwd)
      have hn5 : upd H4 wd (.dK []) nl = some (.lst (ns.map V.str)) := Same.new hwd _ _ hn4
      have hf5 : upd H4 wd (.dK []) fl = some (.lst []) := Same.new hwd _ _ hf4
      have hw5 : upd H4 wd (.dK []) wd = some (.dK []) := upd_same
      generalize upd H4 wd (.dK []) = H5 at s5 hn5 hf5 hw5 ⊢
      keq_hits
      refine ws_forI (walk_tup (K := K) (a := a) (xs := xs)) passes_bx rfl (pi_tup pe) (by k_memK) ?_ iTup_mono
      show WP.WE _ _ _ _ _
      keq_hits
      refine ⟨a, rfl, ⟨_, s5.tup hx⟩, rfl, fun i σ H' => Same H H' ∧ H' nl = some (.lst (ns.map V.str)) ∧ H' fl = some (.lst []) ∧ (∃ kvs, H' wd = some (.dK kvs) ∧ kvs.length ≤ i ∧ ∀ m ∈ ms.take i, WantAt H' kvs m.nm (wantM (nmsOf ms) m)) ∧
          (∃ r1 r5 r6 r7 r8 r9 r10 r11 r12, σ = [some (.ref a), r1, some (.ref nl), some (.ref fl), some (.ref wd), r5, r6, r7, r8, r9, r10, r11, r12]),
        ⟨s5, hn5, hf5, ⟨[], hw5, Nat.le_refl _, fun m hm => by simp at hm⟩, ⟨_, _, _, _, _, _, _, _, _, rfl⟩⟩, fun i σ H' _ h => h.1.tup hx, ?_, ?_⟩
      · rintro i x σ H6 H6' hi ⟨s6, hn6, hf6, ⟨kvs, hw6, hkl, hwa⟩, ⟨r1, r5, r6, r7, r8, r9, r10, r11, r12, rfl⟩⟩ ⟨rfl, ex⟩
        obtain ⟨m, pj, y1, em, rfl, hPj, dR⟩ := macs_at hxs ex
        rw [nms_at em] at hPj
        have hmm := List.mem_of_getElem? em
        have etk : ms.take (i + 1) = ms.take i ++ [m] := by rw [List.take_add_one, em]; rfl
        have mok := hok.ok m hmm
        obtain ⟨ra, z0, z1, rfl, hR, dz0, dz1⟩ := dp_two dR
        obtain ⟨rb, rxs, rfl, hRb, dRs⟩ := dp_tup dz1
        have lr := dpAll_len dRs
        rw [List.length_map] at lr
        have few := mok.few
        refine i_two (s6.tup hPj) ?_
        show WP.WB _ _ _ _ _
        keq_hits
        refine we_dnew fun sd hsd => ?_
        have t7 : Same H6' (upd H6' sd (.dK [])) := Same.new hsd
        have hs7 : upd H6' sd (.dK []) sd = some (.dK []) := upd_same
        generalize upd H6' sd (.dK []) = H7 at t7 hs7 ⊢
        keq_hits
        refine ws_forI (walk_tup (K := K) (a := rb) (xs := rxs)) passes_bx rfl (pi_tup pe) (by k_memK) ?_ iTup_mono
        show WP.WE _ _ _ _ _
        keq_hits
        refine we_ix ix_tup plainIx_int ?_
        keq_hits
        have s7 := s6.trans t7
        refine i_ixT (s7.tup hR) atI1 ?_
        have hRb6 := s6.tup hRb
        refine ⟨rb, rfl, ⟨_, s7.tup hRb⟩, rfl, fun j σ H' => Same H6' H' ∧ (∃ kv, H' sd = some (.dK kv) ∧ kv.length ≤ 3000 * j ∧ DSet kv ((m.rs.take j).flatMap (wantR (nmsOf ms) m.nm))) ∧
            (∃ r1 r8 r9 r10 r11 r12, σ = [some (.ref a), r1, some (.ref nl), some (.ref fl), some (.ref wd), some (.str m.nm), some (.ref ra), some (.ref sd), r8, r9, r10, r11, r12]),
          ⟨t7, ⟨[], hs7, Nat.zero_le _, by simpa using DSet.nil⟩, ⟨_, _, _, _, _, _, rfl⟩⟩, fun j σ H' _ h => h.1.tup hRb6, ?_, ?_⟩
        · rintro j x σ H8 H8' hj ⟨s8, ⟨kv, hs8, hkv8, hds8⟩, ⟨r1', r8', r9', r10', r11', r12', rfl⟩⟩ ⟨rfl, hy⟩
          obtain ⟨dr, hdr, hdy⟩ := dpAll_atv dRs hy
          rw [List.getElem?_map] at hdr
          have hjm : j < m.rs.length := by omega
          rw [List.getElem?_eq_getElem hjm] at hdr
          have hrm : m.rs[j] ∈ m.rs := List.getElem_mem hjm
          have etj : m.rs.take (j + 1) = m.rs.take j ++ [m.rs[j]] := by rw [List.take_add_one, List.getElem?_eq_getElem hjm]; rfl
          generalize m.rs[j] = r at hdr hrm etj
          cases hdr
          obtain ⟨rp, p0, p1, rfl, hRp, dq0, dq1⟩ := dp_two hdy
          obtain ⟨fo2, fb2⟩ := mok.form hrm
          have s68 := s6.trans s8
          refine i_two (s68.tup hRp) ?_
          show WP.WB _ _ _ _ _
          keq_hits
          refine we_update ?_
          keq_hits
          refine i_dct hs8 ?_
          refine wa_cons ?_
          refine we_dcI rfl nd (pi_list pe) (blkOk_by (N := NO) (sc := defScope (top 46)) (own := [("use", 10)]) (by decide +kernel)) (fun _ _ _ _ _ => by k_memK) ?_
          show WP.WE _ _ _ _ _
          keq_hits
          refine ⟨p1, r.2, nl, ns, rfl, WP.dp_mono s68 dq1, fo2.sz, s8 _ _ hn6, fun pl us H9 s9 hpl hus hdus => ?_⟩
          rw [usD_congr (ns' := nmsOf ms) (fun s => hperm.mem_iff)] at hdus
          have lus := dpAll_len hdus
          have lus2 : (usD (nmsOf ms) r.2).length ≤ 3000 := Nat.le_trans (usD_len _ _) fo2.sz
          refine ⟨pl, rfl, ⟨_, SqL.of hus⟩, fun D hD => dc_itI (walk_list (K := K) (a := pl) (xs := us)) (fun k H' => ∃ kn, Same H9 H' ∧ H' D = some (.dK kn) ∧ kn.length ≤ k ∧ DSet kn ((((usD (nmsOf ms) r.2).take k).filterMap hdS).filter fun s => !decide (s = m.nm)))
            ⟨[], Same.new hD, upd_same, Nat.le_refl _, by simpa using DSet.nil⟩ (fun k H' _ ⟨_, h, _⟩ => SqL.of (h _ _ hus)) ?_ (fun H10 h10 => ?_)⟩
          · rintro k x H10 H10' hk ⟨kn, s10, hk10, hkl10, hds10⟩ ⟨rfl, exk⟩
            obtain ⟨u, hu, hdu⟩ := dpAll_atv hdus exk
            have hum := List.mem_of_getElem? hu
            have etk' : (usD (nmsOf ms) r.2).take (k + 1) = (usD (nmsOf ms) r.2).take k ++ [u] := by rw [List.take_add_one, hu]; rfl
            obtain ⟨h, uus, rfl, hin⟩ := usD_head _ _ _ hum
            obtain ⟨ua, ux, uxs, rfl, hU, du0, dus⟩ := dp_consT hdu
            cases dp_str du0
            have hU10 := (s9.trans s10).tup hU
            refine ⟨rfl, ?_⟩
            intro s0 H0 C0 cl0 fp0
            refine wt_cmp op_ne rfl ?_
            keq_hits
            refine we_ix ix_tup plainIx_int ?_
            keq_hits
            refine i_ixT hU10 atI0 ?_
            keq_hits
            refine ⟨rfl, i_bl ?_⟩
            rw [decV]
            cases e1 : decide (h = m.nm) with
            | true =>
              refine i_iff rfl ⟨kn, s10, hk10, by omega, ?_⟩
              rw [etk', List.filterMap_append, List.filter_append]
              simpa [hdS, e1] using hds10
            | false =>
              refine i_ift rfl ?_
              intro s0' H0' C0' cl0' fp0'
              refine we_ix ix_tup plainIx_int ?_
              keq_hits
              refine i_ixT hU10 atI0 ?_
              intro s0' H0' C0' cl0' fp0'
              keq_hits
              refine ⟨kn, .inr h, rfl, hk10, by show _ < 16777216; omega, _, s10.mut hD, upd_same, Nat.le_trans (putK_le _ _ _) (by omega), ?_⟩
              rw [etk', List.filterMap_append, List.filter_append]
              have z : List.filter (fun s => !decide (s = m.nm)) (List.filterMap hdS [PyData.tuple (.str h :: uus)]) = [h] := by simpa [hdS] using e1
              rw [z]
              exact hds10.put h _
          · obtain ⟨kn, s10, hk10, hkl10, hds10⟩ := h10
            rw [List.take_of_length_le (by omega)] at hds10
            have hs10 := s10 _ _ (s9 _ _ hs8)
            have hsD : sd ≠ D := fun z => by rw [← z, s9 _ _ hs8] at hD; cases hD
            keq_hits
            refine i_update hsD hs10 hk10 (by show _ ≤ 16777216; omega) ?_
            have hl11 := mergeK_len kn kv
            keq_hits
            refine ⟨(s8.trans (s9.trans s10)).mut hsd, ⟨_, upd_same, by omega, ?_⟩, ⟨_, _, _, _, _, _, rfl⟩⟩
            rw [etj, List.flatMap_append]
            refine hds8.merge ?_
            simpa [wantR] using hds10
        · rintro σ H8 ⟨s8, ⟨kv, hs8, hkv8, hds8⟩, ⟨r1', r8', r9', r10', r11', r12', rfl⟩⟩
          rw [List.take_of_length_le (by omega)] at hds8
          show WP.WB _ _ _ _ _
          refine wb_one (ws_dput hr ?_)
          refine we_lock ?_
          keq_hits
          refine ⟨sd, _, rfl, hs8, True.intro, fun od => ?_⟩
          have t9 : Same H6' (upd H8 sd (.frz od (.dK kv))) := s8.mut hsd
          have hs9 : upd H8 sd (.frz od (.dK kv)) sd = some (.frz od (.dK kv)) := upd_same
          generalize upd H8 sd (.frz od (.dK kv)) = H9 at t9 hs9 ⊢
          keq_hits
          refine ⟨wd, _, rfl, DPut.k (k := .inr m.nm) (t9 _ _ hw6) (by show _ < 16777216; omega), ?_⟩
          have hw9 := t9 _ _ hw6
          have nw1 : nl ≠ wd := fun z => by rw [← z, t9 _ _ hn6] at hw9; cases hw9
          have nw2 : fl ≠ wd := fun z => by rw [← z, t9 _ _ hf6] at hw9; cases hw9
          have nw3 : sd ≠ wd := fun z => by rw [← z, hs9] at hw9; cases hw9
          refine ⟨(s6.trans t9).mut wd0, by rw [upd_ne nw1]; exact t9 _ _ hn6, by rw [upd_ne nw2]; exact t9 _ _ hf6, ⟨_, upd_same, Nat.le_trans (putK_le _ _ _) (by omega), fun m' hm' => ?_⟩, ⟨_, _, _, _, _, _, _, _, _, rfl⟩⟩
          rw [etk] at hm'
          rcases List.mem_append.mp hm' with hm' | hm'
          · have hne : m'.nm ≠ m.nm := fun z => by
              have y := nd_take hok.nd (show (nmsOf ms)[i]? = some m.nm by unfold nmsOf; rw [List.getElem?_map, em]; rfl)
              refine y ?_
              rw [← z]
              unfold nmsOf
              rw [← List.map_take]
              exact List.mem_map_of_mem hm'
            exact (((hwa m' hm').same t9).upd hw9 (fun _ _ z => nomatch z)).put hne
          · rw [List.mem_singleton.mp hm']
            refine ⟨sd, od, kv, by rw [valV_put, if_pos rfl], by rw [upd_ne nw3]; exact hs9, hds8, by omega⟩
      · rintro σ H6 ⟨s6, hn6, hf6, ⟨kvs, hw6, hkl, hwa⟩, ⟨r1, r5, r6, r7, r8, r9, r10, r11, r12, rfl⟩⟩
        rw [List.take_of_length_le (by omega)] at hwa
        show WP.WB _ _ _ _ _
        have lns : ns.length = ms.length := by rw [hperm.length_eq]; exact List.length_map _
        refine wb_cons (ws_whileW passes_bx (fun mm σ H' => ∃ found : List Str, mm = ns.length - found.length ∧ found.length ≤ ns.length ∧ Same H H' ∧ H' nl = some (.lst (ns.map V.str)) ∧ H' fl = some (.lst (found.map V.str)) ∧ H' wd = some (.dK kvs) ∧ (∀ m ∈ ms, WantAt H' kvs m.nm (wantM (nmsOf ms) m)) ∧
          ordG ns (wantOf ns ms) (ns.length - found.length) found = orderM ns ms ∧ (∃ r1 r5 r6 r7 r8 r9 r10 r11 r12, σ = [some (.ref a), r1, some (.ref nl), some (.ref fl), some (.ref wd), r5, r6, r7, r8, r9, r10, r11, r12])) ?_ ?_)
        · exact ⟨_, [], rfl, Nat.zero_le _, s6, hn6, hf6, hw6, hwa, rfl, ⟨_, _, _, _, _, _, _, _, _, rfl⟩⟩
        · rintro mm σ H7 ⟨found, rfl, hfl7, s7, hn7, hf7, hw7, hwa7, hord, ⟨r1, r5, r6, r7, r8, r9, r10, r11, r12, rfl⟩⟩
          keq_hits
          refine i_lenLt hf7 ?_
          keq_hits
          refine i_lenLt hn7 ?_
          keq_hits
          refine i_ite (fun e => ?_) (fun e => ?_)
          · have hlt : found.length < ns.length := by simpa using e
            refine wb_cons ?_
            refine ws_lcI 12 [("name", 5)] rfl nd rfl rfl rfl rfl rfl (pi_list pe) (blkOk_by (N := NO) (sc := defScope (top 46)) (own := [("name", 5)]) (by decide +kernel)) (fun _ _ _ _ _ => by k_memK) ?_
            show WP.WE _ _ _ _ _
            keq_hits
            refine ⟨nl, rfl, ⟨_, SqL.of hn7⟩, fun D hD => lc_F (fun j => (fun s => !decide (s ∈ found) && (wantOf ns ms s).all fun x => decide (x ∈ found)) (ns.getD j "")) (fun j => V.str (ns.getD j "")) walk_list (by rw [List.length_map]; show _ < 16777216; omega) hD (fun H s => SqL.of (s _ _ hn7)) ?_ teC_mono ttC_mono gName_mono fun H8 s8 hl8 => ?_⟩
            · rintro j x H8 H8' hj s8 ⟨rfl, exj⟩
              have hjn : j < ns.length := by simpa using hj
              have ex : x = .str (ns.getD j "") := by
                rw [List.getElem?_map, List.getElem?_eq_getElem hjn] at exj
                rw [List.getD, List.getElem?_eq_getElem hjn]
                exact (Option.some.inj exj).symm
              have hjm : ns.getD j "" ∈ ns := by
                rw [List.getD, List.getElem?_eq_getElem hjn]
                exact List.getElem_mem hjn
              generalize ns.getD j "" = nm at ex hjm
              subst ex
              refine ⟨rfl, fun s0 H0 C0 cl0 fp0 => ?_⟩
              refine wt_ww (ww_and (wt_cmp op_notIn_seq rfl ?_))
              keq_hits
              refine ⟨fl, _, rfl, .inl (SqL.of (s8 _ _ hf7)), rfl, flat_strs _, i_bl ?_⟩
              rw [if_pos rfl, inV_strs]
              cases e1 : decide (nm ∈ found) with
              | true =>
                refine i_iff rfl ⟨Same.refl _, by show false = (!decide (_ ∈ _) && _); rw [e1]; rfl, fun z => absurd z (by decide)⟩
              | false =>
                refine i_ift rfl ?_
                obtain ⟨m, hmm, hmn⟩ := List.mem_map.mp (hperm.mem_iff.mp hjm)
                obtain ⟨d, od, kv, w1, w2, w3, w4⟩ := (hwa7 m hmm).same s8
                rw [hmn] at w1
                have eW : wantOf ns ms nm = wantM (nmsOf ms) m := by
                  rw [← hmn, wantOf_at hok.nd hmm]
                  exact wantM_congr (fun s => hperm.mem_iff) m
                refine ww_and1 (wt_val ?_)
                refine we_callB (cr_all rfl) (by rfl) ma boot_all ?_
                refine wa_cons ?_
                refine we_lcc rfl nd (pi_keys pe) (blkOk_by (N := NO) (sc := { kind := .function, names := [(".0", .local), ("name", .local), ("all", .globalImplicit), ("found", .cell), ("wants", .cell)], isGenerator := false, isCoroutine := false }) (own := [("one", 11)]) (by decide +kernel)) (fun _ _ _ _ _ => by k_memK) ?_
                show WP.WE _ _ _ _ _
                have dg : DGet H8' wd (.str nm) (some (.ref d)) := by
                  have z := DGet.k (k := .inr nm) (s8 _ _ hw7)
                  rw [w1] at z
                  exact z
                refine we_dget (k := 51) hr (fun _ _ => by with_unfolding_all rfl) ?_
                keq_hits
                refine ⟨wd, _, rfl, dg, ⟨d, od, rfl, .inl ⟨kv, w2, fun D3 hD3 => lc_R (fun j _ v => v = V.bl ((kv[j]?.map (keyIn found)).getD false)) stay_val walk_keys ?_ hD3 (fun H s => s _ _ w2) ?_ teC_mono gName_mono fun H9 acc s9 hl9 ha9 hv9 => ?_⟩⟩⟩
                · show _ < 16777216
                  omega
                · rintro j x H9 H9' hj s9 ⟨rfl, k, vv, hkv, rfl⟩
                  obtain ⟨s', es, hs'⟩ := w3.keys _ (List.mem_of_getElem? hkv)
                  have es : k = .inr s' := es
                  subst es
                  refine ⟨rfl, fun s0' H0' C0' cl0' fp0' => ?_⟩
                  refine we_cmp op_in_seq rfl ?_
                  keq_hits
                  refine ⟨fl, _, rfl, .inl (SqL.of (s9 _ _ (s8 _ _ hf7))), rfl, flat_strs _, Same.refl _, ?_⟩
                  show V.bl (inV (V.str s') (List.map V.str found)) = _
                  rw [inV_strs, hkv]
                  rfl
                · rw [acc_bls ha9 hv9] at hl9
                  keq_hits
                  refine ⟨D3, _, rfl, SqL.of hl9, ?_⟩
                  have eA : (kv.map (keyIn found)).all id = (wantOf ns ms nm).all fun x => decide (x ∈ found) := by
                    rw [eW, ← w3.all, List.all_map]
                    rfl
                  rw [eA]
                  refine i_bl ⟨s9, ?_, fun _ s0' H0' C0' cl0' fp0' => ?_⟩
                  · show _ = (!decide (_ ∈ _) && _)
                    rw [e1]
                    rfl
                  · keq_hits
                    exact ⟨s9, rfl⟩
            · have hl8' : H8 D = some (.lst ((readyL ns (wantOf ns ms) found).map V.str)) := by
                rw [hl8, List.length_map]
                exact congrArg (fun z => some (HO.lst z)) (filter_at (p := fun s => !decide (s ∈ found) && (wantOf ns ms s).all fun x => decide (x ∈ found)) ns)
              obtain ⟨k, hk⟩ : ∃ k, ns.length - found.length = k + 1 := ⟨ns.length - found.length - 1, by omega⟩
              rw [hk, ordG] at hord
              have hlr : (readyL ns (wantOf ns ms) found).length ≤ ns.length := List.length_filter_le _ _
              show WP.WB _ _ _ _ _
              refine wb_cons (ws_if (wt_cmp op_eq rfl ?_))
              keq_hits
              refine i_lenLt hl8' ?_
              keq_hits
              refine ⟨rfl, i_bl ?_⟩
              have s78 := s7.trans s8
              cases hr : readyL ns (wantOf ns ms) found with
              | nil =>
                rw [hr] at hord
                refine i_ift rfl ?_
                keq_hits
                refine q ns _ _ hperm hsort s78 ?_
                rw [← hord]
                exact .non
              | cons s0 rest =>
                rw [hr] at hord hl8'
                refine i_iff rfl ?_
                have hf8 := s8 _ _ hf7
                keq_hits
                refine i_lstT hf8 ?_
                refine wa_cons ?_
                refine we_ix ix_seq plainIx_int ?_
                keq_hits
                refine .inl ⟨_, _, _, _, rfl, rfl, SqL.of hl8', atI0, ?_⟩
                keq_hits
                refine i_append hf8 (by rw [List.length_map]; show _ < 16777216; omega) ?_
                keq_hits
                have hn8 := s8 _ _ hn7
                have hw8 := s8 _ _ hw7
                have nw1 := nlfl
                have nw2 : wd ≠ fl := fun z => by rw [z, hf8] at hw8; cases hw8
                refine ⟨_, ?_, found ++ [s0], rfl, ?_, s78.mut fl0, by rw [upd_ne nw1]; exact hn8, by rw [upd_same]; simp, by rw [upd_ne nw2]; exact hw8, fun m hm => ((hwa7 m hm).same s8).upd hf8 (fun _ _ z => nomatch z), ?_, ⟨_, _, _, _, _, _, _, _, _, rfl⟩⟩
                · rw [List.length_append, List.length_singleton]
                  omega
                · rw [List.length_append, List.length_singleton]
                  omega
                · rw [← hord, List.length_append, List.length_singleton, show ns.length - (found.length + 1) = k by omega]
          · have hge : ns.length ≤ found.length := by simpa using e
            rw [show ns.length - found.length = 0 by omega, ordG] at hord
            show WP.WB _ _ _ _ _
            keq_hits
            refine we_callTy call_tup (by rfl) mt boot_tuple ?_
            keq_hits
            refine i_tupL hf7 fun tp htp => ?_
            refine q ns _ _ hperm hsort (s7.trans (Same.new htp)) ?_
            rw [← hord]
            exact .tup (SqT.of upd_same) (dpAll_strs found)
end
end
section
/-! ### the law's weights, counts, uses -/
section
variable {P : Program} {w : World} {K : PySem.W.Frag} {mg : Str → Option Value} {base : Heap} {f f2 : Addr} {fd fd2 : FuncData} {C CB CM : Addr} {L : List Str}
/-- form[at + 1:at + 2] == ("...",) or != -/
theorem i_next {X : Cx} {K : PySem.W.Frag} {H : Hp} {p c : Addr} {ds : List PyData} {ys : List V} {i : Nat} {H1 : Hp} (h1 : SqT K H1 c (cutV ys (some ((i : Int) + 1)) (some ((i : Int) + 2)))) (hys : DpAll K H ys ds) (s : Same H H1) (hsh : SeqAt.shaped (.tuple ds) = true) (hp : H1 p = none) :
    Dp K (upd H1 p (.tup [.str "..."])) (.ref c) (.tuple ((ds.drop (i + 1)).take 1)) ∧ Dp K (upd H1 p (.tup [.str "..."])) (.ref p) (.tuple [.str "..."]) ∧ SeqAt.shaped (.tuple ((ds.drop (i + 1)).take 1)) = true := by
  rw [cutV_one] at h1
  have s2 : Same H1 (upd H1 p (.tup [.str "..."])) := Same.new hp
  exact ⟨.tup (s2.tup h1) (dpAll_mono (s.trans s2) (dpAll_take 1 (dpAll_drop (i + 1) hys))), dots_data (SqT.of upd_same), shaped_slice hsh _ _⟩
def sp_lweight (K : PySem.W.Frag) (n : Nat) : Sp := fun vs H Q _ => ∃ v d, vs = [v] ∧ Dp K H v d ∧ formB d = true ∧ ddep d ≤ n + 1 ∧ n ≤ 50 ∧ dsize d ≤ 3000 ∧ ∀ H', Same H H' → Q (.int ((wgt d : Nat) : Int)) H'
theorem sq58 : FnScope ["form", "found", "at", "part"] ["form"] (defScope (top 58)) := ⟨rfl, rfl, rfl, by decide +kernel, rfl, by decide +kernel, by decide +kernel⟩
theorem ok_lweight (F : FnP K "_law_weight" 58 f fd) (hm : mg "_law_weight" = some (.ref f)) (mi : mg "isinstance" = none) (me : mg "enumerate" = none) (mtu : BTy mg "tuple" "tuple") (n : Nat)
    (DN : ∀ m, m < n → Def P w K mg base (m + 1) "_law_weight" (sp_lweight K m)) : Def P w K mg base (n + 1) "_law_weight" (sp_lweight K n) := by
  refine Def.mk' F hm sq58 (fun vs H Q E h => ?_) (fun _ _ _ _ _ _ us hl => match us, hl with | [_], _ => rfl) (fun cdv A outer s H vs Q E hr tk h => ?_)
  · obtain ⟨v, d, rfl, _⟩ := h
    rfl
  · obtain ⟨v, d, rfl, hd, hf, hdp, hn50, hz, q⟩ := h
    have nd := sq58.nd
    have hd0 := hd
    keq_hits
    by_cases htup : ∃ es, d = .tuple es
    · obtain ⟨ds, rfl⟩ := htup
      obtain ⟨a, xs, rfl, hx, hxs⟩ := dp_tup hd
      have hfs : formBs ds = true := hf
      have hdd : ddeps ds ≤ n := by simp only [ddep] at hdp; omega
      have lx := dpAll_len hxs
      have hsh : SeqAt.shaped (.tuple ds) = true := shaped_form hf (by omega)
      refine i_iff rfl ?_
      keq_hits
      refine ws_forI (walk_enumT (K := K) (a := a) (xs := xs)) passes_bx rfl (pi_enumT (by rfl) me pa) (by k_memK) ?_ iEnumT_mono
      show WP.WA _ _ _ _ _
      keq_hits
      refine ⟨a, xs, rfl, hx, rfl, fun i σ H' => (∃ r2 r3 acc, σ = [some (.ref a), some (.int ((acc : Nat) : Int)), r2, r3] ∧ acc + wgts (ds.drop i) = 1 + wgts ds) ∧ Same H H',
        ⟨⟨_, _, 1, rfl, rfl⟩, Same.refl _⟩, fun i σ H' _ h => h.2.tup hx, ?_, ?_⟩
      · rintro i x' σ H1 H2 hi ⟨⟨r2, r3, acc, rfl, hacc⟩, s1⟩ ⟨T, y, rfl, hT1, rfl, hy⟩
        refine i_two (SqT.of upd_same) ?_
        have s2 : Same H1 (upd H1 T (.tup [.int (i : Nat), y])) := Same.new hT1
        generalize upd H1 T (.tup [.int (i : Nat), y]) = H2 at s2 ⊢
        have s02 := s1.trans s2
        obtain ⟨d, hd1, hd2⟩ := dpAll_atv hxs hy
        have hil : i < ds.length := by omega
        have ed : ds.drop i = d :: ds.drop (i + 1) := by
          rw [List.drop_eq_getElem_cons hil]
          rw [List.getElem?_eq_getElem hil] at hd1
          cases hd1
          rfl
        have dm := List.mem_of_getElem? hd1
        have hfd := formBs_mem hfs dm
        have hdpd : ddep d ≤ n := by have := ddeps_le dm; omega
        rw [ed, wgts] at hacc
        have hx2 := s02.tup hx
        have dd2 := WP.dp_mono s02 hd2
        have hzd : dsize d ≤ 3000 := by
          have := dsizes_mem dm
          simp only [dsize] at hz
          omega
        show WP.WB _ _ _ _ _
        refine wb_one (ws_if (wt_mono (QT := fun k H' => k = !(isRep d || repHd (ds.drop (i + 1))) ∧ Same H2 H') (fun kk H6 ⟨ek, s6⟩ => ?_) ?_))
        · subst ek
          cases hrr : isRep d || repHd (ds.drop (i + 1)) with
          | true =>
            rw [hrr] at hacc
            refine i_iff rfl ?_
            keq_hits
            exact ⟨⟨_, _, acc, rfl, by simpa using hacc⟩, s02.trans s6⟩
          | false =>
            rw [hrr] at hacc
            obtain ⟨m, rfl⟩ : ∃ m, n = m + 1 := ⟨n - 1, by have := ddep_pos d; omega⟩
            have D := DN m (by omega)
            refine i_ift rfl ?_
            keq_hits
            refine we_op op_add ?_
            keq_hits
            refine ⟨_, d, rfl, WP.dp_mono s6 dd2, hfd, hdpd, by omega, hzd, fun H7 s7 => ?_⟩
            keq_hits
            have e0 : V.int ((acc : Int) + ((wgt d : Nat) : Int)) = V.int ((acc + wgt d : Nat) : Int) := by rw [Int.natCast_add]
            refine ⟨⟨_, _, acc + wgt d, by rw [← e0]; rfl, by simp only [Bool.false_eq_true, if_false] at hacc; omega⟩, s02.trans (s6.trans s7)⟩
        · refine wt_ww (ww_and (wt_cmp (op_neD hr.units) rfl ?_))
          keq_hits
          refine ⟨_, _, dd2, .str "...", shaped_form hfd (by omega), by decide +kernel, i_bl ?_⟩
          rw [eqv_rep]
          cases e1 : isRep d with
          | true => exact i_iff rfl ⟨rfl, Same.refl _⟩
          | false =>
            refine i_ift rfl ?_
            refine ww_and1 (wt_cmp (op_neD hr.units) rfl (we_slB sl_tupA ?_))
            keq_hits
            refine we_op op_add ?_
            keq_hits
            refine ⟨_, rfl, ?_⟩
            refine we_op op_add ?_
            keq_hits
            refine ⟨_, rfl, i_sl hx2 fun c5 H5 s5 h5 => ?_⟩
            keq_hits
            refine ⟨by show 1 ≤ sizeLine; decide, fun p6 hp6 => ?_⟩
            obtain ⟨g1, g2, g3⟩ := i_next (X := bx P w K mg base ["form", "found", "at", "part"] "_law_weight" (defScope (top 58)) f cdv A outer s H E) h5 hxs (s02.trans s5) hsh hp6
            refine ⟨_, _, g1, g2, g3, shaped_dots, i_bl ⟨?_, s5.trans (Same.new hp6)⟩⟩
            rw [slice_rep, Bool.false_or]
      · rintro σ H1 ⟨⟨r2, r3, acc, rfl, hacc⟩, s1⟩
        show WP.WB _ _ _ _ _
        rw [List.drop_of_length_le (by omega)] at hacc
        simp only [wgts, Nat.add_zero] at hacc
        keq_hits
        rw [hacc]
        exact q _ s1
    · have e1 : dTup d = false := by
        cases d <;> first | rfl | exact absurd ⟨_, rfl⟩ htup
      rw [e1]
      refine i_ift rfl ?_
      keq_hits
      have e2 : wgt d = 1 := by
        cases d <;> first | rfl | exact absurd ⟨_, rfl⟩ htup
      have z := q _ (Same.refl _)
      rw [e2] at z
      exact z
theorem ok_lweights (F : FnP K "_law_weight" 58 f fd) (hm : mg "_law_weight" = some (.ref f)) (mi : mg "isinstance" = none) (me : mg "enumerate" = none) (mtu : BTy mg "tuple" "tuple") :
    ∀ n, Def P w K mg base (n + 1) "_law_weight" (sp_lweight K n) := by
  intro n
  induction n using Nat.strongRecOn with
  | _ n ih => exact ok_lweight F hm mi me mtu n ih
end
end
section
/-! ### the law's counts -/
section
variable {P : Program} {w : World} {K : PySem.W.Frag} {mg : Str → Option Value} {base : Heap} {f f2 : Addr} {fd fd2 : FuncData} {C CB CM : Addr} {L : List Str}
def sp_lcounts (K : PySem.W.Frag) (n : Nat) : Sp := fun vs H Q _ => ∃ v d l fo kvs fl, vs = [v, .int ((l : Nat) : Int), .ref fo] ∧ Dp K (hid [fo] H) v d ∧ formB d = true ∧ ddep d ≤ n + 1 ∧ n ≤ 50 ∧ H fo = some (.dT kvs) ∧ CntOf kvs fl ∧ fl.length + (wds d l).length ≤ 6000 ∧
  ∀ H' kvs', Same (hid [fo] H) (hid [fo] H') → H' fo = some (.dT kvs') → CntOf kvs' (fl ++ wds d l) → Q (.ref fo) H'
abbrev NC : List Str := ["form", "depth", "found", "at", "part"]
theorem sq59 : FnScope NC ["form", "depth", "found"] (defScope (top 59)) := ⟨rfl, rfl, rfl, by decide +kernel, rfl, by decide +kernel, by decide +kernel⟩
theorem ok_lcount (F : FnP K "_law_counts" 59 f fd) (hm : mg "_law_counts" = some (.ref f)) (mi : mg "isinstance" = none) (me : mg "enumerate" = none) (mtu : BTy mg "tuple" "tuple") (mst : BTy mg "str" "str") (n : Nat)
    (DN : ∀ m, m < n → Def P w K mg base (m + 1) "_law_counts" (sp_lcounts K m)) : Def P w K mg base (n + 1) "_law_counts" (sp_lcounts K n) := by
  refine Def.mk' F hm sq59 (fun vs H Q E h => ?_) (fun _ _ _ _ _ _ us hl => match us, hl with | [_, _, _], _ => rfl) (fun cdv A outer s H vs Q E hr tk h => ?_)
  · obtain ⟨v, d, l, fo, kvs, fl, rfl, _⟩ := h
    rfl
  · obtain ⟨v, d, l, fo, kvs, fl, rfl, hd0, hf, hdp, hn50, hfo, hc, hz, q⟩ := h
    have nd := sq59.nd
    have hd := WP.dp_mono (hid_same (S := [fo])) hd0
    keq_hits
    by_cases htup : ∃ es, d = .tuple es
    · obtain ⟨ds, rfl⟩ := htup
      obtain ⟨a, xs, rfl, hx, hxs⟩ := dp_tup hd0
      have hfs : formBs ds = true := hf
      have hdd : ddeps ds ≤ n := by simp only [ddep] at hdp; omega
      have lx := dpAll_len hxs
      have hsh : SeqAt.shaped (.tuple ds) = true := shaped_form hf (by omega)
      refine i_iff rfl ?_
      keq_hits
      refine i_ift rfl ?_
      keq_hits
      refine ws_forI (walk_enumT (K := K) (a := a) (xs := xs)) passes_bx rfl (pi_enumT (by rfl) me pa) (by k_memK) ?_ iEnumT_mono
      show WP.WA _ _ _ _ _
      keq_hits
      refine ⟨a, xs, rfl, hid_same.tup hx, rfl, fun i σ H' => (∃ r3 r4, σ = [some (.ref a), some (.int ((l : Nat) : Int)), some (.ref fo), r3, r4]) ∧ Same (hid [fo] H) (hid [fo] H') ∧ ∃ kvs' fl', H' fo = some (.dT kvs') ∧ CntOf kvs' (fl ++ fl') ∧ fl' ++ wdss (ds.drop i) l = wdss ds l,
        ⟨⟨_, _, rfl⟩, Same.refl _, kvs, [], hfo, by rw [List.append_nil]; exact hc, rfl⟩, fun i σ H' _ h => (h.2.1.trans hid_same).tup hx, ?_, ?_⟩
      · rintro i x' σ H1 H2 hi ⟨⟨r3, r4, rfl⟩, s1, kvs1, fl1, hf1, hc1, he1⟩ ⟨T, y, rfl, hT1, rfl, hy⟩
        refine i_two (SqT.of upd_same) ?_
        have s2 : Same H1 (upd H1 T (.tup [.int (i : Nat), y])) := Same.new hT1
        generalize upd H1 T (.tup [.int (i : Nat), y]) = H2 at s2 ⊢
        have s02 := s1.trans (same_hid s2)
        have hf2 := s2 _ _ hf1
        obtain ⟨d, hd1, hd2⟩ := dpAll_atv hxs hy
        have hil : i < ds.length := by omega
        have ed : ds.drop i = d :: ds.drop (i + 1) := by
          rw [List.drop_eq_getElem_cons hil]
          rw [List.getElem?_eq_getElem hil] at hd1
          cases hd1
          rfl
        have dm := List.mem_of_getElem? hd1
        have hfd := formBs_mem hfs dm
        have hdpd : ddep d ≤ n := by have := ddeps_le dm; omega
        rw [ed, wdss] at he1
        have hx2 := (s02.trans hid_same).tup hx
        have dd2 := WP.dp_mono (s02.trans hid_same) hd2
        show WP.WB _ _ _ _ _
        refine wb_one (ws_if (wt_cmp (op_neD hr.units) rfl ?_))
        keq_hits
        refine ⟨_, _, dd2, .str "...", shaped_form hfd (by omega), by decide +kernel, i_bl ?_⟩
        rw [eqv_rep]
        cases e1 : isRep d with
        | true =>
          rw [e1] at he1
          refine i_iff rfl ?_
          keq_hits
          exact ⟨⟨_, _, rfl⟩, s02, kvs1, fl1, hf2, hc1, by simpa using he1⟩
        | false =>
          rw [e1] at he1
          obtain ⟨m, rfl⟩ : ∃ m, n = m + 1 := ⟨n - 1, by have := ddep_pos d; omega⟩
          have DD := DN m (by omega)
          refine i_ift rfl ?_
          keq_hits
          refine we_op op_add ?_
          l_intsC
          refine WE.mono (Q := fun v H' => v = .int (((if repHd (ds.drop (i + 1)) = true then 1 else 0 : Nat) : Nat) : Int) ∧ Same H2 H') ?_ (fun v6 H6 ⟨ev6, s6⟩ => ?_)
          · keq_hits
            refine wt_cmp (op_eqD hr.units) rfl (we_slB sl_tupA ?_)
            keq_hits
            refine we_op op_add ?_
            keq_hits
            refine ⟨_, rfl, ?_⟩
            refine we_op op_add ?_
            keq_hits
            refine ⟨_, rfl, i_sl hx2 fun c5 H5 s5 h5 => ?_⟩
            keq_hits
            refine ⟨by show 1 ≤ sizeLine; decide, fun p6 hp6 => ?_⟩
            obtain ⟨g1, g2, g3⟩ := i_next (X := bx P w K mg base NC "_law_counts" (defScope (top 59)) f cdv A outer s H E) h5 (dpAll_mono (s02.trans hid_same) hxs) s5 hsh hp6
            refine ⟨_, _, g1, g2, g3, shaped_dots, i_bl ?_⟩
            rw [slice_rep]
            cases e2 : repHd (ds.drop (i + 1)) with
            | true =>
              refine i_ift rfl ?_
              keq_hits
              exact ⟨rfl, s5.trans (Same.new hp6)⟩
            | false =>
              refine i_iff rfl ?_
              keq_hits
              exact ⟨rfl, s5.trans (Same.new hp6)⟩
          · subst ev6
            keq_hits
            have eint : ((l : Int) + (((if repHd (ds.drop (i + 1)) = true then 1 else 0 : Nat) : Nat) : Int)) = ((l + (if repHd (ds.drop (i + 1)) = true then 1 else 0) : Nat) : Int) := by rw [Int.natCast_add]
            rw [eint]
            have he1 : fl1 ++ (wds d (l + if repHd (ds.drop (i + 1)) = true then 1 else 0) ++ wdss (ds.drop (i + 1)) l) = wdss ds l := he1
            refine ⟨y, d, _, fo, kvs1, fl ++ fl1, rfl, WP.dp_mono (s02.trans (same_hid s6)) hd2, hfd, hdpd, by omega, s6 _ _ hf2, hc1, ?_, fun H7 kvs7 s7 hf7 hc7 => ?_⟩
            · have zl := congrArg List.length he1
              have hz : fl.length + (wdss ds l).length ≤ 6000 := hz
              simp only [List.length_append] at zl ⊢
              omega
            · keq_hits
              refine ⟨⟨_, _, rfl⟩, s02.trans ((same_hid s6).trans s7), kvs7, _, hf7, by rw [← List.append_assoc]; exact hc7, ?_⟩
              rw [List.append_assoc]
              exact he1
      · rintro σ H1 ⟨⟨r3, r4, rfl⟩, s1, kvs1, fl1, hf1, hc1, he1⟩
        show WP.WB _ _ _ _ _
        rw [List.drop_of_length_le (by omega), wdss, List.append_nil] at he1
        subst he1
        keq_hits
        exact q _ _ s1 hf1 hc1
    · have e1 : dTup d = false := by
        cases d <;> first | rfl | exact absurd ⟨_, rfl⟩ htup
      by_cases hstr : ∃ s, d = .str s
      · obtain ⟨s, rfl⟩ := hstr
        cases hd
        refine i_ift rfl ?_
        refine wb_cons (ws_dput hr ?_)
        refine we_op op_add ?_
        refine we_get2 hr ⟨rfl, rfl, rfl, rfl⟩ ?_
        keq_hits
        refine ⟨fo, rfl, .inr ⟨_, .inl hfo⟩, ?_⟩
        keq_hits
        refine ⟨by show 2 ≤ sizeLine; decide, fun p6 hp6 => ?_⟩
        have s6 : Same H (upd H p6 (.tup [.str s, .int (l : Int)])) := Same.new hp6
        have h6 : upd H p6 (.tup [.str s, .int (l : Int)]) p6 = some (.tup [.str s, .int (l : Int)]) := upd_same
        generalize upd H p6 (.tup [.str s, .int (l : Int)]) = H6 at s6 h6 ⊢
        have hf6 := s6 _ _ hfo
        keq_hits
        refine ⟨_, DGet.t (k := kyT (s, l)) hf6 h6, ?_⟩
        rw [hc.get (s, l)]
        keq_hits
        refine ⟨by show 2 ≤ sizeLine; decide, fun p7 hp7 => ?_⟩
        have s7 : Same H6 (upd H6 p7 (.tup [.str s, .int (l : Int)])) := Same.new hp7
        have h7 : upd H6 p7 (.tup [.str s, .int (l : Int)]) p7 = some (.tup [.str s, .int (l : Int)]) := upd_same
        generalize upd H6 p7 (.tup [.str s, .int (l : Int)]) = H7 at s7 h7 ⊢
        have hf7 := s7 _ _ hf6
        have hlen : kvs.length ≤ 6000 := by
          have z1 := hc.len
          omega
        have ei : V.int (((fl.count (s, l) : Nat) : Int) + 1) = V.int ((fl.count (s, l) + 1 : Nat) : Int) := rfl
        rw [ei]
        refine ⟨fo, _, rfl, DPut.t (k := kyT (s, l)) hf7 h7 (by show kvs.length < 16777216; omega), ?_⟩
        keq_hits
        refine i_iff rfl ?_
        keq_hits
        exact q _ _ ((same_hid (s6.trans s7)).trans (hid_put (by simp))) upd_same (hc.put (s, l))
      · have e2 : dStr d = false := by
          cases d <;> first | rfl | exact absurd ⟨_, rfl⟩ hstr
        refine i_iff e2 ?_
        keq_hits
        rw [e1]
        refine i_iff rfl ?_
        keq_hits
        have e3 : wds d l = [] := by
          cases d <;> first | rfl | exact absurd ⟨_, rfl⟩ hstr | exact absurd ⟨_, rfl⟩ htup
        exact q _ _ (Same.refl _) hfo (by rw [e3, List.append_nil]; exact hc)
theorem ok_lcounts (F : FnP K "_law_counts" 59 f fd) (hm : mg "_law_counts" = some (.ref f)) (mi : mg "isinstance" = none) (me : mg "enumerate" = none) (mtu : BTy mg "tuple" "tuple") (mst : BTy mg "str" "str") :
    ∀ n, Def P w K mg base (n + 1) "_law_counts" (sp_lcounts K n) := by
  intro n
  induction n using Nat.strongRecOn with
  | _ n ih => exact ok_lcount F hm mi me mtu mst n ih
end
end
section
/-! ### the law's uses -/
mutual
/-- each tuple begins with a text -/
def headB : PyData → Bool
  | .tuple ds => (match ds with
    | .str _ :: _ => true
    | _ => false) && headBs ds
  | _ => true
def headBs : List PyData → Bool
  | [] => true
  | d :: ds => headB d && headBs ds
end
theorem headBs_iff : ∀ {ds : List PyData}, headBs ds = true ↔ ∀ d ∈ ds, headB d = true
  | [] => by simp [headBs]
  | d :: ds => by simp [headBs, headBs_iff (ds := ds)]
section
variable {P : Program} {w : World} {K : PySem.W.Frag} {mg : Str → Option Value} {base : Heap} {f f2 : Addr} {fd fd2 : FuncData} {C CB CM : Addr} {L : List Str}
def sp_luses (K : PySem.W.Frag) (n : Nat) : Sp := fun vs H Q _ => ∃ v d na ns HB, vs = [v, .ref na] ∧ Same HB H ∧ Dp K HB v d ∧ formB d = true ∧ headB d = true ∧ ddep d ≤ n + 1 ∧ n ≤ 50 ∧ dsize d ≤ 3000 ∧ H na = some (.lst (ns.map V.str)) ∧
  ∀ p us H', Same H H' → H p = none → H' p = some (.lst us) → DpAll K HB us (usD ns d) → Q (.ref p) H'
abbrev NU : List Str := ["form", "names", "found", "part"]
theorem sq60 : FnScope NU ["form", "names"] (defScope (top 60)) := ⟨rfl, rfl, rfl, by decide +kernel, rfl, by decide +kernel, by decide +kernel⟩
theorem eqv_empty (ds : List PyData) : PyData.eqv (.tuple ds) (.tuple []) = ds.isEmpty := by
  cases ds <;> rfl
theorem ok_luse (F : FnP K "_law_uses" 60 f fd) (hm : mg "_law_uses" = some (.ref f)) (mi : mg "isinstance" = none) (mtu : BTy mg "tuple" "tuple") (n : Nat)
    (DN : ∀ m, m < n → Def P w K mg base (m + 1) "_law_uses" (sp_luses K m)) : Def P w K mg base (n + 1) "_law_uses" (sp_luses K n) := by
  refine Def.mk' F hm sq60 (fun vs H Q E h => ?_) (fun _ _ _ _ _ _ us hl => match us, hl with | [_, _], _ => rfl) (fun cdv A outer s H vs Q E hr tk h => ?_)
  · obtain ⟨v, d, na, ns, HB, rfl, _⟩ := h
    rfl
  · obtain ⟨v, d, na, ns, HB, rfl, sB, hd, hf, hh, hdp, hn50, hz, hna, q⟩ := h
    have nd := sq60.nd
    keq_hits
    refine ⟨by show 0 ≤ sizeLine; decide, fun fo hfo => ?_⟩
    have s0 : Same H (upd H fo (.lst [])) := Same.new hfo
    have h0 : upd H fo (.lst []) fo = some (.lst []) := upd_same
    generalize upd H fo (.lst []) = H0 at s0 h0 ⊢
    have hd0 := WP.dp_mono (sB.trans s0) hd
    keq_hits
    by_cases htup : ∃ es, d = .tuple es
    · obtain ⟨ds, rfl⟩ := htup
      obtain ⟨a, xs, rfl, hx, hxs⟩ := dp_tup hd
      have hfs : formBs ds = true := hf
      have hdd : ddeps ds ≤ n := by simp only [ddep] at hdp; omega
      have lx := dpAll_len hxs
      have hsh : SeqAt.shaped (.tuple ds) = true := shaped_form hf (by omega)
      have hz' : dsizes ds + 1 ≤ 3000 := by simpa only [dsize] using hz
      obtain ⟨hs, dr, rfl⟩ : ∃ hs dr, ds = .str hs :: dr := by
        unfold headB at hh
        cases ds with
        | nil => cases hh
        | cons d0 dr =>
          cases d0 with
          | str s => exact ⟨s, dr, rfl⟩
          | _ => cases hh
      have hhs : headBs (.str hs :: dr) = true := by
        unfold headB at hh
        simpa using hh
      obtain ⟨xs', rfl⟩ : ∃ xs', xs = .str hs :: xs' := by
        cases hxs with
        | cons h1 r => cases h1; exact ⟨_, rfl⟩
      refine i_ift rfl ?_
      have eu : usD ns (.tuple (.str hs :: dr)) = (if decide (hs ∈ ns) then [.tuple (.str hs :: dr)] else []) ++ usDs ns (.str hs :: dr) := rfl
      refine wb_cons (ws_cut (fun σ' H3 => σ' = [some (.ref a), some (V.ref na), some (V.ref fo), none] ∧ ∃ us' done', Same H H3 ∧ H3 fo = some (.lst us') ∧ DpAll K HB us' done' ∧ usD ns (.tuple (.str hs :: dr)) = done' ++ usDs ns (.str hs :: dr)) ?_ ?_)
      · refine ws_if (wt_mono (QT := fun k H' => k = decide (hs ∈ ns) ∧ Same H0 H') (fun kk H1 ⟨ek, s1⟩ => ?_) ?_)
        · subst ek
          refine i_ite (fun e => ?_) (fun e => ?_)
          · keq_hits
            refine i_lstT (s1 _ _ h0) ?_
            keq_hits
            refine i_append (s1 _ _ h0) (by show 0 < 16777216; decide) ?_
            keq_hits
            refine ⟨rfl, _, [.tuple (.str hs :: dr)], (s0.trans s1).mut hfo, upd_same, .cons hd .nil, ?_⟩
            rw [eu, e]
            rfl
          · keq_hits
            refine ⟨rfl, _, [], s0.trans s1, s1 _ _ h0, .nil, ?_⟩
            rw [eu, e]
            rfl
        · refine wt_ww (ww_and (wt_cmp (op_neD hr.units) rfl ?_))
          keq_hits
          refine ⟨by show 0 ≤ sizeLine; decide, fun pe0 hpe0 => ?_⟩
          have t1 : Same H0 (upd H0 pe0 (.tup [])) := Same.new hpe0
          refine ⟨_, _, WP.dp_mono t1 hd0, .tup (SqT.of upd_same) .nil, hsh, by decide +kernel, i_bl ?_⟩
          rw [eqv_empty]
          refine i_ift rfl ?_
          refine ww_and1 (wt_cmp op_in_seq rfl ?_)
          refine we_ix ix_tup plainIx_int ?_
          keq_hits
          refine i_ixT ((sB.trans (s0.trans t1)).tup hx) atI0 ?_
          keq_hits
          refine ⟨na, _, rfl, .inl (SqL.of ((s0.trans t1) _ _ hna)), rfl, flat_strs ns, i_bl ⟨?_, t1⟩⟩
          rw [if_neg Bool.false_ne_true, inV_strs]
      · rintro σ' H3 ⟨rfl, us', done', s3, hf3, hus3, heq3⟩
        show WP.WB _ _ _ _ _
        have hx0 := hx
        refine wb_cons ?_
        refine ws_forI (walk_tup (K := K) (a := a) (xs := .str hs :: xs')) passes_bx rfl (pi_tup pe) (by k_memK) ?_ iTup_mono
        show WP.WE _ _ _ _ _
        keq_hits
        refine ⟨a, rfl, ⟨_, (sB.trans s3).tup hx⟩, rfl, fun i σ H' => (∃ r3, σ = [some (.ref a), some (.ref na), some (.ref fo), r3]) ∧ Same H H' ∧ ∃ us done, H' fo = some (.lst us) ∧ DpAll K HB us done ∧ usD ns (.tuple (.str hs :: dr)) = done ++ usDs ns ((PyData.str hs :: dr).drop i),
          ⟨⟨_, rfl⟩, s3, us', done', hf3, hus3, heq3⟩, fun i σ H' _ h => (sB.trans h.2.1).tup hx0, ?_, ?_⟩
        · rintro i x σ H4 H4' hi ⟨⟨r3, rfl⟩, s4, us, done, hf4, hus4, heq4⟩ ⟨rfl, ex⟩
          obtain ⟨d, hd1, hd2⟩ := dpAll_atv hxs ex
          have hil : i < (PyData.str hs :: dr).length := by omega
          have ed : (PyData.str hs :: dr).drop i = d :: (PyData.str hs :: dr).drop (i + 1) := by
            rw [List.drop_eq_getElem_cons hil]
            rw [List.getElem?_eq_getElem hil] at hd1
            cases hd1
            rfl
          have dm := List.mem_of_getElem? hd1
          rw [ed, usDs] at heq4
          have hfd := formBs_mem hfs dm
          have hhd := headBs_iff.mp hhs d dm
          have hdpd : ddep d ≤ n := by have := ddeps_le dm; omega
          have hzd : dsize d ≤ 3000 := by
            have := dsizes_mem dm
            omega
          obtain ⟨m, rfl⟩ : ∃ m, n = m + 1 := ⟨n - 1, by have := ddep_pos d; omega⟩
          have DD := DN m (by omega)
          show WP.WB _ _ _ _ _
          keq_hits
          refine i_lstT hf4 ?_
          keq_hits
          refine ⟨x, d, na, ns, HB, rfl, sB.trans s4, hd2, hfd, hhd, hdpd, by omega, hzd, s4 _ _ hna, fun p uu H5 s5 hp hp5 huu => ?_⟩
          keq_hits
          have hf5 := s5 _ _ hf4
          have l1 := dpAll_len hus4
          have l2 := dpAll_len huu
          have l3 := usD_len ns d
          have l4 := usD_len ns (.tuple (.str hs :: dr))
          have l5 := congrArg List.length heq4
          rw [List.length_append] at l5
          refine i_extend hf5 hp5 (by show _ ≤ 16777216; omega) ?_
          keq_hits
          refine ⟨⟨_, rfl⟩, (s4.trans s5).mut hfo, _, done ++ usD ns d, upd_same, dpAll_app hus4 huu, ?_⟩
          rw [heq4, List.append_assoc]
        · rintro σ H4 ⟨⟨r3, rfl⟩, s4, us, done, hf4, hus4, heq4⟩
          rw [List.drop_of_length_le (by omega), usDs, List.append_nil] at heq4
          show WP.WB _ _ _ _ _
          keq_hits
          exact q fo us _ s4 hfo hf4 (by rw [heq4]; exact hus4)
    · have e1 : dTup d = false := by
        cases d <;> first | rfl | exact absurd ⟨_, rfl⟩ htup
      refine i_iff e1 ?_
      keq_hits
      have e3 : usD ns d = [] := by
        cases d <;> first | rfl | exact absurd ⟨_, rfl⟩ htup
      exact q fo [] _ s0 hfo h0 (by rw [e3]; exact .nil)
theorem ok_luses (F : FnP K "_law_uses" 60 f fd) (hm : mg "_law_uses" = some (.ref f)) (mi : mg "isinstance" = none) (mtu : BTy mg "tuple" "tuple") :
    ∀ n, Def P w K mg base (n + 1) "_law_uses" (sp_luses K n) := by
  intro n
  induction n using Nat.strongRecOn with
  | _ n ih => exact ok_luse F hm mi mtu n ih
end
end
section
/-! ### the law's less -/
section
variable {X : Cx} {elt tg iter c : Expr} {σ : L2.St} {H : Hp} {Q : VK} {pos : Pos} {scope : Scope} {own : List (Str × Nat)} {wi : TI} {g : TG}
theorem we_lcI (hc : X.calm = true) (hN : X.N.Nodup) (hi : PI X tg iter wi) (ok : BlkOk X.N X.env.scope scope own)
    (hg : ∀ (s : Shared) (H : Hp) (C : Addr) (cl : List (Str × Addr)) (fp : List Addr), PG (X.blk s H scope (compEnvC scope cl C X.env) fp) tg g)
    (h : tLc wi g (ttC X scope [c]) (teC X scope elt) (own.map (·.2)) σ H Q) (hs : ∀ x, foldedSetIterable iter X.env x = pure x := by intro _; rfl) : WE X (.ListComp elt [⟨tg, iter, [c], 0⟩] scope pos) σ H Q :=
  .of (pe_lc hc hN hi ok hg (fun s H C cl fp => pts_one (ttC_pt s H C cl fp)) (fun s H C cl fp => teC_pe s H C cl fp) hs) h
end
theorem same_in {fo : Addr} {H : Hp} {o : HO} (h : H fo = none) : Same H (hid [fo] (upd H fo o)) := fun b u e => by
  have hb : b ≠ fo := fun z => by rw [z, h] at e; cases e
  rw [hid_out (by simp [hb]), upd_ne hb]
  exact e
theorem same_out {fo : Addr} {H H' : Hp} {o : HO} (h : H fo = none) (s : Same (hid [fo] (upd H fo o)) (hid [fo] H')) : Same H H' := ((same_in h).trans s).trans hid_same
def keyS : List Key → Str
  | .inr s :: _ => s
  | _ => ""
def keyP : List Key → Str × Nat
  | [.inr s, .inl n] => (s, n.toNat)
  | _ => ("", 0)
theorem keyP_ky (p : Str × Nat) : keyP (kyT p) = p := by
  obtain ⟨s, n⟩ := p
  rfl
section
variable {P : Program} {w : World} {K : PySem.W.Frag} {mg : Str → Option Value} {base : Heap} {f f2 : Addr} {fd fd2 : FuncData} {C CB CM : Addr} {L : List Str}
abbrev NL : List Str := ["use", "pattern", "literals", "one", "other", "key", "words"]
theorem sq61 : FnScope NL ["use", "pattern", "literals"] (defScope (top 61)) := ⟨rfl, rfl, rfl, by decide +kernel, rfl, by decide +kernel, by decide +kernel⟩
theorem ok_lis_less (F : FnP K "_law_is_less" 61 f fd) (hm : mg "_law_is_less" = some (.ref f)) (ma : mg "any" = none) (DO : Def P w K mg base 20 "_law_counts" (sp_lcounts K 19)) (DW : Def P w K mg base 20 "_law_weight" (sp_lweight K 19)) : Def P w K mg base 21 "_law_is_less" (sp_is_less K) := by
  refine Def.mk' F hm sq61 (fun vs H Q E h => ?_) (fun _ _ _ _ _ _ us hl => match us, hl with | [_, _, _], _ => rfl) (fun cdv A outer s H vs Q E hr tk h => ?_)
  · obtain ⟨vu, vp, vl, h0, us, p0, ps, L, rfl, _⟩ := h
    rfl
  · obtain ⟨vu, vp, vl, h0, us, p0, ps, L, rfl, hu, hp, hl, fu, fp, du, dp, zu, zp, hL, q⟩ := h
    have nd := sq61.nd
    obtain ⟨au, xu, xus, rfl, tu, _, dus⟩ := dp_consT hu
    obtain ⟨ap, xp, xps, rfl, tp, _, dps⟩ := dp_consT hp
    obtain ⟨al, ls, rfl, tl, dls⟩ := dp_tup hl
    have dls' := dps_strs dls
    subst dls'
    refine wb_cons (ws_asg (by k_memK) (we_tup (wa_cons ?_)))
    keq_hits
    refine we_slL sl_tupA ?_
    keq_hits
    refine ⟨_, rfl, i_sl tu fun c1 H1 s1 h1 => ?_⟩
    rw [cutV_tl] at h1
    keq_hits
    have lw1 : (wdss us 0).length ≤ 3000 := by
      have z1 := wdss_len us 0
      simp only [dsize] at zu
      omega
    have lw2 : (wdss ps 0).length ≤ 3000 := by
      have z1 := wdss_len ps 0
      simp only [dsize] at zp
      omega
    refine .of pe_dnewT fun d1 hd1 => ?_
    have f1 : upd H1 d1 (.dT []) d1 = some (.dT []) := upd_same
    keq_hits
    refine ⟨_, .tuple us, 0, d1, [], [], rfl, WP.dp_mono (same_in hd1) (.tup h1 (dpAll_mono s1 dus)), fu, by omega, by omega, f1, CntOf.nil, by show 0 + (wdss us 0).length ≤ 6000; omega, fun H2 kv1 s2' h2 c1' => ?_⟩
    have s2 := same_out hd1 s2'
    have c1' : CntOf kv1 (wdss us 0) := c1'
    keq_hits
    refine we_slL sl_tupA ?_
    keq_hits
    refine ⟨_, rfl, i_sl ((s1.trans s2).tup tp) fun c2 H3 s3 h3 => ?_⟩
    rw [cutV_tl] at h3
    keq_hits
    refine .of pe_dnewT fun d2 hd2 => ?_
    have f2 : upd H3 d2 (.dT []) d2 = some (.dT []) := upd_same
    keq_hits
    refine ⟨_, .tuple ps, 0, d2, [], [], rfl, WP.dp_mono (same_in hd2) (.tup h3 (dpAll_mono (s1.trans (s2.trans s3)) dps)), fp, by omega, by omega, f2, CntOf.nil, by show 0 + (wdss ps 0).length ≤ 6000; omega, fun H4 kv2 s4' h4 c2' => ?_⟩
    have s4 := same_out hd2 s4'
    have c2' : CntOf kv2 (wdss ps 0) := c2'
    keq_hits
    refine ⟨by show 2 ≤ sizeLine; decide, fun tq htq => ?_⟩
    have t4 : Same H4 (upd H4 tq (.tup [.ref d1, .ref d2])) := Same.new htq
    refine i_two (SqT.of upd_same) ?_
    have s4 := s4.trans t4
    have h4 := t4 _ _ h4
    generalize upd H4 tq (.tup [.ref d1, .ref d2]) = H4 at s4 h4 ⊢
    have h2' := s4 _ _ (s3 _ _ h2)
    show WP.WB _ _ _ _ _
    refine wb_cons (ws_set 6 nd rfl (by k_clsL) ?_)
    refine we_lcI rfl nd (pi_keys peL) (blkOk_by (N := NL) (sc := defScope (top 61)) (own := [("key", 5)]) (by decide +kernel)) (fun _ _ _ _ _ => by k_memK) ?_
    show WP.WE _ _ _ _ _
    keq_hits
    refine ⟨d2, _, rfl, h4, True.intro, fun od => ⟨d2, od, rfl, .inr ⟨kv2, upd_same, fun D hD => ?_⟩⟩⟩
    have s5 : Same H3 (upd H4 d2 (.frz od (.dT kv2))) := s4.mut hd2
    have f5 : upd H4 d2 (.frz od (.dT kv2)) d2 = some (.frz od (.dT kv2)) := upd_same
    have h3d : H3 d1 = some (.dT kv1) := s3 _ _ h2
    generalize upd H4 d2 (.frz od (.dT kv2)) = H5 at s5 f5 hD ⊢
    have g5 := s5 _ _ h3d
    have s05 := s1.trans (s2.trans (s3.trans s5))
    have tl5 := s05.tup tl
    refine lc_F (fun j => !decide (((kv2[j]?.map fun e => keyS e.1).getD "") ∈ L)) (fun j => V.str ((kv2[j]?.map fun e => keyS e.1).getD "")) (walk_keysT (d := d2) (o := od) (kvs := kv2)) (by have := c2'.len; show _ < 16777216; omega) hD (fun H s => s _ _ f5) ?_ teC_mono ttC_mono gName_mono fun H7 s7 hl7 => ?_
    · rintro j x H6 H6' hj s6 ⟨rfl, k, vv, qa, hkv, rfl, hqa⟩
      obtain ⟨p, hp1, hp2⟩ := c2'.keys _ (List.mem_of_getElem? hkv)
      have hp1 : k = kyT p := hp1
      subst hp1
      have hqa : H6' qa = some (.tup [.str p.1, .int (p.2 : Int)]) := hqa
      have ek : ((kv2[j]?.map fun e => keyS e.1).getD "") = p.1 := by rw [hkv]; rfl
      rw [ek]
      refine ⟨rfl, fun s0 H0 C0 cl0 fp0 => ?_⟩
      refine wt_cmp op_notIn_seq rfl ?_
      refine we_ix ix_tup plainIx_int ?_
      keq_hits
      refine i_ixT (SqT.of hqa) atI0 ?_
      keq_hits
      refine ⟨al, _, rfl, .inr (s6.tup tl5), rfl, flat_strs L, i_bl ⟨Same.refl _, ?_, fun _ s0' H0' C0' cl0' fp0' => ?_⟩⟩
      · rw [if_pos rfl, inV_strs]
      · refine we_ix ix_tup plainIx_int ?_
        keq_hits
        refine i_ixT (SqT.of hqa) atI0 ?_
        exact ⟨Same.refl _, rfl⟩
    · obtain ⟨wl, hwl, hwm⟩ : ∃ wl : List Str, H7 D = some (.lst (wl.map V.str)) ∧ ∀ s, decide (s ∈ wl) = nmOf L ps s := by
        refine ⟨((List.range kv2.length).filter fun j => !decide (((kv2[j]?.map fun e => keyS e.1).getD "") ∈ L)).map fun j => (kv2[j]?.map fun e => keyS e.1).getD "", by rw [hl7, List.map_map]; rfl, fun s => ?_⟩
        rw [Bool.eq_iff_iff]
        unfold nmOf
        simp only [Bool.and_eq_true, List.any_eq_true, decide_eq_true_eq, Bool.not_eq_true', decide_eq_false_iff_not, List.mem_map, List.mem_filter, List.mem_range]
        constructor
        · rintro ⟨j, ⟨hj, hn⟩, rfl⟩
          refine ⟨?_, hn⟩
          obtain ⟨p, e2, hp⟩ := c2'.keys kv2[j] (List.getElem_mem hj)
          refine ⟨p, hp, ?_⟩
          rw [List.getElem?_eq_getElem hj]
          show p.1 = keyS kv2[j].1
          rw [e2]
          rfl
        · rintro ⟨⟨p, hp, rfl⟩, a⟩
          obtain ⟨kv, hkv, e⟩ := c2'.keyAt hp
          obtain ⟨j, hj, ej⟩ := List.mem_iff_getElem.mp hkv
          have z : ((kv2[j]?.map fun e => keyS e.1).getD "") = p.1 := by
            rw [List.getElem?_eq_getElem hj, ej]
            show keyS kv.1 = p.1
            rw [e]
            rfl
          exact ⟨j, ⟨hj, by rw [z]; exact a⟩, z⟩
      have g7 := s7 _ _ g5
      have e7 := s7 _ _ f5
      keq_hits
      refine we_callB (cr_any rfl) (by rfl) ma boot_any ?_
      refine wa_cons ?_
      refine we_lcc rfl nd (pi_keys peL) (blkOk_by (N := NL) (sc := defScope (top 61)) (own := [("key", 5)]) (by decide +kernel)) (fun _ _ _ _ _ => by k_memK) ?_
      show WP.WE _ _ _ _ _
      keq_hits
      refine ⟨d1, _, rfl, g7, True.intro, fun od1 => ⟨d1, od1, rfl, .inr ⟨kv1, upd_same, fun D3 hD3 => ?_⟩⟩⟩
      have s8 : Same H1 (upd H7 d1 (.frz od1 (.dT kv1))) := (s2.trans (s3.trans (s5.trans s7))).mut hd1
      have f8 : upd H7 d1 (.frz od1 (.dT kv1)) d1 = some (.frz od1 (.dT kv1)) := upd_same
      have d21 : d2 ≠ d1 := fun z => by rw [z, h3d] at hd2; cases hd2
      have k8 : upd H7 d1 (.frz od1 (.dT kv1)) D = some (.lst (wl.map V.str)) := by
        rw [upd_ne (fun z => ?_)]
        · exact hwl
        · rw [z, g7] at hwl
          cases hwl
      have e8 : upd H7 d1 (.frz od1 (.dT kv1)) d2 = some (.frz od (.dT kv2)) := by
        rw [upd_ne d21]
        exact e7
      generalize upd H7 d1 (.frz od1 (.dT kv1)) = H8 at s8 f8 k8 e8 hD3 ⊢
      refine lc_R (fun j _ v => v = V.bl ((kv1[j]?.map fun e => tooMany L us ps (keyP e.1)).getD false)) stay_val (walk_keysT (d := d1) (o := od1) (kvs := kv1)) (by have := c1'.len; show _ < 16777216; omega) hD3 (fun H s => s _ _ f8) ?_ teC_mono gName_mono fun H9 acc s9 hl9 ha9 hv9 => ?_
      · rintro j x H9 H9' hj s9 ⟨rfl, k, vv, qa, hkv, rfl, hqa⟩
        obtain ⟨p, hp1, hp2⟩ := c1'.keys _ (List.mem_of_getElem? hkv)
        have hp1 : k = kyT p := hp1
        subst hp1
        have hq0 : H9' qa = some (.tup ((kyT p).map kV)) := hqa
        have hqa : H9' qa = some (.tup [.str p.1, .int (p.2 : Int)]) := hqa
        have ek : ((kv1[j]?.map fun e => tooMany L us ps (keyP e.1)).getD false) = tooMany L us ps p := by
          rw [hkv]
          show tooMany L us ps (keyP (kyT p)) = _
          rw [keyP_ky]
        rw [ek]
        refine ⟨rfl, fun s0 H0 C0 cl0 fp0 => ?_⟩
        refine we_and (we_cmp op_in_seq rfl ?_)
        refine we_ix ix_tup plainIx_int ?_
        keq_hits
        refine i_ixT (SqT.of hqa) atI0 ?_
        keq_hits
        refine ⟨D, _, rfl, .inl (SqL.of (s9 _ _ k8)), rfl, flat_strs _, ?_⟩
        rw [if_neg Bool.false_ne_true, inV_strs, hwm]
        cases hnn : nmOf L ps p.1 with
        | false =>
          refine i_bl (i_iff rfl ⟨Same.refl _, ?_⟩)
          rw [tooMany, hnn, Bool.false_and]
        | true =>
          refine i_bl (i_ift rfl ?_)
          refine we_one (we_cmp op_gt rfl ?_)
          refine we_dget (k := 20) hr (fun _ _ => by with_unfolding_all rfl) ?_
          keq_hits
          have dg1 : DGet H9' d1 (.ref qa) (some (.int ((((wdss us 0).count p : Nat) : Int)))) := by
            have z := c1'.val p
            rw [if_pos hp2] at z
            rw [← z]
            exact .inr ⟨kv1, kyT p, qa, .inr ⟨od1, s9 _ _ f8⟩, rfl, hq0, rfl⟩
          refine ⟨d1, _, rfl, dg1, ?_⟩
          refine we_get2 (k := 20) hr ⟨rfl, rfl, rfl, rfl⟩ ?_
          keq_hits
          refine ⟨d2, rfl, .inr ⟨_, .inr ⟨od, s9 _ _ e8⟩⟩, ?_⟩
          keq_hits
          refine ⟨_, .inr ⟨kv2, kyT p, qa, .inr ⟨od, s9 _ _ e8⟩, rfl, hq0, rfl⟩, ?_⟩
          rw [c2'.get p]
          keq_hits
          refine ⟨Same.refl _, ?_⟩
          rw [tooMany, hnn, Bool.true_and]
          exact congrArg V.bl (decide_eq_decide.mpr Int.ofNat_lt)
      · rw [acc_bls ha9 hv9] at hl9
        have s19 := s1.trans (s8.trans s9)
        keq_hits
        refine ⟨D3, _, rfl, SqL.of hl9, i_bl ?_⟩
        have eA : (kv1.map fun e => tooMany L us ps (keyP e.1)).any id = (wdss us 0).any (tooMany L us ps) := by
          rw [Bool.eq_iff_iff, List.any_eq_true, List.any_eq_true]
          constructor
          · rintro ⟨b, hb, e⟩
            obtain ⟨kv, hkv, rfl⟩ := List.mem_map.mp hb
            obtain ⟨p, e2, hp⟩ := c1'.keys kv hkv
            rw [e2, keyP_ky] at e
            exact ⟨p, hp, e⟩
          · rintro ⟨p, hp, e⟩
            obtain ⟨kv, hkv, e2⟩ := c1'.keyAt hp
            exact ⟨_, List.mem_map_of_mem hkv, by rw [e2, keyP_ky]; exact e⟩
        rw [eA]
        cases hany : (wdss us 0).any (tooMany L us ps) with
        | true =>
          refine i_ift rfl ?_
          keq_hits
          have z := q _ s19
          rw [lessP, hany] at z
          exact z
        | false =>
          refine i_iff rfl ?_
          keq_hits
          refine we_slL sl_tupA ?_
          keq_hits
          refine ⟨_, rfl, i_sl (s19.tup tu) fun c3 H10 s10 h10 => ?_⟩
          rw [cutV_tl] at h10
          keq_hits
          refine ⟨_, .tuple us, rfl, .tup h10 (dpAll_mono (s19.trans s10) dus), fu, by omega, by omega, zu, fun H11 s11 => ?_⟩
          keq_hits
          refine we_slL sl_tupA ?_
          keq_hits
          refine ⟨_, rfl, i_sl ((s19.trans (s10.trans s11)).tup tp) fun c4 H12 s12 h12 => ?_⟩
          rw [cutV_tl] at h12
          keq_hits
          refine ⟨_, .tuple ps, rfl, .tup h12 (dpAll_mono (s19.trans (s10.trans (s11.trans s12))) dps), fp, by omega, by omega, zp, fun H13 s13 => ?_⟩
          keq_hits
          refine fin_bl (q _ (s19.trans (s10.trans (s11.trans (s12.trans s13))))) ?_
          rw [lessP, hany, Bool.not_false, Bool.true_and, decide_eq_decide]
          simp only [wgt]
          omega
end
end
section
/-! ### the law's ends -/
theorem cutV_to (xs : List V) (i : Nat) : cutV xs none (some (i : Int)) = xs.take i := by
  unfold cutV
  rw [HT.sIx_none, HT.sIx_nat, List.drop_zero, Nat.sub_zero]
  by_cases h : i ≤ xs.length
  · rw [Nat.min_eq_left h]
  · rw [Nat.min_eq_right (by omega), List.take_of_length_le (Nat.le_refl _), List.take_of_length_le (by omega)]
section
variable {P : Program} {w : World} {K : PySem.W.Frag} {mg : Str → Option Value} {base : Heap} {f f2 : Addr} {fd fd2 : FuncData} {C CB CM : Addr} {L : List Str}
def Heads (ms : List Mac) : Prop := ∀ m ∈ ms, ∀ r ∈ m.rs, headB r.2 = true
def sp_lends (K : PySem.W.Frag) : Sp := fun vs H Q _ => ∃ v ms, vs = [v] ∧ Dp K H v (macsD ms) ∧ MacsOk ms ∧ Heads ms ∧ ∀ p H', Same H H' → Dp K H' p (endsD (endsM ms)) → Q p H'
abbrev NF : List Str := ["macros", "name", "rules", "names", "at", "number", "pattern", "template", "use"]
theorem sq62 : FnScope NF ["macros"] (defScope (top 62)) := ⟨rfl, rfl, rfl, by decide +kernel, rfl, by decide +kernel, by decide +kernel⟩
theorem ok_lends (F : FnP K "_law_ends" 62 f fd) (hm : mg "_law_ends" = some (.ref f)) (me : mg "enumerate" = none) (DU : Def P w K mg base 20 "_law_uses" (sp_luses K 19)) (DL : Def P w K mg base 21 "_law_is_less" (sp_is_less K)) :
    Def P w K mg base 22 "_law_ends" (sp_lends K) := by
  refine Def.mk' F hm sq62 (fun vs H Q E h => ?_) (fun _ _ _ _ _ _ us hl => match us, hl with | [_], _ => rfl) (fun cdv A outer s H vs Q E hr tk h => ?_)
  · obtain ⟨v, ms, rfl, _⟩ := h
    rfl
  · obtain ⟨v, ms, rfl, hd, hok, hhd, q⟩ := h
    have nd := sq62.nd
    obtain ⟨a, xs, rfl, hx, hxs⟩ := dp_tup hd
    have lx := dpAll_len hxs
    rw [List.length_map] at lx
    have lnm : (nmsOf ms).length = xs.length := by rw [lx]; exact List.length_map _
    have hms12 := hok.len.2
    refine wb_cons ?_
    refine ws_lc (g := gTup K 2 (gCons (gName 1) (gCons (gName 2) gNil))) 3 [("name", 1), ("rules", 2)] rfl nd rfl rfl rfl rfl rfl (pi_tup pe) (blkOk_by (N := NF) (sc := defScope (top 62)) (own := [("name", 1), ("rules", 2)]) (by decide +kernel)) (fun _ _ _ _ _ => by k_memK) ?_
    show WP.WE _ _ _ _ _
    keq_hits
    refine ⟨a, rfl, ⟨_, hx⟩, fun D hD => lc_R (fun j _ v => v = .str ((nmsOf ms).getD j "")) stay_val walk_tup (by show _ < 16777216; omega) hD (fun H s => s.tup hx) ?_ teC_mono gTup2_mono fun H2 acc s2 hl2 ha2 hv2 => ?_⟩
    · rintro j x H8 H8' hj s8 ⟨rfl, exj⟩
      obtain ⟨m', pj, yj, emj, rfl, hPj, _⟩ := macs_at hxs exj
      refine i_two (s8.tup hPj) ⟨rfl, fun s0 H0 C0 cl0 fp0 => ?_⟩
      keq_hits
      exact ⟨Same.refl _, rfl⟩
    · rw [acc_names (by rw [ha2, lnm]) hv2] at hl2
      show WP.WB _ _ _ _ _
      refine wb_cons ?_
      refine ws_forI (walk_enumT (K := K) (a := a) (xs := xs)) passes_bx rfl (pi_enumT (by rfl) me WP.pa) (by k_memK) ?_ iEnumT_mono
      show WP.WA _ _ _ _ _
      keq_hits
      refine ⟨a, xs, rfl, s2.tup hx, rfl, fun i σ H' => Same H2 H' ∧ (∃ r1 r2 r4 r5 r6 r7 r8, σ = [some (.ref a), r1, r2, some (.ref D), r4, r5, r6, r7, r8]) ∧ endsG (nmsOf ms) ((nmsOf ms).take i) (ms.drop i) = endsM ms,
        ⟨Same.refl _, ⟨_, _, _, _, _, _, _, rfl⟩, by simp [endsM]⟩, fun i σ H' _ h => (s2.trans h.1).tup hx, ?_, ?_⟩
      · rintro i x σ H3 H3' hi ⟨s3, ⟨r1, r2, r4, r5, r6, r7, r8, rfl⟩, hE⟩ ⟨T, y, rfl, hT3, rfl, hy⟩
        obtain ⟨dx, hdx, hdp⟩ := dpAll_atv hxs hy
        rw [List.getElem?_map] at hdx
        have him : i < ms.length := by omega
        rw [List.getElem?_eq_getElem him] at hdx
        have hmm : ms[i] ∈ ms := List.getElem_mem him
        have eni : (nmsOf ms)[i]? = some ms[i].nm := by unfold nmsOf; rw [List.getElem?_map, List.getElem?_eq_getElem him]; rfl
        have edr : ms.drop i = ms[i] :: ms.drop (i + 1) := List.drop_eq_getElem_cons him
        generalize ms[i] = m at hdx hmm eni edr
        cases hdx
        have mok := hok.ok m hmm
        obtain ⟨pa, y0, y1, rfl, hP, dp0, dp1⟩ := dp_two hdp
        cases dp_str dp0
        obtain ⟨ra, z0, z1, rfl, hR, dz0, dz1⟩ := dp_two dp1
        obtain ⟨rb, rxs, rfl, hRb, dRs⟩ := dp_tup dz1
        have lr := dpAll_len dRs
        rw [List.length_map] at lr
        have t3 : Same H3 (upd H3 T (.tup [.int (i : Nat), .ref pa])) := Same.new hT3
        have s3 := s3.trans t3
        have hT4 : SqT K (upd H3 T (.tup [.int (i : Nat), .ref pa])) T [.int (i : Nat), .ref pa] := SqT.of upd_same
        refine i_num2 hT4 ((s2.trans s3).tup hP) ?_
        generalize upd H3 T (.tup [.int (i : Nat), .ref pa]) = H4 at t3 s3 hT4 ⊢
        have s04 := s2.trans s3
        show WP.WB _ _ _ _ _
        refine wb_one ?_
        refine ws_forI (walk_enumT (K := K) (a := rb) (xs := rxs)) passes_bx rfl (pi_enumT (by rfl) me WP.pa) (by k_memK) ?_ iEnumT_mono
        show WP.WA _ _ _ _ _
        refine wa_cons ?_
        refine we_ix ix_tup plainIx_int ?_
        keq_hits
        refine i_ixT (s04.tup hR) atI1 ?_
        keq_hits
        have hRb4 := s04.tup hRb
        refine ⟨rb, rxs, rfl, hRb4, rfl, fun j σ H' => Same H4 H' ∧ (∃ o5 o6 o7 o8, σ = [some (.ref a), some (.str m.nm), some (.ref ra), some (.ref D), some (.int (i : Int)), o5, o6, o7, o8]) ∧ badRs (nmsOf ms) ((nmsOf ms).take i) m (m.rs.drop j) j = badRs (nmsOf ms) ((nmsOf ms).take i) m m.rs 0,
          ⟨Same.refl _, ⟨_, _, _, _, rfl⟩, rfl⟩, fun j σ H' _ h => h.1.tup hRb4, ?_, ?_⟩
        · rintro j x σ H5 H5' hj ⟨s5, ⟨o5, o6, o7, o8, rfl⟩, hB⟩ ⟨T2, y, rfl, hT5, rfl, hy⟩
          obtain ⟨dr, hdr, hdy⟩ := dpAll_atv dRs hy
          rw [List.getElem?_map] at hdr
          have hjm : j < m.rs.length := by omega
          rw [List.getElem?_eq_getElem hjm] at hdr
          have hrm : m.rs[j] ∈ m.rs := List.getElem_mem hjm
          have edj : m.rs.drop j = m.rs[j] :: m.rs.drop (j + 1) := List.drop_eq_getElem_cons hjm
          generalize m.rs[j] = r at hdr hrm edj
          cases hdr
          obtain ⟨rp, p0, p1, rfl, hRp, dq0, dq1⟩ := dp_two hdy
          have s45 : Same H5 (upd H5 T2 (.tup [.int (j : Nat), .ref rp])) := Same.new hT5
          have s6 := (s04.trans s5).trans s45
          have hT6 : SqT K (upd H5 T2 (.tup [.int (j : Nat), .ref rp])) T2 [.int (j : Nat), .ref rp] := SqT.of upd_same
          refine i_num2 hT6 (s6.tup hRp) ?_
          generalize upd H5 T2 (.tup [.int (j : Nat), .ref rp]) = H6 at s45 s6 hT6 ⊢
          have s46 := s5.trans s45
          show WP.WB _ _ _ _ _
          refine wb_one ?_
          refine ws_for passes_bx rfl (pi_list pe) (by k_memK) ?_
          show WP.WE _ _ _ _ _
          keq_hits
          obtain ⟨fo2, fb2⟩ := mok.form hrm
          have rok := mok.rules r hrm
          have hl6 := (s3.trans s46) _ _ hl2
          refine ⟨p1, r.2, D, nmsOf ms, H, rfl, s6, dq1, fb2, hhd m hmm r hrm, fo2.dp, by omega, fo2.sz, hl6, fun pl us H8 s8 hpl hus8 hdus => ?_⟩
          have s08 := s6.trans s8
          refine ⟨pl, rfl, ⟨_, SqL.of hus8⟩, for_it (walk_list (K := K) (a := pl) (xs := us)) (fun k σ H' => Same H8 H' ∧ (∃ o8, σ = [some (.ref a), some (.str m.nm), some (.ref ra), some (.ref D), some (.int (i : Int)), some (.int (j : Int)), some p0, some p1, o8]) ∧ ∀ u ∈ (usD (nmsOf ms) r.2).take k, badU ((nmsOf ms).take i) m r.1 u = false)
              ⟨Same.refl _, ⟨_, rfl⟩, fun u hu => by simp at hu⟩ (fun k σ H' _ h => SqL.of (h.1 _ _ hus8)) ?_ ?_⟩
          · rintro k x σ H9 H9' hk ⟨s9, ⟨o9', rfl⟩, hall⟩ ⟨rfl, exk⟩
            obtain ⟨u, hu, hdu⟩ := dpAll_atv hdus exk
            have hum := List.mem_of_getElem? hu
            have etk : (usD (nmsOf ms) r.2).take (k + 1) = (usD (nmsOf ms) r.2).take k ++ [u] := by rw [List.take_add_one, hu]; rfl
            obtain ⟨h, uus, rfl, hin⟩ := usD_head _ _ _ hum
            have sub := usD_sub _ _ _ hum
            obtain ⟨ua, ux, uxs, rfl, hU, du0, dus⟩ := dp_consT hdu
            cases dp_str du0
            show WP.WB _ _ _ _ _
            have s89 := s08.trans s9
            have hU9 := s89.tup hU
            have hl9 := (s8.trans s9) _ _ hl6
            refine wb_one (ws_if (wt_mono (QT := fun k H' => k = badU ((nmsOf ms).take i) m r.1 (.tuple (.str h :: uus)) ∧ Same H9' H') (fun kk H10 ⟨ek, s10⟩ => ?_) ?_))
            · subst ek
              refine i_ite (fun e => ?_) (fun e => ?_)
              · keq_hits
                refine ⟨by show 3 ≤ sizeLine; decide, fun pr hpr => ?_⟩
                refine q _ _ ((s89.trans s10).trans (Same.new hpr)) ?_
                have eB : badR (nmsOf ms) ((nmsOf ms).take i) m r = true := List.any_eq_true.mpr ⟨_, hum, e⟩
                have eE : endsM ms = some (m.nm, j) := by
                  rw [← hE, edr, endsG, ← hB, edj, badRs, eB]
                  rfl
                rw [eE]
                exact .tup (SqT.of upd_same) (.cons (.str _) (.cons (.str _) (.cons (.int _) .nil)))
              · keq_hits
                refine ⟨s9.trans s10, ⟨_, rfl⟩, fun u hu => ?_⟩
                rw [etk] at hu
                rcases List.mem_append.mp hu with hu | hu
                · exact hall u hu
                · rw [List.mem_singleton.mp hu]
                  exact e
            · refine wt_ww (ww_and (wt_cmp op_notIn_seq rfl ?_))
              refine we_ix ix_tup plainIx_int ?_
              keq_hits
              refine i_ixT hU9 atI0 ?_
              keq_hits
              refine we_slH sl_list ?_
              keq_hits
              refine ⟨_, rfl, D, _, rfl, SqL.of hl9, fun pn hpn => ?_⟩
              rw [cutV_to, ← List.map_take]
              have tn : Same H9' (upd H9' pn (.lst (((nmsOf ms).take i).map V.str))) := Same.new hpn
              have hpn1 : upd H9' pn (.lst (((nmsOf ms).take i).map V.str)) pn = some (.lst (((nmsOf ms).take i).map V.str)) := upd_same
              generalize upd H9' pn (.lst (((nmsOf ms).take i).map V.str)) = H10 at tn hpn1 ⊢
              refine ⟨pn, _, rfl, .inl (SqL.of hpn1), rfl, flat_strs _, i_bl ?_⟩
              rw [if_pos rfl, inV_strs, badU]
              cases e1 : decide (h ∈ (nmsOf ms).take i) with
              | true => exact i_iff rfl ⟨rfl, tn⟩
              | false =>
                refine i_ift rfl ?_
                rw [Bool.not_false, Bool.true_and]
                refine ww_and1 (wt_not (wt_ww (ww_and (wt_cmp op_eq rfl ?_))))
                refine we_ix ix_tup plainIx_int ?_
                keq_hits
                refine i_ixT (tn.tup hU9) atI0 ?_
                keq_hits
                refine ⟨rfl, i_bl ?_⟩
                rw [decV]
                cases e2 : decide (h = m.nm) with
                | false => exact i_iff rfl ⟨rfl, tn⟩
                | true =>
                  refine i_ift rfl ?_
                  rw [Bool.true_and]
                  refine ww_and1 (wt_val ?_)
                  keq_hits
                  refine we_ix ix_tup plainIx_int ?_
                  keq_hits
                  refine i_ixT ((s89.trans tn).tup hR) atI0 ?_
                  keq_hits
                  have hfu := sub.f fb2
                  have hdu1 : ddep (.tuple (.str h :: uus)) ≤ 20 := Nat.le_trans sub.dp fo2.dp
                  have hzu := Nat.le_trans sub.sz fo2.sz
                  have hfp := rok.fp
                  refine ⟨_, _, _, .str h, uus, .str "_", r.1, m.L, rfl, WP.dp_mono (s89.trans tn) hdu, WP.dp_mono (s89.trans tn) dq0, WP.dp_mono (s89.trans tn) dz0, ?_, rok.fb, ?_, hfp.dp, ?_, hfp.sz, Nat.le_trans mok.lits.len (by decide), fun H11 s11 => ?_⟩
                  · simpa [formB, formBs] using (by simpa [formB, formBs] using hfu : _ ∧ _).2
                  · simp only [ddep, ddeps] at hdu1 ⊢
                    omega
                  · simp only [dsize, dsizes] at hzu ⊢
                    omega
                  · exact i_bl ⟨rfl, tn.trans s11⟩
          · rintro σ H9 ⟨s9, ⟨o9', rfl⟩, hall⟩
            rw [List.take_of_length_le (by rw [← dpAll_len hdus]; exact Nat.le_refl _)] at hall
            have eB : badR (nmsOf ms) ((nmsOf ms).take i) m r = false := List.any_eq_false.mpr fun u hu => by rw [hall u hu]; exact Bool.false_ne_true
            refine ⟨s46.trans (s8.trans s9), ⟨_, _, _, _, rfl⟩, ?_⟩
            rw [← hB, edj, badRs, eB]
            rfl
        · rintro σ H5 ⟨s5, ⟨o5, o6, o7, o8, rfl⟩, hB⟩
          rw [List.drop_of_length_le (by omega)] at hB
          have hB : none = badRs (nmsOf ms) ((nmsOf ms).take i) m m.rs 0 := hB
          refine ⟨s3.trans s5, ⟨_, _, _, _, _, _, _, rfl⟩, ?_⟩
          rw [← hE, edr, endsG, ← hB, List.take_add_one, eni]
          rfl
      · rintro σ H3 ⟨s3, ⟨r1, r2, r4, r5, r6, r7, r8, rfl⟩, hE⟩
        rw [List.drop_of_length_le (by omega)] at hE
        have hE : none = endsM ms := by rw [← hE, endsG]
        show WP.WB _ _ _ _ _
        keq_hits
        refine ⟨by show 1 ≤ sizeLine; decide, fun pr hpr => ?_⟩
        refine q _ _ ((s2.trans s3).trans (Same.new hpr)) ?_
        rw [← hE]
        exact .tup (SqT.of upd_same) (.cons (.str _) .nil)
end
end
section
/-! ### sorted texts are one; lists of words -/
theorem txt_tri {x y : Str} (h1 : ¬ x.cps.toList < y.cps.toList) (h2 : ¬ y.cps.toList < x.cps.toList) : x = y := by
  rcases Std.lt_trichotomy (α := List Nat) x.cps.toList y.cps.toList with h | h | h
  · exact absurd h h1
  · cases x
    cases y
    simp at h
    simp [h]
  · exact absurd h h2
theorem rising_all : ∀ (r : List Str) (p : Str), risingS p r = true → (p :: r).Pairwise (fun a b => ¬ b.cps.toList < a.cps.toList)
  | [], p, _ => by simp
  | x :: r, p, h => by
    have h : (!ltCps x.cps.toList p.cps.toList && risingS x r) = true := h
    rw [Bool.and_eq_true, Bool.not_eq_true', ltCps_eq, decide_eq_false_iff_not] at h
    obtain ⟨h1, h2⟩ := h
    have ih := rising_all r x h2
    refine List.pairwise_cons.mpr ⟨fun y hy => ?_, ih⟩
    rcases List.mem_cons.mp hy with rfl | hy
    · exact h1
    · have h3 := (List.pairwise_cons.mp ih).1 y hy
      have a1 : p.cps.toList ≤ x.cps.toList := List.not_lt.mp h1
      have a2 : x.cps.toList ≤ y.cps.toList := List.not_lt.mp h3
      exact List.not_lt.mpr (List.le_trans a1 a2)
theorem sorted_all : ∀ {l : List Str}, sortedS l = true → l.Pairwise (fun a b => ¬ b.cps.toList < a.cps.toList)
  | [], _ => .nil
  | p :: r, h => rising_all r p h
theorem sorted_eq : ∀ {a b : List Str}, a.Perm b → a.Pairwise (fun a b => ¬ b.cps.toList < a.cps.toList) → b.Pairwise (fun a b => ¬ b.cps.toList < a.cps.toList) → a = b
  | [], b, p, _, _ => List.Perm.nil_eq p
  | x :: a, [], p, _, _ => absurd p.length_eq (by simp)
  | x :: a, y :: b, p, sa, sb => by
    have hx : x ∈ y :: b := p.subset (by simp)
    have hy : y ∈ x :: a := p.symm.subset (by simp)
    have e : x = y := by
      rcases List.mem_cons.mp hx with h | h
      · exact h
      · rcases List.mem_cons.mp hy with g | g
        · exact g.symm
        · exact txt_tri ((List.pairwise_cons.mp sb).1 x h) ((List.pairwise_cons.mp sa).1 y g)
    subst e
    rw [sorted_eq (List.perm_cons x |>.mp p) (List.pairwise_cons.mp sa).2 (List.pairwise_cons.mp sb).2]
theorem sortedS_one {a b : List Str} (p : a.Perm b) (ha : sortedS a = true) (hb : sortedS b = true) : a = b := sorted_eq p (sorted_all ha) (sorted_all hb)
theorem shaped_words {l : List Str} (h : ∀ s ∈ l, nameS s = true) : SeqAt.shaped (.list (l.map .str)) = true := by
  have h1 : PyData.canLayAll0 (l.map .str) = true := canAll_iff.mpr fun d hd => by
    obtain ⟨s, hs, rfl⟩ := List.mem_map.mp hd
    exact canLay_form (.str s) (by show wordS s = true; rw [wordS, h s hs]; rfl)
  have h2 : PyData.depthAll (l.map .str) ≤ 0 := depAll_iff.mpr fun d hd => by
    obtain ⟨s, hs, rfl⟩ := List.mem_map.mp hd
    exact Nat.le_refl _
  unfold SeqAt.shaped
  have e1 : (PyData.list (l.map .str)).canLay0 = PyData.canLayAll0 (l.map .str) := rfl
  have e2 : (PyData.list (l.map .str)).depth = PyData.depthAll (l.map .str) + 1 := rfl
  simp only [Bool.and_eq_true, decide_eq_true_eq]
  exact ⟨e1.trans h1, by rw [e2]; omega⟩
theorem eqv_nil (ds : List PyData) : PyData.eqv (.list ds) (.list []) = ds.isEmpty := by
  cases ds <;> simp [PyData.eqv, PyData.eqvAll]
end
section
/-! ### the law's order -/
section
variable {P : Program} {w : World} {K : PySem.W.Frag} {mg : Str → Option Value} {base : Heap} {f f2 : Addr} {fd fd2 : FuncData} {C CB CM : Addr} {L : List Str}
theorem i_three {i j k : Nat} {a : Addr} {v u x : V} {σ : L2.St} {H : Hp} {Q : L2.St → Hp → Prop} (h : SqT K H a [v, u, x]) (q : Q (((σ.set i (some v)).set j (some u)).set k (some x)) H) : gTup K 3 (gCons (gName i) (gCons (gName j) (gCons (gName k) gNil))) (.ref a) σ H Q :=
  ⟨a, _, rfl, h, rfl, v, _, rfl, u, _, rfl, x, _, rfl, rfl, q⟩
theorem iList_mono {X : Cx} {K : PySem.W.Frag} {e : Expr} {σ : L2.St} {H : Hp} (R R' : It → Hp → Prop) (h : ∀ J H, R J H → R' J H) (q : iList K (WE X e) σ H R) : iList K (WE X e) σ H R' :=
  WE.mono q fun v H1 ⟨a, e1, e2, e3⟩ => ⟨a, e1, e2, h _ _ e3⟩
def WantL (H : Hp) (fl : Addr) (kvs : List (Key × V)) (nm : Str) (l : List Str) : Prop := ∃ d, valV kvs (.inr nm) = some (.ref d) ∧ H d = some (.lst (l.map V.str)) ∧ l.length ≤ 100000 ∧ d ≠ fl
theorem WantL.same {H H' : Hp} {fl : Addr} {kvs : List (Key × V)} {nm : Str} {l : List Str} (h : WantL H fl kvs nm l) (s : Same H H') : WantL H' fl kvs nm l :=
  let ⟨d, e1, e2, e3⟩ := h
  ⟨d, e1, s _ _ e2, e3⟩
theorem WantL.upd {H : Hp} {fl : Addr} {o : HO} {kvs : List (Key × V)} {nm : Str} {l : List Str} (h : WantL H fl kvs nm l) : WantL (upd H fl o) fl kvs nm l := by
  obtain ⟨d, e1, e2, e3, e4⟩ := h
  exact ⟨d, e1, by rw [upd_ne e4]; exact e2, e3, e4⟩
theorem WantL.updK {H : Hp} {fl a : Addr} {o : HO} {kvs0 kvs : List (Key × V)} {nm : Str} {l : List Str} (h : WantL H fl kvs nm l) (ha : H a = some (.dK kvs0)) : WantL (L2.upd H a o) fl kvs nm l := by
  obtain ⟨d, e1, e2, e3, e4⟩ := h
  refine ⟨d, e1, ?_, e3, e4⟩
  rw [upd_ne]
  · exact e2
  · intro z
    rw [z, ha] at e2
    cases e2
theorem heads_map : ∀ {U : List PyData}, (∀ u ∈ U, ∃ h us, u = .tuple (.str h :: us)) → U.filterMap hdS = U.map fun u => (hdS u).getD ""
  | [], _ => rfl
  | u :: U, h => by
    obtain ⟨s, us, rfl⟩ := h u (by simp)
    rw [List.map_cons, ← heads_map fun u hu => h u (by simp [hu])]
    rfl
theorem WantL.put {H : Hp} {fl : Addr} {kvs : List (Key × V)} {nm : Str} {l : List Str} {k : Str} {v : V} (h : WantL H fl kvs nm l) (hk : nm ≠ k) : WantL H fl (putK kvs (.inr k) v) nm l := by
  obtain ⟨d, e1, e2, e3⟩ := h
  refine ⟨d, ?_, e2, e3⟩
  rw [valV_put, if_neg (fun z => hk (Sum.inr.inj z))]
  exact e1
theorem macs_two {H : Hp} {ms : List Mac} {xs : List V} (h : DpAll K H xs (ms.map macD)) {j : Nat} {x : V} (e : xs[j]? = some x) : ∃ m pa y1, ms[j]? = some m ∧ x = .ref pa ∧ SqT K H pa [.str m.nm, y1] ∧ Dp K H y1 (rulesD m.L m.rs) := by
  obtain ⟨m, pa, y1, em, rfl, hP, hR⟩ := macs_at h e
  rw [nms_at em] at hP
  exact ⟨m, pa, y1, em, rfl, hP, hR⟩
def sp_lorder (K : PySem.W.Frag) : Sp := fun vs H Q _ => ∃ v ms, vs = [v] ∧ Dp K H v (macsD ms) ∧ MacsOk ms ∧ Heads ms ∧ ∀ ns p H', ns.Perm (nmsOf ms) → sortedS ns = true → Same H H' → Dp K H' p (ordD (orderM ns ms)) → Q p H'
abbrev NG : List Str := ["macros", "name", "rules", "names", "wants", "found", "row", "pattern", "template", "use", "turn", "one", "ready"]
theorem sq63 : FnScope NG ["macros"] (defScope (top 63)) := ⟨rfl, rfl, rfl, by decide +kernel, rfl, by decide +kernel, by decide +kernel⟩
theorem ok_lorder (F : FnP K "_law_order" 63 f fd) (hm : mg "_law_order" = some (.ref f)) (ms' : mg "sorted" = none) (ma : mg "all" = none) (mt : mg "tuple" = none) (DU : Def P w K mg base 20 "_law_uses" (sp_luses K 19)) :
    Def P w K mg base 22 "_law_order" (sp_lorder K) := by
  refine Def.mk' F hm sq63 (fun vs H Q E h => ?_) (fun _ _ _ _ _ _ us hl => match us, hl with | [_], _ => rfl) (fun cdv A outer s H vs Q E hr tk h => ?_)
  · obtain ⟨v, ms, rfl, _⟩ := h
    rfl
  · obtain ⟨v, ms, rfl, hd, hok, hhd, q⟩ := h
    have nd := sq63.nd
    obtain ⟨a, xs, rfl, hx, hxs⟩ := dp_tup hd
    have lx := dpAll_len hxs
    rw [List.length_map] at lx
    have lnm : (nmsOf ms).length = xs.length := by rw [lx]; exact List.length_map _
    have hms12 := hok.len.2
    refine wb_cons (ws_asg (by k_memK) (we_tup (wa_cons ?_)))
    refine we_callB (cr_sortedS) (by rfl) ms' boot_sorted ?_
    refine wa_cons ?_
    refine we_lcc (g := gTup K 2 (gCons (gName 1) (gCons (gName 2) gNil))) rfl nd (pi_tup pe) (blkOk_by (N := NG) (sc := defScope (top 63)) (own := [("name", 1), ("rules", 2)]) (by decide +kernel)) (fun _ _ _ _ _ => by k_memK) ?_
    show WP.WE _ _ _ _ _
    keq_hits
    refine ⟨a, rfl, ⟨_, hx⟩, fun D2 hD2 => lc_R (fun j _ v => v = .str ((nmsOf ms).getD j "")) stay_val walk_tup (by show _ < 16777216; omega) hD2 (fun H s => s.tup hx) ?_ teC_mono gTup2_mono fun H2 acc s2 hl2 ha2 hv2 => ?_⟩
    · rintro j x H8 H8' hj s8 ⟨rfl, exj⟩
      obtain ⟨m', pj, yj, emj, rfl, hPj, _⟩ := macs_at hxs exj
      refine i_two (s8.tup hPj) ⟨rfl, fun s0 H0 C0 cl0 fp0 => ?_⟩
      keq_hits
      exact ⟨Same.refl _, rfl⟩
    · rw [acc_names (by rw [ha2, lnm]) hv2] at hl2
      keq_hits
      refine ⟨D2, nmsOf ms, rfl, SqL.of hl2, by omega, fun ns nl hperm hsort hnl => ?_⟩
      have nl0 : H nl = none := new_of s2 hnl
      have s3 : Same H (upd H2 nl (.lst (ns.map V.str))) := s2.trans (Same.new hnl)
      have hn3 : upd H2 nl (.lst (ns.map V.str)) nl = some (.lst (ns.map V.str)) := upd_same
      generalize upd H2 nl (.lst (ns.map V.str)) = H3 at s3 hn3 ⊢
      keq_hits
      refine we_dnew fun wd hwd => ?_
      have wd0 : H wd = none := new_of s3 hwd
      have s4 : Same H (upd H3 wd (.dK [])) := s3.trans (Same.new hwd)
      have hn4 : upd H3 wd (.dK []) nl = some (.lst (ns.map V.str)) := Same.new hwd _ _ hn3
      have hw4 : upd H3 wd (.dK []) wd = some (.dK []) := upd_same
      generalize upd H3 wd (.dK []) = H4 at s4 hn4 hw4 ⊢
      keq_hits
      refine ⟨by show 0 ≤ sizeLine; decide, fun fl hfl => ?_⟩
      have fl0 : H fl = none := new_of s4 hfl
      have nlfl : nl ≠ fl := fun z => by rw [← z, hn4] at hfl; cases hfl
      have s5 : Same H (upd H4 fl (.lst [])) := s4.trans (Same.new hfl)
      have hn5 : upd H4 fl (.lst []) nl = some (.lst (ns.map V.str)) := Same.new hfl _ _ hn4
      have hw5 : upd H4 fl (.lst []) wd = some (.dK []) := Same.new hfl _ _ hw4
      have hf5 : upd H4 fl (.lst []) fl = some (.lst []) := upd_same
      generalize upd H4 fl (.lst []) = H5 at s5 hn5 hw5 hf5 ⊢
      keq_hits
      refine ⟨by show 3 ≤ sizeLine; decide, fun tp htp => ?_⟩
      have t5 : Same H5 (upd H5 tp (.tup [.ref nl, .ref wd, .ref fl])) := Same.new htp
      refine i_three (SqT.of upd_same) ?_
      have s5 := s5.trans t5
      have hn5 := t5 _ _ hn5
      have hf5 := t5 _ _ hf5
      have hw5 := t5 _ _ hw5
      generalize upd H5 tp (.tup [.ref nl, .ref wd, .ref fl]) = H5 at s5 hn5 hf5 hw5 ⊢
      show WP.WB _ _ _ _ _
      refine wb_cons ?_
      refine ws_forI (walk_tup (K := K) (a := a) (xs := xs)) passes_bx rfl (pi_tup pe) (by k_memK) ?_ iTup_mono
      show WP.WE _ _ _ _ _
      keq_hits
      refine ⟨a, rfl, ⟨_, s5.tup hx⟩, rfl, fun i σ H' => Same H H' ∧ H' nl = some (.lst (ns.map V.str)) ∧ H' fl = some (.lst []) ∧ (∃ kvs, H' wd = some (.dK kvs) ∧ kvs.length ≤ i ∧ ∀ m ∈ ms.take i, WantL H' fl kvs m.nm (wantM (nmsOf ms) m)) ∧
          (∃ r1 r2 r6 r7 r8 r9 r10 r11 r12, σ = [some (.ref a), r1, r2, some (.ref nl), some (.ref wd), some (.ref fl), r6, r7, r8, r9, r10, r11, r12]),
        ⟨s5, hn5, hf5, ⟨[], hw5, Nat.le_refl _, fun m hm => by simp at hm⟩, ⟨_, _, _, _, _, _, _, _, _, rfl⟩⟩, fun i σ H' _ h => h.1.tup hx, ?_, ?_⟩
      · rintro i x σ H6 H6' hi ⟨s6, hn6, hf6, ⟨kvs, hw6, hkl, hwa⟩, ⟨r1, r2, r6, r7, r8, r9, r10, r11, r12, rfl⟩⟩ ⟨rfl, ex⟩
        obtain ⟨m, pj, y1, em, rfl, hPj, dR⟩ := macs_two hxs ex
        have hmm := List.mem_of_getElem? em
        have etk : ms.take (i + 1) = ms.take i ++ [m] := by rw [List.take_add_one, em]; rfl
        have mok := hok.ok m hmm
        obtain ⟨ra, z0, z1, rfl, hR, dz0, dz1⟩ := dp_two dR
        obtain ⟨rb, rxs, rfl, hRb, dRs⟩ := dp_tup dz1
        have lr := dpAll_len dRs
        rw [List.length_map] at lr
        have few := mok.few
        refine i_two (s6.tup hPj) ?_
        show WP.WB _ _ _ _ _
        keq_hits
        refine ⟨by show 0 ≤ sizeLine; decide, fun sd hsd => ?_⟩
        have t7 : Same H6' (upd H6' sd (.lst [])) := Same.new hsd
        have hs7 : upd H6' sd (.lst []) sd = some (.lst []) := upd_same
        generalize upd H6' sd (.lst []) = H7 at t7 hs7 ⊢
        keq_hits
        refine ws_forI (walk_tup (K := K) (a := rb) (xs := rxs)) passes_bx rfl (pi_tup pe) (by k_memK) ?_ iTup_mono
        show WP.WE _ _ _ _ _
        keq_hits
        refine we_ix ix_tup plainIx_int ?_
        keq_hits
        have s7 := s6.trans t7
        refine i_ixT (s7.tup hR) atI1 ?_
        have hRb6 := s6.tup hRb
        refine ⟨rb, rfl, ⟨_, s7.tup hRb⟩, rfl, fun j σ H' => Same H6' H' ∧ H' sd = some (.lst (((m.rs.take j).flatMap (wantR (nmsOf ms) m.nm)).map V.str)) ∧ ((m.rs.take j).flatMap (wantR (nmsOf ms) m.nm)).length ≤ 3000 * j ∧
            (∃ r7 r8 r9 r10 r11 r12, σ = [some (.ref a), some (.str m.nm), some (.ref ra), some (.ref nl), some (.ref wd), some (.ref fl), some (.ref sd), r7, r8, r9, r10, r11, r12]),
          ⟨t7, by simpa using hs7, Nat.zero_le _, ⟨_, _, _, _, _, _, rfl⟩⟩, fun j σ H' _ h => h.1.tup hRb6, ?_, ?_⟩
        · rintro j x σ H8 H8' hj ⟨s8, hs8, hsl8, ⟨r7', r8', r9', r10', r11', r12', rfl⟩⟩ ⟨rfl, hy⟩
          obtain ⟨dr, hdr, hdy⟩ := dpAll_atv dRs hy
          rw [List.getElem?_map] at hdr
          have hjm : j < m.rs.length := by omega
          rw [List.getElem?_eq_getElem hjm] at hdr
          have hrm : m.rs[j] ∈ m.rs := List.getElem_mem hjm
          have etj : m.rs.take (j + 1) = m.rs.take j ++ [m.rs[j]] := by rw [List.take_add_one, List.getElem?_eq_getElem hjm]; rfl
          generalize m.rs[j] = r at hdr hrm etj
          cases hdr
          obtain ⟨rp, p0, p1, rfl, hRp, dq0, dq1⟩ := dp_two hdy
          obtain ⟨fo2, fb2⟩ := mok.form hrm
          have s68 := s6.trans s8
          refine i_two (s68.tup hRp) ?_
          show WP.WB _ _ _ _ _
          keq_hits
          refine i_lstT hs8 ?_
          refine wa_cons ?_
          refine we_lcI rfl nd (pi_list pe) (blkOk_by (N := NG) (sc := defScope (top 63)) (own := [("use", 9)]) (by decide +kernel)) (fun _ _ _ _ _ => by k_memK) ?_
          show WP.WE _ _ _ _ _
          keq_hits
          refine ⟨p1, r.2, nl, ns, H, rfl, s68, dq1, fb2, hhd m hmm r hrm, fo2.dp, by omega, fo2.sz, s8 _ _ hn6, fun pl us H9 s9 hpl hus hdus => ?_⟩
          rw [usD_congr (ns' := nmsOf ms) (fun s => hperm.mem_iff)] at hdus
          have lus := dpAll_len hdus
          have lus2 : (usD (nmsOf ms) r.2).length ≤ 3000 := Nat.le_trans (usD_len _ _) fo2.sz
          have hall : ∀ u ∈ usD (nmsOf ms) r.2, ∃ h us, u = .tuple (.str h :: us) := fun u hu => let ⟨h, us, e, _⟩ := usD_head _ _ _ hu; ⟨h, us, e⟩
          have hfm := heads_map hall
          have lfm : ((usD (nmsOf ms) r.2).filterMap hdS).length = us.length := by rw [hfm, List.length_map, lus]
          refine ⟨pl, rfl, ⟨_, SqL.of hus⟩, fun D hD => lc_F (fun k => (fun s => !decide (s = m.nm)) (((usD (nmsOf ms) r.2).filterMap hdS).getD k "")) (fun k => V.str (((usD (nmsOf ms) r.2).filterMap hdS).getD k "")) (walk_list (K := K) (a := pl) (xs := us)) (by show _ < 16777216; omega) hD (fun H s => SqL.of (s _ _ hus)) ?_ teC_mono ttC_mono gName_mono fun H10 s10 hl10 => ?_⟩
          · rintro k x H10 H10' hk s10 ⟨rfl, exk⟩
            obtain ⟨u, hu, hdu⟩ := dpAll_atv hdus exk
            obtain ⟨h, uus, rfl⟩ := hall u (List.mem_of_getElem? hu)
            obtain ⟨ua, ux, uxs, rfl, hU, du0, dus⟩ := dp_consT hdu
            cases dp_str du0
            have ek : ((usD (nmsOf ms) r.2).filterMap hdS).getD k "" = h := by
              rw [hfm, List.getD, List.getElem?_map, hu]
              rfl
            rw [ek]
            have hU10 := ((s68.trans s9).trans s10).tup hU
            refine ⟨rfl, fun s0 H0 C0 cl0 fp0 => ?_⟩
            refine wt_cmp op_ne rfl ?_
            refine we_ix ix_tup plainIx_int ?_
            keq_hits
            refine i_ixT hU10 atI0 ?_
            keq_hits
            refine ⟨rfl, i_bl ⟨Same.refl _, by rw [decV], fun _ s0' H0' C0' cl0' fp0' => ?_⟩⟩
            refine we_ix ix_tup plainIx_int ?_
            keq_hits
            refine i_ixT hU10 atI0 ?_
            exact ⟨Same.refl _, rfl⟩
          · have hl10' : H10 D = some (.lst ((wantR (nmsOf ms) m.nm r).map V.str)) := by
              rw [hl10, ← lfm]
              exact congrArg (fun z => some (HO.lst z)) (filter_at (p := fun s => !decide (s = m.nm)) ((usD (nmsOf ms) r.2).filterMap hdS))
            have hs10 := s10 _ _ (s9 _ _ hs8)
            have lw : (wantR (nmsOf ms) m.nm r).length ≤ 3000 := by
              have z1 := List.length_filter_le (fun s => !decide (s = m.nm)) ((usD (nmsOf ms) r.2).filterMap hdS)
              unfold wantR
              omega
            keq_hits
            refine i_extend hs10 hl10' (by rw [List.length_map, List.length_map]; show _ ≤ 16777216; omega) ?_
            keq_hits
            refine ⟨(s8.trans (s9.trans s10)).mut hsd, ?_, ?_, ⟨_, _, _, _, _, _, rfl⟩⟩
            · rw [upd_same, etj, List.flatMap_append, List.map_append]
              simp
            · rw [etj, List.flatMap_append, List.length_append]
              simp only [List.flatMap_cons, List.flatMap_nil, List.append_nil]
              omega
        · rintro σ H8 ⟨s8, hs8, hsl8, ⟨r7', r8', r9', r10', r11', r12', rfl⟩⟩
          rw [List.take_of_length_le (by omega)] at hs8 hsl8
          show WP.WB _ _ _ _ _
          refine wb_one (ws_dput hr ?_)
          keq_hits
          have hw8 := s8 _ _ hw6
          have hf8 := s8 _ _ hf6
          refine ⟨wd, _, rfl, DPut.k (k := .inr m.nm) hw8 (by show _ < 16777216; omega), ?_⟩
          have nw1 : nl ≠ wd := fun z => by rw [← z, s8 _ _ hn6] at hw8; cases hw8
          have nw2 : fl ≠ wd := fun z => by rw [← z, hf8] at hw8; cases hw8
          have nw3 : sd ≠ wd := fun z => by rw [← z, hs8] at hw8; cases hw8
          have nw4 : sd ≠ fl := fun z => by rw [z, hf6] at hsd; cases hsd
          refine ⟨(s6.trans s8).mut wd0, by rw [upd_ne nw1]; exact s8 _ _ hn6, by rw [upd_ne nw2]; exact hf8, ⟨_, upd_same, Nat.le_trans (putK_le _ _ _) (by omega), fun m' hm' => ?_⟩, ⟨_, _, _, _, _, _, _, _, _, rfl⟩⟩
          rw [etk] at hm'
          rcases List.mem_append.mp hm' with hm' | hm'
          · have hne : m'.nm ≠ m.nm := fun z => by
              have y := nd_take hok.nd (show (nmsOf ms)[i]? = some m.nm by unfold nmsOf; rw [List.getElem?_map, em]; rfl)
              refine y ?_
              rw [← z]
              unfold nmsOf
              rw [← List.map_take]
              exact List.mem_map_of_mem hm'
            exact (((hwa m' hm').same s8).updK hw8).put hne
          · rw [List.mem_singleton.mp hm']
            refine ⟨sd, by rw [valV_put, if_pos rfl], by rw [upd_ne nw3]; exact hs8, ?_, nw4⟩
            unfold wantM
            omega
      · rintro σ H6 ⟨s6, hn6, hf6, ⟨kvs, hw6, hkl, hwa⟩, ⟨r1, r2, r6, r7, r8, r9, r10, r11, r12, rfl⟩⟩
        rw [List.take_of_length_le (by omega)] at hwa
        show WP.WB _ _ _ _ _
        have lns : ns.length = ms.length := by rw [hperm.length_eq]; exact List.length_map _
        have hwords : ∀ s ∈ ns, nameS s = true := fun s hs => hok.word (hperm.mem_iff.mp hs)
        refine wb_cons ?_
        refine ws_forI (walk_list (K := K) (a := nl) (xs := ns.map V.str)) passes_bx rfl (pi_list pe) (by k_memK) ?_ iList_mono
        show WP.WE _ _ _ _ _
        keq_hits
        refine ⟨nl, rfl, ⟨_, SqL.of hn6⟩, rfl, fun t σ H' => ∃ found : List Str, found.length = t ∧ Same H H' ∧ H' nl = some (.lst (ns.map V.str)) ∧ H' fl = some (.lst (found.map V.str)) ∧ H' wd = some (.dK kvs) ∧ (∀ m ∈ ms, WantL H' fl kvs m.nm (wantM (nmsOf ms) m)) ∧
          ordG ns (wantOf ns ms) (ns.length - t) found = orderM ns ms ∧ (∃ r1 r2 r6 r7 r8 r9 r10 r11 r12, σ = [some (.ref a), r1, r2, some (.ref nl), some (.ref wd), some (.ref fl), r6, r7, r8, r9, r10, r11, r12]),
          ⟨[], rfl, s6, hn6, hf6, hw6, hwa, rfl, ⟨_, _, _, _, _, _, _, _, _, rfl⟩⟩, fun t σ H' _ ⟨_, _, _, h, _⟩ => SqL.of h, ?_, ?_⟩
        · rintro tt x σ H7 H7' ht ⟨found, hlf, s7, hn7, hf7, hw7, hwa7, hord, ⟨r1, r2, r6, r7, r8, r9, r10, r11, r12, rfl⟩⟩ ⟨rfl, _⟩
          rw [List.length_map] at ht
          subst hlf
          show WP.WB _ _ _ _ _
          refine wb_cons ?_
          refine ws_lcI 12 [("name", 1)] rfl nd rfl rfl rfl rfl rfl (pi_list pe) (blkOk_by (N := NG) (sc := defScope (top 63)) (own := [("name", 1)]) (by decide +kernel)) (fun _ _ _ _ _ => by k_memK) ?_
          show WP.WE _ _ _ _ _
          keq_hits
          refine ⟨nl, rfl, ⟨_, SqL.of hn7⟩, fun D hD => lc_F (fun j => (fun s => !decide (s ∈ found) && (wantOf ns ms s).all fun x => decide (x ∈ found)) (ns.getD j "")) (fun j => V.str (ns.getD j "")) walk_list (by rw [List.length_map]; show _ < 16777216; omega) hD (fun H s => SqL.of (s _ _ hn7)) ?_ teC_mono ttC_mono gName_mono fun H8 s8 hl8 => ?_⟩
          · rintro j x H8 H8' hj s8 ⟨rfl, exj⟩
            have hjn : j < ns.length := by simpa using hj
            have ex : x = .str (ns.getD j "") := by
              rw [List.getElem?_map, List.getElem?_eq_getElem hjn] at exj
              rw [List.getD, List.getElem?_eq_getElem hjn]
              exact (Option.some.inj exj).symm
            have hjm : ns.getD j "" ∈ ns := by
              rw [List.getD, List.getElem?_eq_getElem hjn]
              exact List.getElem_mem hjn
            generalize ns.getD j "" = nm at ex hjm
            subst ex
            refine ⟨rfl, fun s0 H0 C0 cl0 fp0 => ?_⟩
            refine wt_ww (ww_and (wt_cmp op_notIn_seq rfl ?_))
            keq_hits
            refine ⟨fl, _, rfl, .inl (SqL.of (s8 _ _ hf7)), rfl, flat_strs _, i_bl ?_⟩
            rw [if_pos rfl, inV_strs]
            cases e1 : decide (nm ∈ found) with
            | true =>
              refine i_iff rfl ⟨Same.refl _, by show false = (!decide (_ ∈ _) && _); rw [e1]; rfl, fun z => absurd z (by decide)⟩
            | false =>
              refine i_ift rfl ?_
              obtain ⟨m, hmm, hmn⟩ := List.mem_map.mp (hperm.mem_iff.mp hjm)
              obtain ⟨d, w1, w2, w3, w4⟩ := (hwa7 m hmm).same s8
              rw [hmn] at w1
              have eW : wantOf ns ms nm = wantM (nmsOf ms) m := by
                rw [← hmn, wantOf_at hok.nd hmm]
                exact wantM_congr (fun s => hperm.mem_iff) m
              refine ww_and1 (wt_val ?_)
              refine we_callB (cr_all rfl) (by rfl) ma boot_all ?_
              refine wa_cons ?_
              refine we_lcc rfl nd (pi_list pe) (blkOk_by (N := NG) (sc := { kind := .function, names := [(".0", .local), ("name", .local), ("all", .globalImplicit), ("found", .cell), ("wants", .cell)], isGenerator := false, isCoroutine := false }) (own := [("one", 11)]) (by decide +kernel)) (fun _ _ _ _ _ => by k_memK) ?_
              show WP.WE _ _ _ _ _
              have dg : DGet H8' wd (.str nm) (some (.ref d)) := by
                have z := DGet.k (k := .inr nm) (s8 _ _ hw7)
                rw [w1] at z
                exact z
              refine we_dget (k := 21) hr (fun _ _ => by with_unfolding_all rfl) ?_
              keq_hits
              refine ⟨wd, _, rfl, dg, ⟨d, rfl, ⟨_, SqL.of w2⟩, fun D3 hD3 => lc_R (fun j _ v => v = V.bl (((wantM (nmsOf ms) m)[j]?.map (fun x => decide (x ∈ found))).getD false)) stay_val walk_list ?_ hD3 (fun H s => SqL.of (s _ _ w2)) ?_ teC_mono gName_mono fun H9 acc s9 hl9 ha9 hv9 => ?_⟩⟩
              · rw [List.length_map]
                show _ < 16777216
                omega
              · rintro j x H9 H9' hj s9 ⟨rfl, exj⟩
                rw [List.getElem?_map] at exj
                cases ew : (wantM (nmsOf ms) m)[j]? with
                | none => rw [ew] at exj; cases exj
                | some s' =>
                  rw [ew] at exj
                  cases exj
                  refine ⟨rfl, fun s0' H0' C0' cl0' fp0' => ?_⟩
                  refine we_cmp op_in_seq rfl ?_
                  keq_hits
                  refine ⟨fl, _, rfl, .inl (SqL.of (s9 _ _ (s8 _ _ hf7))), rfl, flat_strs _, Same.refl _, ?_⟩
                  rw [if_neg Bool.false_ne_true, inV_strs]
                  rfl
              · rw [List.length_map] at ha9
                rw [acc_bls ha9 hv9] at hl9
                keq_hits
                refine ⟨D3, _, rfl, SqL.of hl9, ?_⟩
                have eA : ((wantM (nmsOf ms) m).map fun x => decide (x ∈ found)).all id = (wantOf ns ms nm).all fun x => decide (x ∈ found) := by
                  rw [eW, List.all_map]
                  rfl
                rw [eA]
                refine i_bl ⟨s9, ?_, fun _ s0' H0' C0' cl0' fp0' => ?_⟩
                · show _ = (!decide (_ ∈ _) && _)
                  rw [e1]
                  rfl
                · keq_hits
                  exact ⟨s9, rfl⟩
          · have hl8' : H8 D = some (.lst ((readyL ns (wantOf ns ms) found).map V.str)) := by
              rw [hl8, List.length_map]
              exact congrArg (fun z => some (HO.lst z)) (filter_at (p := fun s => !decide (s ∈ found) && (wantOf ns ms s).all fun x => decide (x ∈ found)) ns)
            obtain ⟨k, hk⟩ : ∃ k, ns.length - found.length = k + 1 := ⟨ns.length - found.length - 1, by omega⟩
            rw [hk, ordG] at hord
            show WP.WB _ _ _ _ _
            refine wb_cons (ws_if (wt_cmp (op_eqD hr.units) rfl ?_))
            keq_hits
            refine ⟨by show 0 ≤ sizeLine; decide, fun pe0 hpe0 => ?_⟩
            have t8 : Same H8 (upd H8 pe0 (.lst [])) := Same.new hpe0
            have hpe1 : upd H8 pe0 (.lst []) pe0 = some (.lst []) := upd_same
            generalize upd H8 pe0 (.lst []) = H8 at t8 hpe1 ⊢
            have hl8' := t8 _ _ hl8'
            have s8 := s8.trans t8
            refine ⟨_, .list [], .lst (SqL.of hl8') (dpAll_strs _), .lst (SqL.of hpe1) .nil, shaped_words (fun s hs => hwords s (ready_mem.mp hs).1), by decide +kernel, i_bl ?_⟩
            rw [eqv_nil]
            have s78 := s7.trans s8
            cases hr' : readyL ns (wantOf ns ms) found with
            | nil =>
              rw [hr'] at hord
              refine i_ift rfl ?_
              keq_hits
              refine q ns _ _ hperm hsort s78 ?_
              rw [← hord]
              exact .non
            | cons s0 rest =>
              rw [hr'] at hord hl8'
              refine i_iff rfl ?_
              have hf8 := s8 _ _ hf7
              keq_hits
              refine i_lstT hf8 ?_
              refine wa_cons ?_
              refine we_ix ix_seq plainIx_int ?_
              keq_hits
              refine .inl ⟨_, _, _, _, rfl, rfl, SqL.of hl8', atI0, ?_⟩
              keq_hits
              refine i_append hf8 (by rw [List.length_map]; show _ < 16777216; omega) ?_
              keq_hits
              have hn8 := s8 _ _ hn7
              have hw8 := s8 _ _ hw7
              have nw2 : wd ≠ fl := fun z => by rw [z, hf8] at hw8; cases hw8
              refine ⟨found ++ [s0], by rw [List.length_append, List.length_singleton], s78.mut fl0, by rw [upd_ne nlfl]; exact hn8, by rw [upd_same]; simp, by rw [upd_ne nw2]; exact hw8, fun m hm => ((hwa7 m hm).same s8).upd, ?_, ⟨_, _, _, _, _, _, _, _, _, rfl⟩⟩
              rw [← hord, show ns.length - (found.length + 1) = k by omega]
        · rintro σ H7 ⟨found, hlf, s7, hn7, hf7, hw7, hwa7, hord, ⟨r1, r2, r6, r7, r8, r9, r10, r11, r12, rfl⟩⟩
          rw [List.length_map, Nat.sub_self, ordG] at hord
          rw [List.length_map] at hlf
          show WP.WB _ _ _ _ _
          keq_hits
          refine we_callTy call_tup (by rfl) mt boot_tuple ?_
          keq_hits
          refine i_tupL hf7 fun tp htp => ?_
          refine q ns _ _ hperm hsort (s7.trans (Same.new htp)) ?_
          rw [← hord]
          exact .tup (SqT.of upd_same) (dpAll_strs found)
end
end
section
/-! ### _law_is -/
def isiE (d : PyData) (T : String) : Option Bool := if T = "list" then some (decide (tyD d = "list")) else isiD d T
theorem kit_list : ∀ a ∈ ["NoneType", "bool", "int", "str", "list", "tuple"], kitB a "list" = some (decide (a = "list")) := by decide +kernel
theorem kit_dataE {K : PySem.W.Frag} {H : Hp} {v : V} {d : PyData} {T : String} {b : Bool} (h : Dp K H v d) (e : isiE d T = some b) : kitB (tyD d) T = some b := by
  unfold isiE at e
  split at e
  · next z =>
    subst z
    injection e with e
    subst e
    cases d with
    | dict kvs => exact (dp_nodict h).elim
    | _ => exact kit_list _ (by simp [tyD])
  · exact kit_data h e
def rIsiE (K : PySem.W.Frag) : List V → Hp → VK → Prop := fun xs H Q => ∃ (x : V) (T : String) (d : PyData) (b : Bool), xs = [x, .ty T] ∧ Dp K H x d ∧ isiE d T = some b ∧ Q (.bl b) H
theorem call_isiE {X : Cx} : CallR X (.builtin "isinstance") (rIsiE X.K) := by
  intro pins s σ H xs us Q I r h
  obtain ⟨x, T, d, b, e, hd, hb, q⟩ := h
  exact call_isi pins s σ H xs us Q I r ⟨x, .ty T, .type (tyD d), .type T, b, e, .ty T, dp_ty hd, kit_ty (kit_dataE hd hb), q⟩
theorem i_isiE {K : PySem.W.Frag} {H : Hp} {x : V} {d : PyData} {Q : VK} {T : String} {b : Bool} (h : Dp K H x d) (hb : isiE d T = some b) (q : Q (.bl b) H) : rIsiE K [x, .ty T] H Q := ⟨x, T, d, b, rfl, h, hb, q⟩
structure NoIsi (mg : Str → Option Value) : Prop where
  h : mg "isinstance" = none
def lisB : Nat → PyData → Bool
  | n + 1, .tuple ds => decide (ds.length ≤ 1000) && ds.all (lisB n)
  | n + 1, .list ds => decide (ds.length ≤ 1000) && ds.all (lisB n)
  | 0, .tuple _ => false
  | 0, .list _ => false
  | _, .dict _ => false
  | _, _ => true
theorem walk_zipT {K : PySem.W.Frag} {a b : Addr} {xs ys : List V} (hl : xs.length = ys.length) : Walk (RZ.ItzT K a b) xs.length (fun H => SqT K H a xs ∧ SqT K H b ys) (YPair (fun i => xs[i]?) (fun i => ys[i]?)) := by
  refine ⟨fun i _ hi q => ?_, fun _ q => ⟨xs, ys, q.1, q.2, Or.inl (Nat.le_refl _)⟩, fun i H v H' _ q y => ?_⟩
  · exact ⟨xs, ys, xs[i], ys[i], q.1, q.2, List.getElem?_eq_getElem hi, List.getElem?_eq_getElem (by omega)⟩
  · obtain ⟨T, x, z, h1, h2, h3, h4, h5⟩ := y
    exact ⟨T, x, z, h1, h2, h3, h4 xs q.1, h5 ys q.2⟩
section
variable {P : Program} {w : World} {K : PySem.W.Frag} {mg : Str → Option Value} {base : Heap} {f f2 : Addr} {fd fd2 : FuncData} {C CB CM : Addr} {L : List Str}
def sp_lis (K : PySem.W.Frag) (n : Nat) : Sp := fun vs H Q _ => ∃ g u d, vs = [g, u] ∧ Dp K H g d ∧ Dp K H u d ∧ lisB n d = true ∧ ∀ H', Same H H' → Q (.bl true) H'
abbrev NI : List Str := ["got", "due", "one", "other"]
theorem sq52 : FnScope NI ["got", "due"] (defScope (top 52)) := ⟨rfl, rfl, rfl, by decide +kernel, rfl, by decide +kernel, by decide +kernel⟩
theorem ok_li (F : FnP K "_law_is" 52 f fd) (hm : mg "_law_is" = some (.ref f)) (mi : NoIsi mg) (ml : mg "len" = none) (ma : mg "all" = none) (mz : mg "zip" = none) (mtu : BTy mg "tuple" "tuple") (mli : BTy mg "list" "list") (mbo : BTy mg "bool" "bool") (mint : BTy mg "int" "int") (mst : BTy mg "str" "str") (n : Nat)
    (DN : ∀ m, n = m + 1 → Def P w K mg base (m + 1) "_law_is" (sp_lis K m)) : Def P w K mg base (n + 1) "_law_is" (sp_lis K n) := by
  refine Def.mk' F hm sq52 (fun vs H Q E h => ?_) (fun _ _ _ _ _ _ us hl => match us, hl with | [_, _], _ => rfl) (fun cdv A outer s H vs Q E hr tk h => ?_)
  · obtain ⟨g, u, d, rfl, _⟩ := h
    rfl
  · obtain ⟨g, u, d, rfl, hg, hu, hb, q⟩ := h
    have nd := sq52.nd
    refine wb_cons (ws_if (wt_mono (QT := fun k H' => k = (dTup d || decide (tyD d = "list")) ∧ H = H') (fun kk H1 ⟨ek, eH⟩ => ?_) ?_))
    rotate_left
    · refine wt_ww (ww_or (wt_val ?_))
      refine we_callB call_isiE (by rfl) mi.h boot_isinstance ?_
      keq_hits
      refine i_isiE hu rfl (i_bl ?_)
      cases e1 : dTup d with
      | true => exact i_ift rfl ⟨rfl, rfl⟩
      | false =>
        refine i_iff rfl (ww_or1 (wt_val ?_))
        refine we_callB call_isiE (by rfl) mi.h boot_isinstance ?_
        keq_hits
        refine i_isiE hu rfl (i_bl ?_)
        exact ⟨rfl, rfl⟩
    subst ek eH
    by_cases hseq : (∃ ds, d = .tuple ds) ∨ ∃ ds, d = .list ds
    · obtain ⟨a, b, xs, ys, m, ds, rfl, rfl, hxs, hys, hz, hall, en, hd⟩ : ∃ (a b : Addr) (xs ys : List V) (m : Nat) (ds : List PyData), g = .ref a ∧ u = .ref b ∧ DpAll K H xs ds ∧ DpAll K H ys ds ∧ ds.length ≤ 1000 ∧ (∀ d ∈ ds, lisB m d = true) ∧ n = m + 1 ∧
          ((d = .tuple ds ∧ SqT K H a xs ∧ SqT K H b ys) ∨ (d = .list ds ∧ SqL K H a xs ∧ SqL K H b ys)) := by
        rcases hseq with ⟨ds, rfl⟩ | ⟨ds, rfl⟩
        · obtain ⟨a, xs, rfl, hx, hxs⟩ := dp_tup hg
          obtain ⟨b, ys, rfl, hy, hys⟩ := dp_tup hu
          cases n with
          | zero => cases hb
          | succ m =>
            simp only [lisB, Bool.and_eq_true, decide_eq_true_eq, List.all_eq_true] at hb
            exact ⟨a, b, xs, ys, m, ds, rfl, rfl, hxs, hys, hb.1, hb.2, rfl, .inl ⟨rfl, hx, hy⟩⟩
        · cases hg with
          | lst hx hxs =>
            cases hu with
            | lst hy hys =>
              cases n with
              | zero => cases hb
              | succ m =>
                simp only [lisB, Bool.and_eq_true, decide_eq_true_eq, List.all_eq_true] at hb
                exact ⟨_, _, _, _, m, ds, rfl, rfl, hxs, hys, hb.1, hb.2, rfl, .inr ⟨rfl, hx, hy⟩⟩
      subst en
      have DD := DN m rfl
      have lx := dpAll_len hxs
      have ly := dpAll_len hys
      refine i_ift (by rcases hd with ⟨rfl, _⟩ | ⟨rfl, _⟩ <;> rfl) ?_
      refine wb_cons (ws_if (wt_mono (QT := fun k H' => k = false ∧ H = H') (fun kk H2 ⟨ek, eH⟩ => ?_) ?_))
      rotate_left
      · refine wt_ww (ww_or (wt_cmp op_ne rfl ?_))
        refine we_callB call_isiE (by rfl) mi.h boot_isinstance ?_
        keq_hits
        refine i_isiE hg rfl ?_
        refine we_callB call_isiE (by rfl) mi.h boot_isinstance ?_
        keq_hits
        refine i_isiE hu rfl ⟨rfl, i_bl ?_⟩
        rw [decide_eq_true rfl]
        refine i_iff rfl (ww_or1 (wt_cmp op_ne rfl ?_))
        refine we_callB call_isiE (by rfl) mi.h boot_isinstance ?_
        keq_hits
        refine i_isiE hg rfl ?_
        refine we_callB call_isiE (by rfl) mi.h boot_isinstance ?_
        keq_hits
        refine i_isiE hu rfl ⟨rfl, i_bl ?_⟩
        rw [decide_eq_true rfl]
        exact ⟨rfl, rfl⟩
      subst ek eH
      refine i_iff rfl ?_
      show WP.WB _ _ _ _ _
      refine wb_nil ?_
      show WP.WB _ _ _ _ _
      refine wb_one (ws_ret (we_and (we_cmp op_eq rfl ?_)))
      have lxy : xs.length = ys.length := by omega
      rcases hd with ⟨rfl, hx, hy⟩ | ⟨rfl, hx, hy⟩
      · keq_hits
        refine ⟨rfl, i_bl ?_⟩
        rw [decide_eq_true rfl]
        refine i_ift rfl (we_one ?_)
        refine we_callB (cr_all rfl) (by rfl) ma boot_all ?_
        refine wa_cons ?_
        refine we_lcc (g := gTup K 2 (gCons (gName 2) (gCons (gName 3) gNil))) rfl nd (RZ.pi_zipA (by rfl) mz WP.pa) (blkOk_by (N := NI) (sc := defScope (top 52)) (own := [("one", 2), ("other", 3)]) (by decide +kernel)) (fun _ _ _ _ _ => by k_memK) ?_
        show WP.WA _ _ _ _ _
        keq_hits
        refine ⟨a, b, xs, ys, rfl, .inr ⟨hx, hy, fun D hD => ?_⟩⟩
        refine lc_R (fun j _ v => v = .bl true) stay_val (walk_zipT lxy) (by show _ < 16777216; omega) hD (fun H s => ⟨s.tup hx, s.tup hy⟩) ?_ teC_mono gTup2_mono fun H4 acc s4 hl4 ha4 hv4 => ?_
        · rintro j x H5 H6 hj s5 ⟨T, x0, y0, rfl, hT, rfl, ex, ey⟩
          refine i_two (SqT.of upd_same) ⟨rfl, fun s0 H0 C0 cl0 fp0 => ?_⟩
          have s6 : Same H5 (upd H5 T (.tup [x0, y0])) := Same.new hT
          generalize upd H5 T (.tup [x0, y0]) = H6 at s6 ⊢
          obtain ⟨d1, hd1, dx⟩ := dpAll_atv hxs ex
          obtain ⟨d2, hd2, dy⟩ := dpAll_atv hys ey
          rw [hd1] at hd2
          cases hd2
          have s06 := s5.trans s6
          keq_hits
          refine ⟨x0, y0, d1, rfl, WP.dp_mono s06 dx, WP.dp_mono s06 dy, hall d1 (List.mem_of_getElem? hd1), fun H7 s7 => ⟨s6.trans s7, rfl⟩⟩
        · rw [acc_bls (kv := xs) (g := fun _ => true) ha4 (fun j v hj => by
            rw [hv4 j v hj]
            have : j < xs.length := by
              have := (List.getElem?_eq_some_iff.mp hj).1
              omega
            rw [List.getElem?_eq_getElem this]
            rfl)] at hl4
          keq_hits
          refine ⟨D, _, rfl, SqL.of hl4, ?_⟩
          have eA : (xs.map fun _ => true).all id = true := by simp
          rw [eA]
          exact q _ s4
      · keq_hits
        refine i_lenL hx ?_
        keq_hits
        refine i_lenL hy ?_
        keq_hits
        refine ⟨rfl, i_bl ?_⟩
        rw [lxy, decide_eq_true rfl]
        refine i_ift rfl (we_one ?_)
        refine we_callB (cr_all rfl) (by rfl) ma boot_all ?_
        refine wa_cons ?_
        refine we_lcc (g := gTup K 2 (gCons (gName 2) (gCons (gName 3) gNil))) rfl nd (RZ.pi_zipA (by rfl) mz WP.pa) (blkOk_by (N := NI) (sc := defScope (top 52)) (own := [("one", 2), ("other", 3)]) (by decide +kernel)) (fun _ _ _ _ _ => by k_memK) ?_
        show WP.WA _ _ _ _ _
        keq_hits
        refine ⟨a, b, xs, ys, rfl, .inl ⟨hx, hy, fun D hD => ?_⟩⟩
        refine lc_R (fun j _ v => v = .bl true) stay_val (walk_zip (n := xs.length) (xs := xs) (ys := ys) (by omega)) (by show _ < 16777216; omega) hD (fun H s => ⟨s.seq hx, s.seq hy⟩) ?_ teC_mono gTup2_mono fun H4 acc s4 hl4 ha4 hv4 => ?_
        · rintro j x H5 H6 hj s5 ⟨T, x0, y0, rfl, hT, rfl, ex, ey⟩
          refine i_two (SqT.of upd_same) ⟨rfl, fun s0 H0 C0 cl0 fp0 => ?_⟩
          have s6 : Same H5 (upd H5 T (.tup [x0, y0])) := Same.new hT
          generalize upd H5 T (.tup [x0, y0]) = H6 at s6 ⊢
          obtain ⟨d1, hd1, dx⟩ := dpAll_atv hxs ex
          obtain ⟨d2, hd2, dy⟩ := dpAll_atv hys ey
          rw [hd1] at hd2
          cases hd2
          have s06 := s5.trans s6
          keq_hits
          refine ⟨x0, y0, d1, rfl, WP.dp_mono s06 dx, WP.dp_mono s06 dy, hall d1 (List.mem_of_getElem? hd1), fun H7 s7 => ⟨s6.trans s7, rfl⟩⟩
        · rw [acc_bls (kv := xs) (g := fun _ => true) ha4 (fun j v hj => by
            rw [hv4 j v hj]
            have : j < xs.length := by
              have := (List.getElem?_eq_some_iff.mp hj).1
              omega
            rw [List.getElem?_eq_getElem this]
            rfl)] at hl4
          keq_hits
          refine ⟨D, _, rfl, SqL.of hl4, ?_⟩
          have eA : (xs.map fun _ => true).all id = true := by simp
          rw [eA]
          exact q _ s4
    · refine i_iff (by
        cases d with
        | tuple ds => exact absurd (.inl ⟨ds, rfl⟩) hseq
        | list ds => exact absurd (.inr ⟨ds, rfl⟩) hseq
        | _ => rfl) ?_
      refine wb_nil ?_
      show WP.WB _ _ _ _ _
      by_cases hnone : d = .none
      · subst hnone
        cases hg
        cases hu
        keq_hits
        refine i_ift (by decide) ?_
        keq_hits
        refine i_ift rfl ?_
        keq_hits
        refine i_ift (by decide) ?_
        keq_hits
        exact q _ (Same.refl _)
      · obtain ⟨e0, es, en⟩ : g = u ∧ scal g u = true ∧ decide (g = V.non) = false := by
          cases hg with
          | lst h1 h2 => exact absurd (.inr ⟨_, rfl⟩) hseq
          | tup h1 h2 => exact absurd (.inl ⟨_, rfl⟩) hseq
          | non => exact absurd rfl hnone
          | bl b0 => cases hu; exact ⟨rfl, rfl, rfl⟩
          | int i0 => cases hu; exact ⟨rfl, rfl, rfl⟩
          | str s0 => cases hu; exact ⟨rfl, rfl, rfl⟩
        subst e0
        keq_hits
        rw [en]
        refine i_iff rfl ?_
        keq_hits
        rw [en]
        refine i_iff rfl ?_
        refine wb_nil ?_
        show WP.WB _ _ _ _ _
        refine wb_cons (ws_if (wt_mono (QT := fun k H' => k = false ∧ H = H') (fun kk H2 ⟨ek, eH⟩ => ?_) ?_))
        rotate_left
        · refine wt_ww (ww_or (wt_cmp op_ne rfl ?_))
          refine we_callB call_isiE (by rfl) mi.h boot_isinstance ?_
          keq_hits
          refine i_isiE hg rfl ?_
          refine we_callB call_isiE (by rfl) mi.h boot_isinstance ?_
          keq_hits
          refine i_isiE hu rfl ⟨rfl, i_bl ?_⟩
          rw [decide_eq_true rfl]
          refine i_iff rfl (ww_or1 (wt_cmp op_ne rfl ?_))
          refine we_callB call_isiE (by rfl) mi.h boot_isinstance ?_
          keq_hits
          refine i_isiE hg rfl ?_
          refine we_callB call_isiE (by rfl) mi.h boot_isinstance ?_
          keq_hits
          refine i_isiE hu rfl ⟨rfl, i_bl ?_⟩
          rw [decide_eq_true rfl]
          exact ⟨rfl, rfl⟩
        subst ek eH
        refine i_iff rfl ?_
        refine wb_nil ?_
        show WP.WB _ _ _ _ _
        refine wb_one (ws_ret (we_and (we_cmp op_eq rfl ?_)))
        refine we_callB call_isiE (by rfl) mi.h boot_isinstance ?_
        keq_hits
        refine i_isiE hg rfl ?_
        refine we_callB call_isiE (by rfl) mi.h boot_isinstance ?_
        keq_hits
        refine i_isiE hu rfl ⟨rfl, i_bl ?_⟩
        rw [decide_eq_true rfl]
        refine i_ift rfl (we_one (we_cmp op_eq rfl ?_))
        keq_hits
        refine ⟨es, ?_⟩
        rw [decide_eq_true rfl]
        exact q _ (Same.refl _)
theorem ok_lis (F : FnP K "_law_is" 52 f fd) (hm : mg "_law_is" = some (.ref f)) (mi : NoIsi mg) (ml : mg "len" = none) (ma : mg "all" = none) (mz : mg "zip" = none) (mtu : BTy mg "tuple" "tuple") (mli : BTy mg "list" "list") (mbo : BTy mg "bool" "bool") (mint : BTy mg "int" "int") (mst : BTy mg "str" "str") :
    ∀ n, Def P w K mg base (n + 1) "_law_is" (sp_lis K n) := by
  intro n
  induction n with
  | zero => exact ok_li F hm mi ml ma mz mtu mli mbo mint mst 0 (fun m h => by cases h)
  | succ n ih => exact ok_li F hm mi ml ma mz mtu mli mbo mint mst (n + 1) (fun m h => by cases h; exact ih)
end
end
section
/-! ### _law_mixed -/
theorem hid_mut {S : List Addr} {H H' : Hp} {a : Addr} {o : HO} (s : Same (hid S H) (hid S H')) (h : H a = none) (n : a ∉ S) : Same (hid S H) (hid S (upd H' a o)) := by
  rw [hid_upd_out n]
  exact s.mut (by rw [hid_out n]; exact h)
theorem HandP.hh {H : Hp} {h c : Addr} (p : HandP H h c) : ∃ vs, H h = some (.lst vs) := by
  obtain ⟨vs, e, _⟩ := p
  exact ⟨vs, e⟩
theorem HandP.new_ne {H H0 : Hp} {h c a : Addr} (p : HandP H0 h c) (s : Same H0 H) (ha : H a = none) : a ≠ h := fun z => by
  obtain ⟨vs, e⟩ := p.hh
  rw [z, s _ _ e] at ha
  cases ha
theorem HandP.newC {H : Hp} {h c a : Addr} (p : HandP H h c) (ha : H a = none) : a ≠ h ∧ a ≠ c := by
  obtain ⟨vs, e, ns, i1, i2, i3, i4, ev, hc, n, p1⟩ := p
  exact ⟨(ne_of_none e ha).symm, (ne_of_none hc ha).symm⟩
section
variable {X : Cx} {e o : Expr} {es : List Expr} {σ : L2.St} {H : Hp} {Q : VK} {pos p apos cpos : Pos}
theorem we_popAt (q : WE X o σ H fun x H1 => tyV X.K "list" x H1 ∧ WA X (e :: es) σ H1 fun xs H2 => rPopAt x xs H2 Q)
    (hbase : attributeBase o "pop" X.env (eval o X.env) = eval o X.env := by rfl)
    (hfew : ((backTo cpos (starEach (e :: es) X.env)).all (fun x => !x.1) && (backToKw cpos (keywordEach [] X.env)).all (fun x => x.1.isSome)
      && decide ((e :: es).length + ([] : List Keyword).length + (if ([] : List Keyword).isEmpty then 0 else 1) < 30)) = true := by rfl)
    (hline : (apos.endLine == cpos.line) = true := by rfl) (hs : starEach (e :: es) X.env = (false, eval e X.env) :: starEach es X.env := by rfl) (hplain : (backTo cpos (starEach es X.env)).any (·.1) = false := by rfl) :
    WE X (.Call (.Attribute o "pop" apos) (e :: es) [] cpos) σ H Q := we_bm PySem.F.plainAttrs_list PySem.F.slot_list_pop PySem.F.type_list_pop mt_popAt q hbase hfew hline hs hplain
end
theorem seqIx {k n : Nat} (h : k < n) : seqIndex? (k : Int) n = some k := by
  unfold seqIndex?
  have h1 : ¬ ((k : Int) < 0) := by omega
  have h2 : (k : Int) < n := by omega
  simp [h1, h2]
theorem erase_perm {α : Type} : ∀ {l : List α} {k : Nat} (h : k < l.length), ([l[k]] ++ l.eraseIdx k).Perm l
  | a :: l, 0, _ => List.Perm.refl _
  | a :: l, k + 1, h => by
    have ih := erase_perm (l := l) (k := k) (by simpa using h)
    exact (List.Perm.swap a _ _).trans (List.Perm.cons a ih)
theorem erase_map {α β : Type} (f : α → β) : ∀ (l : List α) (k : Nat), (l.map f).eraseIdx k = (l.eraseIdx k).map f
  | [], _ => rfl
  | _ :: _, 0 => rfl
  | a :: l, k + 1 => by simp [List.eraseIdx, erase_map f l k]
section
variable {P : Program} {w : World} {K : PySem.W.Frag} {mg : Str → Option Value} {base : Heap} {f f2 : Addr} {fd fd2 : FuncData} {C CB CM : Addr} {L : List Str}
def sp_mixed : Sp := fun vs H Q _ => ∃ (hh c tl : Addr) (ns : List Str), vs = [.ref hh, .ref tl] ∧ HandP H hh c ∧ tl ≠ hh ∧ H tl = some (.lst (ns.map V.str)) ∧ ns.length ≤ 100 ∧ (∀ s ∈ ns, nameS s = true) ∧
  ∀ p (ms : List Str) H', Same (hid [hh] H) (hid [hh] H') → HandP H' hh c → H p = none → H' p = some (.lst (ms.map V.str)) → ms.Perm ns → Q (.ref p) H'
abbrev NM : List Str := ["hand", "things", "left", "found"]
theorem sq51 : FnScope NM ["hand", "things"] (defScope (top 51)) := ⟨rfl, rfl, rfl, by decide +kernel, rfl, by decide +kernel, by decide +kernel⟩
theorem ok_mixed (F : FnP K "_law_mixed" 51 f fd) (hm : mg "_law_mixed" = some (.ref f)) (ml : mg "len" = none) (mli : BTy mg "list" "list") (DD : Def P w K mg base 1 "_law_draw" sp_draw) : Def P w K mg base 2 "_law_mixed" sp_mixed := by
  refine Def.mk' F hm sq51 (fun vs H Q E h => ?_) (fun _ _ _ _ _ _ us hl => match us, hl with | [_, _], _ => rfl) (fun cdv A outer s H vs Q E hr tk h => ?_)
  · obtain ⟨hh, c, tl, ns, rfl, _⟩ := h
    rfl
  · obtain ⟨hh, c, tl, ns, rfl, hp, n1, htl, hl, hw, q⟩ := h
    have nd := sq51.nd
    refine wb_cons (ws_par 2 3 rfl nd rfl rfl (by decide) rfl rfl (by rfl) ?_)
    refine we_callTy call_list_of (by rfl) mli.m mli.b ?_
    keq_hits
    refine ⟨tl, _, rfl, .inl (SqL.of htl), fun lf hlf => ?_⟩
    have s1 : Same H (upd H lf (.lst (ns.map V.str))) := Same.new hlf
    have h1 : upd H lf (.lst (ns.map V.str)) lf = some (.lst (ns.map V.str)) := upd_same
    generalize upd H lf (.lst (ns.map V.str)) = H1 at s1 h1 ⊢
    keq_hits
    refine ⟨by show 0 ≤ sizeLine; decide, fun fo hfo => ?_⟩
    have fo0 : H fo = none := new_of s1 hfo
    have lffo : lf ≠ fo := fun z => by rw [z, hfo] at h1; cases h1
    have s2 : Same H (upd H1 fo (.lst [])) := s1.trans (Same.new hfo)
    have h2 : upd H1 fo (.lst []) lf = some (.lst (ns.map V.str)) := Same.new hfo _ _ h1
    have f2 : upd H1 fo (.lst []) fo = some (.lst []) := upd_same
    generalize upd H1 fo (.lst []) = H2 at s2 h2 f2 ⊢
    have lfh := (hp.newC hlf).1
    have lfc := (hp.newC hlf).2
    have foh := (hp.newC fo0).1
    have foc := (hp.newC fo0).2
    keq_hits
    refine ws_whileW passes_bx (fun m σ H' => ∃ ls fs : List Str, m = ls.length ∧ (fs ++ ls).Perm ns ∧ Same (hid [hh] H) (hid [hh] H') ∧ HandP H' hh c ∧ H' lf = some (.lst (ls.map V.str)) ∧ H' fo = some (.lst (fs.map V.str)) ∧ σ = [some (.ref hh), some (.ref tl), some (.ref lf), some (.ref fo)]) ?_ ?_
    · exact ⟨_, ns, [], rfl, by simp, same_hid s2, hp.same s2, h2, f2, rfl⟩
    · rintro m σ H3 ⟨ls, fs, rfl, hpm, s3, hp3, h3, f3, rfl⟩
      have hlen := hpm.length_eq
      rw [List.length_append] at hlen
      refine wt_cmp (op_neD hr.units) rfl ?_
      keq_hits
      refine ⟨by show 0 ≤ sizeLine; decide, fun p0 hp0 => ?_⟩
      have t4 : Same H3 (upd H3 p0 (.lst [])) := Same.new hp0
      have e4 : upd H3 p0 (.lst []) p0 = some (.lst []) := upd_same
      have hp4 := hp3.fresh (o := .lst []) hp0
      have s4 := s3.trans (same_hid t4)
      generalize upd H3 p0 (.lst []) = H4 at t4 e4 hp4 s4 ⊢
      have h4 := t4 _ _ h3
      have f4 := t4 _ _ f3
      refine ⟨_, .list [], .lst (SqL.of h4) (dpAll_strs _), .lst (SqL.of e4) .nil, shaped_words (fun s hs => hw s (hpm.subset (by simp [hs]))), by decide +kernel, i_bl ?_⟩
      rw [eqv_nil]
      cases ls with
      | nil =>
        refine i_iff rfl ?_
        keq_hits
        exact q fo fs _ s4 hp4 fo0 f4 (by simpa using hpm)
      | cons z0 r0 =>
        refine i_ift rfl ?_
        generalize hls : z0 :: r0 = ls at *
        have lpos : 0 < ls.length := by rw [← hls]; simp
        show WP.WB _ _ _ _ _
        keq_hits
        refine i_lstT f4 ?_
        refine wa_cons (we_popAt ?_)
        keq_hits
        refine i_lstT h4 ?_
        keq_hits
        refine i_lenLt h4 ?_
        keq_hits
        rw [List.length_map]
        refine ⟨hh, c, _, rfl, hp4, by omega, by omega, fun n ws k0 k1 LL => ?_⟩
        have hp5 := HandP.put LL
        have s5 := s4.trans (hid_put (H := H4) (o := .lst ws) (S := [hh]) (a := hh) (by simp))
        have h5 : upd H4 hh (.lst ws) lf = some (.lst (ls.map V.str)) := by rw [upd_ne lfh]; exact h4
        have f5 : upd H4 hh (.lst ws) fo = some (.lst (fs.map V.str)) := by rw [upd_ne foh]; exact f4
        generalize upd H4 hh (.lst ws) = H5 at hp5 s5 h5 f5 ⊢
        obtain ⟨k, rfl⟩ : ∃ k : Nat, n = k := ⟨n.toNat, by omega⟩
        have hk : k < ls.length := by omega
        keq_hits
        refine ⟨lf, _, (k : Int), k, .str ls[k], rfl, rfl, h5, by omega, by omega, ?_, by rw [List.getElem?_map, List.getElem?_eq_getElem hk]; rfl, ?_⟩
        · exact seqIx (by rw [List.length_map]; exact hk)
        · rw [erase_map]
          have s6 := hid_mut (o := .lst ((ls.eraseIdx k).map V.str)) s5 hlf (by simp [lfh])
          have hp6 := hp5.off (o := .lst ((ls.eraseIdx k).map V.str)) lfh lfc
          have h6 : upd H5 lf (.lst ((ls.eraseIdx k).map V.str)) lf = some (.lst ((ls.eraseIdx k).map V.str)) := upd_same
          have f6 : upd H5 lf (.lst ((ls.eraseIdx k).map V.str)) fo = some (.lst (fs.map V.str)) := by rw [upd_ne lffo.symm]; exact f5
          generalize upd H5 lf (.lst ((ls.eraseIdx k).map V.str)) = H6 at s6 hp6 h6 f6 ⊢
          keq_hits
          refine i_append f6 (by rw [List.length_map]; show _ < 16777216; omega) ?_
          keq_hits
          refine ⟨(ls.eraseIdx k).length, by rw [List.length_eraseIdx_of_lt hk]; omega, ls.eraseIdx k, fs ++ [ls[k]], rfl, ?_, hid_mut s6 fo0 (by simp [foh]), hp6.off foh foc, by rw [upd_ne lffo]; exact h6, by rw [upd_same]; simp, rfl⟩
          refine List.Perm.trans ?_ hpm
          rw [List.append_assoc]
          exact List.Perm.append_left fs (erase_perm hk)
end
end
section
theorem filter_places {α β : Type} (q : α → Bool) (g : α → β) (d : α) : ∀ xs : List α, ((List.range xs.length).filter fun i => q (xs.getD i d)).map (fun i => g (xs.getD i d)) = (xs.filter q).map g := by
  intro xs
  induction xs with
  | nil => rfl
  | cons x xs ih =>
    have e : ((List.range xs.length).map Nat.succ).filter (fun i => q ((x :: xs).getD i d)) = ((List.range xs.length).filter fun i => q (xs.getD i d)).map Nat.succ := by
      rw [List.filter_map]
      rfl
    rw [List.length_cons, List.range_succ_eq_map, List.filter_cons, e]
    have e0 : (x :: xs).getD 0 d = x := rfl
    have e2 : ∀ ys : List Nat, (ys.map Nat.succ).map (fun i => g ((x :: xs).getD i d)) = ys.map fun i => g (xs.getD i d) := fun ys => by
      rw [List.map_map]
      rfl
    rw [e0, List.filter_cons]
    split
    · rw [List.map_cons, List.map_cons, e2, ih, e0]
    · rw [e2, ih]
theorem isRep_eq {d : PyData} (h : isRep d = true) : d = .str "..." := by
  cases d with
  | str s => simp [isRep] at h; rw [h]
  | _ => simp [isRep] at h
theorem spots_eq (ds : List PyData) : spots ds = (List.range ds.length).filter fun i => isRep (ds.getD i .none) := by
  unfold spots
  refine List.filter_congr fun i hi => ?_
  have := List.mem_range.mp hi
  simp [repAt, List.getD, this]
theorem spots_len (ds : List PyData) : (spots ds).length = ds.countP isRep := by
  have h := congrArg List.length (filter_places isRep (fun d => d) .none ds)
  rw [List.length_map, List.length_map] at h
  rw [spots_eq, h, List.countP_eq_length_filter]
theorem spots_mem {ds : List PyData} {i : Nat} : i ∈ spots ds ↔ ∃ d, ds[i]? = some d ∧ isRep d = true := by
  rw [spots_eq, List.mem_filter, List.mem_range]
  constructor
  · rintro ⟨h1, h2⟩
    exact ⟨ds[i], List.getElem?_eq_getElem h1, by simpa [List.getD, h1] using h2⟩
  · rintro ⟨d, h1, h2⟩
    have h3 := (List.getElem?_eq_some_iff.mp h1).1
    exact ⟨h3, by simp [List.getD, h1, h2]⟩
theorem count0 {ds : List PyData} (h : ∀ d ∈ ds, isRep d = false) : ds.countP isRep = 0 := List.countP_eq_zero.mpr fun d hd => by simp [h d hd]
theorem spots0 {ds : List PyData} (h : ∀ d ∈ ds, isRep d = false) : spots ds = [] := List.length_eq_zero_iff.mp (by rw [spots_len, count0 h])
theorem count1 {pre post : List PyData} (h1 : ∀ d ∈ pre, isRep d = false) (h2 : ∀ d ∈ post, isRep d = false) : (pre ++ .str "..." :: post).countP isRep = 1 := by
  rw [List.countP_append, List.countP_cons, count0 h1, count0 h2]
  rfl
theorem spots1 {pre post : List PyData} (h1 : ∀ d ∈ pre, isRep d = false) (h2 : ∀ d ∈ post, isRep d = false) : spots (pre ++ .str "..." :: post) = [pre.length] := by
  obtain ⟨i, e⟩ : ∃ i, spots (pre ++ .str "..." :: post) = [i] := List.length_eq_one_iff.mp (by rw [spots_len, count1 h1 h2])
  have : pre.length ∈ spots (pre ++ .str "..." :: post) := spots_mem.mpr ⟨.str "...", by simp, rfl⟩
  rw [e] at this ⊢
  rw [List.mem_singleton.mp this]
theorem join0 {L : List Str} {ds : List PyData} (h : ∀ d ∈ ds, isRep d = false) : shapeS L (.tuple ds) = (seqO (ds.map (shapeS L))).map .lis := by
  rw [shapeS, joinS, spots0 h, shapesS_map]
theorem join1 {L : List Str} {pre post : List PyData} {r : PyData} (h1 : ∀ d ∈ pre, isRep d = false) (hr : isRep r = false) (h2 : ∀ d ∈ post, isRep d = false) :
    shapeS L (.tuple (pre ++ r :: .str "..." :: post)) = (match seqO (pre.map (shapeS L)), seqO (post.map (shapeS L)), shapeS L r with
      | some a, some b, some x => some (.rep a x b)
      | _, _, _ => none) := by
  have hp : ∀ d ∈ pre ++ [r], isRep d = false := fun d hd => by
    rcases List.mem_append.mp hd with hd | hd
    · exact h1 d hd
    · rw [List.mem_singleton.mp hd]
      exact hr
  have e : pre ++ r :: .str "..." :: post = (pre ++ [r]) ++ .str "..." :: post := by simp
  have es : spots (pre ++ r :: .str "..." :: post) = [pre.length + 1] := by
    rw [e, spots1 hp h2]
    simp
  have hm : (pre ++ r :: .str "..." :: post).map (shapeS L) = pre.map (shapeS L) ++ (shapeS L r :: shapeS L (.str "...") :: post.map (shapeS L)) := by simp
  have t1 : ((pre ++ r :: .str "..." :: post).map (shapeS L)).take (pre.length + 1 - 1) = pre.map (shapeS L) := by
    rw [hm, Nat.add_sub_cancel]
    exact List.take_left' (by simp)
  have t2 : ((pre ++ r :: .str "..." :: post).map (shapeS L)).drop (pre.length + 1 + 1) = post.map (shapeS L) := by
    rw [hm, show pre.length + 1 + 1 = (pre.map (shapeS L)).length + 2 by simp, List.drop_append]
    simp
  have t3 : ((pre ++ r :: .str "..." :: post).map (shapeS L))[pre.length + 1 - 1]? = some (shapeS L r) := by
    rw [hm, Nat.add_sub_cancel, List.getElem?_append_right (by simp)]
    simp
  rw [shapeS, joinS, es, shapesS_map]
  simp only [Nat.succ_ne_zero, if_false, t1, t2, t3]
  cases seqO (pre.map (shapeS L)) with
  | none => cases shapeS L r <;> rfl
  | some a => cases seqO (post.map (shapeS L)) with
    | none => cases shapeS L r <;> rfl
    | some b => cases shapeS L r <;> rfl
end
section
/-! ### drawn patterns, plainly -/
inductive Part where
  | nm (s : Str)
  | two (a b : Str)
  | lit
  | rep (s : Str)
  | rep2 (a b : Str)
def pX : Part → PyData
  | .nm s => .str s
  | .two a b => .tuple [.str a, .str b]
  | .lit => .str "else"
  | .rep s => .str s
  | .rep2 a b => .tuple [.str a, .str b]
def isR : Part → Bool
  | .rep _ => true
  | .rep2 _ _ => true
  | _ => false
def pD (p : Part) : List PyData := if isR p then [pX p, .str "..."] else [pX p]
def psD (ps : List Part) : List PyData := ps.flatMap pD
def pN : Part → List Str
  | .nm s => [s]
  | .two a b => [a, b]
  | .lit => []
  | .rep s => [s]
  | .rep2 a b => [a, b]
def psN (ps : List Part) : List Str := ps.flatMap pN
def onceN (ps : List Part) : List Str := ps.flatMap fun p => if isR p then [] else pN p
def oftenN (ps : List Part) : List Str := ps.flatMap fun p => if isR p then pN p else []
def let9 : List Str := ["a", "b", "c", "d", "e", "f", "g", "h", "i"]
structure PsOk (L : List Str) (ps : List Part) : Prop where
  nd : (psN ps).Nodup
  lt : ∀ s ∈ psN ps, s ∈ let9
  one : ps.countP isR ≤ 1
  lit : Part.lit ∈ ps → ("else" : Str) ∈ L
  few : ps.length ≤ 3
def LitsP (L : List Str) : Prop := ∀ s ∈ L, s = "else"
theorem let9_ok : ∀ s ∈ let9, wordS s = true ∧ s ≠ "..." ∧ s ≠ "_" ∧ s ≠ "else" := by decide +kernel
def pSh : Part → Sh
  | .nm s => .nm s
  | .two a b => .lis [.nm a, .nm b]
  | .lit => .lit "else"
  | .rep s => .nm s
  | .rep2 a b => .lis [.nm a, .nm b]
structure PartOk (L : List Str) (p : Part) : Prop where
  lt : ∀ s ∈ pN p, s ∈ let9
  lit : p = .lit → ("else" : Str) ∈ L
theorem PsOk.part {L : List Str} {ps : List Part} (h : PsOk L ps) {p : Part} (hp : p ∈ ps) : PartOk L p :=
  ⟨fun s hs => h.lt s (List.mem_flatMap.mpr ⟨p, hp, hs⟩), fun e => h.lit (by rw [← e]; exact hp)⟩
theorem shape_nm {L : List Str} (hL : LitsP L) {s : Str} (h : s ∈ let9) : shapeS L (.str s) = some (.nm s) := by
  obtain ⟨_, h1, h2, h3⟩ := let9_ok s h
  have h4 : s ∉ L := fun z => h3 (hL s z)
  rw [shapeS, if_neg h1, if_neg h2, if_neg h4]
theorem rep_nm {s : Str} (h : s ∈ let9) : isRep (.str s) = false := decide_eq_false (let9_ok s h).2.1
theorem rep_pX {L : List Str} {p : Part} (h : PartOk L p) : isRep (pX p) = false := by
  cases p with
  | nm s => exact rep_nm (h.lt s (by simp [pN]))
  | rep s => exact rep_nm (h.lt s (by simp [pN]))
  | lit => decide +kernel
  | two a b => rfl
  | rep2 a b => rfl
theorem shape_two {L : List Str} (hL : LitsP L) {a b : Str} (ha : a ∈ let9) (hb : b ∈ let9) : shapeS L (.tuple [.str a, .str b]) = some (.lis [.nm a, .nm b]) := by
  rw [join0 (fun d hd => ?_)]
  · simp [shape_nm hL ha, shape_nm hL hb, seqO]
  · simp only [List.mem_cons, List.not_mem_nil, or_false] at hd
    rcases hd with rfl | rfl
    · exact rep_nm ha
    · exact rep_nm hb
theorem shape_pX {L : List Str} (hL : LitsP L) {p : Part} (h : PartOk L p) : shapeS L (pX p) = some (pSh p) := by
  cases p with
  | nm s => exact shape_nm hL (h.lt s (by simp [pN]))
  | rep s => exact shape_nm hL (h.lt s (by simp [pN]))
  | lit =>
    have := h.lit rfl
    have e1 : ¬ (("else" : Str) = "...") := by decide +kernel
    have e2 : ¬ (("else" : Str) = "_") := by decide +kernel
    show shapeS L (.str "else") = some (.lit "else")
    rw [shapeS, if_neg e1, if_neg e2, if_pos this]
  | two a b => exact shape_two hL (h.lt a (by simp [pN])) (h.lt b (by simp [pN]))
  | rep2 a b => exact shape_two hL (h.lt a (by simp [pN])) (h.lt b (by simp [pN]))
theorem names_pSh (p : Part) (k : Nat) : namesS (pSh p) k = (pN p).map fun s => (s, k) := by
  cases p <;> simp [pSh, namesS, namesSs, pN]
theorem deep_pSh (p : Part) {k : Nat} (h : k ≤ 1) : deepS (pSh p) k = true := by
  have h3 : k ≤ 3 := by omega
  cases p <;> simp [pSh, deepS, deepSs, h3]
theorem seqO_map {L : List Str} (hL : LitsP L) : ∀ {ps : List Part}, (∀ p ∈ ps, PartOk L p) → seqO ((ps.map pX).map (shapeS L)) = some (ps.map pSh)
  | [], _ => rfl
  | p :: ps, h => by
    rw [List.map_cons, List.map_cons, shape_pX hL (h p (by simp)), seqO, seqO_map hL fun q hq => h q (by simp [hq])]
    rfl
theorem names_ps (ps : List Part) (k : Nat) : namesSs (ps.map pSh) k = (psN ps).map fun s => (s, k) := by
  induction ps with
  | nil => rfl
  | cons p ps ih =>
    rw [List.map_cons, namesSs, ih, names_pSh]
    simp [psN]
theorem deep_ps (ps : List Part) {k : Nat} (h : k ≤ 1) : deepSs (ps.map pSh) k = true := by
  induction ps with
  | nil => rfl
  | cons p ps ih => rw [List.map_cons, deepSs, deep_pSh p h, ih]; rfl
theorem psD_flat {ps : List Part} (h : ∀ p ∈ ps, isR p = false) : psD ps = ps.map pX := by
  induction ps with
  | nil => rfl
  | cons p ps ih =>
    have e := ih fun q hq => h q (by simp [hq])
    unfold psD at e ⊢
    rw [List.flatMap_cons, e, pD, h p (by simp)]
    rfl
theorem rep_split : ∀ {ps : List Part}, ps.countP isR ≤ 1 → (∀ p ∈ ps, isR p = false) ∨ ∃ p1 r p2, ps = p1 ++ r :: p2 ∧ (∀ p ∈ p1, isR p = false) ∧ isR r = true ∧ ∀ p ∈ p2, isR p = false
  | [], _ => .inl (by simp)
  | p :: ps, h => by
    cases e : isR p with
    | true =>
      rw [List.countP_cons_of_pos e] at h
      have h0 : ps.countP isR = 0 := by omega
      refine .inr ⟨[], p, ps, rfl, by simp, e, fun q hq => ?_⟩
      simpa using List.countP_eq_zero.mp h0 q hq
    | false =>
      rw [List.countP_cons_of_neg (by simp [e])] at h
      rcases rep_split h with g | ⟨p1, r, p2, rfl, g1, g2, g3⟩
      · exact .inl (by simpa [e] using g)
      · exact .inr ⟨p :: p1, r, p2, rfl, by simpa [e] using g1, g2, g3⟩
/-- what a drawn pattern's shape is: its names, no deeper than one -/
structure ShapeOf (ps : List Part) (x : Sh) : Prop where
  good : goodS x = true
  once : ∀ s ∈ onceN ps, (s, 0) ∈ namesS x 0
  often : ∀ s ∈ oftenN ps, (s, 1) ∈ namesS x 0
  only : ∀ s k, (s, k) ∈ namesS x 0 → s ∈ psN ps
  nd : ((namesS x 0).map (·.1)).Nodup
theorem psN_app (a b : List Part) : psN (a ++ b) = psN a ++ psN b := by simp [psN]
theorem once_app (a b : List Part) : onceN (a ++ b) = onceN a ++ onceN b := by simp [onceN]
theorem often_app (a b : List Part) : oftenN (a ++ b) = oftenN a ++ oftenN b := by simp [oftenN]
theorem once_flat {ps : List Part} (h : ∀ p ∈ ps, isR p = false) : onceN ps = psN ps ∧ oftenN ps = [] := by
  induction ps with
  | nil => exact ⟨rfl, rfl⟩
  | cons p ps ih =>
    obtain ⟨e1, e2⟩ := ih fun q hq => h q (by simp [hq])
    unfold onceN oftenN psN at *
    rw [List.flatMap_cons, List.flatMap_cons, List.flatMap_cons, e1, e2, h p (by simp)]
    exact ⟨rfl, rfl⟩
theorem shape_ps {L : List Str} (hL : LitsP L) {ps : List Part} (h : PsOk L ps) : ∃ x, shapeS L (.tuple (psD ps)) = some x ∧ ShapeOf ps x := by
  have fs : ∀ (k : Nat) (l : List Str), (l.map fun s => (s, k)).map (·.1) = l := fun k l => by simp [List.map_map, Function.comp_def]
  rcases rep_split h.one with g | ⟨p1, r, p2, rfl, g1, g2, g3⟩
  · refine ⟨.lis (ps.map pSh), ?_, ?_⟩
    · rw [psD_flat g, join0 (fun d hd => ?_), seqO_map hL fun p hp => h.part hp]
      · rfl
      · obtain ⟨p, hp, rfl⟩ := List.mem_map.mp hd
        exact rep_pX (h.part hp)
    · have en : namesS (.lis (ps.map pSh)) 0 = (psN ps).map fun s => (s, 0) := names_ps ps 0
      obtain ⟨o1, o2⟩ := once_flat g
      refine ⟨?_, fun s hs => ?_, fun s hs => ?_, fun s k hk => ?_, ?_⟩
      · unfold goodS
        rw [en, fs, decide_eq_true h.nd, deepS, deep_ps ps (by omega)]
        rfl
      · rw [en]
        rw [o1] at hs
        exact List.mem_map_of_mem hs
      · rw [o2] at hs
        cases hs
      · rw [en] at hk
        obtain ⟨s', hs', e⟩ := List.mem_map.mp hk
        cases e
        exact hs'
      · rw [en, fs]
        exact h.nd
  · have hp1 : ∀ p ∈ p1, PartOk L p := fun p hp => h.part (by simp [hp])
    have hp2 : ∀ p ∈ p2, PartOk L p := fun p hp => h.part (by simp [hp])
    have hr : PartOk L r := h.part (by simp)
    have ed : psD (p1 ++ r :: p2) = p1.map pX ++ pX r :: .str "..." :: p2.map pX := by
      have e1 := psD_flat g1
      have e2 := psD_flat g3
      unfold psD at e1 e2 ⊢
      rw [List.flatMap_append, List.flatMap_cons, e1, e2, pD, g2]
      rfl
    refine ⟨.rep (p1.map pSh) (pSh r) (p2.map pSh), ?_, ?_⟩
    · rw [ed, join1 (fun d hd => ?_) (rep_pX hr) (fun d hd => ?_), seqO_map hL hp1, seqO_map hL hp2, shape_pX hL hr]
      · obtain ⟨p, hp, rfl⟩ := List.mem_map.mp hd
        exact rep_pX (hp1 p hp)
      · obtain ⟨p, hp, rfl⟩ := List.mem_map.mp hd
        exact rep_pX (hp2 p hp)
    · have en : namesS (.rep (p1.map pSh) (pSh r) (p2.map pSh)) 0 = (psN p1).map (fun s => (s, 0)) ++ (pN r).map (fun s => (s, 1)) ++ (psN p2).map fun s => (s, 0) := by
        rw [namesS, names_ps, names_ps, names_pSh]
      have ef : (namesS (.rep (p1.map pSh) (pSh r) (p2.map pSh)) 0).map (·.1) = psN (p1 ++ r :: p2) := by
        rw [en, List.map_append, List.map_append, fs, fs, fs, psN_app]
        simp [psN]
      obtain ⟨o1, o2⟩ := once_flat g1
      obtain ⟨o3, o4⟩ := once_flat g3
      have eo : onceN (p1 ++ r :: p2) = psN p1 ++ psN p2 := by
        rw [once_app, o1, ← o3]
        simp [onceN, g2]
      have er : oftenN (p1 ++ r :: p2) = pN r := by
        rw [often_app, o2]
        have : oftenN (r :: p2) = pN r ++ oftenN p2 := by simp [oftenN, g2]
        rw [this, o4]
        simp
      refine ⟨?_, fun s hs => ?_, fun s hs => ?_, fun s k hk => ?_, by rw [ef]; exact h.nd⟩
      · unfold goodS
        rw [ef, decide_eq_true h.nd, deepS, deep_ps p1 (by omega), deep_ps p2 (by omega), deep_pSh r (by omega)]
        rfl
      · rw [eo] at hs
        rw [en]
        rcases List.mem_append.mp hs with hs | hs
        · exact List.mem_append_left _ (List.mem_append_left _ (List.mem_map_of_mem hs))
        · exact List.mem_append_right _ (List.mem_map_of_mem hs)
      · rw [er] at hs
        rw [en]
        exact List.mem_append_left _ (List.mem_append_right _ (List.mem_map_of_mem hs))
      · have : s ∈ (namesS (.rep (p1.map pSh) (pSh r) (p2.map pSh)) 0).map (·.1) := List.mem_map_of_mem (f := (·.1)) hk
        rw [ef] at this
        exact this
end
section
/-! ### drawn templates, plainly -/
def heads6 : List Str := ["m", "n", "p", "q", "list", "w"]
def consts3 : List PyData := [.int 0, .str "w", .str "else"]
inductive Tm (o r : List Str) : Nat → PyData → Prop
  | leaf (n : Nat) (d : PyData) : (d ∈ o.map PyData.str ∨ d ∈ consts3) → Tm o r n d
  | tup (n : Nat) (h : Str) (subs : List PyData) : h ∈ heads6 → subs.length ≤ 2 → (∀ d ∈ subs, Tm o r n d) → Tm o r (n + 1) (.tuple (.str h :: subs))
  | rep (n : Nat) (h : Str) (subs : List PyData) (s : Str) : h ∈ heads6 → subs.length ≤ 2 → (∀ d ∈ subs, Tm o r n d) → s ∈ r → Tm o r (n + 1) (.tuple (.str h :: (subs ++ [.str s, .str "..."])))
structure OrOk (o r : List Str) : Prop where
  o : ∀ s ∈ o, s ∈ let9
  r : ∀ s ∈ r, s ∈ let9
theorem heads6_ok : ∀ s ∈ heads6, wordS s = true ∧ s ≠ "..." ∧ s ∉ let9 ∧ nameS s = true := by decide +kernel
theorem dots_word : wordS "..." = true := by decide +kernel
def szT : Nat → Nat
  | 0 => 1
  | n + 1 => 2 * szT n + 4
theorem szT_pos : ∀ n, 1 ≤ szT n
  | 0 => Nat.le_refl _
  | n + 1 => by simp [szT]
theorem leaf_cases {o : List Str} {d : PyData} (ho : ∀ s ∈ o, s ∈ let9) (h : d ∈ o.map PyData.str ∨ d ∈ consts3) : (d = .int 0) ∨ ∃ s, d = .str s ∧ wordS s = true ∧ s ≠ "..." ∧ (s ∈ o ∨ s ∉ let9) := by
  rcases h with h | h
  · obtain ⟨s, hs, rfl⟩ := List.mem_map.mp h
    obtain ⟨a, b, _⟩ := let9_ok s (ho s hs)
    exact .inr ⟨s, rfl, a, b, .inl hs⟩
  · simp only [consts3, List.mem_cons, List.not_mem_nil, or_false] at h
    rcases h with rfl | rfl | rfl
    · exact .inl rfl
    · exact .inr ⟨_, rfl, by decide +kernel, by decide +kernel, .inr (by decide +kernel)⟩
    · exact .inr ⟨_, rfl, by decide +kernel, by decide +kernel, .inr (by decide +kernel)⟩
structure TmF (n : Nat) (d : PyData) : Prop where
  f : formB d = true
  dp : ddep d ≤ n + 1
  sz : dsize d ≤ szT n
  hd : headB d = true
  nr : isRep d = false
theorem forms_all : ∀ {ds : List PyData}, (∀ d ∈ ds, formB d = true) → formBs ds = true
  | [], _ => rfl
  | d :: ds, h => by rw [formBs, h d (by simp), forms_all fun x hx => h x (by simp [hx])]; rfl
theorem ddeps_all {m : Nat} : ∀ {ds : List PyData}, (∀ d ∈ ds, ddep d ≤ m) → ddeps ds ≤ m
  | [], _ => Nat.zero_le _
  | d :: ds, h => by
    have h1 := h d (by simp)
    have h2 := ddeps_all (ds := ds) fun x hx => h x (by simp [hx])
    simp only [ddeps]
    omega
theorem dsizes_all {m : Nat} : ∀ {ds : List PyData}, (∀ d ∈ ds, dsize d ≤ m) → dsizes ds ≤ ds.length * m
  | [], _ => Nat.zero_le _
  | d :: ds, h => by
    have h1 := h d (by simp)
    have h2 := dsizes_all (ds := ds) fun x hx => h x (by simp [hx])
    simp only [dsizes, List.length_cons, Nat.succ_mul]
    omega
theorem Tm.facts {o r : List Str} (k : OrOk o r) {n : Nat} {d : PyData} (h : Tm o r n d) : TmF n d := by
  induction h with
  | leaf n d h =>
    have p := szT_pos n
    rcases leaf_cases k.o h with rfl | ⟨s, rfl, a, b, _⟩
    · exact ⟨rfl, by simp only [ddep]; omega, p, rfl, rfl⟩
    · exact ⟨a, by simp only [ddep]; omega, p, rfl, decide_eq_false b⟩
  | tup n h subs hh hl hs ih =>
    obtain ⟨w1, w2, w3, _⟩ := heads6_ok h hh
    refine ⟨?_, ?_, ?_, ?_, rfl⟩
    · refine forms_all (ds := .str h :: subs) fun d hd => ?_
      rcases List.mem_cons.mp hd with rfl | hd
      · exact w1
      · exact (ih d hd).f
    · simp only [ddep, ddeps]
      have := ddeps_all (m := n + 1) fun d hd => (ih d hd).dp
      omega
    · have h1 := dsizes_all (m := szT n) fun d hd => (ih d hd).sz
      have h2 : subs.length * szT n ≤ 2 * szT n := Nat.mul_le_mul_right _ hl
      simp only [dsize, dsizes, szT]
      omega
    · show (true && headBs (.str h :: subs)) = true
      rw [Bool.true_and, headBs_iff]
      intro d hd
      rcases List.mem_cons.mp hd with rfl | hd
      · rfl
      · exact (ih d hd).hd
  | rep n h subs s hh hl hs hr ih =>
    obtain ⟨w1, w2, w3, _⟩ := heads6_ok h hh
    obtain ⟨u1, u2, _⟩ := let9_ok s (k.r s hr)
    refine ⟨?_, ?_, ?_, ?_, rfl⟩
    · refine forms_all (ds := .str h :: (subs ++ [.str s, .str "..."])) fun d hd => ?_
      simp only [List.mem_cons, List.mem_append, List.not_mem_nil, or_false] at hd
      rcases hd with rfl | hd | rfl | rfl
      · exact w1
      · exact (ih d hd).f
      · exact u1
      · exact dots_word
    · have : ddeps (subs ++ [.str s, .str "..."]) ≤ n + 1 := ddeps_all fun d hd => by
        simp only [List.mem_cons, List.mem_append, List.not_mem_nil, or_false] at hd
        rcases hd with hd | rfl | rfl
        · exact (ih d hd).dp
        · simp only [ddep]; omega
        · simp only [ddep]; omega
      simp only [ddep, ddeps]
      omega
    · have h1 := dsizes_all (m := szT n) fun d hd => (ih d hd).sz
      have h2 : subs.length * szT n ≤ 2 * szT n := Nat.mul_le_mul_right _ hl
      simp only [dsize, dsizes, szT, dsizes_app]
      omega
    · show (true && headBs (.str h :: (subs ++ [.str s, .str "..."]))) = true
      rw [Bool.true_and, headBs_iff]
      intro d hd
      simp only [List.mem_cons, List.mem_append, List.not_mem_nil, or_false] at hd
      rcases hd with rfl | hd | rfl | rfl
      · rfl
      · exact (ih d hd).hd
      · rfl
      · rfl
theorem szT3 : szT 3 = 36 := rfl
/-- how deep told says -/
structure Told (o r : List Str) (l : List (Str × Nat)) : Prop where
  once : ∀ s ∈ o, l.lookup s = some 0
  often : ∀ s ∈ r, l.lookup s = some 1
  none : ∀ s, s ∉ let9 → l.lookup s = none
theorem tmplBs_app {l : List (Str × Nat)} : ∀ {subs : List PyData} {tl : List PyData} {prev : Bool}, (∀ d ∈ subs, isRep d = false ∧ tmplB l 0 d = true) → repHd tl = false → tmplBs l 0 false tl = true → tmplBs l 0 prev tl = true → tmplBs l 0 prev (subs ++ tl) = true
  | [], tl, prev, _, _, _, h => h
  | d :: ds, tl, prev, hs, hr, h0, _ => by
    obtain ⟨e1, e2⟩ := hs d (by simp)
    have hn : repHd (ds ++ tl) = false := by
      cases ds with
      | nil => exact hr
      | cons x xs => exact (hs x (by simp)).1
    have ih := tmplBs_app (l := l) (subs := ds) (tl := tl) (prev := false) (fun x hx => hs x (by simp [hx])) hr h0 h0
    rw [List.cons_append, tmplBs, e1, hn]
    simp only [Bool.false_eq_true, if_false, Nat.add_zero, Bool.not_false, Bool.true_or, Bool.true_and, e2, ih]
theorem Tm.tmpl {o r : List Str} (k : OrOk o r) {l : List (Str × Nat)} (t : Told o r l) {n : Nat} {d : PyData} (h : Tm o r n d) : tmplB l 0 d = true := by
  have wd : ∀ s : Str, s ≠ "..." → (s ∈ o ∨ s ∉ let9) → tmplB l 0 (.str s) = true := fun s h1 h2 => by
    rw [tmplB, decide_eq_false h1]
    rcases h2 with h2 | h2
    · rw [t.once s h2]
      rfl
    · rw [t.none s h2]
      rfl
  induction h with
  | leaf n d h =>
    rcases leaf_cases k.o h with rfl | ⟨s, rfl, a, b, c⟩
    · rfl
    · exact wd s b c
  | tup n h subs hh hl hs ih =>
    obtain ⟨w1, w2, w3, _⟩ := heads6_ok h hh
    show tmplBs l 0 true (.str h :: subs) = true
    have := tmplBs_app (l := l) (subs := .str h :: subs) (tl := []) (prev := true) (fun d hd => ?_) rfl rfl rfl
    · rwa [List.append_nil] at this
    · rcases List.mem_cons.mp hd with rfl | hd
      · exact ⟨decide_eq_false w2, wd h w2 (.inr w3)⟩
      · exact ⟨((hs d hd).facts k).nr, ih d hd⟩
  | rep n h subs s hh hl hs hr ih =>
    obtain ⟨w1, w2, w3, _⟩ := heads6_ok h hh
    obtain ⟨u1, u2, _⟩ := let9_ok s (k.r s hr)
    show tmplBs l 0 true (.str h :: (subs ++ [.str s, .str "..."])) = true
    have nr : isRep (.str s) = false := decide_eq_false u2
    have tail : ∀ prev, tmplBs l 0 prev [.str s, .str "..."] = true := fun prev => by
      have e1 : repHd [PyData.str "..."] = true := by decide +kernel
      have e2 : isRep (.str "...") = true := by decide +kernel
      have e3 : anyK l (0 + 1) (.str s) = true := by
        rw [anyK, lvl, t.often s hr]
        rfl
      have e4 : tmplB l (0 + 1) (.str s) = true := by
        rw [tmplB, decide_eq_false u2, t.often s hr]
        rfl
      rw [tmplBs, nr, e1]
      simp only [Bool.false_eq_true, if_false, if_true, Bool.not_true, Bool.false_or, e3, e4, Bool.true_and]
      rw [tmplBs, e2]
      rfl
    refine tmplBs_app (l := l) (subs := .str h :: subs) (tl := [.str s, .str "..."]) (prev := true) (fun d hd => ?_) nr (tail _) (tail _)
    rcases List.mem_cons.mp hd with rfl | hd
    · exact ⟨decide_eq_false w2, wd h w2 (.inr w3)⟩
    · exact ⟨((hs d hd).facts k).nr, ih d hd⟩
theorem look_some {l : List (Str × Nat)} {s : Str} {n : Nat} (nd : (l.map (·.1)).Nodup) (h : (s, n) ∈ l) : l.lookup s = some n := by
  induction l with
  | nil => cases h
  | cons p l ih =>
    obtain ⟨a, b⟩ := p
    have nd := List.nodup_cons.mp (show (a :: l.map (·.1)).Nodup from nd)
    rcases List.mem_cons.mp h with e | h2
    · cases e
      simp [List.lookup]
    · have hm : s ∈ l.map (·.1) := List.mem_map_of_mem (f := (·.1)) h2
      have hne : (s == a) = false := by
        rw [beq_eq_false_iff_ne]
        intro e
        rw [e] at hm
        exact nd.1 hm
      rw [List.lookup, hne]
      exact ih nd.2 h2
theorem look_none {l : List (Str × Nat)} {s : Str} (h : ∀ n, (s, n) ∉ l) : l.lookup s = none := by
  induction l with
  | nil => rfl
  | cons p l ih =>
    obtain ⟨a, b⟩ := p
    have hne : (s == a) = false := by
      rw [beq_eq_false_iff_ne]
      intro e
      subst e
      exact h b (by simp)
    rw [List.lookup, hne]
    exact ih fun n hn => h n (by simp [hn])
/-- a drawn rule -/
theorem tm_ok {L : List Str} (hL : LitsP L) {ps : List Part} (h : PsOk L ps) {n : Nat} {d : PyData} (t : Tm (onceN ps) (oftenN ps) n d) : goodD L (.tuple (psD ps)) = true ∧ TmOk L (.tuple (psD ps)) d := by
  obtain ⟨x, ex, so⟩ := shape_ps hL h
  have k : OrOk (onceN ps) (oftenN ps) := by
    refine ⟨fun s hs => h.lt s ?_, fun s hs => h.lt s ?_⟩
    · obtain ⟨p, hp, hs⟩ := List.mem_flatMap.mp hs
      refine List.mem_flatMap.mpr ⟨p, hp, ?_⟩
      split at hs
      · cases hs
      · exact hs
    · obtain ⟨p, hp, hs⟩ := List.mem_flatMap.mp hs
      refine List.mem_flatMap.mpr ⟨p, hp, ?_⟩
      split at hs
      · exact hs
      · cases hs
  refine ⟨?_, fun x' ex' l hl => ?_⟩
  · unfold goodD
    rw [ex]
    exact so.good
  · rw [ex] at ex'
    cases ex'
    have nd : (l.map (·.1)).Nodup := (hl.map _).nodup_iff.mpr so.nd
    refine t.tmpl k ⟨fun s hs => look_some nd (hl.mem_iff.mpr (so.once s hs)), fun s hs => look_some nd (hl.mem_iff.mpr (so.often s hs)), fun s hs => look_none fun n hn => hs (h.lt s (so.only s n (hl.mem_iff.mp hn)))⟩
end
section
/-! ### _law_pattern -/
theorem hid_grow {S T : List Addr} {H H' : Hp} (s : Same H H') (hT : ∀ a ∈ T, a ∈ S ∨ H a = none) : Same (hid S H) (hid T H') := fun b o e => by
  by_cases hb : b ∈ S
  · rw [hid_in hb] at e
    cases e
  · rw [hid_out hb] at e
    have hbT : b ∉ T := fun z => by
      rcases hT b z with h | h
      · exact hb h
      · rw [h] at e
        cases e
    rw [hid_out hbT]
    exact s _ _ e
theorem hid_sub {S T : List Addr} {H : Hp} (h : ∀ a ∈ S, a ∈ T) : Same (hid T H) (hid S H) := fun b o e => by
  by_cases hb : b ∈ T
  · rw [hid_in hb] at e
    cases e
  · rw [hid_out hb] at e
    rw [hid_out fun z => hb (h b z)]
    exact e
theorem shaped_list {ds : List PyData} (hf : formBs ds = true) (hd : ddeps ds ≤ 60) : SeqAt.shaped (.list ds) = true := by
  have := depth_forms ds hf
  have e : (PyData.list ds).depth = PyData.depthAll ds + 1 := rfl
  unfold SeqAt.shaped
  rw [Bool.and_eq_true, decide_eq_true_eq, e]
  exact ⟨canLay_forms ds hf, by omega⟩
/-- what has been drawn of a pattern, and the names left -/
structure InP (L : List Str) (i : Nat) (ps : List Part) (ns : List Str) : Prop where
  nd : (psN ps ++ ns).Nodup
  lt : ∀ s ∈ psN ps ++ ns, s ∈ let9
  one : ps.countP isR ≤ 1
  lit : Part.lit ∈ ps → ("else" : Str) ∈ L
  few : ps.length ≤ i
  left : 9 ≤ ns.length + 3 * i
theorem InP.ok {L : List Str} {i : Nat} {ps : List Part} {ns : List Str} (h : InP L i ps ns) (hi : i ≤ 3) : PsOk L ps :=
  ⟨(List.nodup_append.mp h.nd).1, fun s hs => h.lt s (by simp [hs]), h.one, h.lit, by have := h.few; omega⟩
theorem InP.add {L : List Str} {i : Nat} {ps : List Part} {ns ini : List Str} (h : InP L i ps ns) (p : Part) (dr : List Str) (e : ns = ini ++ dr) (hd : dr.length ≤ 3) (hs : ∀ s ∈ pN p, s ∈ dr) (hn : (pN p).Nodup) (h1 : isR p = true → ps.countP isR = 0) (h2 : p = .lit → ("else" : Str) ∈ L) : InP L (i + 1) (ps ++ [p]) ini := by
  subst e
  obtain ⟨n1, n2, n3⟩ := List.nodup_append.mp h.nd
  obtain ⟨n4, n5, n6⟩ := List.nodup_append.mp n2
  have e1 : psN (ps ++ [p]) = psN ps ++ pN p := by simp [psN]
  refine ⟨?_, fun s hs' => ?_, ?_, fun hm => ?_, ?_, ?_⟩
  · rw [e1, List.append_assoc, List.nodup_append]
    refine ⟨n1, ?_, fun a ha b hb => ?_⟩
    · rw [List.nodup_append]
      exact ⟨hn, n4, fun a ha b hb z => n6 b hb a (hs a ha) z.symm⟩
    · rcases List.mem_append.mp hb with hb | hb
      · exact n3 a ha b (by simp [hs b hb])
      · exact n3 a ha b (by simp [hb])
  · rw [e1] at hs'
    refine h.lt s ?_
    simp only [List.mem_append] at hs' ⊢
    rcases hs' with (hs' | hs') | hs'
    · exact .inl hs'
    · exact .inr (.inr (hs s hs'))
    · exact .inr (.inl hs')
  · rw [List.countP_append]
    cases hr : isR p with
    | true => rw [h1 hr]; simp [List.countP_cons, hr]
    | false => simp [List.countP_cons, hr, h.one]
  · rcases List.mem_append.mp hm with hm | hm
    · exact h.lit hm
    · exact h2 (List.mem_singleton.mp hm).symm
  · rw [List.length_append]
    have := h.few
    simp
    omega
  · have := h.left
    rw [List.length_append] at this
    omega
theorem psD_app (a b : List Part) : psD (a ++ b) = psD a ++ psD b := by simp [psD]
theorem InP.forms {L : List Str} {i : Nat} {ps : List Part} {ns : List Str} (h : InP L i ps ns) : formBs (.str "_" :: psD ps) = true ∧ ddeps (.str "_" :: psD ps) ≤ 2 := by
  have hall : ∀ d ∈ PyData.str "_" :: psD ps, formB d = true ∧ ddep d ≤ 2 := fun d hd => by
    rcases List.mem_cons.mp hd with rfl | hd
    · exact ⟨by decide +kernel, by decide +kernel⟩
    · obtain ⟨p, hp, hd⟩ := List.mem_flatMap.mp hd
      have hw : ∀ s ∈ pN p, wordS s = true := fun s hs => (let9_ok s (h.lt s (by simp only [List.mem_append]; exact .inl (List.mem_flatMap.mpr ⟨p, hp, hs⟩)))).1
      have hX : formB (pX p) = true ∧ ddep (pX p) ≤ 2 := by
        cases p with
        | nm s => exact ⟨hw s (by simp [pN]), by simp [pX, ddep]⟩
        | rep s => exact ⟨hw s (by simp [pN]), by simp [pX, ddep]⟩
        | lit => exact ⟨by decide +kernel, by decide +kernel⟩
        | two a b => exact ⟨by show (wordS a && (wordS b && true)) = true; rw [hw a (by simp [pN]), hw b (by simp [pN])]; rfl, by simp [pX, ddep, ddeps]⟩
        | rep2 a b => exact ⟨by show (wordS a && (wordS b && true)) = true; rw [hw a (by simp [pN]), hw b (by simp [pN])]; rfl, by simp [pX, ddep, ddeps]⟩
      unfold pD at hd
      split at hd
      · simp only [List.mem_cons, List.not_mem_nil, or_false] at hd
        rcases hd with rfl | rfl
        · exact hX
        · exact ⟨dots_word, by decide +kernel⟩
      · rw [List.mem_singleton.mp hd]
        exact hX
  exact ⟨forms_all fun d hd => (hall d hd).1, ddeps_all fun d hd => (hall d hd).2⟩
theorem InP.len {L : List Str} {i : Nat} {ps : List Part} {ns : List Str} (h : InP L i ps ns) : (PyData.str "_" :: psD ps).length ≤ 1 + 2 * i := by
  have : ∀ ps : List Part, (psD ps).length ≤ 2 * ps.length := fun ps => by
    induction ps with
    | nil => exact Nat.le_refl _
    | cons p ps ih =>
      have e : psD (p :: ps) = pD p ++ psD ps := rfl
      rw [e, List.length_append, List.length_cons]
      have : (pD p).length ≤ 2 := by unfold pD; split <;> simp
      omega
  have h1 := this ps
  have h2 := h.few
  rw [List.length_cons]
  omega
theorem InP.reps {L : List Str} {i : Nat} {ps : List Part} {ns : List Str} (h : InP L i ps ns) : (PyData.str "_" :: psD ps).any isRep = decide (0 < ps.countP isR) := by
  have hu : isRep (.str "_") = false := by decide +kernel
  rw [List.any_cons, hu, Bool.false_or]
  have gen : ∀ qs : List Part, (∀ p ∈ qs, isRep (pX p) = false) → (psD qs).any isRep = decide (0 < qs.countP isR) := fun qs => by
    induction qs with
    | nil => intro _; rfl
    | cons p ps ih =>
      intro hq
      have e : psD (p :: ps) = pD p ++ psD ps := rfl
      rw [e, List.any_append, ih fun q hq' => hq q (by simp [hq'])]
      have hx := hq p (by simp)
      unfold pD
      cases hr : isR p with
      | true =>
        have hd : isRep (.str "...") = true := by decide +kernel
        simp [hd, List.countP_cons, hr]
      | false => simp [hx, List.countP_cons, hr]
  refine gen ps fun p hp => ?_
  cases p with
  | nm s => exact rep_nm (h.lt s (by simp only [List.mem_append]; exact .inl (List.mem_flatMap.mpr ⟨_, hp, by simp [pN]⟩)))
  | rep s => exact rep_nm (h.lt s (by simp only [List.mem_append]; exact .inl (List.mem_flatMap.mpr ⟨_, hp, by simp [pN]⟩)))
  | lit => decide +kernel
  | two a b => rfl
  | rep2 a b => rfl
section
variable {P : Program} {w : World} {K : PySem.W.Frag} {mg : Str → Option Value} {base : Heap} {f f2 : Addr} {fd fd2 : FuncData} {C CB CM : Addr} {L : List Str}
def sp_pat (K : PySem.W.Frag) : Sp := fun vs H Q _ => ∃ (hh c nl : Addr) (vl : V) (L : List Str), vs = [.ref hh, .ref nl, vl] ∧ HandP H hh c ∧ H nl = some (.lst (let9.map V.str)) ∧ nl ≠ hh ∧ nl ≠ c ∧ Dp K (hid [hh, nl] H) vl (.tuple (L.map .str)) ∧ LitsP L ∧ L.length ≤ 1 ∧
  ∀ p H' ps, Same (hid [hh, nl] H) (hid [hh, nl] H') → HandP H' hh c → Dp K (hid [hh, nl] H') p (.tuple (.str "_" :: psD ps)) → PsOk L ps → Q p H'
abbrev NP : List Str := ["hand", "names", "literals", "found", "part", "kind"]
theorem sq54 : FnScope NP ["hand", "names", "literals"] (defScope (top 54)) := ⟨rfl, rfl, rfl, by decide +kernel, rfl, by decide +kernel, by decide +kernel⟩
theorem room65 {k : Nat} {A : Around} (r : Room k A) : A.units + 65 < cLine := by
  have := r.un
  omega
theorem i_popS {H : Hp} {nl : Addr} {ini : List Str} {z : Str} {Q : VK} (h : H nl = some (.lst ((ini ++ [z]).map V.str))) (q : Q (.str z) (upd H nl (.lst (ini.map V.str)))) : rPop (.ref nl) [] H Q :=
  i_pop (by rw [h, List.map_append]; rfl) q
theorem last_of {l : List Str} (h : 0 < l.length) : ∃ ini z, l = ini ++ [z] := by
  have ne : l ≠ [] := fun z => by rw [z] at h; cases h
  exact ⟨l.dropLast, l.getLast ne, (List.dropLast_concat_getLast ne).symm⟩
structure Dst (hh c nl fo : Addr) : Prop where
  n1 : nl ≠ hh
  n2 : nl ≠ c
  n3 : fo ≠ hh
  n4 : fo ≠ c
  n5 : fo ≠ nl
structure PB (K : PySem.W.Frag) (H : Hp) (hh c nl fo : Addr) (H' : Hp) (xs : List V) (ps : List Part) (ns : List Str) : Prop where
  g : Same (hid [hh, nl] H) (hid [hh, nl, fo] H')
  hp : HandP H' hh c
  nlv : H' nl = some (.lst (ns.map V.str))
  fov : H' fo = some (.lst xs)
  ds : DpAll K (hid [hh, nl, fo] H') xs (.str "_" :: psD ps)
section
variable {H H' : Hp} {hh c nl fo : Addr} {xs : List V} {ps : List Part} {ns : List Str}
theorem PB.new (b : PB K H hh c nl fo H' xs ps ns) {p : Addr} {o : HO} (hp : H' p = none) : PB K H hh c nl fo (upd H' p o) xs ps ns := by
  have s : Same H' (upd H' p o) := Same.new hp
  exact ⟨b.g.trans (same_hid s), b.hp.fresh hp, s _ _ b.nlv, s _ _ b.fov, dpAll_mono (same_hid s) b.ds⟩
theorem PB.draw (b : PB K H hh c nl fo H' xs ps ns) (d : Dst hh c nl fo) {ws : List V} (LL : HandL H' hh c ws) : PB K H hh c nl fo (upd H' hh (.lst ws)) xs ps ns := by
  have s : Same (hid [hh, nl, fo] H') (hid [hh, nl, fo] (upd H' hh (.lst ws))) := hid_put (by simp)
  exact ⟨b.g.trans s, HandP.put LL, by rw [upd_ne d.n1]; exact b.nlv, by rw [upd_ne d.n3]; exact b.fov, dpAll_mono s b.ds⟩
theorem PB.pop (b : PB K H hh c nl fo H' xs ps ns) (d : Dst hh c nl fo) (ns' : List Str) : PB K H hh c nl fo (upd H' nl (.lst (ns'.map V.str))) xs ps ns' := by
  have s : Same (hid [hh, nl, fo] H') (hid [hh, nl, fo] (upd H' nl (.lst (ns'.map V.str)))) := hid_put (by simp)
  exact ⟨b.g.trans s, b.hp.off d.n1 d.n2, upd_same, by rw [upd_ne d.n5]; exact b.fov, dpAll_mono s b.ds⟩
theorem PB.put (b : PB K H hh c nl fo H' xs ps ns) (d : Dst hh c nl fo) {ys : List V} {p : Part} (hy : DpAll K (hid [hh, nl, fo] H') ys (pD p)) : PB K H hh c nl fo (upd H' fo (.lst (xs ++ ys))) (xs ++ ys) (ps ++ [p]) ns := by
  have s : Same (hid [hh, nl, fo] H') (hid [hh, nl, fo] (upd H' fo (.lst (xs ++ ys)))) := hid_put (by simp)
  refine ⟨b.g.trans s, b.hp.off d.n3 d.n4, by rw [upd_ne d.n5.symm]; exact b.nlv, upd_same, ?_⟩
  have e : PyData.str "_" :: psD (ps ++ [p]) = (.str "_" :: psD ps) ++ pD p := by
    rw [psD_app]
    simp [psD]
  rw [e]
  exact dpAll_app (dpAll_mono s b.ds) (dpAll_mono s hy)
end
theorem ok_pat (F : FnP K "_law_pattern" 54 f fd) (hm : mg "_law_pattern" = some (.ref f)) (mr : mg "range" = none) (mt : mg "tuple" = none) (DD : Def P w K mg base 1 "_law_draw" sp_draw) (DA : Def P w K mg base 2 "_law_any" (sp_any K)) : Def P w K mg base 3 "_law_pattern" (sp_pat K) := by
  refine Def.mk' F hm sq54 (fun vs H Q E h => ?_) (fun _ _ _ _ _ _ us hl => match us, hl with | [_, _, _], _ => rfl) (fun cdv A outer s H vs Q E hr tk h => ?_)
  · obtain ⟨hh, c, nl, vl, L, rfl, _⟩ := h
    rfl
  · obtain ⟨hh, c, nl, vl, L, rfl, hp, hnl, n1, n2, hvl, hL, hL1, q⟩ := h
    have nd := sq54.nd
    have hch : c ≠ hh := let ⟨vs, e, _⟩ := id hp; (let ⟨ns, i1, i2, i3, i4, ev, hc, n, p1⟩ := ‹HandL H hh c vs›; n)
    keq_hits
    refine ⟨by show 1 ≤ sizeLine; decide, fun fo hfo => ?_⟩
    have foh := (hp.newC hfo).1
    have foc := (hp.newC hfo).2
    have fnl : fo ≠ nl := fun z => by rw [z, hnl] at hfo; cases hfo
    have dst : Dst hh c nl fo := ⟨n1, n2, foh, foc, fnl⟩
    have s1 : Same H (upd H fo (.lst [.str "_"])) := Same.new hfo
    have f1 : upd H fo (.lst [.str "_"]) fo = some (.lst [.str "_"]) := upd_same
    have g1 : Same (hid [hh, nl] H) (hid [hh, nl, fo] (upd H fo (.lst [.str "_"]))) := hid_grow s1 fun a ha => by
      simp only [List.mem_cons, List.not_mem_nil, or_false] at ha
      rcases ha with rfl | rfl | rfl
      · exact .inl (by simp)
      · exact .inl (by simp)
      · exact .inr hfo
    generalize upd H fo (.lst [.str "_"]) = H1 at s1 f1 g1 ⊢
    have hp1 := hp.same s1
    keq_hits
    refine ws_for passes_bx rfl (pi_range1 (by rfl) mr WP.pa) (by k_memK) ?_
    show WP.WA _ _ _ _ _
    keq_hits
    refine ⟨hh, c, 4, rfl, hp1, by decide, by decide, fun k4 ws4 k40 k44 L4 => ?_⟩
    have hp2 := HandP.put L4
    have g2 := g1.trans (hid_put (H := H1) (o := .lst ws4) (S := [hh, nl, fo]) (a := hh) (by simp))
    have nl2 : upd H1 hh (.lst ws4) nl = some (.lst (let9.map V.str)) := by rw [upd_ne n1]; exact s1 _ _ hnl
    have f2 : upd H1 hh (.lst ws4) fo = some (.lst [.str "_"]) := by rw [upd_ne foh]; exact f1
    generalize upd H1 hh (.lst ws4) = H2 at hp2 g2 nl2 f2 ⊢
    obtain ⟨j4, rfl⟩ : ∃ j : Nat, k4 = j := ⟨k4.toNat, by omega⟩
    keq_hits
    refine ⟨_, rfl, by omega, by omega, ?_⟩
    rw [Int.toNat_natCast]
    refine for_it walk_range (fun i σ H' => ∃ xs ps ns r4 r5, σ = [some (.ref hh), some (.ref nl), some vl, some (.ref fo), r4, r5] ∧ PB K H hh c nl fo H' xs ps ns ∧ InP L i ps ns)
      ⟨_, [], let9, _, _, rfl, ⟨g2, hp2, nl2, f2, .cons (.str _) .nil⟩, ⟨by decide +kernel, fun s hs => by simpa [psN] using hs, Nat.zero_le _, (fun z => by cases z), Nat.le_refl _, by decide +kernel⟩⟩ (fun _ _ _ _ _ => trivial) ?_ ?_
    · rintro i x σ H3 H3' hi ⟨xs, ps, ns, r4, r5, rfl, b3, inp⟩ ⟨rfl, rfl⟩
      show WP.WB _ _ _ _ _
      keq_hits
      refine ⟨hh, c, 6, rfl, b3.hp, by decide, by decide, fun kd ws kd0 kd6 LL => ?_⟩
      have b4 := b3.draw dst LL
      generalize upd H3' hh (.lst ws) = H4 at b4 ⊢
      have left := inp.left
      obtain ⟨i1, z1, e1⟩ := last_of (l := ns) (by omega)
      have l1 := congrArg List.length e1
      rw [List.length_append] at l1
      simp only [List.length_singleton] at l1
      obtain ⟨i2, z2, e2⟩ := last_of (l := i1) (by omega)
      have l2 := congrArg List.length e2
      rw [List.length_append] at l2
      simp only [List.length_singleton] at l2
      obtain ⟨i3, z3, e3⟩ := last_of (l := i2) (by omega)
      subst e3 e2 e1
      have lxs := dpAll_len b4.ds
      have lps := inp.len
      obtain ⟨nn1, nn2, nn3⟩ := List.nodup_append.mp inp.nd
      have nz : [z3, z2, z1].Nodup := by
        have : (i3 ++ [z3, z2, z1]).Nodup := by simpa using nn2
        exact (List.nodup_append.mp this).2.1
      have nz32 : z3 ≠ z2 ∧ z3 ≠ z1 ∧ z2 ≠ z1 := by
        simp only [List.nodup_cons, List.mem_cons, List.not_mem_nil, or_false, not_or] at nz
        exact ⟨nz.1.1, nz.1.2, nz.2.1⟩
      have hn4 := b4.nlv
      have room : xs.length + 3 < 16777216 := by omega
      refine wb_one (ws_if (wt_cmp op_eq rfl ?_))
      keq_hits
      refine ⟨rfl, i_bl ?_⟩
      -- names.pop() in this state
      cases ek0 : decide (V.int kd = V.int 0) with
      | true =>
        refine i_ift rfl ?_
        keq_hits
        refine i_lstT b4.fov ?_
        keq_hits
        refine i_lstT hn4 (i_popS hn4 ?_)
        have b5 := b4.pop dst (i3 ++ [z3] ++ [z2])
        generalize upd H4 nl (.lst ((i3 ++ [z3] ++ [z2]).map V.str)) = H5 at b5 ⊢
        keq_hits
        refine i_lstT b5.nlv (i_popS b5.nlv ?_)
        have b6 := b5.pop dst (i3 ++ [z3])
        generalize upd H5 nl (.lst ((i3 ++ [z3]).map V.str)) = H6 at b6 ⊢
        keq_hits
        refine ⟨by show 2 ≤ sizeLine; decide, fun tp htp => ?_⟩
        have b7 := b6.new (o := .tup [.str z1, .str z2]) htp
        have ht7 : hid [hh, nl, fo] (upd H6 tp (.tup [.str z1, .str z2])) tp = some (.tup [.str z1, .str z2]) := by
          rw [hid_out]
          · exact upd_same
          · simp only [List.mem_cons, List.not_mem_nil, or_false, not_or]
            exact ⟨(b6.hp.newC htp).1, (fun z => by rw [z, b6.nlv] at htp; cases htp), (fun z => by rw [z, b6.fov] at htp; cases htp)⟩
        generalize upd H6 tp (.tup [.str z1, .str z2]) = H7 at b7 ht7 ⊢
        keq_hits
        refine i_append b7.fov (by show xs.length < 16777216; omega) ?_
        keq_hits
        refine ⟨_, ps ++ [.two z1 z2], i3 ++ [z3], _, _, rfl, b7.put dst (p := .two z1 z2) (.cons (.tup (SqT.of ht7) (.cons (.str _) (.cons (.str _) .nil))) .nil), inp.add (.two z1 z2) [z2, z1] (by simp) (by simp) (by simp [pN]) (by simp [pN]; exact nz32.2.2.symm) (fun z => nomatch z) (fun z => nomatch z)⟩
      | false =>
        refine i_iff rfl ?_
        have hvl4 : Dp K H4 vl (.tuple (L.map .str)) := WP.dp_mono ((b4.g.trans hid_same)) hvl
        refine wb_one (ws_if (wt_mono (QT := fun k H' => (k = true → ("else" : Str) ∈ L) ∧ PB K H hh c nl fo H' xs ps (i3 ++ [z3] ++ [z2] ++ [z1])) (fun kk H5 ⟨ek, b5⟩ => ?_) ?_))
        rotate_left
        · refine wt_ww (ww_and (wt_cmp op_eq rfl ?_))
          keq_hits
          refine ⟨rfl, i_bl ?_⟩
          cases decide (V.int kd = V.int 1) with
          | false => exact i_iff rfl ⟨(fun z => nomatch z), b4⟩
          | true =>
            refine i_ift rfl (ww_and1 (wt_cmp (op_neD hr.units) rfl ?_))
            keq_hits
            refine ⟨by show 0 ≤ sizeLine; decide, fun p0 hp0 => ?_⟩
            have t5 : Same H4 (upd H4 p0 (.tup [])) := Same.new hp0
            have shL : SeqAt.shaped (.tuple (L.map PyData.str)) = true := by
              refine shaped_tup.mpr ⟨fun d hd => ?_, fun d hd => ?_⟩
              · obtain ⟨s, hs, rfl⟩ := List.mem_map.mp hd
                rw [hL s hs]
                exact canLay_form (.str "else") (by decide +kernel)
              · obtain ⟨s, hs, rfl⟩ := List.mem_map.mp hd
                exact Nat.zero_le _
            refine ⟨_, _, WP.dp_mono t5 hvl4, .tup (SqT.of upd_same) .nil, shL, by decide +kernel, i_bl ⟨fun e => ?_, b4.new hp0⟩⟩
            rw [eqv_empty] at e
            cases L with
            | nil => cases e
            | cons s r => rw [hL s (by simp)]; simp
        · refine i_ite (fun e => ?_) (fun e => ?_)
          · have hel := ek e
            obtain ⟨L', rfl⟩ : ∃ L' : List Str, L = ("else" : Str) :: L' := by
              cases L with
              | nil => cases hel
              | cons s r => exact ⟨r, by rw [hL s (by simp)]⟩
            obtain ⟨va, vx, vxs, rfl, tl, dv0, _⟩ := dp_consT (WP.dp_mono (b5.g.trans hid_same) hvl)
            cases dp_str dv0
            keq_hits
            refine i_lstT b5.fov ?_
            refine wa_cons ?_
            refine we_ix ix_tup plainIx_int ?_
            keq_hits
            refine i_ixT tl atI0 ?_
            keq_hits
            refine i_append b5.fov (by show xs.length < 16777216; omega) ?_
            keq_hits
            exact ⟨_, ps ++ [.lit], _, _, _, rfl, b5.put dst (p := .lit) (.cons (.str _) .nil), inp.add .lit [] (by simp) (by simp) (by simp [pN]) (by simp [pN]) (fun z => nomatch z) (fun _ => hel)⟩
          · refine wb_one (ws_if (wt_mono (QT := fun k H' => (k = true → ps.countP isR = 0) ∧ PB K H hh c nl fo H' xs ps (i3 ++ [z3] ++ [z2] ++ [z1])) (fun kk2 H6 ⟨ek2, b6⟩ => ?_) ?_))
            rotate_left
            · refine wt_ww (ww_and (wt_cmp op_eq rfl ?_))
              keq_hits
              refine ⟨rfl, i_bl ?_⟩
              cases decide (V.int kd = V.int 2) with
              | false => exact i_iff rfl ⟨(fun z => nomatch z), b5⟩
              | true =>
                refine i_ift rfl (ww_and1 (wt_cmp (op_notInD (room65 hr)) rfl ?_))
                keq_hits
                obtain ⟨fm, dm⟩ := inp.forms
                refine ⟨.str "...", _, .str _, .lst (SqL.of b5.fov) (dpAll_mono hid_same b5.ds), by decide +kernel, shaped_list fm (by omega), i_bl ⟨fun e => ?_, b5⟩⟩
                have e3 : ((PyData.str "_" :: psD ps).any fun z => PyData.eqv z (.str "...")) = decide (0 < ps.countP isR) := by
                  rw [← inp.reps]
                  congr 1
                  funext z
                  exact eqv_rep
                rw [e3] at e
                simp at e
                simpa using e
            · refine i_ite (fun e2 => ?_) (fun e2 => ?_)
              · have hno := ek2 e2
                keq_hits
                refine i_lstT b6.fov ?_
                refine wa_cons (we_lst (wa_cons ?_))
                keq_hits
                refine i_lstT b6.nlv (i_popS b6.nlv ?_)
                have b7 := b6.pop dst (i3 ++ [z3] ++ [z2])
                generalize upd H6 nl (.lst ((i3 ++ [z3] ++ [z2]).map V.str)) = H7 at b7 ⊢
                keq_hits
                refine i_lstT b7.nlv (i_popS b7.nlv ?_)
                have b8 := b7.pop dst (i3 ++ [z3])
                generalize upd H7 nl (.lst ((i3 ++ [z3]).map V.str)) = H8 at b8 ⊢
                keq_hits
                refine i_lstT b8.nlv (i_popS b8.nlv ?_)
                have b9 := b8.pop dst i3
                generalize upd H8 nl (.lst (i3.map V.str)) = H9 at b9 ⊢
                keq_hits
                refine ⟨by show 2 ≤ sizeLine; decide, fun tp htp => ?_⟩
                have b10 := b9.new (o := .tup [.str z2, .str z3]) htp
                have ht10 : hid [hh, nl, fo] (upd H9 tp (.tup [.str z2, .str z3])) tp = some (.tup [.str z2, .str z3]) := by
                  rw [hid_out]
                  · exact upd_same
                  · simp only [List.mem_cons, List.not_mem_nil, or_false, not_or]
                    exact ⟨(b9.hp.newC htp).1, (fun z => by rw [z, b9.nlv] at htp; cases htp), (fun z => by rw [z, b9.fov] at htp; cases htp)⟩
                generalize upd H9 tp (.tup [.str z2, .str z3]) = H10 at b10 ht10 ⊢
                keq_hits
                refine ⟨by show 2 ≤ sizeLine; decide, fun lp hlp => ?_⟩
                have b11 := b10.new (o := .lst [.str z1, .ref tp]) hlp
                have ht11 : hid [hh, nl, fo] (upd H10 lp (.lst [.str z1, .ref tp])) tp = some (.tup [.str z2, .str z3]) := same_hid (Same.new hlp) _ _ ht10
                have hl11 : upd H10 lp (.lst [.str z1, .ref tp]) lp = some (.lst [.str z1, .ref tp]) := upd_same
                have lph := (b10.hp.newC hlp).1
                generalize upd H10 lp (.lst [.str z1, .ref tp]) = H11 at b11 ht11 hl11 ⊢
                keq_hits
                refine ⟨hh, c, lp, _, rfl, b11.hp, lph, hl11, by simp, by simp, fun kx wsx v ev LX => ?_⟩
                have b12 := b11.draw dst LX
                have ht12 : hid [hh, nl, fo] (upd H11 hh (.lst wsx)) tp = some (.tup [.str z2, .str z3]) := hid_put (by simp) _ _ ht11
                generalize upd H11 hh (.lst wsx) = H12 at b12 ht12 ⊢
                keq_hits
                refine ⟨by show 2 ≤ sizeLine; decide, fun lq hlq => ?_⟩
                have b13 := b12.new (o := .lst [v, .str "..."]) hlq
                have ht13 : hid [hh, nl, fo] (upd H12 lq (.lst [v, .str "..."])) tp = some (.tup [.str z2, .str z3]) := same_hid (Same.new hlq) _ _ ht12
                have hl13 : upd H12 lq (.lst [v, .str "..."]) lq = some (.lst [v, .str "..."]) := upd_same
                generalize upd H12 lq (.lst [v, .str "..."]) = H13 at b13 ht13 hl13 ⊢
                keq_hits
                refine i_extend b13.fov hl13 (by show xs.length + 2 ≤ 16777216; omega) ?_
                keq_hits
                match kx, ev with
                | 0, ev =>
                  cases ev
                  exact ⟨_, ps ++ [.rep z1], _, _, _, rfl, b13.put dst (p := .rep z1) (.cons (.str _) (.cons (.str _) .nil)), inp.add (.rep z1) [z3, z2, z1] (by simp) (by simp) (by simp [pN]) (by simp [pN]) (fun _ => hno) (fun z => nomatch z)⟩
                | 1, ev =>
                  cases ev
                  exact ⟨_, ps ++ [.rep2 z2 z3], _, _, _, rfl, b13.put dst (p := .rep2 z2 z3) (.cons (.tup (SqT.of ht13) (.cons (.str _) (.cons (.str _) .nil))) (.cons (.str _) .nil)), inp.add (.rep2 z2 z3) [z3, z2, z1] (by simp) (by simp) (by simp [pN]) (by simp [pN]; exact nz32.1.symm) (fun _ => hno) (fun z => nomatch z)⟩
                | kx + 2, ev => simp at ev
              · keq_hits
                refine i_lstT b6.fov ?_
                keq_hits
                refine i_lstT b6.nlv (i_popS b6.nlv ?_)
                have b7 := b6.pop dst (i3 ++ [z3] ++ [z2])
                generalize upd H6 nl (.lst ((i3 ++ [z3] ++ [z2]).map V.str)) = H7 at b7 ⊢
                keq_hits
                refine i_append b7.fov (by show xs.length < 16777216; omega) ?_
                keq_hits
                exact ⟨_, ps ++ [.nm z1], _, _, _, rfl, b7.put dst (p := .nm z1) (.cons (.str _) .nil), inp.add (.nm z1) [z1] (by simp) (by simp) (by simp [pN]) (by simp [pN]) (fun z => nomatch z) (fun z => nomatch z)⟩
    · rintro σ H3 ⟨xs, ps, ns, r4, r5, rfl, ⟨g3, hp3, nl3, f3, hxs⟩, inp⟩
      show WP.WB _ _ _ _ _
      keq_hits
      refine we_callTy call_tup (by rfl) mt boot_tuple ?_
      keq_hits
      refine i_tupL f3 fun tp htp => ?_
      have t4 : Same H3 (upd H3 tp (.tup xs)) := Same.new htp
      have sub : Same (hid [hh, nl, fo] (upd H3 tp (.tup xs))) (hid [hh, nl] (upd H3 tp (.tup xs))) := hid_sub fun a ha => by simp at ha ⊢; rcases ha with rfl | rfl <;> simp
      refine q _ _ ps ((g3.trans (same_hid t4)).trans sub) (hp3.fresh htp) ?_ (inp.ok (by omega))
      have ntp : tp ∉ [hh, nl] := by
        simp only [List.mem_cons, List.not_mem_nil, or_false, not_or]
        exact ⟨(hp3.newC htp).1, fun z => by rw [z, nl3] at htp; cases htp⟩
      refine .tup (SqT.of (by rw [hid_out ntp]; exact upd_same)) (dpAll_mono ((same_hid t4).trans sub) hxs)
end
end
section
/-! ### _law_repeats -/
def elS : PyData → List Str
  | .str s => [s]
  | .tuple [.str a, .str b] => [a, b]
  | _ => []
def rawO : List PyData → List Str
  | [] => []
  | d :: ds => (if repHd ds then [] else elS d) ++ rawO ds
def rawR : List PyData → List Str
  | [] => []
  | d :: ds => (if repHd ds then elS d else []) ++ rawR ds
inductive ElP : PyData → Prop
  | str (s : Str) : wordS s = true → ElP (.str s)
  | two (a b : Str) : wordS a = true → wordS b = true → ElP (.tuple [.str a, .str b])
theorem PsOk.els {L : List Str} {ps : List Part} (h : PsOk L ps) : ∀ d ∈ psD ps, ElP d := fun d hd => by
  obtain ⟨p, hp, hd⟩ := List.mem_flatMap.mp hd
  have hw : ∀ s ∈ pN p, wordS s = true := fun s hs => (let9_ok s (h.lt s (List.mem_flatMap.mpr ⟨p, hp, hs⟩))).1
  have hX : ElP (pX p) := by
    cases p with
    | nm s => exact .str s (hw s (by simp [pN]))
    | rep s => exact .str s (hw s (by simp [pN]))
    | lit => exact .str _ (by decide +kernel)
    | two a b => exact .two a b (hw a (by simp [pN])) (hw b (by simp [pN]))
    | rep2 a b => exact .two a b (hw a (by simp [pN])) (hw b (by simp [pN]))
  unfold pD at hd
  split at hd
  · simp only [List.mem_cons, List.not_mem_nil, or_false] at hd
    rcases hd with rfl | rfl
    · exact hX
    · exact .str _ dots_word
  · rw [List.mem_singleton.mp hd]
    exact hX
def outW (s : Str) : Bool := decide (s ≠ "..." ∧ s ≠ "else")
theorem raw_parts {L : List Str} : ∀ {ps : List Part}, (∀ p ∈ ps, PartOk L p) → (rawO (psD ps)).filter outW = onceN ps ∧ rawR (psD ps) = oftenN ps ∧ repHd (psD ps) = false
  | [], _ => ⟨rfl, rfl, rfl⟩
  | p :: ps, h => by
    obtain ⟨i1, i2, i3⟩ := raw_parts (ps := ps) fun q hq => h q (by simp [hq])
    have hp := h p (by simp)
    have hx := rep_pX hp
    have hw : ∀ s ∈ pN p, outW s = true := fun s hs => by
      obtain ⟨_, a, _, b⟩ := let9_ok s (hp.lt s hs)
      exact decide_eq_true ⟨a, b⟩
    have e : psD (p :: ps) = pD p ++ psD ps := rfl
    have eo : onceN (p :: ps) = (if isR p then [] else pN p) ++ onceN ps := rfl
    have er : oftenN (p :: ps) = (if isR p then pN p else []) ++ oftenN ps := rfl
    have eN : elS (pX p) = pN p ∨ (p = .lit ∧ elS (pX p) = [("else" : Str)]) := by
      cases p with
      | lit => exact .inr ⟨rfl, rfl⟩
      | nm s => exact .inl rfl
      | rep s => exact .inl rfl
      | two a b => exact .inl rfl
      | rep2 a b => exact .inl rfl
    rw [e, eo, er]
    unfold pD
    cases hr : isR p with
    | true =>
      have hd : repHd (PyData.str "..." :: psD ps) = true := by show isRep (.str "...") = true; decide +kernel
      have eN : elS (pX p) = pN p := by
        rcases eN with z | ⟨z, _⟩
        · exact z
        · rw [z] at hr
          cases hr
      have edots : outW "..." = false := by decide +kernel
      refine ⟨?_, ?_, hx⟩
      · show (List.filter outW ((if repHd (PyData.str "..." :: psD ps) then [] else elS (pX p)) ++ ((if repHd (psD ps) then [] else elS (.str "...")) ++ rawO (psD ps)))) = _
        rw [hd, i3]
        simp only [if_true, Bool.false_eq_true, if_false, List.nil_append]
        show List.filter outW ("..." :: rawO (psD ps)) = onceN ps
        rw [List.filter_cons, edots, i1]
        rfl
      · show (if repHd (PyData.str "..." :: psD ps) then elS (pX p) else []) ++ ((if repHd (psD ps) then elS (.str "...") else []) ++ rawR (psD ps)) = _
        rw [hd, i3, i2, eN]
        rfl
    | false =>
      refine ⟨?_, ?_, hx⟩
      · show (List.filter outW ((if repHd (psD ps) then [] else elS (pX p)) ++ rawO (psD ps))) = _
        rw [i3]
        simp only [Bool.false_eq_true, if_false, List.filter_append, i1]
        congr 1
        rcases eN with z | ⟨z, z2⟩
        · rw [z]
          exact List.filter_eq_self.mpr hw
        · rw [z2, z]
          decide +kernel
      · show (if repHd (psD ps) then elS (pX p) else []) ++ rawR (psD ps) = _
        rw [i3, i2]
        rfl
theorem rawO_len : ∀ ds : List PyData, (rawO ds).length ≤ 2 * ds.length
  | [] => Nat.le_refl _
  | d :: ds => by
    have := rawO_len ds
    have h2 : (elS d).length ≤ 2 := by unfold elS; split <;> simp
    rw [rawO, List.length_append, List.length_cons]
    split
    · simp; omega
    · omega
theorem rawR_len : ∀ ds : List PyData, (rawR ds).length ≤ 2 * ds.length
  | [] => Nat.le_refl _
  | d :: ds => by
    have := rawR_len ds
    have h2 : (elS d).length ≤ 2 := by unfold elS; split <;> simp
    rw [rawR, List.length_append, List.length_cons]
    split
    · omega
    · simp; omega
section
variable {P : Program} {w : World} {K : PySem.W.Frag} {mg : Str → Option Value} {base : Heap} {f f2 : Addr} {fd fd2 : FuncData} {C CB CM : Addr} {L : List Str}
def sp_repeats (K : PySem.W.Frag) : Sp := fun vs H Q _ => ∃ v L ps, vs = [v] ∧ Dp K H v (.tuple (.str "_" :: psD ps)) ∧ PsOk L ps ∧ (psD ps).length ≤ 100 ∧ formBs (psD ps) = true ∧ ddeps (psD ps) ≤ 50 ∧
  ∀ p H' ol rl, Same H H' → SqT K H' p [.ref ol, .ref rl] → H' ol = some (.lst ((onceN ps).map V.str)) → H' rl = some (.lst ((oftenN ps).map V.str)) → H ol = none → H rl = none → Q (.ref p) H'
abbrev NR : List Str := ["pattern", "once", "often_v", "at", "part", "row", "name"]
theorem sq55 : FnScope NR ["pattern"] (defScope (top 55)) := ⟨rfl, rfl, rfl, by decide +kernel, rfl, by decide +kernel, by decide +kernel⟩
theorem cutV_two (x : V) (xs : List V) (i : Nat) : cutV (x :: xs) (some ((i : Int) + 2)) (some ((i : Int) + 3)) = (xs.drop (i + 1)).take 1 := by
  have e := cutV_one (x :: xs) (i + 1)
  rw [show (((i + 1 : Nat) : Int) + 1) = (i : Int) + 2 by omega, show (((i + 1 : Nat) : Int) + 2) = (i : Int) + 3 by omega] at e
  rw [e]
  rfl
theorem ok_repeats (F : FnP K "_law_repeats" 55 f fd) (hm : mg "_law_repeats" = some (.ref f)) (mi : mg "isinstance" = none) (me : mg "enumerate" = none) (mtu : BTy mg "tuple" "tuple") (mli : BTy mg "list" "list") : Def P w K mg base 1 "_law_repeats" (sp_repeats K) := by
  refine Def.mk' F hm sq55 (fun vs H Q E h => ?_) (fun _ _ _ _ _ _ us hl => match us, hl with | [_], _ => rfl) (fun cdv A outer s H vs Q E hr tk h => ?_)
  · obtain ⟨v, L, ps, rfl, _⟩ := h
    rfl
  · obtain ⟨v, L, ps, rfl, hd, hps, hl, hfm, hdm, q⟩ := h
    have nd := sq55.nd
    obtain ⟨a, x0, xs, rfl, ha, _, hxs⟩ := dp_consT hd
    have lx := dpAll_len hxs
    have hsh : SeqAt.shaped (.tuple (psD ps)) = true := shaped_form (d := .tuple (psD ps)) hfm (by simp only [ddep]; omega)
    refine wb_cons (ws_par 1 2 rfl nd rfl rfl (by decide) rfl rfl (by rfl) ?_)
    keq_hits
    refine ⟨by show 0 ≤ sizeLine; decide, fun ol hol => ?_⟩
    have s1 : Same H (upd H ol (.lst [])) := Same.new hol
    have o1 : upd H ol (.lst []) ol = some (.lst []) := upd_same
    generalize upd H ol (.lst []) = H1 at s1 o1 ⊢
    keq_hits
    refine ⟨by show 0 ≤ sizeLine; decide, fun rl hrl => ?_⟩
    have rl0 : H rl = none := new_of s1 hrl
    have olrl : ol ≠ rl := fun z => by rw [z, hrl] at o1; cases o1
    have s2 : Same H (upd H1 rl (.lst [])) := s1.trans (Same.new hrl)
    have o2 : upd H1 rl (.lst []) ol = some (.lst []) := Same.new hrl _ _ o1
    have r2 : upd H1 rl (.lst []) rl = some (.lst []) := upd_same
    generalize upd H1 rl (.lst []) = H2 at s2 o2 r2 ⊢
    keq_hits
    refine ws_for passes_bx rfl (pi_enumT (by rfl) me WP.pa) (by k_memK) ?_
    show WP.WA _ _ _ _ _
    keq_hits
    refine we_slL sl_tupA ?_
    keq_hits
    refine ⟨_, rfl, i_sl (s2.tup ha) fun b H3 s3 hb => ?_⟩
    rw [cutV_tl] at hb
    keq_hits
    have s03 := s2.trans s3
    refine ⟨b, xs, rfl, hb, ?_⟩
    refine for_it (walk_enumT (K := K) (a := b) (xs := xs)) (fun i σ H' => Same H H' ∧ SqT K H' b xs ∧ ∃ o r r3 r4 r5 r6, σ = [some (.ref a), some (.ref ol), some (.ref rl), r3, r4, r5, r6] ∧ H' ol = some (.lst (o.map V.str)) ∧ H' rl = some (.lst (r.map V.str)) ∧ o ++ rawO ((psD ps).drop i) = rawO (psD ps) ∧ r ++ rawR ((psD ps).drop i) = rawR (psD ps))
      ⟨s03, hb, [], [], _, _, _, _, rfl, s3 _ _ o2, s3 _ _ r2, rfl, rfl⟩ (fun i σ H' _ h => h.2.1) ?_ ?_
    · rintro i x σ H4 H4' hi ⟨s4, hb4, o, r, r3, r4, r5, r6, rfl, ho4, hr4, eo, er⟩ ⟨T, y, rfl, hT4, rfl, hy⟩
      refine i_two (SqT.of upd_same) ?_
      have t5 : Same H4 (upd H4 T (.tup [.int (i : Nat), y])) := Same.new hT4
      generalize upd H4 T (.tup [.int (i : Nat), y]) = H5 at t5 ⊢
      have s5 := s4.trans t5
      have ho5 := t5 _ _ ho4
      have hr5 := t5 _ _ hr4
      have hb5 := t5.tup hb4
      obtain ⟨d, hd1, hd2⟩ := dpAll_atv hxs hy
      have hil : i < (psD ps).length := by omega
      have ed : (psD ps).drop i = d :: (psD ps).drop (i + 1) := by
        rw [List.drop_eq_getElem_cons hil]
        rw [List.getElem?_eq_getElem hil] at hd1
        cases hd1
        rfl
      have el := hps.els d (List.mem_of_getElem? hd1)
      rw [ed, rawO] at eo
      rw [ed, rawR] at er
      have lo := rawO_len (psD ps)
      have lr := rawR_len (psD ps)
      have lo2 := congrArg List.length eo
      have lr2 := congrArg List.length er
      rw [List.length_append] at lo2 lr2
      show WP.WB _ _ _ _ _
      refine wb_cons (ws_set 5 nd rfl (by k_clsL) (WE.mono (Q := fun v H' => v = .ref (if repHd ((psD ps).drop (i + 1)) then rl else ol) ∧ Same H5 H') (we_if ?_) (fun v6 H6 ⟨ev6, s6⟩ => ?_)))
      · refine wt_mono (QT := fun k H' => k = repHd ((psD ps).drop (i + 1)) ∧ Same H5 H') (fun kk H6 ⟨ek, s6⟩ => ?_) ?_
        · subst ek
          refine i_ite (fun e => ?_) (fun e => ?_)
          · keq_hits
            exact ⟨by rw [e]; rfl, s6⟩
          · keq_hits
            exact ⟨by rw [e]; rfl, s6⟩
        · refine wt_cmp (op_eqD hr.units) rfl (we_slB sl_tupA ?_)
          keq_hits
          refine we_op op_add ?_
          keq_hits
          refine ⟨_, rfl, ?_⟩
          refine we_op op_add ?_
          keq_hits
          refine ⟨_, rfl, i_sl (s5.tup ha) fun c6 H6 s6 h6 => ?_⟩
          rw [cutV_two] at h6
          keq_hits
          refine ⟨by show 1 ≤ sizeLine; decide, fun p7 hp7 => ?_⟩
          have s7 : Same H6 (upd H6 p7 (.tup [.str "..."])) := Same.new hp7
          have h7 : SqT K (upd H6 p7 (.tup [.str "..."])) p7 [.str "..."] := SqT.of upd_same
          generalize upd H6 p7 (.tup [.str "..."]) = H7 at s7 h7 ⊢
          refine ⟨_, _, .tup (s7.tup h6) (dpAll_mono ((s5.trans s6).trans s7) (dpAll_take 1 (dpAll_drop (i + 1) hxs))), dots_data h7, shaped_slice hsh _ _, shaped_dots, i_bl ⟨?_, s6.trans s7⟩⟩
          rw [slice_rep]
      · subst ev6
        have ho6 := s6 _ _ ho5
        have hr6 := s6 _ _ hr5
        have s06 := s5.trans s6
        have hb6 := s6.tup hb5
        obtain ⟨row, cur, erow, hrow, lcur2, fin⟩ : ∃ (row : Addr) (cur : List Str), (if repHd ((psD ps).drop (i + 1)) then rl else ol) = row ∧ H6 row = some (.lst (cur.map V.str)) ∧ cur.length ≤ 400 ∧
            ∀ H7, Same H6 H7 → Same H (L2.upd H7 row (.lst ((cur ++ elS d).map V.str))) ∧ SqT K (L2.upd H7 row (.lst ((cur ++ elS d).map V.str))) b xs ∧ ∃ o' r' : List Str, L2.upd H7 row (.lst ((cur ++ elS d).map V.str)) ol = some (.lst (o'.map V.str)) ∧ L2.upd H7 row (.lst ((cur ++ elS d).map V.str)) rl = some (.lst (r'.map V.str)) ∧ o' ++ rawO ((psD ps).drop (i + 1)) = rawO (psD ps) ∧ r' ++ rawR ((psD ps).drop (i + 1)) = rawR (psD ps) := by
          cases hrep : repHd ((psD ps).drop (i + 1)) with
          | true =>
            rw [hrep] at eo er
            exact ⟨rl, r, rfl, hr6, by omega, fun H7 s7 => ⟨(s06.trans s7).mut rl0, sqT_updL (s7 _ _ hr6) (s7.tup hb6), o, r ++ elS d, by rw [upd_ne olrl]; exact s7 _ _ ho6, upd_same, by simpa using eo, by rw [List.append_assoc]; exact er⟩⟩
          | false =>
            rw [hrep] at eo er
            exact ⟨ol, o, rfl, ho6, by omega, fun H7 s7 => ⟨(s06.trans s7).mut hol, sqT_updL (s7 _ _ ho6) (s7.tup hb6), o ++ elS d, r, upd_same, by rw [upd_ne olrl.symm]; exact s7 _ _ hr6, by rw [List.append_assoc]; exact eo, by simpa using er⟩⟩
        rw [erow]
        show WP.WB _ _ _ _ _
        keq_hits
        refine i_lstT hrow ?_
        refine wa_cons (we_if ?_)
        keq_hits
        have dd6 := WP.dp_mono s06 hd2
        cases el with
        | str z hz =>
          cases dd6
          refine i_iff rfl ?_
          keq_hits
          refine ⟨by show 1 ≤ sizeLine; decide, fun p7 hp7 => ?_⟩
          have s7 : Same H6 (upd H6 p7 (.lst [.str z])) := Same.new hp7
          have h7 : upd H6 p7 (.lst [.str z]) p7 = some (.lst [.str z]) := upd_same
          generalize upd H6 p7 (.lst [.str z]) = H7 at s7 h7 ⊢
          keq_hits
          refine i_extend (s7 _ _ hrow) h7 (by rw [List.length_map]; show _ ≤ 16777216; simp; omega) ?_
          keq_hits
          obtain ⟨g1, g2, o', r', g3, g4, g5, g6⟩ := fin H7 s7
          have eu : List.map V.str (cur ++ elS (.str z)) = List.map V.str cur ++ [V.str z] := by simp [elS]
          rw [eu] at g1 g2 g3 g4
          exact ⟨g1, g2, o', r', _, _, _, _, rfl, g3, g4, g5, g6⟩
        | two za zb hza hzb =>
          obtain ⟨tp, y0, y1, rfl, hT, e0, e1⟩ := dp_two dd6
          cases dp_str e0
          cases dp_str e1
          refine i_ift rfl ?_
          refine we_callTy call_list_of (by rfl) mli.m mli.b ?_
          keq_hits
          refine ⟨tp, _, rfl, .inr hT, fun p7 hp7 => ?_⟩
          have s7 : Same H6 (upd H6 p7 (.lst [.str za, .str zb])) := Same.new hp7
          have h7 : upd H6 p7 (.lst [.str za, .str zb]) p7 = some (.lst [.str za, .str zb]) := upd_same
          generalize upd H6 p7 (.lst [.str za, .str zb]) = H7 at s7 h7 ⊢
          keq_hits
          refine i_extend (s7 _ _ hrow) h7 (by rw [List.length_map]; show _ ≤ 16777216; simp; omega) ?_
          keq_hits
          obtain ⟨g1, g2, o', r', g3, g4, g5, g6⟩ := fin H7 s7
          have eu : List.map V.str (cur ++ elS (.tuple [.str za, .str zb])) = List.map V.str cur ++ [V.str za, V.str zb] := by simp [elS]
          rw [eu] at g1 g2 g3 g4
          exact ⟨g1, g2, o', r', _, _, _, _, rfl, g3, g4, g5, g6⟩
    · rintro σ H4 ⟨s4, hb4, o, r, r3, r4, r5, r6, rfl, ho4, hr4, eo, er⟩
      rw [List.drop_of_length_le (by omega), rawO, List.append_nil] at eo
      rw [List.drop_of_length_le (by omega), rawR, List.append_nil] at er
      subst eo er
      have lo := rawO_len (psD ps)
      show WP.WB _ _ _ _ _
      refine wb_one (ws_ret (we_tup (wa_cons ?_)))
      refine we_lcI rfl nd (pi_list pe) (blkOk_by (N := NR) (sc := defScope (top 55)) (own := [("name", 6)]) (by decide +kernel)) (fun _ _ _ _ _ => by k_memK) ?_
      show WP.WE _ _ _ _ _
      keq_hits
      refine ⟨ol, rfl, ⟨_, SqL.of ho4⟩, fun D hD => lc_F (fun j => outW ((rawO (psD ps)).getD j "")) (fun j => V.str ((rawO (psD ps)).getD j "")) walk_list (by rw [List.length_map]; show _ < 16777216; omega) hD (fun H s => SqL.of (s _ _ ho4)) ?_ teC_mono ttC_mono gName_mono fun H5 s5 hl5 => ?_⟩
      · rintro j x H5 H5' hj s5 ⟨rfl, exj⟩
        have hjn : j < (rawO (psD ps)).length := by simpa using hj
        have ex : x = .str ((rawO (psD ps)).getD j "") := by
          rw [List.getElem?_map, List.getElem?_eq_getElem hjn] at exj
          rw [List.getD, List.getElem?_eq_getElem hjn]
          exact (Option.some.inj exj).symm
        generalize (rawO (psD ps)).getD j "" = nm at ex
        subst ex
        refine ⟨rfl, fun s0 H0 C0 cl0 fp0 => ?_⟩
        refine wt_cmp op_notIn_seq rfl ?_
        keq_hits
        refine ⟨by show 2 ≤ sizeLine; decide, fun p6 hp6 => ?_⟩
        have t6 : Same H5' (upd H5' p6 (.tup [.str "...", .str "else"])) := Same.new hp6
        refine ⟨p6, _, rfl, .inr (SqT.of upd_same), rfl, by decide +kernel, i_bl ⟨t6, ?_, fun _ s0' H0' C0' cl0' fp0' => ?_⟩⟩
        · rw [if_pos rfl]
          have : inV (V.str nm) [V.str "...", V.str "else"] = decide (nm ∈ (["...", "else"] : List Str)) := inV_strs (L := ["...", "else"])
          rw [this]
          unfold outW
          rw [Bool.eq_iff_iff]
          simp
        · keq_hits
          exact ⟨t6, rfl⟩
      · have hl5' : H5 D = some (.lst ((onceN ps).map V.str)) := by
          rw [hl5, List.length_map, ← (raw_parts (L := L) (ps := ps) fun p hp => hps.part hp).1]
          exact congrArg (fun z => some (HO.lst z)) (filter_at (p := outW) (rawO (psD ps)))
        rw [(raw_parts (L := L) (ps := ps) fun p hp => hps.part hp).2.1] at hr4
        have hr5 := s5 _ _ hr4
        have D0 : H D = none := new_of s4 hD
        keq_hits
        refine ⟨by show 2 ≤ sizeLine; decide, fun tp htp => ?_⟩
        have t6 : Same H5 (upd H5 tp (.tup [.ref D, .ref rl])) := Same.new htp
        exact q _ _ D rl ((s4.trans s5).trans t6) (SqT.of upd_same) (t6 _ _ hl5') (t6 _ _ hr5) D0 rl0
end
end
section
/-! ### _law_template -/
mutual
theorem nolist_form : ∀ d, formB d = true → nolist d = true
  | .none, h => by simp [formB] at h
  | .bool _, h => by simp [formB] at h
  | .int _, _ => rfl
  | .str _, _ => rfl
  | .list _, h => by simp [formB] at h
  | .dict _, h => by simp [formB] at h
  | .tuple ds, h => nolists_form ds h
theorem nolists_form : ∀ ds, formBs ds = true → nolists ds = true
  | [], _ => rfl
  | d :: ds, h => by
    simp only [formBs, Bool.and_eq_true] at h
    rw [nolists, nolist_form d h.1, nolists_form ds h.2]
    rfl
end
theorem sqT_hid {K : PySem.W.Frag} {H : Hp} {S T : List Addr} {D a : Addr} {ys xs : List V} (hT : ∀ b ∈ T, b ∈ S ∨ b = D) (e : H D = some (.lst ys)) (h : SqT K (hid S H) a xs) : SqT K (hid T H) a xs := by
  have keep : ∀ b o, hid S H b = some o → (∀ zs, o ≠ .lst zs) → hid T H b = some o := fun b o hb hn => by
    by_cases hs : b ∈ S
    · rw [hid_in hs] at hb
      cases hb
    · rw [hid_out hs] at hb
      rw [hid_out]
      · exact hb
      · intro hbT
        rcases hT b hbT with z | z
        · exact hs z
        · rw [z, e] at hb
          exact hn _ (Option.some.inj hb).symm
  rcases h with (h | ⟨o, h⟩) | ⟨o, its, n, h, c, r⟩
  · exact .inl (.inl (keep _ _ h (fun _ z => nomatch z)))
  · exact .inl (.inr ⟨o, keep _ _ h (fun _ z => nomatch z)⟩)
  · exact .inr ⟨o, its, n, h, c, r⟩
mutual
theorem dp_hid {K : PySem.W.Frag} {H : Hp} {S T : List Addr} {D : Addr} {ys : List V} (hT : ∀ b ∈ T, b ∈ S ∨ b = D) (e : H D = some (.lst ys)) : ∀ {d : PyData} {v : V}, nolist d = true → Dp K (hid S H) v d → Dp K (hid T H) v d
  | _, _, _, .non => .non
  | _, _, _, .bl b => .bl b
  | _, _, _, .int i => .int i
  | _, _, _, .str x => .str x
  | _, _, n, .lst h g => by simp [nolist] at n
  | _, _, n, .tup h g => .tup (sqT_hid hT e h) (dpAll_hid hT e (by simpa [nolist] using n) g)
theorem dpAll_hid {K : PySem.W.Frag} {H : Hp} {S T : List Addr} {D : Addr} {ys : List V} (hT : ∀ b ∈ T, b ∈ S ∨ b = D) (e : H D = some (.lst ys)) : ∀ {ds : List PyData} {vs : List V}, nolists ds = true → DpAll K (hid S H) vs ds → DpAll K (hid T H) vs ds
  | _, _, _, .nil => .nil
  | _, _, n, .cons h g => .cons (dp_hid hT e (by simp [nolists] at n; exact n.1) h) (dpAll_hid hT e (by simp [nolists] at n; exact n.2) g)
end
section
variable {P : Program} {w : World} {K : PySem.W.Frag} {mg : Str → Option Value} {base : Heap} {f f2 : Addr} {fd fd2 : FuncData} {C CB CM : Addr} {L : List Str}
structure TIn (K : PySem.W.Frag) (H : Hp) (hh c tp ml ol rl : Addr) (o r ms : List Str) : Prop where
  hp : HandP H hh c
  tup : SqT K (hid [hh] H) tp [.ref ol, .ref rl]
  ov : hid [hh] H ol = some (.lst (o.map V.str))
  rv : hid [hh] H rl = some (.lst (r.map V.str))
  mv : hid [hh] H ml = some (.lst (ms.map V.str))
theorem TIn.mono {H H' : Hp} {hh c tp ml ol rl : Addr} {o r ms : List Str} (t : TIn K H hh c tp ml ol rl o r ms) (s : Same (hid [hh] H) (hid [hh] H')) (hp : HandP H' hh c) : TIn K H' hh c tp ml ol rl o r ms :=
  ⟨hp, s.tup t.tup, s _ _ t.ov, s _ _ t.rv, s _ _ t.mv⟩
theorem hid1 {H : Hp} {hh a : Addr} {u : HO} (h : hid [hh] H a = some u) : a ≠ hh ∧ H a = some u := by
  by_cases z : a = hh
  · rw [z, hid_in (by simp)] at h
    cases h
  · rw [hid_out (by simp [z])] at h
    exact ⟨z, h⟩
structure OrL (o r ms : List Str) : Prop where
  oL : ∀ s ∈ o, s ∈ let9
  rL : ∀ s ∈ r, s ∈ let9
  mL : ∀ s ∈ ms, s ∈ heads6
  lo : o.length ≤ 100
  lr : r.length ≤ 100
  lm : ms.length ≤ 100
def sp_tmpl (K : PySem.W.Frag) (n : Nat) : Sp := fun vs H Q _ => ∃ (hh c tp ml ol rl : Addr) (o r ms : List Str), vs = [.ref hh, .int ((n : Nat) : Int), .ref tp, .ref ml] ∧ TIn K H hh c tp ml ol rl o r ms ∧ OrL o r ms ∧
  ∀ v d H', Same (hid [hh] H) (hid [hh] H') → HandP H' hh c → Dp K (hid [hh] H') v d → Tm o r n d → Q v H'
abbrev NT : List Str := ["hand", "depth", "names", "macros", "once", "often_v", "kind", "parts", "part"]
theorem sq56 : FnScope NT ["hand", "depth", "names", "macros"] (defScope (top 56)) := ⟨rfl, rfl, rfl, by decide +kernel, rfl, by decide +kernel, by decide +kernel⟩
theorem let9_words {l : List Str} (h : ∀ s ∈ l, s ∈ let9) : SeqAt.shaped (.list (l.map .str)) = true :=
  shaped_words fun s hs => by
    have : ∀ s ∈ let9, nameS s = true := by decide +kernel
    exact this s (h s hs)
theorem ok_tmpl (F : FnP K "_law_template" 56 f fd) (hm : mg "_law_template" = some (.ref f)) (mr : mg "range" = none) (mt : mg "tuple" = none) (DD : Def P w K mg base 1 "_law_draw" sp_draw) (DA : Def P w K mg base 2 "_law_any" (sp_any K)) (n : Nat)
    (DN : ∀ m, n = m + 1 → Def P w K mg base (m + 3) "_law_template" (sp_tmpl K m)) : Def P w K mg base (n + 3) "_law_template" (sp_tmpl K n) := by
  refine Def.mk' F hm sq56 (fun vs H Q E h => ?_) (fun _ _ _ _ _ _ us hl => match us, hl with | [_, _, _, _], _ => rfl) (fun cdv A outer s H vs Q E hr tk h => ?_)
  · obtain ⟨hh, c, tp, ml, ol, rl, o, r, ms, rfl, _⟩ := h
    rfl
  · obtain ⟨hh, c, tp, ml, ol, rl, o, r, ms, rfl, tin, ok, q⟩ := h
    have nd := sq56.nd
    refine wb_cons (ws_asg (by k_memK) ?_)
    keq_hits
    refine i_two (hid_same.tup tin.tup) ?_
    show WP.WB _ _ _ _ _
    keq_hits
    refine ⟨hh, c, 7, rfl, tin.hp, by decide, by decide, fun kd ws kd0 kd7 LL => ?_⟩
    have s1 : Same (hid [hh] H) (hid [hh] (upd H hh (.lst ws))) := hid_put (by simp)
    have t1 := tin.mono s1 (HandP.put LL)
    generalize upd H hh (.lst ws) = H1 at s1 t1 ⊢
    show WP.WB _ _ _ _ _
    refine wb_cons (ws_if (wt_mono (QT := fun k H' => (k = false → ∃ m, n = m + 1) ∧ H1 = H') (fun kk H2 ⟨ek, eH⟩ => ?_) ?_))
    rotate_left
    · refine wt_ww (ww_or (wt_cmp op_eq rfl ?_))
      keq_hits
      refine ⟨rfl, i_bl ?_⟩
      cases e0 : decide (V.int ((n : Nat) : Int) = V.int 0) with
      | true => exact i_ift rfl ⟨(fun z => nomatch z), rfl⟩
      | false =>
        refine i_iff rfl (ww_or1 ?_)
        keq_hits
        refine ⟨fun _ => ?_, rfl⟩
        cases n with
        | zero => cases e0
        | succ m => exact ⟨m, rfl⟩
    subst eH
    refine i_ite (fun e => ?_) (fun e => ?_)
    · refine wb_one (ws_ret (we_if ?_))
      obtain ⟨olh, ov⟩ := hid1 t1.ov
      refine wt_mono (QT := fun k H' => (k = true → o ≠ []) ∧ Same (hid [hh] H) (hid [hh] H') ∧ HandP H' hh c) (fun kk H2 ⟨ek2, s2, hp2⟩ => ?_) ?_
      · have t2 := tin.mono s2 hp2
        refine i_ite (fun e2 => ?_) (fun e2 => ?_)
        · keq_hits
          have hne := ek2 e2
          have lpos : 0 < o.length := List.length_pos_iff.mpr hne
          refine ⟨hh, c, ol, _, rfl, hp2, olh, (hid1 t2.ov).2, by rw [List.length_map]; exact lpos, by rw [List.length_map]; have := ok.lo; omega, fun k ws v ev L2 => ?_⟩
          rw [List.getElem?_map] at ev
          cases eo : o[k]? with
          | none => rw [eo] at ev; cases ev
          | some s0 =>
            rw [eo] at ev
            cases ev
            exact q _ (.str s0) _ (s2.trans (hid_put (by simp))) (HandP.put L2) (.str _) (.leaf _ _ (.inl (List.mem_map_of_mem (List.mem_of_getElem? eo))))
        · keq_hits
          refine ⟨by show 3 ≤ sizeLine; decide, fun p3 hp3 => ?_⟩
          have s3 := s2.trans (hid_new (S := [hh]) (o := .lst [.int 0, .str "w", .str "else"]) hp3)
          have hp3' := hp2.fresh (o := .lst [.int 0, .str "w", .str "else"]) hp3
          have p3h := (hp2.newC hp3).1
          have h3 : upd H2 p3 (.lst [.int 0, .str "w", .str "else"]) p3 = some (.lst [.int 0, .str "w", .str "else"]) := upd_same
          generalize upd H2 p3 (.lst [.int 0, .str "w", .str "else"]) = H3 at s3 hp3' h3 ⊢
          keq_hits
          refine ⟨hh, c, p3, _, rfl, hp3', p3h, h3, by simp, by simp, fun k ws v ev L2 => ?_⟩
          have fin : ∀ d, d ∈ consts3 → Dp K (hid [hh] (upd H3 hh (.lst ws))) v d → Q v (upd H3 hh (.lst ws)) := fun d hd hdp => q v d _ (s3.trans (hid_put (by simp))) (HandP.put L2) hdp (.leaf _ _ (.inr hd))
          match k, ev with
          | 0, ev => cases ev; exact fin (.int 0) (by simp [consts3]) (.int _)
          | 1, ev => cases ev; exact fin (.str "w") (by simp [consts3]) (.str _)
          | 2, ev => cases ev; exact fin (.str "else") (by simp [consts3]) (.str _)
          | k + 3, ev => simp at ev
      · refine wt_ww (ww_and (wt_cmp (op_neD hr.units) rfl ?_))
        keq_hits
        refine ⟨by show 0 ≤ sizeLine; decide, fun p0 hp0 => ?_⟩
        have u2 : Same H1 (upd H1 p0 (.lst [])) := Same.new hp0
        have hp2 := t1.hp.fresh (o := .lst []) hp0
        have e2 : upd H1 p0 (.lst []) p0 = some (.lst []) := upd_same
        generalize upd H1 p0 (.lst []) = H2 at u2 hp2 e2 ⊢
        have s2 := s1.trans (same_hid (S := [hh]) u2)
        refine ⟨_, .list [], .lst (SqL.of (u2 _ _ ov)) (dpAll_strs _), .lst (SqL.of e2) .nil, let9_words ok.oL, by decide +kernel, i_bl ?_⟩
        rw [eqv_nil]
        cases eo : o with
        | nil => exact i_iff rfl ⟨(fun z => nomatch z), s2, hp2⟩
        | cons s0 r0 =>
          refine i_ift rfl (ww_and1 ?_)
          keq_hits
          refine ⟨hh, c, 4, rfl, hp2, by decide, by decide, fun k4 ws4 k40 k44 L4 => ?_⟩
          keq_hits
          exact ⟨fun _ => (fun z => nomatch z), s2.trans (hid_put (by simp)), HandP.put L4⟩
    · obtain ⟨m, rfl⟩ := ek e
      have DM := DN m rfl
      refine wb_nil ?_
      show WP.WB _ _ _ _ _
      obtain ⟨mlh, mv⟩ := hid1 t1.mv
      refine wb_cons (ws_set 7 nd rfl (by k_clsL) (we_lst (wa_cons ?_)))
      refine we_call' (RW := fun _ _ _ _ => False) DA (Room.mono hr (by omega)) pas_no (by rfl) ?_
      keq_hits
      refine we_op op_cat ?_
      refine we_op op_cat ?_
      keq_hits
      refine ⟨ml, ml, _, _, rfl, rfl, mv, mv, by rw [List.length_map]; have := ok.lm; show _ ≤ 16777216; omega, fun b3 hb3 => ?_⟩
      have u3 : Same H1 (upd H1 b3 (.lst (ms.map V.str ++ ms.map V.str))) := Same.new hb3
      have e3 : upd H1 b3 (.lst (ms.map V.str ++ ms.map V.str)) b3 = some (.lst (ms.map V.str ++ ms.map V.str)) := upd_same
      have p3 := t1.hp.fresh (o := .lst (ms.map V.str ++ ms.map V.str)) hb3
      generalize upd H1 b3 (.lst (ms.map V.str ++ ms.map V.str)) = H3 at u3 e3 p3 ⊢
      have s3 := s1.trans (same_hid (S := [hh]) u3)
      keq_hits
      refine ⟨by show 2 ≤ sizeLine; decide, fun b4 hb4 => ?_⟩
      have u4 : Same H3 (upd H3 b4 (.lst [.str "list", .str "w"])) := Same.new hb4
      have e4 : upd H3 b4 (.lst [.str "list", .str "w"]) b4 = some (.lst [.str "list", .str "w"]) := upd_same
      have p4 := p3.fresh (o := .lst [.str "list", .str "w"]) hb4
      generalize upd H3 b4 (.lst [.str "list", .str "w"]) = H4 at u4 e4 p4 ⊢
      have s4 := s3.trans (same_hid (S := [hh]) u4)
      keq_hits
      refine ⟨b3, b4, _, _, rfl, rfl, u4 _ _ e3, e4, by have := ok.lm; simp only [List.length_append, List.length_map]; show _ ≤ 16777216; simp; omega, fun b5 hb5 => ?_⟩
      have u5 : Same H4 (upd H4 b5 (.lst (ms.map V.str ++ ms.map V.str ++ [.str "list", .str "w"]))) := Same.new hb5
      have e5 : upd H4 b5 (.lst (ms.map V.str ++ ms.map V.str ++ [.str "list", .str "w"])) b5 = some (.lst ((ms ++ ms ++ (["list", "w"] : List Str)).map V.str)) := by rw [upd_same]; simp
      have p5 := p4.fresh (o := .lst (ms.map V.str ++ ms.map V.str ++ [.str "list", .str "w"])) hb5
      have b5h := (p4.newC hb5).1
      generalize upd H4 b5 (.lst (ms.map V.str ++ ms.map V.str ++ [.str "list", .str "w"])) = H5 at u5 e5 p5 ⊢
      have s5 := s4.trans (same_hid (S := [hh]) u5)
      keq_hits
      refine ⟨hh, c, b5, _, rfl, p5, b5h, e5, by simp; omega, by have := ok.lm; simp only [List.length_map, List.length_append]; simp; omega, fun k ws2 v ev L5 => ?_⟩
      obtain ⟨hd, rfl, hhd⟩ : ∃ hd, v = .str hd ∧ hd ∈ heads6 := by
        rw [List.getElem?_map] at ev
        cases eh : (ms ++ ms ++ (["list", "w"] : List Str))[k]? with
        | none => rw [eh] at ev; cases ev
        | some s0 =>
          rw [eh] at ev
          cases ev
          refine ⟨s0, rfl, ?_⟩
          have hm := List.mem_of_getElem? eh
          simp only [List.mem_append, List.mem_cons, List.not_mem_nil, or_false] at hm
          rcases hm with (hm | hm) | rfl | rfl
          · exact ok.mL _ hm
          · exact ok.mL _ hm
          · decide +kernel
          · decide +kernel
      have p6 := HandP.put L5
      have s6 := s5.trans (hid_put (H := H5) (o := .lst ws2) (S := [hh]) (a := hh) (by simp))
      generalize upd H5 hh (.lst ws2) = H6 at p6 s6 ⊢
      keq_hits
      refine ⟨by show 1 ≤ sizeLine; decide, fun pl hpl => ?_⟩
      have plh := (p6.newC hpl).1
      have plc := (p6.newC hpl).2
      have p7 := p6.fresh (o := .lst [.str hd]) hpl
      have s7 := s6.trans (hid_new (S := [hh]) (o := .lst [.str hd]) hpl)
      have e7 : upd H6 pl (.lst [.str hd]) pl = some (.lst [.str hd]) := upd_same
      have pl0 : hid [hh] H pl = none := by
        cases ez : hid [hh] H pl with
        | none => rfl
        | some u =>
          have := hid1 (s6 _ _ ez)
          rw [hpl] at this
          cases this.2
      generalize upd H6 pl (.lst [.str hd]) = H7 at p7 s7 e7 ⊢
      show WP.WB _ _ _ _ _
      refine wb_cons ?_
      refine ws_for passes_bx rfl (pi_range1 (by rfl) mr WP.pa) (by k_memK) ?_
      show WP.WA _ _ _ _ _
      keq_hits
      refine ⟨hh, c, 3, rfl, p7, by decide, by decide, fun k3 ws3 k30 k33 L7 => ?_⟩
      have p8 := HandP.put L7
      have s8 := s7.trans (hid_put (H := H7) (o := .lst ws3) (S := [hh]) (a := hh) (by simp))
      have e8 : upd H7 hh (.lst ws3) pl = some (.lst [.str hd]) := by rw [upd_ne plh]; exact e7
      generalize upd H7 hh (.lst ws3) = H8 at p8 s8 e8 ⊢
      obtain ⟨j3, rfl⟩ : ∃ j : Nat, k3 = j := ⟨k3.toNat, by omega⟩
      keq_hits
      refine ⟨_, rfl, by omega, by omega, ?_⟩
      rw [Int.toNat_natCast]
      have sub2 : ∀ G : Hp, Same (hid [hh, pl] G) (hid [hh] G) := fun G => hid_sub fun a ha => by rw [List.mem_singleton.mp ha]; simp
      refine for_it walk_range (fun i σ H' => ∃ xs ds r8, σ = [some (.ref hh), some (.int ((m + 1 : Nat) : Int)), some (.ref tp), some (.ref ml), some (.ref ol), some (.ref rl), some (.int kd), some (.ref pl), r8] ∧ Same (hid [hh] H) (hid [hh, pl] H') ∧ HandP H' hh c ∧ H' pl = some (.lst xs) ∧ DpAll K (hid [hh, pl] H') xs (.str hd :: ds) ∧ ds.length = i ∧ ∀ d ∈ ds, Tm o r m d)
        ⟨_, [], _, rfl, ?_, p8, e8, .cons (.str _) .nil, rfl, fun d hd' => by cases hd'⟩ (fun _ _ _ _ _ => trivial) ?_ ?_
      · intro b u e9
        have := s8 b u e9
        obtain ⟨bh, e10⟩ := hid1 this
        have bpl : b ≠ pl := fun z => by rw [z, pl0] at e9; cases e9
        rw [hid_out (by simp [bh, bpl])]
        exact e10
      · rintro i x σ H9 H9' hi ⟨xs, ds, r8, rfl, s9, p9, e9, hds, hlen, htm⟩ ⟨rfl, rfl⟩
        show WP.WB _ _ _ _ _
        have lxs := dpAll_len hds
        rw [List.length_cons] at lxs
        keq_hits
        refine i_lstT e9 ?_
        refine wa_cons ?_
        refine we_call' (RW := fun _ _ _ _ => False) DM (Room.mono hr (by omega)) pas_no (by rfl) ?_
        keq_hits
        have em : ((m + 1 : Nat) : Int) - 1 = ((m : Nat) : Int) := by omega
        rw [em]
        keq_hits
        have s9' := s9.trans (sub2 H9')
        refine ⟨hh, c, tp, ml, ol, rl, o, r, ms, rfl, tin.mono s9' p9, ok, fun v d H10 s10 p10 dv tv => ?_⟩
        have e10 : H10 pl = some (.lst xs) := (hid1 (s10 _ _ (by rw [hid_out (by simp [plh])]; exact e9))).2
        have k : OrOk o r := ⟨ok.oL, ok.rL⟩
        have nld := nolist_form d (tv.facts k).f
        have s11 : Same (hid [hh, pl] H9') (hid [hh, pl] H10) := same_more s10 fun a ha => by rw [List.mem_singleton.mp ha]; simp
        keq_hits
        refine i_append e10 (by show _ < 16777216; omega) ?_
        keq_hits
        have s12 : Same (hid [hh, pl] H10) (hid [hh, pl] (upd H10 pl (.lst (xs ++ [v])))) := hid_put (by simp)
        refine ⟨_, ds ++ [d], _, rfl, s9.trans (s11.trans s12), p10.off plh plc, upd_same, ?_, by rw [List.length_append, hlen]; rfl, fun d' hd' => ?_⟩
        · have := dpAll_app (dpAll_mono (s11.trans s12) hds) (DpAll.cons (WP.dp_mono s12 (dp_hid (S := [hh]) (T := [hh, pl]) (D := pl) (fun b hb => by simp at hb ⊢; exact hb) e10 nld dv)) .nil)
          simpa using this
        · rcases List.mem_append.mp hd' with h | h
          · exact htm d' h
          · rw [List.mem_singleton.mp h]
            exact tv
      · rintro σ H9 ⟨xs, ds, r8, rfl, s9, p9, e9, hds, hlen, htm⟩
        show WP.WB _ _ _ _ _
        have lxs := dpAll_len hds
        rw [List.length_cons] at lxs
        have ldm : ds.length ≤ 2 := by omega
        have t9 := tin.mono (s9.trans (sub2 H9)) p9
        refine wb_cons (ws_cut (fun σ' H' => σ' = [some (.ref hh), some (.int ((m + 1 : Nat) : Int)), some (.ref tp), some (.ref ml), some (.ref ol), some (.ref rl), some (.int kd), some (.ref pl), r8] ∧ ∃ xs es, Same (hid [hh] H) (hid [hh, pl] H') ∧ HandP H' hh c ∧ H' pl = some (.lst xs) ∧ DpAll K (hid [hh, pl] H') xs es ∧ Tm o r (m + 1) (.tuple es)) ?_ ?_)
        · obtain ⟨rlh, rv⟩ := hid1 t9.rv
          refine ws_if (wt_mono (QT := fun k H' => (k = true → r ≠ []) ∧ Same (hid [hh, pl] H9) (hid [hh, pl] H') ∧ HandP H' hh c ∧ H' pl = some (.lst xs)) (fun kk H10 ⟨ek3, s10, p10, e10⟩ => ?_) ?_)
          · refine i_ite (fun e3 => ?_) (fun e3 => ?_)
            · have hne := ek3 e3
              have lpos : 0 < r.length := List.length_pos_iff.mpr hne
              keq_hits
              refine i_lstT e10 ?_
              refine wa_cons (we_lst (wa_cons ?_))
              refine we_call' (RW := fun _ _ _ _ => False) DA (Room.mono hr (by omega)) pas_no (by rfl) ?_
              keq_hits
              have t10 := tin.mono ((s9.trans s10).trans (sub2 H10)) p10
              refine ⟨hh, c, rl, _, rfl, p10, rlh, (hid1 t10.rv).2, by rw [List.length_map]; exact lpos, by rw [List.length_map]; have := ok.lr; omega, fun k ws4 v ev L10 => ?_⟩
              obtain ⟨s0, rfl, hs0⟩ : ∃ s0, v = .str s0 ∧ s0 ∈ r := by
                rw [List.getElem?_map] at ev
                cases er : r[k]? with
                | none => rw [er] at ev; cases ev
                | some s0 =>
                  rw [er] at ev
                  cases ev
                  exact ⟨s0, rfl, List.mem_of_getElem? er⟩
              have p11 := HandP.put L10
              have s11 := s10.trans (hid_put (H := H10) (o := .lst ws4) (S := [hh, pl]) (a := hh) (by simp))
              have e11 : upd H10 hh (.lst ws4) pl = some (.lst xs) := by rw [upd_ne plh]; exact e10
              generalize upd H10 hh (.lst ws4) = H11 at p11 s11 e11 ⊢
              keq_hits
              refine ⟨by show 2 ≤ sizeLine; decide, fun lq hlq => ?_⟩
              have p12 := p11.fresh (o := .lst [.str s0, .str "..."]) hlq
              have s12 := s11.trans (hid_new (S := [hh, pl]) (o := .lst [.str s0, .str "..."]) hlq)
              have e12 : upd H11 lq (.lst [.str s0, .str "..."]) pl = some (.lst xs) := Same.new hlq _ _ e11
              have l12 : upd H11 lq (.lst [.str s0, .str "..."]) lq = some (.lst [.str s0, .str "..."]) := upd_same
              generalize upd H11 lq (.lst [.str s0, .str "..."]) = H12 at p12 s12 e12 l12 ⊢
              keq_hits
              refine i_extend e12 l12 (by show xs.length + 2 ≤ 16777216; omega) ?_
              keq_hits
              have s13 : Same (hid [hh, pl] H12) (hid [hh, pl] (upd H12 pl (.lst (xs ++ [.str s0, .str "..."])))) := hid_put (by simp)
              refine ⟨rfl, _, .str hd :: (ds ++ [.str s0, .str "..."]), s9.trans (s12.trans s13), p12.off plh plc, upd_same, ?_, .rep m hd ds s0 hhd ldm htm hs0⟩
              have := dpAll_app (dpAll_mono (s12.trans s13) hds) (DpAll.cons (.str s0) (.cons (.str "...") .nil) : DpAll K (hid [hh, pl] (upd H12 pl (.lst (xs ++ [.str s0, .str "..."])))) [.str s0, .str "..."] [.str s0, .str "..."])
              simpa using this
            · keq_hits
              exact ⟨rfl, xs, .str hd :: ds, s9.trans s10, p10, e10, dpAll_mono s10 hds, .tup m hd ds hhd ldm htm⟩
          · refine wt_ww (ww_and (wt_cmp (op_neD hr.units) rfl ?_))
            keq_hits
            refine ⟨by show 0 ≤ sizeLine; decide, fun p0 hp0 => ?_⟩
            have u2 : Same H9 (upd H9 p0 (.lst [])) := Same.new hp0
            have p10 := p9.fresh (o := .lst []) hp0
            have e2 : upd H9 p0 (.lst []) p0 = some (.lst []) := upd_same
            generalize upd H9 p0 (.lst []) = H10 at u2 p10 e2 ⊢
            refine ⟨_, .list [], .lst (SqL.of (u2 _ _ rv)) (dpAll_strs _), .lst (SqL.of e2) .nil, let9_words ok.rL, by decide +kernel, i_bl ?_⟩
            rw [eqv_nil]
            cases eo : r with
            | nil => exact i_iff rfl ⟨(fun z => nomatch z), same_hid u2, p10, u2 _ _ e9⟩
            | cons s0 r0 =>
              refine i_ift rfl (ww_and1 (wt_cmp op_eq rfl ?_))
              keq_hits
              refine ⟨hh, c, 2, rfl, p10, by decide, by decide, fun k4 ws4 k40 k44 L4 => ?_⟩
              keq_hits
              refine ⟨rfl, i_bl ⟨fun _ => (fun z => nomatch z), (same_hid u2).trans (hid_put (by simp)), HandP.put L4, by rw [upd_ne plh]; exact u2 _ _ e9⟩⟩
        · rintro σ' H10 ⟨rfl, xs', es, s10, p10, e10, hes, htt⟩
          show WP.WB _ _ _ _ _
          keq_hits
          refine we_callTy call_tup (by rfl) mt boot_tuple ?_
          keq_hits
          refine i_tupL e10 fun tq htq => ?_
          have u11 : Same H10 (upd H10 tq (.tup xs')) := Same.new htq
          have ntq : tq ∉ [hh] := by simp [(p10.newC htq).1]
          refine q _ _ _ ((s10.trans (sub2 H10)).trans (same_hid u11)) (p10.fresh htq) ?_ htt
          exact .tup (SqT.of (by rw [hid_out ntq]; exact upd_same)) (dpAll_mono ((sub2 H10).trans (same_hid u11)) hes)
theorem ok_tmpls (F : FnP K "_law_template" 56 f fd) (hm : mg "_law_template" = some (.ref f)) (mr : mg "range" = none) (mt : mg "tuple" = none) (DD : Def P w K mg base 1 "_law_draw" sp_draw) (DA : Def P w K mg base 2 "_law_any" (sp_any K)) :
    ∀ n, Def P w K mg base (n + 3) "_law_template" (sp_tmpl K n) := by
  intro n
  induction n with
  | zero => exact ok_tmpl F hm mr mt DD DA 0 (fun m h => by cases h)
  | succ n ih => exact ok_tmpl F hm mr mt DD DA (n + 1) (fun m h => by cases h; exact ih)
end
end
section
/-! ### _law_macros -/
theorem sqT_hids {K : PySem.W.Frag} {H : Hp} {T : List Addr} {a : Addr} {xs : List V} (hT : ∀ b ∈ T, ∃ ys, H b = some (.lst ys)) (h : SqT K H a xs) : SqT K (hid T H) a xs := by
  have keep : ∀ b o, H b = some o → (∀ zs, o ≠ .lst zs) → hid T H b = some o := fun b o hb hn => by
    rw [hid_out]
    · exact hb
    · intro hbT
      obtain ⟨ys, e⟩ := hT b hbT
      rw [hb] at e
      exact hn _ (Option.some.inj e)
  rcases h with (h | ⟨o, h⟩) | ⟨o, its, n, h, c, r⟩
  · exact .inl (.inl (keep _ _ h (fun _ z => nomatch z)))
  · exact .inl (.inr ⟨o, keep _ _ h (fun _ z => nomatch z)⟩)
  · exact .inr ⟨o, its, n, h, c, r⟩
mutual
theorem dp_hids {K : PySem.W.Frag} {H : Hp} {T : List Addr} (hT : ∀ b ∈ T, ∃ ys, H b = some (.lst ys)) : ∀ {d : PyData} {v : V}, nolist d = true → Dp K H v d → Dp K (hid T H) v d
  | _, _, _, .non => .non
  | _, _, _, .bl b => .bl b
  | _, _, _, .int i => .int i
  | _, _, _, .str x => .str x
  | _, _, n, .lst h g => by simp [nolist] at n
  | _, _, n, .tup h g => .tup (sqT_hids hT h) (dpAll_hids hT (by simpa [nolist] using n) g)
theorem dpAll_hids {K : PySem.W.Frag} {H : Hp} {T : List Addr} (hT : ∀ b ∈ T, ∃ ys, H b = some (.lst ys)) : ∀ {ds : List PyData} {vs : List V}, nolists ds = true → DpAll K H vs ds → DpAll K (hid T H) vs ds
  | _, _, _, .nil => .nil
  | _, _, n, .cons h g => .cons (dp_hids hT (by simp [nolists] at n; exact n.1) h) (dpAll_hids hT (by simp [nolists] at n; exact n.2) g)
end
theorem PsOk.inp {L : List Str} {ps : List Part} (h : PsOk L ps) : InP L 3 ps [] :=
  ⟨by simpa using h.nd, by simpa using h.lt, h.one, h.lit, h.few, by decide⟩
theorem ElP.size {d : PyData} (h : ElP d) : dsize d ≤ 3 := by
  cases h with
  | str s _ => show 1 ≤ 3; omega
  | two a b _ _ => simp [dsize, dsizes]
theorem small_all : ∀ {ds : List PyData}, formBs ds = true → smallD (.tuple ds) = true := fun h => small_forms _ h
theorem rule_ok {L : List Str} (hL : LitsP L) {ps : List Part} (h : PsOk L ps) {t : PyData} (tm : Tm (onceN ps) (oftenN ps) 3 t) : RuleP L (psD ps, t) ∧ goodD L (.tuple (psD ps)) = true ∧ headB t = true := by
  obtain ⟨g1, g2⟩ := tm_ok hL h tm
  obtain ⟨f1, f2⟩ := h.inp.forms
  have k : OrOk (onceN ps) (oftenN ps) := by
    refine ⟨fun s hs => h.lt s ?_, fun s hs => h.lt s ?_⟩
    · obtain ⟨p, hp, hs⟩ := List.mem_flatMap.mp hs
      refine List.mem_flatMap.mpr ⟨p, hp, ?_⟩
      split at hs
      · cases hs
      · exact hs
    · obtain ⟨p, hp, hs⟩ := List.mem_flatMap.mp hs
      refine List.mem_flatMap.mpr ⟨p, hp, ?_⟩
      split at hs
      · exact hs
      · cases hs
  have tf := tm.facts k
  have sz := tf.sz
  rw [szT3] at sz
  have fb : formBs (psD ps) = true := by
    simp only [formBs, Bool.and_eq_true] at f1
    exact f1.2
  have ln := h.inp.len
  rw [List.length_cons] at ln
  have ds := dsizes_all (m := 3) fun d hd => (h.els d hd).size
  refine ⟨⟨⟨small_all f1, ?_, ?_⟩, fb, fun _ => ⟨⟨small_form t tf.f, Nat.le_trans sz (by decide), Nat.le_trans tf.dp (by decide)⟩, tf.f, g2⟩⟩, g1, tf.hd⟩
  · simp only [dsize, dsizes]
    omega
  · simp only [ddep]
    omega
section
variable {P : Program} {w : World} {K : PySem.W.Frag} {mg : Str → Option Value} {base : Heap} {f f2 : Addr} {fd fd2 : FuncData} {C CB CM : Addr} {L : List Str}
def mnpq : List Str := ["m", "n", "p", "q"]
theorem mnpq_ok : ∀ s ∈ mnpq, nameS s = true ∧ s ∈ heads6 ∧ smallD (.str s) = true := by decide +kernel
def sp_lmacros (K : PySem.W.Frag) : Sp := fun vs H Q _ => ∃ (hh c : Addr), vs = [.ref hh] ∧ HandP H hh c ∧ ∀ v H' ms, Same (hid [hh] H) (hid [hh] H') → HandP H' hh c → Dp K (hid [hh] H') v (macsD ms) → MacsOk ms → Heads ms → Q v H'
abbrev NX : List Str := ["hand", "some", "found", "at", "name", "literals", "rules", "seen", "rule", "pattern"]
theorem sq57 : FnScope NX ["hand"] (defScope (top 57)) := ⟨rfl, rfl, rfl, by decide +kernel, rfl, by decide +kernel, by decide +kernel⟩
/-- macros drawn so far -/
structure MacsP (sn : List Str) (i : Nat) (ms : List Mac) : Prop where
  nms : nmsOf ms = sn.take i
  ok : ∀ m ∈ ms, MacOk m
  hd : Heads ms
structure MB (H : Hp) (hh c so : Addr) (sn : List Str) (S : List Addr) (H' : Hp) : Prop where
  g : Same (hid [hh] H) (hid S H')
  hp : HandP H' hh c
  sov : hid S H' so = some (.lst (sn.map V.str))
  hS : hh ∈ S
structure LB (K : PySem.W.Frag) (S : List Addr) (H' : Hp) (hh c l : Addr) (ys : List V) (ds : List PyData) : Prop where
  mem : l ∈ S
  val : H' l = some (.lst ys)
  dat : DpAll K (hid S H') ys ds
  n1 : l ≠ hh
  n2 : l ≠ c
section
variable {H H' H'' : Hp} {hh c so l : Addr} {sn : List Str} {S : List Addr} {ys : List V} {ds : List PyData}
theorem MB.step (b : MB H hh c so sn S H') (s : Same (hid S H') (hid S H'')) (hp : HandP H'' hh c) : MB H hh c so sn S H'' := ⟨b.g.trans s, hp, s _ _ b.sov, b.hS⟩
theorem LB.step (b : LB K S H' hh c l ys ds) (s : Same (hid S H') (hid S H'')) (v : H'' l = some (.lst ys)) : LB K S H'' hh c l ys ds := ⟨b.mem, v, dpAll_mono s b.dat, b.n1, b.n2⟩
theorem MB.new (b : MB H hh c so sn S H') {p : Addr} {o : HO} (hp : H' p = none) : MB H hh c so sn S (upd H' p o) := b.step (hid_new hp) (b.hp.fresh hp)
theorem LB.new (b : LB K S H' hh c l ys ds) {p : Addr} {o : HO} (hp : H' p = none) : LB K S (upd H' p o) hh c l ys ds := b.step (hid_new hp) (Same.new hp _ _ b.val)
theorem MB.draw (b : MB H hh c so sn S H') {ws : List V} (L : HandL H' hh c ws) : MB H hh c so sn S (upd H' hh (.lst ws)) := b.step (hid_put b.hS) (HandP.put L)
theorem LB.draw (b : LB K S H' hh c l ys ds) {ws : List V} (hS : hh ∈ S) : LB K S (upd H' hh (.lst ws)) hh c l ys ds := b.step (hid_put hS) (by rw [upd_ne b.n1]; exact b.val)
theorem MB.call (b : MB H hh c so sn S H') (s : Same (hid [hh] H') (hid [hh] H'')) (hp : HandP H'' hh c) : MB H hh c so sn S H'' := b.step (same_more s fun a ha => by rw [List.mem_singleton.mp ha]; exact b.hS) hp
theorem LB.call (b : LB K S H' hh c l ys ds) (s : Same (hid [hh] H') (hid [hh] H'')) (hS : hh ∈ S) : LB K S H'' hh c l ys ds :=
  b.step (same_more s fun a ha => by rw [List.mem_singleton.mp ha]; exact hS) (hid1 (s _ _ (by rw [hid_out (by simp [b.n1])]; exact b.val))).2
theorem MB.pat (b : MB H hh c so sn S H') {nl : Addr} {o : HO} (hn : H' nl = none) (s : Same (hid [hh, nl] (upd H' nl o)) (hid [hh, nl] H'')) : Same (hid S H') (hid S H'') := fun a u e => by
  have haS : a ∉ S := fun z => by rw [hid_in z] at e; cases e
  rw [hid_out haS] at e ⊢
  have hn2 : a ≠ nl := fun z => by rw [z, hn] at e; cases e
  have hh2 : a ≠ hh := fun z => haS (by rw [z]; exact b.hS)
  have := s a u (by rw [hid_out (by simp [hn2, hh2]), upd_ne hn2]; exact e)
  rwa [hid_out (by simp [hn2, hh2])] at this
theorem pat_val {nl : Addr} {o : HO} {zs : List V} (h : H' l = some (.lst zs)) (n1 : l ≠ hh) (hn : H' nl = none) (s : Same (hid [hh, nl] (upd H' nl o)) (hid [hh, nl] H'')) : H'' l = some (.lst zs) := by
  have hn2 : l ≠ nl := fun z => by rw [z, hn] at h; cases h
  have := s l _ (by rw [hid_out (by simp [hn2, n1]), upd_ne hn2]; exact h)
  rwa [hid_out (by simp [hn2, n1])] at this
theorem MB.grow (b : MB H hh c so sn S H') {p : Addr} {o : HO} (hp : H' p = none) : MB H hh c so sn (S ++ [p]) (upd H' p o) := by
  have s : Same (hid S H') (hid (S ++ [p]) (upd H' p o)) := hid_grow (Same.new hp) fun a ha => by
    rcases List.mem_append.mp ha with h | h
    · exact .inl h
    · rw [List.mem_singleton.mp h]
      exact .inr hp
  exact ⟨b.g.trans s, b.hp.fresh hp, s _ _ b.sov, by simp [b.hS]⟩
theorem LB.grow (b : LB K S H' hh c l ys ds) {p : Addr} {o : HO} (hp : H' p = none) : LB K (S ++ [p]) (upd H' p o) hh c l ys ds := by
  have s : Same (hid S H') (hid (S ++ [p]) (upd H' p o)) := hid_grow (Same.new hp) fun a ha => by
    rcases List.mem_append.mp ha with h | h
    · exact .inl h
    · rw [List.mem_singleton.mp h]
      exact .inr hp
  exact ⟨by simp [b.mem], Same.new hp _ _ b.val, dpAll_mono s b.dat, b.n1, b.n2⟩
theorem MB.sub {T : List Addr} (b : MB H hh c so sn T H') (h : ∀ a ∈ S, a ∈ T) (hS : hh ∈ S) : MB H hh c so sn S H' := ⟨b.g.trans (hid_sub h), b.hp, hid_sub h _ _ b.sov, hS⟩
theorem LB.sub {T : List Addr} (b : LB K T H' hh c l ys ds) (h : ∀ a ∈ S, a ∈ T) (hl : l ∈ S) : LB K S H' hh c l ys ds := ⟨hl, b.val, dpAll_mono (hid_sub h) b.dat, b.n1, b.n2⟩
theorem LB.put (b : LB K S H' hh c l ys ds) {v : V} {d : PyData} (hd : Dp K (hid S H') v d) : LB K S (upd H' l (.lst (ys ++ [v]))) hh c l (ys ++ [v]) (ds ++ [d]) := by
  have s : Same (hid S H') (hid S (upd H' l (.lst (ys ++ [v])))) := hid_put b.mem
  exact ⟨b.mem, upd_same, dpAll_app (dpAll_mono s b.dat) (.cons (WP.dp_mono s hd) .nil), b.n1, b.n2⟩
theorem MB.put (b : MB H hh c so sn S H') (hl : l ∈ S) (n1 : l ≠ hh) (n2 : l ≠ c) {zs : List V} : MB H hh c so sn S (upd H' l (.lst zs)) := b.step (hid_put hl) (b.hp.off n1 n2)
end
structure IB (K : PySem.W.Frag) (H : Hp) (hh c so : Addr) (sn : List Str) (fo rl : Addr) (Ds : List (V × PyData)) (Ex : List (Addr × HO)) (H' : Hp) (xs : List V) (ds : List PyData) (ys : List V) (rs : List PyData) : Prop where
  mb : MB H hh c so sn [hh, fo, rl] H'
  lb : LB K [hh, fo, rl] H' hh c fo xs ds
  rb : LB K [hh, fo, rl] H' hh c rl ys rs
  dt : ∀ e ∈ Ds, Dp K (hid [hh, fo, rl] H') e.1 e.2
  ex : ∀ e ∈ Ex, hid [hh, fo, rl] H' e.1 = some e.2
section
variable {H H' H'' : Hp} {hh c so fo rl : Addr} {sn : List Str} {Ds : List (V × PyData)} {Ex : List (Addr × HO)} {xs ys : List V} {ds rs : List PyData}
theorem IB.step (b : IB K H hh c so sn fo rl Ds Ex H' xs ds ys rs) (s : Same (hid [hh, fo, rl] H') (hid [hh, fo, rl] H'')) (hp : HandP H'' hh c) (v1 : H'' fo = some (.lst xs)) (v2 : H'' rl = some (.lst ys)) : IB K H hh c so sn fo rl Ds Ex H'' xs ds ys rs :=
  ⟨b.mb.step s hp, b.lb.step s v1, b.rb.step s v2, fun e he => WP.dp_mono s (b.dt e he), fun e he => s _ _ (b.ex e he)⟩
theorem IB.new (b : IB K H hh c so sn fo rl Ds Ex H' xs ds ys rs) {p : Addr} {o : HO} (hp : H' p = none) : IB K H hh c so sn fo rl Ds Ex (upd H' p o) xs ds ys rs :=
  b.step (hid_new hp) (b.mb.hp.fresh hp) (Same.new hp _ _ b.lb.val) (Same.new hp _ _ b.rb.val)
theorem IB.newE (b : IB K H hh c so sn fo rl Ds Ex H' xs ds ys rs) {p : Addr} {o : HO} (hp : H' p = none) : IB K H hh c so sn fo rl Ds ((p, o) :: Ex) (upd H' p o) xs ds ys rs := by
  obtain ⟨m, l, r, d, e⟩ := b.new (o := o) hp
  refine ⟨m, l, r, d, fun x hx => ?_⟩
  rcases List.mem_cons.mp hx with rfl | hx
  · show hid [hh, fo, rl] (upd H' p o) p = some o
    rw [hid_out]
    · exact upd_same
    · simp only [List.mem_cons, List.not_mem_nil, or_false, not_or]
      exact ⟨(b.mb.hp.newC hp).1, (fun z => by rw [z, b.lb.val] at hp; cases hp), (fun z => by rw [z, b.rb.val] at hp; cases hp)⟩
  · exact e x hx
theorem IB.draw (b : IB K H hh c so sn fo rl Ds Ex H' xs ds ys rs) {ws : List V} (L : HandL H' hh c ws) : IB K H hh c so sn fo rl Ds Ex (upd H' hh (.lst ws)) xs ds ys rs :=
  b.step (hid_put (by simp)) (HandP.put L) (by rw [upd_ne b.lb.n1]; exact b.lb.val) (by rw [upd_ne b.rb.n1]; exact b.rb.val)
theorem IB.call (b : IB K H hh c so sn fo rl Ds Ex H' xs ds ys rs) (s : Same (hid [hh] H') (hid [hh] H'')) (hp : HandP H'' hh c) : IB K H hh c so sn fo rl Ds Ex H'' xs ds ys rs :=
  b.step (same_more s fun a ha => by rw [List.mem_singleton.mp ha]; simp) hp (hid1 (s _ _ (by rw [hid_out (by simp [b.lb.n1])]; exact b.lb.val))).2 (hid1 (s _ _ (by rw [hid_out (by simp [b.rb.n1])]; exact b.rb.val))).2
theorem IB.same (b : IB K H hh c so sn fo rl Ds Ex H' xs ds ys rs) (s : Same H' H'') : IB K H hh c so sn fo rl Ds Ex H'' xs ds ys rs := b.call (same_hid s) (b.mb.hp.same s)
theorem IB.pat (b : IB K H hh c so sn fo rl Ds Ex H' xs ds ys rs) {nl : Addr} {o : HO} (hn : H' nl = none) (s : Same (hid [hh, nl] (upd H' nl o)) (hid [hh, nl] H'')) (hp : HandP H'' hh c) : IB K H hh c so sn fo rl Ds Ex H'' xs ds ys rs :=
  b.step (b.mb.pat hn s) hp (pat_val b.lb.val b.lb.n1 hn s) (pat_val b.rb.val b.rb.n1 hn s)
theorem IB.lists (b : IB K H hh c so sn fo rl Ds Ex H' xs ds ys rs) : ∀ a ∈ [hh, fo, rl], ∃ zs, H' a = some (.lst zs) := fun a ha => by
  simp only [List.mem_cons, List.not_mem_nil, or_false] at ha
  rcases ha with rfl | rfl | rfl
  · exact b.mb.hp.hh
  · exact ⟨_, b.lb.val⟩
  · exact ⟨_, b.rb.val⟩
theorem IB.addD (b : IB K H hh c so sn fo rl Ds Ex H' xs ds ys rs) {v : V} {d : PyData} (n : nolist d = true) (h : Dp K H' v d) : IB K H hh c so sn fo rl ((v, d) :: Ds) Ex H' xs ds ys rs := by
  refine ⟨b.mb, b.lb, b.rb, fun e he => ?_, b.ex⟩
  rcases List.mem_cons.mp he with rfl | he
  · exact dp_hids b.lists n h
  · exact b.dt e he
theorem IB.putR (b : IB K H hh c so sn fo rl Ds Ex H' xs ds ys rs) (hne : rl ≠ fo) {v : V} {d : PyData} (hd : Dp K (hid [hh, fo, rl] H') v d) : IB K H hh c so sn fo rl Ds Ex (upd H' rl (.lst (ys ++ [v]))) xs ds (ys ++ [v]) (rs ++ [d]) := by
  have s : Same (hid [hh, fo, rl] H') (hid [hh, fo, rl] (upd H' rl (.lst (ys ++ [v])))) := hid_put (by simp)
  exact ⟨b.mb.step s (b.mb.hp.off b.rb.n1 b.rb.n2), b.lb.step s (by rw [upd_ne hne.symm]; exact b.lb.val), b.rb.put hd, fun e he => WP.dp_mono s (b.dt e he), fun e he => s _ _ (b.ex e he)⟩
theorem IB.drop (b : IB K H hh c so sn fo rl Ds Ex H' xs ds ys rs) {Ds' : List (V × PyData)} {Ex' : List (Addr × HO)} (h1 : ∀ e ∈ Ds', e ∈ Ds) (h2 : ∀ e ∈ Ex', e ∈ Ex) : IB K H hh c so sn fo rl Ds' Ex' H' xs ds ys rs := ⟨b.mb, b.lb, b.rb, fun e he => b.dt e (h1 e he), fun e he => b.ex e (h2 e he)⟩
theorem IB.at_ (b : IB K H hh c so sn fo rl Ds Ex H' xs ds ys rs) {a : Addr} {o : HO} (h : (a, o) ∈ Ex) : H' a = some o := hid_same _ _ (b.ex _ h)
end
theorem ok_lmacros (F : FnP K "_law_macros" 57 f fd) (hm : mg "_law_macros" = some (.ref f)) (mr : mg "range" = none) (me : mg "enumerate" = none) (mt : mg "tuple" = none) (mli : BTy mg "list" "list") (DD : Def P w K mg base 1 "_law_draw" sp_draw) (DA : Def P w K mg base 2 "_law_any" (sp_any K))
    (DM : Def P w K mg base 2 "_law_mixed" sp_mixed) (DP : Def P w K mg base 3 "_law_pattern" (sp_pat K)) (DR : Def P w K mg base 1 "_law_repeats" (sp_repeats K)) (DT : Def P w K mg base 6 "_law_template" (sp_tmpl K 3)) : Def P w K mg base 7 "_law_macros" (sp_lmacros K) := by
  refine Def.mk' F hm sq57 (fun vs H Q E h => ?_) (fun _ _ _ _ _ _ us hl => match us, hl with | [_], _ => rfl) (fun cdv A outer s H vs Q E hr tk h => ?_)
  · obtain ⟨hh, c, rfl, _⟩ := h
    rfl
  · obtain ⟨hh, c, rfl, hp, q⟩ := h
    have nd := sq57.nd
    refine wb_cons (ws_par 1 2 rfl nd rfl rfl (by decide) rfl rfl (by rfl) ?_)
    refine we_slH sl_list ?_
    keq_hits
    refine ⟨by show 4 ≤ sizeLine; decide, fun b1 hb1 => ?_⟩
    have u1 : Same H (upd H b1 (.lst [.str "m", .str "n", .str "p", .str "q"])) := Same.new hb1
    have e1 : upd H b1 (.lst [.str "m", .str "n", .str "p", .str "q"]) b1 = some (.lst (mnpq.map V.str)) := upd_same
    have p1 := hp.fresh (o := .lst [.str "m", .str "n", .str "p", .str "q"]) hb1
    have b1h := (hp.newC hb1).1
    generalize upd H b1 (.lst [.str "m", .str "n", .str "p", .str "q"]) = H1 at u1 e1 p1 ⊢
    keq_hits
    refine ⟨hh, c, b1, mnpq, rfl, p1, b1h, e1, by decide, fun s hs => (mnpq_ok s hs).1, fun b2 nn H2 s2 p2 hb2 e2 hpm => ?_⟩
    have s02 := (same_hid (S := [hh]) u1).trans s2
    keq_hits
    refine we_op op_add ?_
    keq_hits
    refine ⟨hh, c, 4, rfl, p2, by decide, by decide, fun k4 ws4 k40 k44 L4 => ?_⟩
    have p3 := HandP.put L4
    have b2h : b2 ≠ hh := p1.new_ne (Same.refl _) hb2
    have e3 : upd H2 hh (.lst ws4) b2 = some (.lst (nn.map V.str)) := by rw [upd_ne b2h]; exact e2
    have s03 := s02.trans (hid_put (H := H2) (o := .lst ws4) (S := [hh]) (a := hh) (by simp))
    generalize upd H2 hh (.lst ws4) = H3 at p3 e3 s03 ⊢
    obtain ⟨j4, rfl⟩ : ∃ j : Nat, k4 = j := ⟨k4.toNat, by omega⟩
    keq_hits
    have ej : (1 : Int) + (j4 : Int) = ((1 + j4 : Nat) : Int) := by omega
    rw [ej]
    refine ⟨_, rfl, b2, _, rfl, SqL.of e3, fun so hso => ?_⟩
    rw [cutV_to, ← List.map_take]
    obtain ⟨sn, hsn⟩ : ∃ sn, nn.take (1 + j4) = sn := ⟨_, rfl⟩
    rw [hsn]
    have hnn4 : nn.length = 4 := hpm.length_eq
    have sub : ∀ s ∈ sn, s ∈ mnpq := fun s hs => hpm.subset (List.mem_of_mem_take (by rw [hsn]; exact hs))
    have snd : sn.Nodup := by
      rw [← hsn]
      exact (hpm.nodup_iff.mpr (by decide +kernel)).sublist (List.take_sublist _ _)
    have snl : 1 ≤ sn.length ∧ sn.length ≤ 4 := by
      rw [← hsn, List.length_take]
      omega
    have s04 := s03.trans (hid_new (S := [hh]) (o := .lst (sn.map V.str)) hso)
    have p4 := p3.fresh (o := .lst (sn.map V.str)) hso
    have soh := (p3.newC hso).1
    have e4 : upd H3 so (.lst (sn.map V.str)) so = some (.lst (sn.map V.str)) := upd_same
    generalize upd H3 so (.lst (sn.map V.str)) = H4 at s04 p4 e4 ⊢
    keq_hits
    refine ⟨by show 0 ≤ sizeLine; decide, fun fo hfo => ?_⟩
    have foh := (p4.newC hfo).1
    have foc := (p4.newC hfo).2
    have sofo : so ≠ fo := fun z => by rw [z, hfo] at e4; cases e4
    have s05 := s04.trans (hid_new (S := [hh]) (o := .lst []) hfo)
    have p5 := p4.fresh (o := .lst []) hfo
    have e5 : upd H4 fo (.lst []) so = some (.lst (sn.map V.str)) := Same.new hfo _ _ e4
    have f5 : upd H4 fo (.lst []) fo = some (.lst []) := upd_same
    have fo0 : hid [hh] H fo = none := by
      cases ez : hid [hh] H fo with
      | none => rfl
      | some u =>
        have := hid1 (s04 _ _ ez)
        rw [hfo] at this
        cases this.2
    generalize upd H4 fo (.lst []) = H5 at s05 p5 e5 f5 ⊢
    have s5' : Same (hid [hh] H) (hid [hh, fo] H5) := fun b u e9 => by
      have := s05 b u e9
      obtain ⟨bh, e10⟩ := hid1 this
      have bpl : b ≠ fo := fun z => by rw [z, fo0] at e9; cases e9
      rw [hid_out (by simp [bh, bpl])]
      exact e10
    keq_hits
    refine ws_for passes_bx rfl (pi_enum (by rfl) me WP.pa) (by k_memK) ?_
    show WP.WA _ _ _ _ _
    keq_hits
    refine ⟨so, _, rfl, SqL.of e5, ?_⟩
    have mb5 : MB H hh c so sn [hh, fo] H5 := ⟨s5', p5, by rw [hid_out (by simp [soh, sofo])]; exact e5, by simp⟩
    have lb5 : LB K [hh, fo] H5 hh c fo [] [] := ⟨by simp, f5, .nil, foh, foc⟩
    refine for_it (walk_enum (K := K) (a := so) (xs := sn.map V.str)) (fun i σ H' => ∃ xs ms r3 r4 r5 r6 r7 r8 r9, σ = [some (.ref hh), some (.ref so), some (.ref fo), r3, r4, r5, r6, r7, r8, r9] ∧ MB H hh c so sn [hh, fo] H' ∧ LB K [hh, fo] H' hh c fo xs (ms.map macD) ∧ MacsP sn i ms)
      ⟨_, [], _, _, _, _, _, _, _, rfl, mb5, lb5, ⟨rfl, (fun m h => by cases h), (fun m h => by cases h)⟩⟩ (fun i σ H' _ ⟨_, _, _, _, _, _, _, _, _, _, mb, _⟩ => SqL.of (hid_same _ _ mb.sov)) ?_ ?_
    · rintro i x σ H6 H6' hi ⟨xs, ms, r3, r4, r5, r6, r7, r8, r9, rfl, mb, lb, mp⟩ ⟨T, x0, y, rfl, hT, rfl, ex, ey⟩
      rw [List.length_map] at hi
      have hnm : sn[i] ∈ sn := List.getElem_mem hi
      have ety : y = .str sn[i] := by
        have ey : (sn.map V.str)[i]? = some y := ey
        rw [List.getElem?_map, List.getElem?_eq_getElem hi] at ey
        exact (Option.some.inj ey).symm
      have etk : sn.take (i + 1) = sn.take i ++ [sn[i]] := by rw [List.take_add_one, List.getElem?_eq_getElem hi]; rfl
      generalize sn[i] = nm at hnm ety etk
      subst ety
      cases ex
      obtain ⟨nk1, nk2, nk3⟩ := mnpq_ok nm (sub nm hnm)
      refine i_two (SqT.of upd_same) ?_
      have mb7 := mb.new (o := .tup [.int (i : Nat), .str nm]) hT
      have lb7 := lb.new (o := .tup [.int (i : Nat), .str nm]) hT
      generalize upd H6 T (.tup [.int (i : Nat), .str nm]) = H7 at mb7 lb7 ⊢
      show WP.WB _ _ _ _ _
      refine wb_cons (ws_par 5 6 rfl nd rfl rfl (by decide) rfl rfl (by rfl) ?_)
      keq_hits
      refine ⟨by show 0 ≤ sizeLine; decide, fun t0 ht0 => ?_⟩
      have mb8 := mb7.new (o := .tup []) ht0
      have lb8 := lb7.new (o := .tup []) ht0
      have t08 : upd H7 t0 (.tup []) t0 = some (.tup []) := upd_same
      generalize upd H7 t0 (.tup []) = H8 at mb8 lb8 t08 ⊢
      keq_hits
      refine ⟨by show 1 ≤ sizeLine; decide, fun t1 ht1 => ?_⟩
      have u9 : Same H8 (upd H8 t1 (.tup [.str "else"])) := Same.new ht1
      have mb9 := mb8.new (o := .tup [.str "else"]) ht1
      have lb9 := lb8.new (o := .tup [.str "else"]) ht1
      have t09 := u9 _ _ t08
      have t19 : upd H8 t1 (.tup [.str "else"]) t1 = some (.tup [.str "else"]) := upd_same
      generalize upd H8 t1 (.tup [.str "else"]) = H9 at mb9 lb9 t09 t19 ⊢
      keq_hits
      refine ⟨by show 2 ≤ sizeLine; decide, fun l1 hl1 => ?_⟩
      have u10 : Same H9 (upd H9 l1 (.lst [.ref t0, .ref t1])) := Same.new hl1
      have mb10 := mb9.new (o := .lst [.ref t0, .ref t1]) hl1
      have lb10 := lb9.new (o := .lst [.ref t0, .ref t1]) hl1
      have t010 := u10 _ _ t09
      have t110 := u10 _ _ t19
      have l110 : upd H9 l1 (.lst [.ref t0, .ref t1]) l1 = some (.lst [.ref t0, .ref t1]) := upd_same
      have l1h := (mb9.hp.newC hl1).1
      generalize upd H9 l1 (.lst [.ref t0, .ref t1]) = H10 at mb10 lb10 t010 t110 l110 ⊢
      keq_hits
      refine ⟨hh, c, l1, _, rfl, mb10.hp, l1h, l110, by simp, by simp, fun kl wsl lv evl Ll => ?_⟩
      obtain ⟨hvs, hhv⟩ := mb10.hp.hh
      have nt0 : t0 ≠ hh := fun z => by rw [z, hhv] at t010; cases t010
      have nt1 : t1 ≠ hh := fun z => by rw [z, hhv] at t110; cases t110
      have nf0 : t0 ≠ fo := fun z => by rw [z, lb10.val] at t010; cases t010
      have nf1 : t1 ≠ fo := fun z => by rw [z, lb10.val] at t110; cases t110
      obtain ⟨L, hL, hL1, hlits, hlv⟩ : ∃ L : List Str, LitsP L ∧ L.length ≤ 1 ∧ LitsOk L ∧ Dp K (hid [hh, fo] (upd H10 hh (.lst wsl))) lv (.tuple (L.map .str)) := by
        match kl, evl with
        | 0, evl =>
          cases evl
          exact ⟨[], (fun s hs => by cases hs), by decide, ⟨by decide, (fun s hs => by cases hs), .nil⟩, .tup (SqT.of (by rw [hid_out (by simp [nt0, nf0]), upd_ne nt0]; exact t010)) .nil⟩
        | 1, evl =>
          cases evl
          exact ⟨["else"], (fun s hs => by simpa using hs), by decide, ⟨by decide, (fun s hs => by rw [List.mem_singleton.mp hs]; decide +kernel), by decide +kernel⟩, .tup (SqT.of (by rw [hid_out (by simp [nt1, nf1]), upd_ne nt1]; exact t110)) (.cons (.str _) .nil)⟩
        | kl + 2, evl => simp at evl
      have mb11 := mb10.draw Ll
      have lb11 := lb10.draw (ws := wsl) (by simp)
      generalize upd H10 hh (.lst wsl) = H11 at mb11 lb11 hlv ⊢
      keq_hits
      refine ⟨by show 0 ≤ sizeLine; decide, fun rl hrl => ?_⟩
      have rlh := (mb11.hp.newC hrl).1
      have rlc := (mb11.hp.newC hrl).2
      have rlfo : rl ≠ fo := fun z => by rw [z, lb11.val] at hrl; cases hrl
      have mb12 := mb11.grow (o := .lst []) hrl
      have lb12 := lb11.grow (o := .lst []) hrl
      have hlv12 : Dp K (hid [hh, fo, rl] (upd H11 rl (.lst []))) lv (.tuple (L.map .str)) := WP.dp_mono (hid_grow (Same.new hrl) fun a ha => by
        simp only [List.mem_cons, List.not_mem_nil, or_false] at ha
        rcases ha with rfl | rfl | rfl
        · exact .inl (by simp)
        · exact .inl (by simp)
        · exact .inr hrl) hlv
      have rb12 : LB K [hh, fo, rl] (upd H11 rl (.lst [])) hh c rl [] [] := ⟨by simp, upd_same, .nil, rlh, rlc⟩
      have mb12 : MB H hh c so sn [hh, fo, rl] (upd H11 rl (.lst [])) := mb12
      have lb12 : LB K [hh, fo, rl] (upd H11 rl (.lst [])) hh c fo xs (ms.map macD) := lb12
      generalize upd H11 rl (.lst []) = H12 at mb12 lb12 hlv12 rb12 ⊢
      have ib : IB K H hh c so sn fo rl [(lv, .tuple (L.map .str))] [] H12 xs (ms.map macD) [] [] := ⟨mb12, lb12, rb12, (fun e he => by rw [List.mem_singleton.mp he]; exact hlv12), (fun e he => by cases he)⟩
      clear mb lb mb7 lb7 mb8 lb8 mb9 lb9 mb10 lb10 mb11 lb11 mb12 lb12 rb12 hlv hlv12
      have sov12 : H12 so = some (.lst (sn.map V.str)) := hid_same _ _ ib.mb.sov
      show WP.WB _ _ _ _ _
      keq_hits
      refine we_slH sl_list ?_
      keq_hits
      refine ⟨_, rfl, so, _, rfl, SqL.of sov12, fun s1 hs1 => ?_⟩
      rw [cutV_to, ← List.map_take]
      have ib13 := ib.newE (o := .lst ((sn.take i).map V.str)) hs1
      generalize upd H12 s1 (.lst ((sn.take i).map V.str)) = H13 at ib13 ⊢
      keq_hits
      refine we_slH sl_list ?_
      keq_hits
      refine we_op op_add ?_
      keq_hits
      refine ⟨_, rfl, so, _, rfl, SqL.of (hid_same _ _ ib13.mb.sov), fun s2 hs2 => ?_⟩
      rw [show (i : Int) + 1 = ((i + 1 : Nat) : Int) by omega, cutV_to, ← List.map_take]
      have ib14 := ib13.newE (o := .lst ((sn.take (i + 1)).map V.str)) hs2
      generalize upd H13 s2 (.lst ((sn.take (i + 1)).map V.str)) = H14 at ib14 ⊢
      keq_hits
      refine we_slH sl_list ?_
      keq_hits
      refine we_op op_add ?_
      keq_hits
      refine ⟨_, rfl, so, _, rfl, SqL.of (hid_same _ _ ib14.mb.sov), fun s3 hs3 => ?_⟩
      rw [show (i : Int) + 1 = ((i + 1 : Nat) : Int) by omega, cutV_to, ← List.map_take]
      have ib15 := ib14.newE (o := .lst ((sn.take (i + 1)).map V.str)) hs3
      generalize upd H14 s3 (.lst ((sn.take (i + 1)).map V.str)) = H15 at ib15 ⊢
      keq_hits
      refine ⟨by show 4 ≤ sizeLine; decide, fun l4 hl4 => ?_⟩
      have l4h := (ib15.mb.hp.newC hl4).1
      have ib16 := ib15.newE (o := .lst [.ref s1, .ref s2, .ref s3, .ref so]) hl4
      generalize upd H15 l4 (.lst [.ref s1, .ref s2, .ref s3, .ref so]) = H16 at ib16 ⊢
      keq_hits
      refine ⟨hh, c, l4, _, rfl, ib16.mb.hp, l4h, ib16.at_ (o := .lst [.ref s1, .ref s2, .ref s3, .ref so]) (List.mem_cons_self ..), by simp, by simp, fun kx wsx sv evx Lx => ?_⟩
      have ib17 := ib16.draw Lx
      generalize upd H16 hh (.lst wsx) = H17 at ib17 ⊢
      obtain ⟨sa, sl, rfl, hsl, hsub, lsl⟩ : ∃ (sa : Addr) (sl : List Str), sv = .ref sa ∧ hid [hh, fo, rl] H17 sa = some (.lst (sl.map V.str)) ∧ (∀ s ∈ sl, s ∈ sn) ∧ sl.length ≤ 100 := by
        match kx, evx with
        | 0, ev => cases ev; exact ⟨s1, _, rfl, ib17.ex (s1, .lst ((sn.take i).map V.str)) (by simp), (fun s hs => List.mem_of_mem_take hs), Nat.le_trans (List.length_take_le _ _) (by omega)⟩
        | 1, ev => cases ev; exact ⟨s2, _, rfl, ib17.ex (s2, .lst ((sn.take (i + 1)).map V.str)) (by simp), (fun s hs => List.mem_of_mem_take hs), Nat.le_trans (List.length_take_le _ _) (by omega)⟩
        | 2, ev => cases ev; exact ⟨s3, _, rfl, ib17.ex (s3, .lst ((sn.take (i + 1)).map V.str)) (by simp), (fun s hs => List.mem_of_mem_take hs), Nat.le_trans (List.length_take_le _ _) (by omega)⟩
        | 3, ev => cases ev; exact ⟨so, sn, rfl, ib17.mb.sov, (fun s hs => hs), by omega⟩
        | kx + 4, ev => simp at ev
      have ib18 : IB K H hh c so sn fo rl [(lv, .tuple (L.map .str))] [(sa, .lst (sl.map V.str))] H17 xs (ms.map macD) [] [] := by
        have z := ib17.drop (Ds' := [(lv, .tuple (L.map .str))]) (Ex' := []) (fun e he => he) (fun e he => by cases he)
        exact ⟨z.mb, z.lb, z.rb, z.dt, (fun e he => by rw [List.mem_singleton.mp he]; exact hsl)⟩
      clear ib ib13 ib14 ib15 ib16 ib17
      show WP.WB _ _ _ _ _
      refine wb_cons ?_
      refine ws_for passes_bx rfl (pi_range1 (by rfl) mr WP.pa) (by k_memK) ?_
      show WP.WA _ _ _ _ _
      keq_hits
      refine we_op op_add ?_
      keq_hits
      refine ⟨hh, c, 2, rfl, ib18.mb.hp, by decide, by decide, fun k2 ws2 k20 k22 Lk => ?_⟩
      have ib19 := ib18.draw Lk
      generalize upd H17 hh (.lst ws2) = H19 at ib19 ⊢
      obtain ⟨j2, rfl⟩ : ∃ j : Nat, k2 = j := ⟨k2.toNat, by omega⟩
      have ej2 : (1 : Int) + (j2 : Int) = ((1 + j2 : Nat) : Int) := by omega
      keq_hits
      rw [ej2]
      keq_hits
      refine ⟨_, rfl, by omega, by omega, ?_⟩
      rw [Int.toNat_natCast]
      refine for_it walk_range (fun t σ H' => ∃ ys rs r8 r9, σ = [some (.ref hh), some (.ref so), some (.ref fo), some (.int (i : Int)), some (.str nm), some lv, some (.ref rl), some (.ref sa), r8, r9] ∧ IB K H hh c so sn fo rl [(lv, .tuple (L.map .str))] [(sa, .lst (sl.map V.str))] H' xs (ms.map macD) ys (rs.map ruleD) ∧ rs.length = t ∧ ∀ r ∈ rs, RuleP L r ∧ goodD L (.tuple r.1) = true ∧ headB r.2 = true)
        ⟨_, [], _, _, rfl, ib19, rfl, (fun r h => by cases h)⟩ (fun _ _ _ _ _ => trivial) ?_ ?_
      · rintro tt x σ H20 H20' htt ⟨ys, rs, r8', r9', rfl, ib20, lrs, hrs⟩ ⟨rfl, rfl⟩
        have lys := dpAll_len ib20.rb.dat
        rw [List.length_map] at lys
        show WP.WB _ _ _ _ _
        keq_hits
        refine ⟨by show 9 ≤ sizeLine; decide, fun nl hnl => ?_⟩
        have nlh := (ib20.mb.hp.newC hnl)
        have un : Same H20' (upd H20' nl (.lst [.str "a", .str "b", .str "c", .str "d", .str "e", .str "f", .str "g", .str "h", .str "i"])) := Same.new hnl
        have hnl1 : upd H20' nl (.lst [.str "a", .str "b", .str "c", .str "d", .str "e", .str "f", .str "g", .str "h", .str "i"]) nl = some (.lst (let9.map V.str)) := upd_same
        have hlv0 : Dp K H20' lv (.tuple (L.map .str)) := WP.dp_mono hid_same (ib20.dt (lv, .tuple (L.map .str)) (by simp))
        have hnlist : nolist (.tuple (L.map PyData.str)) = true := by
          refine nolist_form _ (forms_all (ds := L.map PyData.str) fun d hd => ?_)
          obtain ⟨s, hs, rfl⟩ := List.mem_map.mp hd
          rw [hL s hs]
          decide +kernel
        have hpn := ib20.mb.hp.same un
        keq_hits
        refine ⟨hh, c, nl, lv, L, rfl, hpn, hnl1, nlh.1, nlh.2, dp_hids (fun a ha => by
          simp only [List.mem_cons, List.not_mem_nil, or_false] at ha
          rcases ha with rfl | rfl
          · exact hpn.hh
          · exact ⟨_, hnl1⟩) hnlist (WP.dp_mono un hlv0), hL, hL1, fun pv H21 ps s21 hp21 dpv hps => ?_⟩
        have ib21 := ib20.pat hnl s21 hp21
        obtain ⟨fm1, fm2⟩ := hps.inp.forms
        have nlp : nolist (.tuple (.str "_" :: psD ps)) = true := nolist_form _ fm1
        have ib22 := ib21.addD nlp (WP.dp_mono hid_same dpv)
        clear ib21 ib20
        show WP.WB _ _ _ _ _
        keq_hits
        refine i_lstT ib22.rb.val ?_
        refine wa_cons (we_tup ?_)
        keq_hits
        have fb : formBs (psD ps) = true := by
          simp only [formBs, Bool.and_eq_true] at fm1
          exact fm1.2
        have lpd := hps.inp.len
        rw [List.length_cons] at lpd
        refine ⟨pv, L, ps, rfl, WP.dp_mono hid_same (ib22.dt (pv, .tuple (.str "_" :: psD ps)) (by simp)), hps, by omega, fb, by simp only [ddeps] at fm2; omega, fun tp H23 ol rl2 s23 htp hol hrl ho0 hr0 => ?_⟩
        have ib23 := ib22.same s23
        have olh : ol ≠ hh := ib22.mb.hp.new_ne (Same.refl _) ho0
        have rlh2 : rl2 ≠ hh := ib22.mb.hp.new_ne (Same.refl _) hr0
        keq_hits
        refine we_callTy call_list_of (by rfl) mli.m mli.b ?_
        keq_hits
        refine ⟨sa, _, rfl, .inl (SqL.of (ib23.at_ (o := .lst (sl.map V.str)) (by simp))), fun ml hml => ?_⟩
        have um : Same H23 (upd H23 ml (.lst (sl.map V.str))) := Same.new hml
        have hml1 : upd H23 ml (.lst (sl.map V.str)) ml = some (.lst (sl.map V.str)) := upd_same
        have mlh := (ib23.mb.hp.newC hml).1
        have ib24 := ib23.new (o := .lst (sl.map V.str)) hml
        generalize upd H23 ml (.lst (sl.map V.str)) = H24 at um hml1 ib24 ⊢
        keq_hits
        have hh1 : ∀ a ∈ [hh], ∃ zs, H24 a = some (.lst zs) := fun a ha => by rw [List.mem_singleton.mp ha]; exact ib24.mb.hp.hh
        refine ⟨hh, c, tp, ml, ol, rl2, onceN ps, oftenN ps, sl, rfl, ⟨ib24.mb.hp, sqT_hids hh1 (um.tup htp), by rw [hid_out (by simp [olh])]; exact um _ _ hol, by rw [hid_out (by simp [rlh2])]; exact um _ _ hrl, by rw [hid_out (by simp [mlh])]; exact hml1⟩, ?_, fun tv td H25 s25 hp25 dtv htm => ?_⟩
        · have hsubN : ∀ q : Part → Bool, ∀ s ∈ ps.flatMap (fun p => if q p then pN p else []), s ∈ psN ps := fun q s hs => by
            obtain ⟨p, hp, hs⟩ := List.mem_flatMap.mp hs
            refine List.mem_flatMap.mpr ⟨p, hp, ?_⟩
            split at hs
            · exact hs
            · cases hs
          have eo : onceN ps = ps.flatMap (fun p => if !isR p then pN p else []) := by
            unfold onceN
            congr 1
            funext p
            cases isR p <;> rfl
          have lN : ∀ q : Part → Bool, ∀ qs : List Part, (qs.flatMap (fun p => if q p then pN p else [])).length ≤ 2 * qs.length := fun q qs => by
            induction qs with
            | nil => exact Nat.le_refl _
            | cons p qs ih =>
              rw [List.flatMap_cons, List.length_append, List.length_cons]
              have : (if q p then pN p else []).length ≤ 2 := by
                split
                · cases p <;> simp [pN]
                · simp
              omega
          have few := hps.few
          refine ⟨fun s hs => hps.lt s (hsubN (fun p => !isR p) s (by rw [← eo]; exact hs)), fun s hs => hps.lt s (hsubN isR s hs), fun s hs => (mnpq_ok s (sub s (hsub s hs))).2.1, ?_, ?_, lsl⟩
          · have := lN (fun p => !isR p) ps
            rw [eo]
            omega
          · have := lN isR ps
            show (ps.flatMap fun p => if isR p then pN p else []).length ≤ 100
            omega
        · obtain ⟨rp, gd, hb⟩ := rule_ok hL hps htm
          have k : OrOk (onceN ps) (oftenN ps) := by
            refine ⟨fun s hs => hps.lt s ?_, fun s hs => hps.lt s ?_⟩
            · obtain ⟨p, hp, hs⟩ := List.mem_flatMap.mp hs
              refine List.mem_flatMap.mpr ⟨p, hp, ?_⟩
              split at hs
              · cases hs
              · exact hs
            · obtain ⟨p, hp, hs⟩ := List.mem_flatMap.mp hs
              refine List.mem_flatMap.mpr ⟨p, hp, ?_⟩
              split at hs
              · exact hs
              · cases hs
          have ib25 := (ib24.call s25 hp25).addD (nolist_form td (htm.facts k).f) (WP.dp_mono hid_same dtv)
          keq_hits
          refine ⟨by show 2 ≤ sizeLine; decide, fun tq htq => ?_⟩
          have ib26 := ib25.newE (o := .tup [pv, tv]) htq
          generalize upd H25 tq (.tup [pv, tv]) = H26 at ib26 ⊢
          keq_hits
          refine i_append ib26.rb.val (by show _ < 16777216; omega) ?_
          keq_hits
          have ib27 := ib26.putR rlfo (v := .ref tq) (d := ruleD (psD ps, td)) (.tup (SqT.of (ib26.ex (tq, .tup [pv, tv]) (by simp))) (.cons (ib26.dt (pv, .tuple (.str "_" :: psD ps)) (by simp)) (.cons (ib26.dt (tv, td) (by simp)) .nil)))
          refine ⟨ys ++ [V.ref tq], rs ++ [(psD ps, td)], _, _, rfl, ?_, by rw [List.length_append, lrs]; rfl, fun r hr => ?_⟩
          · have z := ib27.drop (Ds' := [(lv, .tuple (L.map .str))]) (Ex' := [(sa, .lst (sl.map V.str))]) (fun e he => by rw [List.mem_singleton.mp he]; simp) (fun e he => by rw [List.mem_singleton.mp he]; simp)
            rw [List.map_append]
            exact z
          · rcases List.mem_append.mp hr with h | h
            · exact hrs r h
            · rw [List.mem_singleton.mp h]
              exact ⟨rp, gd, hb⟩
      · rintro σ H20 ⟨ys, rs, r8', r9', rfl, ib20, lrs, hrs⟩
        show WP.WB _ _ _ _ _
        have lxs := dpAll_len ib20.lb.dat
        rw [List.length_map] at lxs
        have lms : ms.length = i := by
          have := congrArg List.length mp.nms
          rw [List.length_take] at this
          have e : (nmsOf ms).length = ms.length := List.length_map _
          omega
        keq_hits
        refine i_lstT ib20.lb.val ?_
        refine wa_cons (we_tup ?_)
        keq_hits
        refine we_callTy call_tup (by rfl) mt boot_tuple ?_
        keq_hits
        refine i_tupL ib20.rb.val fun t1' ht1' => ?_
        have ib21 := ib20.newE (o := .tup ys) ht1'
        generalize upd H20 t1' (.tup ys) = H21 at ib21 ⊢
        keq_hits
        refine ⟨by show 2 ≤ sizeLine; decide, fun t2 ht2 => ?_⟩
        have ib22 := ib21.newE (o := .tup [lv, .ref t1']) ht2
        generalize upd H21 t2 (.tup [lv, .ref t1']) = H22 at ib22 ⊢
        keq_hits
        refine ⟨by show 2 ≤ sizeLine; decide, fun t3 ht3 => ?_⟩
        have ib23 := ib22.newE (o := .tup [.str nm, .ref t2]) ht3
        generalize upd H22 t3 (.tup [.str nm, .ref t2]) = H23 at ib23 ⊢
        keq_hits
        refine i_append ib23.lb.val (by show _ < 16777216; omega) ?_
        keq_hits
        have hd3 : Dp K (hid [hh, fo, rl] H23) (.ref t3) (macD ⟨nm, L, rs⟩) := .tup (SqT.of (ib23.ex (t3, .tup [.str nm, .ref t2]) (by simp))) (.cons (.str nm) (.cons (.tup (SqT.of (ib23.ex (t2, .tup [lv, .ref t1']) (by simp))) (.cons (ib23.dt (lv, .tuple (L.map .str)) (by simp)) (.cons (.tup (SqT.of (ib23.ex (t1', .tup ys) (by simp))) ib23.rb.dat) .nil))) .nil))
        have sub3 : ∀ a ∈ [hh, fo], a ∈ [hh, fo, rl] := fun a ha => by
          simp only [List.mem_cons, List.not_mem_nil, or_false] at ha ⊢
          rcases ha with rfl | rfl <;> simp
        have mbF := (ib23.mb.put (l := fo) (by simp) ib23.lb.n1 ib23.lb.n2 (zs := xs ++ [.ref t3])).sub sub3 (by simp)
        have lbF := (ib23.lb.put hd3).sub sub3 (by simp)
        refine ⟨_, ms ++ [⟨nm, L, rs⟩], _, _, _, _, _, _, _, rfl, mbF, by rw [List.map_append]; exact lbF, ?_, fun m hm => ?_, fun m hm r hr => ?_⟩
        · rw [etk, ← mp.nms]
          simp [nmsOf]
        · rcases List.mem_append.mp hm with h | h
          · exact mp.ok m h
          · rw [List.mem_singleton.mp h]
            exact ⟨nk3, hlits, by show rs.length ≤ 20; omega, (fun r hr => (hrs r hr).1), nk1, by show 1 ≤ rs.length; omega, (fun r hr => (hrs r hr).2.1)⟩
        · rcases List.mem_append.mp hm with h | h
          · exact mp.hd m h r hr
          · rw [List.mem_singleton.mp h] at hr
            exact (hrs r hr).2.2
    · rintro σ H6 ⟨xs, ms, r3, r4, r5, r6, r7, r8, r9, rfl, mb, lb, mp⟩
      rw [List.length_map] at mp
      show WP.WB _ _ _ _ _
      keq_hits
      refine we_callTy call_tup (by rfl) mt boot_tuple ?_
      keq_hits
      refine i_tupL lb.val fun tq htq => ?_
      have u7 : Same H6 (upd H6 tq (.tup xs)) := Same.new htq
      have sub2 : Same (hid [hh, fo] H6) (hid [hh] H6) := hid_sub fun a ha => by rw [List.mem_singleton.mp ha]; simp
      have ntq : tq ∉ [hh] := by simp [(mb.hp.newC htq).1]
      have enm : nmsOf ms = sn := by rw [mp.nms, List.take_of_length_le (Nat.le_refl _)]
      have lms : ms.length = sn.length := by rw [← enm]; exact (List.length_map _).symm
      refine q _ _ ms ((mb.g.trans sub2).trans (same_hid u7)) (mb.hp.fresh htq) ?_ ⟨mp.ok, by omega, by rw [enm]; exact snd⟩ mp.hd
      exact .tup (SqT.of (by rw [hid_out ntq]; exact upd_same)) (dpAll_mono (sub2.trans (same_hid u7)) lb.dat)
end
end
section
/-! ### _law_is_right -/
def dfltM : Mac := ⟨"", [], []⟩
def macAt (ms : List Mac) (s : Str) : Mac := (ms.find? fun m => decide (m.nm = s)).getD dfltM
theorem macAt_ok {ms : List Mac} {s : Str} (h : s ∈ nmsOf ms) : macAt ms s ∈ ms ∧ (macAt ms s).nm = s := by
  obtain ⟨m, hm, rfl⟩ := List.mem_map.mp h
  unfold macAt
  cases e : ms.find? fun m' => decide (m'.nm = m.nm) with
  | none =>
    have := List.find?_eq_none.mp e m hm
    simp at this
  | some m' =>
    exact ⟨List.mem_of_find?_eq_some e, by simpa using List.find?_some e⟩
theorem others_ok {ms : List Mac} {ns l : List Str} (h : MacsOk ms) (hh : Heads ms) (hp : ns.Perm (nmsOf ms)) (ho : orderM ns ms = some l) : MacsOk (l.map (macAt ms)) ∧ Heads (l.map (macAt ms)) ∧ (∀ s ∈ l, s ∈ nmsOf ms) ∧ l.length = ms.length := by
  obtain ⟨nd, sub, len⟩ := ordG_ok (ns := ns) (W := wantOf ns ms) (k := ns.length) (found := []) (l := l) .nil (fun x hx => by cases hx) ho
  have hs : ∀ s ∈ l, s ∈ nmsOf ms := fun s hs => hp.mem_iff.mp (sub s hs)
  have hl : l.length = ms.length := by
    have e1 := hp.length_eq
    have e2 : (nmsOf ms).length = ms.length := List.length_map _
    simp only [List.length_nil] at len
    omega
  have en : nmsOf (l.map (macAt ms)) = l := by
    unfold nmsOf
    rw [List.map_map]
    refine (List.map_congr_left fun s hs' => ?_).trans (List.map_id l)
    exact (macAt_ok (hs s hs')).2
  refine ⟨⟨fun m hm => ?_, by rw [List.length_map, hl]; exact h.len, by rw [en]; exact nd⟩, fun m hm => ?_, hs, hl⟩
  · obtain ⟨s, hs', rfl⟩ := List.mem_map.mp hm
    exact h.ok _ (macAt_ok (hs s hs')).1
  · obtain ⟨s, hs', rfl⟩ := List.mem_map.mp hm
    exact hh _ (macAt_ok (hs s hs')).1
theorem nolists_all : ∀ {ds : List PyData}, (∀ d ∈ ds, nolist d = true) → nolists ds = true
  | [], _ => rfl
  | d :: ds, h => by rw [nolists, h d (by simp), nolists_all fun x hx => h x (by simp [hx])]; rfl
theorem nolist_mac {m : Mac} (h : MacOk m) : nolist (macD m) = true := by
  have hL : nolist (.tuple (m.L.map PyData.str)) = true := nolists_all fun d hd => by
    obtain ⟨s, _, rfl⟩ := List.mem_map.mp hd
    rfl
  have hR : nolist (.tuple (m.rs.map ruleD)) = true := nolists_all fun d hd => by
    obtain ⟨r, hr, rfl⟩ := List.mem_map.mp hd
    have e1 : nolist (.tuple (.str "_" :: r.1)) = true := by
      show (nolist (.str "_") && nolists r.1) = true
      rw [nolists_form _ (h.rules r hr).fb]
      rfl
    have e2 : nolist r.2 = true := nolist_form _ (h.form hr).2
    show (nolist (.tuple (.str "_" :: r.1)) && (nolist r.2 && true)) = true
    rw [e1, e2]
    rfl
  show (true && (nolist (rulesD m.L m.rs) && true)) = true
  have : nolist (rulesD m.L m.rs) = true := by
    show (nolist (.tuple (m.L.map PyData.str)) && (nolist (.tuple (m.rs.map ruleD)) && true)) = true
    rw [hL, hR]
    rfl
  rw [this]
  rfl
theorem lis_ends (e : Option (Str × Nat)) : lisB 1 (endsD e) = true := by
  cases e with
  | none => rfl
  | some p => rfl
theorem lis_ord {o : Option (List Str)} (h : ∀ l, o = some l → l.length ≤ 1000) : lisB 1 (ordD o) = true := by
  cases o with
  | none => rfl
  | some l =>
    simp only [ordD, lisB, Bool.and_eq_true, decide_eq_true_eq, List.length_map, List.all_eq_true]
    refine ⟨h l rfl, fun d hd => ?_⟩
    obtain ⟨s, _, rfl⟩ := List.mem_map.mp hd
    rfl
section
variable {P : Program} {w : World} {K : PySem.W.Frag} {mg : Str → Option Value} {base : Heap} {f f2 : Addr} {fd fd2 : FuncData} {C CB CM : Addr} {L : List Str}
def sp_right (K : PySem.W.Frag) : Sp := fun vs H Q _ => ∃ vh v ms, vs = [vh, v] ∧ Dp K H v (macsD ms) ∧ MacsOk ms ∧ Heads ms ∧ ∀ H', Same H H' → Q (.bl true) H'
theorem dps_by {H : Hp} : ∀ {acc : List V} {ds : List PyData}, acc.length = ds.length → (∀ (j : Nat) (v : V), acc[j]? = some v → ∃ d, ds[j]? = some d ∧ Dp K H v d) → DpAll K H acc ds
  | [], [], _, _ => .nil
  | [], _ :: _, h, _ => nomatch h
  | _ :: _, [], h, _ => nomatch h
  | v :: acc, d :: ds, h, g => by
    obtain ⟨d', e, hd⟩ := g 0 v rfl
    cases e
    exact .cons hd (dps_by (by simpa using h) fun j u hu => by simpa using g (j + 1) u (by simpa using hu))
theorem eqV_str (a b : Str) : eqV (V.str a) (V.str b) = decide (a = b) := by
  unfold eqV
  rw [Bool.eq_iff_iff]
  simp
theorem macAt_at {ms : List Mac} (nd : (nmsOf ms).Nodup) {k : Nat} {m : Mac} (h : ms[k]? = some m) : macAt ms m.nm = m := by
  unfold macAt
  rw [find_mac nd (List.mem_of_getElem? h)]
  rfl
abbrev NY : List Str := ["hand", "macros", "due", "order", "name", "rules", "names", "other"]
theorem sq64 : FnScope NY ["hand", "macros"] (defScope (top 64)) := ⟨rfl, rfl, rfl, by decide +kernel, rfl, by decide +kernel, by decide +kernel⟩
theorem ok_right {CN : Addr} (F : FnP K "_law_is_right" 64 f fd) (hm : mg "_law_is_right" = some (.ref f)) (mt : mg "tuple" = none) (DE : Def P w K mg base 52 "ends_told" (sp_ends_told K CN)) (DI : Def P w K mg base 53 "is_ending" (sp_is_ending K)) (DO : Def P w K mg base 52 "order_for" (sp_order_for K CN))
    (DA : Def P w K mg base 50 "are_macros" (sp_are_macros K)) (LE : Def P w K mg base 22 "_law_ends" (sp_lends K)) (LO : Def P w K mg base 22 "_law_order" (sp_lorder K)) (LI : Def P w K mg base 3 "_law_is" (sp_lis K 2)) : Def P w K mg base 54 "_law_is_right" (sp_right K) := by
  refine Def.mk' F hm sq64 (fun vs H Q E h => ?_) (fun _ _ _ _ _ _ us hl => match us, hl with | [_, _], _ => rfl) (fun cdv A outer s H vs Q E hr tk h => ?_)
  · obtain ⟨vh, v, ms, rfl, _⟩ := h
    rfl
  · obtain ⟨vh, v, ms, rfl, hd, hok, hhd, q⟩ := h
    have nd := sq64.nd
    refine wb_cons (ws_par 2 3 rfl nd rfl rfl (by decide) rfl rfl (by rfl) ?_)
    keq_hits
    refine ⟨v, ms, rfl, hd, hok, hhd, fun dv H1 s1 ddv => ?_⟩
    keq_hits
    refine ⟨v, ms, rfl, WP.dp_mono s1 hd, hok, hhd, fun ns ov H2 hperm hsort s2 dov => ?_⟩
    have s02 := s1.trans s2
    have ddv2 := WP.dp_mono s2 ddv
    show WP.WB _ _ _ _ _
    refine wb_cons (ws_if (wt_not (wt_val ?_)))
    keq_hits
    refine ⟨v, rfl, .inr ⟨ms, WP.dp_mono s02 hd, hok, fun a1 H3 s3 d1 => ?_⟩⟩
    have s03 := s02.trans s3
    keq_hits
    refine ⟨v, rfl, .inr ⟨ms, WP.dp_mono s03 hd, hok, fun H4 s4 => ?_⟩⟩
    have s04 := s03.trans s4
    keq_hits
    refine ⟨v, rfl, .inr ⟨ms, WP.dp_mono s04 hd, hok, fun ns' a3 H5 hperm' hsort' s5 d3 => ?_⟩⟩
    have s05 := s04.trans s5
    have ens : ns' = ns := sortedS_one (hperm'.trans hperm.symm) hsort' hsort
    subst ens
    keq_hits
    refine ⟨v, true, rfl, hok.q (WP.dp_mono s05 hd), fun H6 s6 => ?_⟩
    have s06 := s05.trans s6
    keq_hits
    refine ⟨by show 4 ≤ sizeLine; decide, fun q1 hq1 => ?_⟩
    have u7 : Same H6 (upd H6 q1 (.lst [a1, .bl (decide (endsM ms = none)), a3, .bl true])) := Same.new hq1
    have e7 : upd H6 q1 (.lst [a1, .bl (decide (endsM ms = none)), a3, .bl true]) q1 = some (.lst [a1, .bl (decide (endsM ms = none)), a3, .bl true]) := upd_same
    generalize upd H6 q1 (.lst [a1, .bl (decide (endsM ms = none)), a3, .bl true]) = H7 at u7 e7 ⊢
    keq_hits
    refine we_cmp (op_eqD hr.units) rfl ?_
    keq_hits
    refine ⟨by show 1 ≤ sizeLine; decide, fun q2 hq2 => ?_⟩
    have u8 : Same H7 (upd H7 q2 (.tup [.str "ends"])) := Same.new hq2
    have e8 : SqT K (upd H7 q2 (.tup [.str "ends"])) q2 [.str "ends"] := SqT.of upd_same
    generalize upd H7 q2 (.tup [.str "ends"]) = H8 at u8 e8 ⊢
    have s38 := s4.trans (s5.trans (s6.trans (u7.trans u8)))
    refine ⟨_, _, WP.dp_mono (s3.trans s38) ddv2, .tup e8 (.cons (.str _) .nil), endsD_shaped hok, by decide +kernel, ?_⟩
    rw [endsD_eqv]
    keq_hits
    refine ⟨by show 4 ≤ sizeLine; decide, fun q3 hq3 => ?_⟩
    have u9 : Same H8 (upd H8 q3 (.lst [dv, .bl (decide (endsM ms = none)), ov, .bl true])) := Same.new hq3
    have e9 : upd H8 q3 (.lst [dv, .bl (decide (endsM ms = none)), ov, .bl true]) q3 = some (.lst [dv, .bl (decide (endsM ms = none)), ov, .bl true]) := upd_same
    generalize upd H8 q3 (.lst [dv, .bl (decide (endsM ms = none)), ov, .bl true]) = H9 at u9 e9 ⊢
    have s09 := s06.trans (u7.trans (u8.trans u9))
    have lord : ∀ l, orderM ns' ms = some l → l.length ≤ 1000 := fun l hl => by
      have := (others_ok hok hhd hperm hl).2.2.2
      have := hok.len.2
      omega
    keq_hits
    refine ⟨_, _, .list [endsD (endsM ms), .bool (decide (endsM ms = none)), ordD (orderM ns' ms), .bool true], rfl, .lst (SqL.of (u9 _ _ (u8 _ _ e7))) (.cons (WP.dp_mono (s38.trans u9) d1) (.cons (.bl _) (.cons (WP.dp_mono (s6.trans (u7.trans (u8.trans u9))) d3) (.cons (.bl _) .nil)))),
      .lst (SqL.of e9) (.cons (WP.dp_mono ((s3.trans s38).trans u9) ddv2) (.cons (.bl _) (.cons (WP.dp_mono ((s3.trans s38).trans u9) dov) (.cons (.bl _) .nil)))), ?_, fun H10 s10 => ?_⟩
    · have e1 := lis_ends (endsM ms)
      have e2 := lis_ord lord
      show (decide (_ ≤ 1000) && List.all _ _) = true
      simp only [List.length_cons, List.length_nil, List.all_cons, List.all_nil, e1, e2]
      rfl
    · refine i_bl (i_iff rfl ?_)
      refine wb_nil ?_
      show WP.WB _ _ _ _ _
      have s010 := s09.trans s10
      have ddv10 := WP.dp_mono ((s3.trans s38).trans (u9.trans s10)) ddv2
      have dov10 := WP.dp_mono ((s3.trans s38).trans (u9.trans s10)) dov
      cases ho : orderM ns' ms with
      | none =>
        rw [ho] at dov10
        cases dov10
        have hne : endsM ms ≠ none := fun z => ends_order hok.nd hperm.symm z ho
        keq_hits
        refine i_ift (by decide) ?_
        keq_hits
        refine we_cmp (op_neD hr.units) rfl ?_
        keq_hits
        refine ⟨by show 1 ≤ sizeLine; decide, fun q4 hq4 => ?_⟩
        have u11 : Same H10 (upd H10 q4 (.tup [.str "ends"])) := Same.new hq4
        refine ⟨_, _, WP.dp_mono u11 ddv10, .tup (SqT.of upd_same) (.cons (.str _) .nil), endsD_shaped hok, by decide +kernel, ?_⟩
        rw [endsD_eqv, decide_eq_false hne]
        exact q _ (s010.trans u11)
      | some l =>
        rw [ho] at dov10
        obtain ⟨oa, oxs, rfl, hoT, hoxs⟩ := dp_tup dov10
        have eoxs := dps_strs hoxs
        subst eoxs
        obtain ⟨ok2, hd2, hsub, hl2⟩ := others_ok hok hhd hperm ho
        have hms12 := hok.len.2
        obtain ⟨a, xs, rfl, hx, hxs⟩ := dp_tup hd
        have lx := dpAll_len hxs
        rw [List.length_map] at lx
        have lnm : (nmsOf ms).length = xs.length := by rw [lx]; exact List.length_map _
        keq_hits
        refine i_iff rfl ?_
        refine wb_nil ?_
        show WP.WB _ _ _ _ _
        refine wb_cons (ws_set 6 nd rfl (by k_clsL) ?_)
        refine we_lcc (g := gTup K 2 (gCons (gName 4) (gCons (gName 5) gNil))) rfl nd (pi_tup pe) (blkOk_by (N := NY) (sc := defScope (top 64)) (own := [("name", 4), ("rules", 5)]) (by decide +kernel)) (fun _ _ _ _ _ => by k_memK) ?_
        show WP.WE _ _ _ _ _
        keq_hits
        refine ⟨a, rfl, ⟨_, s010.tup hx⟩, fun D2 hD2 => lc_R (fun j _ v => v = .str ((nmsOf ms).getD j "")) stay_val walk_tup (by show _ < 16777216; omega) hD2 (fun H s => (s010.trans s).tup hx) ?_ teC_mono gTup2_mono fun H11 acc s11 hl11 ha11 hv11 => ?_⟩
        · rintro j x H11 H11' hj s11 ⟨rfl, exj⟩
          obtain ⟨m', pj, yj, emj, rfl, hPj, _⟩ := macs_at hxs exj
          refine i_two ((s010.trans s11).tup hPj) ⟨rfl, fun s0 H0 C0 cl0 fp0 => ?_⟩
          keq_hits
          exact ⟨Same.refl _, rfl⟩
        · rw [acc_names (by rw [ha11, lnm]) hv11] at hl11
          have s011 := s010.trans s11
          show WP.WB _ _ _ _ _
          refine wb_cons (ws_set 7 nd rfl (by k_clsL) ?_)
          refine we_callTy call_tup (by rfl) mt boot_tuple ?_
          refine wa_cons ?_
          refine we_lcc rfl nd (pi_tup pe) (blkOk_by (N := NY) (sc := defScope (top 64)) (own := [("name", 4)]) (by decide +kernel)) (fun _ _ _ _ _ => by k_memK) ?_
          show WP.WE _ _ _ _ _
          keq_hits
          have hoT11 := s11.tup hoT
          refine ⟨oa, rfl, ⟨_, hoT11⟩, fun D3 hD3 => lc_R (fun j H v => Dp K H v (((l.map (macAt ms))[j]?.map macD).getD .none)) (stay_dp fun j => ?_) walk_tup (by rw [List.length_map]; show _ < 16777216; omega) hD3 (fun H s => s.tup hoT11) ?_ teC_mono gName_mono fun H12 acc s12 hl12 ha12 hv12 => ?_⟩
          · cases e : (l.map (macAt ms))[j]? with
            | none => rfl
            | some m => exact nolist_mac (ok2.ok m (List.mem_of_getElem? e))
          · rintro j x H12 H12' hj s12 ⟨rfl, exj⟩
            rw [List.getElem?_map] at exj
            cases el : l[j]? with
            | none => rw [el] at exj; cases exj
            | some s0 =>
              rw [el] at exj
              cases exj
              have hs0 := hsub s0 (List.mem_of_getElem? el)
              obtain ⟨k, hk, ek⟩ := List.mem_iff_getElem.mp hs0
              have hkm : k < ms.length := by rw [← lx, ← lnm]; exact hk
              have ekn : ms[k].nm = s0 := by
                have z := nms_at (ms := ms) (List.getElem?_eq_getElem hkm)
                rw [← z, List.getD, List.getElem?_eq_getElem hk, ek]
                rfl
              have eM : (((l.map (macAt ms))[j]?.map macD).getD .none) = macD ms[k] := by
                rw [List.getElem?_map, el]
                show macD (macAt ms s0) = _
                rw [← ekn, macAt_at hok.nd (List.getElem?_eq_getElem hkm)]
              rw [eM]
              refine ⟨rfl, fun s0' H0 C0 cl0 fp0 => ?_⟩
              refine we_ix ix_tup (fun _ _ => by with_unfolding_all rfl) ?_
              keq_hits
              refine we_bm PySem.F.plainAttrs_list PySem.F.slot_list_index PySem.F.type_list_index mt_index ?_
              keq_hits
              refine ⟨.inl ⟨rfl, _, SqL.of (s12 _ _ hl11)⟩, ?_⟩
              keq_hits
              refine ⟨D2, _, .str s0, k, .str s0, rfl, rfl, SqL.of (s12 _ _ hl11), rfl, flat_strs _, by rw [List.getElem?_map, List.getElem?_eq_getElem hk, ek]; rfl, by rw [eqV_str]; simp, fun m z' hm hz => ?_, ?_⟩
              · rw [List.getElem?_map, List.getElem?_eq_getElem (by omega : m < (nmsOf ms).length)] at hz
                cases hz
                rw [eqV_str, decide_eq_false_iff_not]
                intro e
                have nt := nd_take hok.nd (i := k) (x := s0) (by rw [List.getElem?_eq_getElem hk, ek])
                refine nt ?_
                rw [← e]
                exact List.mem_take_iff_getElem.mpr ⟨m, by omega, rfl⟩
              · have hkx : k < xs.length := by omega
                obtain ⟨dk, hdk, hdk2⟩ := dpAll_atv hxs (List.getElem?_eq_getElem hkx)
                rw [List.getElem?_map, List.getElem?_eq_getElem hkm] at hdk
                cases hdk
                refine i_ixT ((s011.trans s12).tup hx) (L2.atI_nat (List.getElem?_eq_getElem hkx)) ?_
                exact ⟨Same.refl _, WP.dp_mono (s011.trans s12) hdk2⟩
          · keq_hits
            refine i_tupL hl12 fun tq htq => ?_
            have u13 : Same H12 (upd H12 tq (.tup acc)) := Same.new htq
            have dq : Dp K (upd H12 tq (.tup acc)) (.ref tq) (macsD (l.map (macAt ms))) := by
              refine .tup (SqT.of upd_same) ?_
              have hl3 : acc.length = ((l.map (macAt ms)).map macD).length := by rw [ha12, List.length_map, List.length_map, List.length_map]
              refine dps_by hl3 fun j v hv => ?_
              have z := hv12 j v hv
              have hjl : j < (l.map (macAt ms)).length := by
                have := (List.getElem?_eq_some_iff.mp hv).1
                rw [hl3, List.length_map] at this
                exact this
              rw [List.getElem?_eq_getElem hjl] at z
              exact ⟨_, by rw [List.getElem?_map, List.getElem?_eq_getElem hjl]; rfl, WP.dp_mono u13 z⟩
            have s013 := s011.trans (s12.trans u13)
            generalize upd H12 tq (.tup acc) = H13 at u13 dq s013 ⊢
            show WP.WB _ _ _ _ _
            keq_hits
            refine ⟨_, rfl, .inr ⟨l.map (macAt ms), dq, ok2, fun p1 H14 s14 d14 => ?_⟩⟩
            keq_hits
            refine ⟨_, l.map (macAt ms), rfl, WP.dp_mono s14 dq, ok2, hd2, fun p2 H15 s15 d15 => ?_⟩
            keq_hits
            refine ⟨p1, p2, endsD (endsM (l.map (macAt ms))), rfl, WP.dp_mono s15 d14, d15, ?_, fun H16 s16 => ?_⟩
            · cases endsM (l.map (macAt ms)) with
              | none => rfl
              | some p => rfl
            · exact q _ (s013.trans (s14.trans (s15.trans s16)))
end
end
section
open LamX in
/-- what _law_word makes of a lambda: "pattern" where it raises BadPattern, else "let" -/
def TSaid (CB : Addr) : (XK → Hp → VK → Prop) → Hp → VK → Prop := fun tl H Q => ∀ Qn : VK, tl (fun cls d H' => cls = .ref CB ∧ d = none ∧ ∀ H2, Same H' H2 → Q (.str "NoRules") H2) H Qn
structure SaidOk (K : PySem.W.Frag) (mg : Str → Option Value) (CT CB : Addr) : Prop where
  mT : mg "TextError" = some (.ref CT)
  mB : mg "NoRules" = some (.ref CB)
  mi : mg "isinstance" = none
  mv : mg "ValueError" = none
  ex : ExcC K CB
  ct : PySem.W.exmOne K (.ref CB) (.ref CT) = some true
  cb : PySem.W.kitOne K (.ref CB) (.ref CB) = some true
  cv : PySem.W.kitOne K (.ref CB) (.type "ValueError") = some true
theorem sq53 : FnScope ["call", "e", "flags"] ["call"] (defScope (top 53)) := ⟨rfl, rfl, rfl, by decide +kernel, rfl, by decide +kernel, by decide +kernel⟩
def saidSuite : List Stmt := match defBody (top 53) with
  | .Try _ (.ExceptHandler _ _ b _ :: _) _ _ _ :: _ => b
  | _ => []
theorem WB.len {X : Cx} {sts : List Stmt} {D : Ends} {σ : L2.St} {H : Hp} (h : σ.length = X.N.length → WB X sts D σ H) : WB X sts D σ H := ⟨fun pins s I => (h I.len).run pins s I⟩
theorem boot_VE : bootBuiltins "ValueError" = some (.type "ValueError") := by decide +kernel
section
variable {P : Program} {w : World} {K : PySem.W.Frag} {mg : Str → Option Value} {base : Heap}
open LamX in
theorem said_gives {X : Cx} {g CT CB : Addr} {cdg : Value} {q : Str} (S : SaidOk X.K X.mg CT CB) (hu : X.A.units + 100 < cLine) :
    GivesTo X ["call", "e", "flags"] "_law_word" (defScope (top 53)) g cdg (defBody (top 53)) "call" q (TSaid CB) := by
  intro f c' s H Q tl act hc h
  have nd := sq53.nd
  refine ⟨_, pss_cons (ps_try_as (X := (cxOf C8.CX0 X.prog X.w X.K X.mg X.base ["call", "e", "flags"] "_law_word" (defScope (top 53)) g cdg X.A X.stack s H C8.E0).nox) (c := .ref CT) (n := "e") (i := 1)
      (tb := fun W D σ H => ∃ Ech : XK, (∀ cls d σ' H', Ech cls d H' → W cls d σ' H') ∧ σ[0]? = some (some (.ref f)) ∧ H c' = some (CodeO c' q) ∧ tl Ech H (fun _ H' => D.nx σ H'))
      (ts := tsB (cxOf C8.CX0 X.prog X.w X.K X.mg X.base ["call", "e", "flags"] "_law_word" (defScope (top 53)) g cdg X.A X.stack s H C8.E0).nox saidSuite)
      rfl rfl nd rfl rfl ⟨by rfl, by decide, .inl S.mT⟩ LamX.takes0 (fun W pn xe tk _ => ?_) (fun a oe cls d pn hz hf => ?_)) pss, ?_⟩
  · refine ⟨fun pins s' σ H' D I h' => ?_⟩
    obtain ⟨Ech, hW, h1, h2, h3⟩ := h'
    exact (pss_one (ps_expr (act W pn xe Ech _ _ tk hW))).run pins s' σ H' D I ⟨h1, h2, h3⟩
  · exact ⟨fun pins s' σ' H' D' I h => (h oe pn hz hf).run pins s' I⟩
  · refine ⟨fun cls d H' => cls = .ref CB ∧ d = none ∧ ∀ H2, Same H' H2 → Q (.str "NoRules") H2, ?_, rfl, hc, ?_⟩
    · rintro cls d σ' H' ⟨rfl, rfl, hq⟩
      refine ⟨true, S.ct, fun _ a ha => ?_, fun z => nomatch z⟩
      intro oe pn hz hf
      have mi := S.mi
      show WP.WB _ _ _ _ _
      refine WB.len fun hlen => ?_
      have hlen : σ'.length = 3 := by
        rw [List.length_set] at hlen
        exact hlen
      match σ', hlen with
      | [x0, x1, x2], _ =>
      have isE : ∀ {c : V} {cv : Value} {H1 : Hp} {Q1 : VK}, (∀ u, RelV c u → u = cv) → PySem.W.kitOne X.K (.ref CB) cv = some true → Q1 (.bl true) H1 → rIsE X.K CB a [.ref a, c] H1 Q1 := fun h1 h2 h3 => ⟨_, _, true, rfl, h1, h2, h3⟩
      refine wb_cons (ws_set 2 nd rfl (.inl rfl) (we_lst (wa_cons ?_)))
      refine we_callB (call_isE S.ex hz hf) (by rfl) mi boot_isinstance ?_
      keq_hits
      refine we_glob (v := .ref CB) (by rfl) S.mB rfl ?_
      keq_hits
      refine isE (fun u r => r) S.cb ?_
      keq_hits
      refine ⟨by simp [sizeLine], fun p hp => ?_⟩
      have sp : Same H' (upd H' p (.lst [.bl true])) := Same.new hp
      have hp1 : upd H' p (.lst [.bl true]) p = some (.lst [.bl true]) := upd_same
      generalize upd H' p (.lst [.bl true]) = H1 at sp hp1 ⊢
      show WP.WB _ _ _ _ _
      refine wb_cons (ws_if (wt_cmp op_ne rfl ?_))
      refine we_bm PySem.F.plainAttrs_list PySem.F.slot_list_count PySem.F.type_list_count (mt_bcount (by show X.A.units + 3 + 65 < cLine; omega)) ?_
      keq_hits
      refine ⟨.inl ⟨rfl, _, SqL.of hp1⟩, ?_⟩
      keq_hits
      refine ⟨p, true, true, rfl, rfl, SqL.of hp1, ?_⟩
      keq_hits
      refine ⟨rfl, i_bl (i_iff rfl ?_)⟩
      refine wb_nil ?_
      show WP.WB _ _ _ _ _
      refine wb_cons (ws_if (wt_not (wt_val ?_)))
      refine we_callB (call_isE S.ex hz hf) (by rfl) mi boot_isinstance ?_
      keq_hits
      refine we_bty ⟨S.mv, boot_VE⟩ (by rfl) ?_
      keq_hits
      refine isE (fun u r => r) S.cv ?_
      refine i_bl (i_iff rfl ?_)
      refine wb_nil ?_
      show WP.WB _ _ _ _ _
      keq_hits
      refine we_ix ix_seq (fun _ _ => by with_unfolding_all rfl) ?_
      keq_hits
      refine ⟨by simp [sizeLine], fun p2 hp2 => ?_⟩
      have sp2 : Same H1 (upd H1 p2 (.lst [.str "NoRules"])) := Same.new hp2
      have hp21 : upd H1 p2 (.lst [.str "NoRules"]) p2 = some (.lst [.str "NoRules"]) := upd_same
      generalize upd H1 p2 (.lst [.str "NoRules"]) = H2 at sp2 hp21 ⊢
      have hp12 := sp2 _ _ hp1
      refine we_bm PySem.F.plainAttrs_list PySem.F.slot_list_index PySem.F.type_list_index mt_index ?_
      keq_hits
      refine ⟨.inl ⟨rfl, _, SqL.of hp12⟩, ?_⟩
      keq_hits
      refine ⟨p, _, _, 0, _, rfl, rfl, SqL.of hp12, rfl, rfl, rfl, rfl, fun m z' hm => absurd hm (Nat.not_lt_zero m), ?_⟩
      refine .inl ⟨p2, _, _, _, rfl, rfl, SqL.of hp21, rfl, ?_⟩
      exact hq _ (sp.trans sp2)
    · exact h _
end
end
section
open LamX
/-! ### a lambda with one default that its body leaves alone -/
/-- names of such a lambda: its one parameter p, captured ones, globals -/
structure LamD (N : List Str) (p : Str) (sc scope : Scope) : Prop where
  kind : scope.kind = .function
  co : scope.isCoroutine = false
  gen : scope.isGenerator = false
  nocell : ∀ y ∈ scope.names, y.2 ≠ .cell
  own : ∀ y ∈ scope.names, y.2 = .local → y.1 = p
  par : scope.names.lookup p = some .local
  apart : p ∉ N
  free : ∀ y ∈ scope.names, y.2 = .free → sc.names.lookup y.1 = some .cell ∨ sc.names.lookup y.1 = some .free
def lamDB (N : List Str) (p : Str) (sc scope : Scope) : Bool :=
  decide (scope.kind = .function) && (!scope.isCoroutine && (!scope.isGenerator && (decide (scope.names.lookup p = some .local) && (!decide (p ∈ N) &&
    scope.names.all fun y => !decide (y.2 = .cell) && ((!decide (y.2 = .local) || decide (y.1 = p)) && (!decide (y.2 = .free) || (decide (sc.names.lookup y.1 = some .cell) || decide (sc.names.lookup y.1 = some .free))))))))
theorem lamD_by {N : List Str} {p : Str} {sc scope : Scope} (h : lamDB N p sc scope = true) : LamD N p sc scope := by
  unfold lamDB at h
  simp only [Bool.and_eq_true, Bool.or_eq_true, Bool.not_eq_true', decide_eq_true_eq, decide_eq_false_iff_not, List.all_eq_true] at h
  obtain ⟨h1, h2, h3, h4, h5, h6⟩ := h
  refine ⟨h1, h2, h3, fun y hy => (h6 y hy).1, fun y hy e => ?_, h4, h5, fun y hy e => ?_⟩
  · rcases (h6 y hy).2.1 with z | z
    · exact absurd e z
    · exact z
  · rcases (h6 y hy).2.2 with z | z
    · exact absurd e z
    · exact z
abbrev dobj (X : Cx) (params : Arguments) (body : Expr) (scope : Scope) (t : Addr) (doc pm : Value) (c' : Addr) (ctv : Value) : Obj :=
  PySem.W.kdv_obj "<lambda>" (X.env.qual ++ "<lambda>") params (.expr body) scope (cloFrom X.env.cells scope.names []) (.ref t) doc pm c' ctv
section
variable {X : Cx} {pins : List (Addr × Obj)} {σ : L2.St} {H HZ : Hp} {s s1 : Shared} {p : Str}
theorem LamD.caught {scope : Scope} (L : LamD X.N p X.env.scope scope) (ok : X.Ok) : ∀ y ∈ scope.names, y.2 = .free → ∃ c, X.env.cells.lookup y.1 = some c := fun y hy e => by
  rcases L.free y hy e with k | k
  · exact ok.has _ (.inl k)
  · exact ok.has _ (.inr k)
/-- the body's start -/
theorem lamD_start {A : Around} {outer : List Env} {E : XK} {scope : Scope} {f c' : Addr} {h₁ : Heap} {tk : Nat} {m : Str → Option Value} (I : Inv X pins σ H s) (L : LamD X.N p X.env.scope scope) (e0 : Env0 X.prog X.w X.K X.mg X.base A outer s1 HZ) (hd : A.handled = none)
    (un : Un (frs X.stack) [] H HZ s.heap s1.heap) (hns : h₁.Ns s1.heap.objs.size m) (kp : ∀ b o, s1.heap.get? b = some o → h₁.get? b = some o) :
    Inv (lamCx X A outer s1 HZ E scope f c') [] σ HZ { s1 with heap := h₁, toks := tk } := by
  have caught := L.caught I.ok
  have back : ∀ {y c}, (cloFrom X.env.cells scope.names []).lookup y = some c → X.env.cells.lookup y = some c := fun {y c} e => by
    rcases cloFrom_mem (PySem.mem_of_lookup e) with none' | ⟨g1, g2⟩
    · cases none'
    · obtain ⟨c1, k1⟩ := caught _ g1 rfl
      have k1 : X.env.cells.lookup y = some c1 := k1
      have k2 : c = c1 := by
        rw [g2, k1]
        rfl
      rw [k2]
      exact k1
  have fresh : ∀ {y}, scope.names.lookup y = some .free → ∃ c, (cloFrom X.env.cells scope.names []).lookup y = some c := fun {y} hl => by
    have mem : (y, NameKind.free) ∈ scope.names := PySem.mem_of_lookup hl
    exact mem_lookup (cloFrom_has (cells := X.env.cells) (acc := []) mem)
  have stays : ∀ {c : Addr} {v : Option Value}, H c = none → s.heap.IsCell c v → h₁.IsCell c v := fun {c v} n ⟨o, ho, ed⟩ => by
    obtain ⟨sl, z⟩ := un.any ho n (by simp)
    exact ⟨_, kp _ _ z, ed⟩
  have noEx : ∀ b : Addr, b ∉ (lamCx X A outer s1 HZ E scope f c').ex := fun b z => absurd (show b ∈ ([] : List Addr) from z) (by simp)
  refine ⟨⟨e0.mod, L.kind, rfl, rfl, Nat.le_refl _, fun y z c e1 e2 => I.ok.inj y z c (back e1) (back e2), fun y hy => ?_, fun y c z _ => ?_, fun _ => hd, Around.frames_deeper e0.frames, .inr ⟨rfl, rfl⟩, fun b z => absurd z (noEx b), e0.bs, e0.bsz, fun b _ _ => noEx b,
      fun b z => absurd z (noEx b), e0.funs, e0.frf⟩,
    rfl, e0.bare, Un.kept kp, ⟨_, hns, fun i y v e1 e2 e3 => ?_⟩, fun y c e => ?_, e0.hok.fresh (Nat.le_refl _), fun y c e => ?_, fun q hq => absurd (show q ∈ ([] : List (Addr × Obj)) ++ [] from hq) (by simp), e0.hok.kept kp, I.len⟩
  · have hy : scope.names.lookup y = some .cell ∨ scope.names.lookup y = some .free := hy
    rcases hy with hy | hy
    · exact absurd rfl (L.nocell _ (PySem.mem_of_lookup hy))
    · exact fresh hy
  · have z : false = true := z
    cases z
  · have seen : Vis scope y := e3
    rcases seen with k | k | k
    · have e4 : y = p := L.own _ (PySem.mem_of_lookup k) rfl
      subst e4
      exact absurd (List.mem_of_getElem? e1) L.apart
    · exact absurd rfl (L.nocell _ (PySem.mem_of_lookup k))
    · obtain ⟨m', hn, hl⟩ := I.loc
      have outerVis : Vis X.env.scope y := (L.free _ (PySem.mem_of_lookup k) rfl).elim (fun k => .inr (.inl k)) (fun k => .inr (.inr k))
      obtain ⟨w', r, z⟩ := hl i y v e1 e2 outerVis
      obtain ⟨c2, h2⟩ := fresh k
      refine ⟨w', r, .inr ⟨.inr k, c2, h2, ?_⟩⟩
      have c1 := back h2
      rcases z with ⟨k', _⟩ | ⟨_, c3, e', z⟩
      · have k' : X.env.scope.names.lookup y = some .local := k'
        rcases L.free _ (PySem.mem_of_lookup k) rfl with k2 | k2 <;> rw [show X.env.scope.names.lookup y = _ from k2] at k' <;> cases k'
      · rw [c1] at e'
        cases e'
        exact stays (I.freeC y _ c1) z
  · obtain ⟨w', z⟩ := I.cell y c (back e)
    exact ⟨w', stays (I.freeC y c (back e)) z⟩
  · obtain ⟨v, o, ho, ed⟩ := I.cell y c (back e)
    exact un.free c o ho (I.freeC y c (back e)) (by simp)
end
end
section
open LamX
section
variable {X : Cx} {pins : List (Addr × Obj)} {σ : L2.St} {H HZ : Hp} {s s1 : Shared} {p : Str}
/-- what the parameter is bound to -/
def BindD (params : Arguments) (body : Expr) (scope : Scope) (p : Str) : Prop := ∀ (v0 : Value) (q : Str) (cl : List (Str × Addr)) (t : Addr) (doc pm cv ctv : Value), ∃ k : Option (Array Value) → Sem (List (Str × Value)),
  bindArgs (PySem.W.kdv_fn "<lambda>" q params (.expr body) scope cl (.ref t) doc pm cv ctv) ⟨[], []⟩ = seqItems? (Value.ref t) >>= k ∧ k (some #[v0]) = pure [(p, v0)]
/-- x(), x the lambda -/
theorem pe_actD {CXg : CXT} {Eg : XK} {Ng : List Str} {qg : Str} {sg : Scope} {g f t c' : Addr} {cdg doc pm ctv v0 : Value} {params : Arguments} {body : Expr} {scope : Scope} {k i : Nat} {a : Str} {pn : List (Addr × Obj)} {xe : Value → Shared → Prop} {W : WX} {E : XK} {tb : TE} {p1 p2 : Pos}
    (I : Inv X pins σ H s) (L : LamD X.N p X.env.scope scope) (hf : s.heap.get? f = some (dobj X params body scope t doc pm c' ctv)) (ht : s.heap.get? t = some (PySem.W.kdv_tup [v0])) (hfn : H f = none) (hfr : f ∉ frs X.stack) (htn : H t = none) (htr : t ∉ frs X.stack)
    (hbind : BindD params body scope p)
    (tk : Takes ((cxOf CXg X.prog X.w X.K X.mg X.base Ng qg sg g cdg X.A X.stack s H Eg).tr pn xe) W) (hW : ∀ cls d σ' H', E cls d H' → W cls d σ' H') (hr : Room (k + 1) (X.A.deeper (envOfC qg sg s.heap.objs.size g cdg)))
    (bodyR : ∀ (A : Around) (outer : List Env) (s : Shared) (H : Hp), Room k (A.deeper (lamEnv X scope s.heap.objs.size f c')) → PE (lamCx X A outer s H E scope f c') body tb)
    (hN : Ng[i]? = some a) (hv : Vis sg a) (hd : (a == ("__debug__" : Str)) = false := by decide) (hcd : (a == ("__classdict__" : Str)) = false := by decide) :
    PE ((cxOf CXg X.prog X.w X.K X.mg X.base Ng qg sg g cdg X.A X.stack s H Eg).tr pn xe) (.Call (.Name a p1) [] [] p2)
      (fun σZ HZ Q => σZ[i]? = some (some (.ref f)) ∧ HZ c' = some (CodeO c' (X.env.qual ++ "<lambda>")) ∧ tb σ HZ Q) := by
  refine ⟨fun pinsZ sZ σZ HZ Q IZ h => ?_⟩
  obtain ⟨slot, codeAt, hb⟩ := h
  refine wpAny_Call_Name_kw (thn ((pe_var (pos := p1) (i := i) hN hv hd hcd).run pinsZ sZ σZ HZ (fun v H1 => v = .ref f ∧ H1 = HZ) IZ ⟨.ref f, slot, rfl, rfl⟩) fun u s1 ⟨v, H1, I1, r1, q1⟩ => ?_)
  obtain ⟨rfl, eH⟩ := q1
  rw [eH] at I1
  obtain rfl : u = Value.ref f := r1
  have off : ∀ b : Addr, b ∉ ([] : List Addr) := fun b z => by cases z
  have atF : s1.heap.get? f = some (dobj X params body scope t doc pm c' ctv) := I1.base.keep f _ hf hfn hfr (off f)
  have atT : s1.heap.get? t = some (PySem.W.kdv_tup [v0]) := I1.base.keep t _ ht htn htr (off t)
  refine PySem.W.callWith_F0 ⟨_, _, _, _, atF⟩ ?_
  have un : Un (frs X.stack) [] H HZ s.heap s1.heap := I1.base
  obtain ⟨⟨oc, vs, tq, hoc, hdc, hvc⟩, _, _⟩ := I1.hok c' _ codeAt
  obtain ⟨kb, b1, b2⟩ := hbind v0 (X.env.qual ++ "<lambda>") (cloFrom X.env.cells scope.names []) t doc pm (.ref c') ctv
  have ran : codeAny (model X.prog X.w) (X.A.deeper (envOfC qg sg s.heap.objs.size g cdg)) (.call (.ref f) ⟨[], []⟩) (CR (L2.CX X.prog X.w) (envOfC qg sg s.heap.objs.size g cdg :: X.stack) X.prog X.w HZ s1 Q E) s1 := by
    refine PySem.W.kla_callFunE hr.depth atF rfl L.co L.gen rfl ⟨c', oc, vs, tq, rfl, hoc, hdc, hvc⟩ ?_
    refine (BindsTo.of_defaults (items := #[v0]) rfl atT rfl b1 b2) _ _ _ _ ?_
    refine wpAny_newFunctionEnv L.nocell (fun y hy => by rw [List.mem_singleton.mp hy]; exact L.par) (fun h₁ hns hsb => ⟨I1.nolimit.fresh _ hsb, ?_⟩) L.kind
    show codeAny _ _ (.expr body (lamEnv X scope s1.heap.objs.size f c')) _ _
    have kp : ∀ b o, s1.heap.get? b = some o → h₁.get? b = some o := fun b o e => hsb.extBut b o (Nat.ne_of_lt (Heap.lt_size e)) (Heap.get?_push_of_some _ e)
    have J : Inv (lamCx X (X.A.deeper (envOfC qg sg s.heap.objs.size g cdg)) (envOfC qg sg s.heap.objs.size g cdg :: X.stack) s1 HZ E scope f c') [] σ HZ { s1 with heap := h₁, toks := s1.toks + ([(p, v0)] : List (Str × Value)).length } :=
      lamD_start I L I1.env0 hr.hd un hns kp
    refine PySem.W.kla_codeExpr (wpAny_mono ((bodyR _ _ s1 HZ (hr.deeper _)).run [] _ _ HZ Q J hb) (fun v s' told => ?_) fun e s' told => told)
    obtain ⟨w', H', J', rv, q⟩ := told
    exact ⟨w', H', J'.os, J'.bare, J'.base, J'.hok, rv, q⟩
  have out : Passes (L2.CX X.prog X.w) ((cxOf CXg X.prog X.w X.K X.mg X.base Ng qg sg g cdg X.A X.stack s H Eg).tr pn xe) E := passes_call tk hW
  refine wpAny_call (codeAny_mono ran fun r s' told => ?_)
  match r, told with
  | .error e, told => exact out pinsZ σZ HZ s1 e s' I1 told
  | .ok (.ret u), told => exact I1.after told
  | .ok .next, told => exact told.elim
  | .ok .brk, told => exact told.elim
  | .ok .cont, told => exact told.elim
/-- the lambda is made: its defaults' tuple at t, its object at f -/
theorem lamD_make {T : List (Addr × Str)} {c P : Addr} {params : Arguments} {body : Expr} {scope : Scope} {pos : Pos} {E : Value → Shared → Prop} {Q : Value → Shared → Prop} (I : Inv X pins σ H s) (TB : TabB X.base X.mg c P) (hcode : X.env.code = .ref c)
    (hm : (P, X.env.qual ++ "<lambda>") ∈ T) (hu : ∀ p ∈ T, p.1 = P → p.2 = X.env.qual ++ "<lambda>") (hT : Tabs T H) (hne : params.defaults.isEmpty = false) (hk0 : params.kw_defaults = [])
    (hdv : ∀ (M : Model) (A : Around) (E : Value → Shared → Prop) (s : Shared) (Q : List Value → Shared → Prop), (∀ (v0 : Value) (tk : Tok), Q [v0] { s with toks := tk }) → wpAny M A (evalAll (evalEach params.defaults X.env)) Q E s) (caught : ∀ y ∈ scope.names, y.2 = .free → ∃ c, X.env.cells.lookup y.1 = some c)
    (h : ∀ (f t c' : Addr) (v0 doc pm ctv : Value) (H1 : Hp) (s' : Shared), Inv X pins σ H1 s' → ExtN H H1 → Tabs T H1 →
      s'.heap.get? f = some (dobj X params body scope t doc pm c' ctv) → s'.heap.get? t = some (PySem.W.kdv_tup [v0]) → H1 f = none → f ∉ frs X.stack → H1 t = none → t ∉ frs X.stack → H1 c' = some (CodeO c' (X.env.qual ++ "<lambda>")) → Q (.ref f) s') :
    wpAny (model X.prog X.w) X.A (eval (.Lambda params body scope pos) X.env) Q E s := by
  refine PySem.W.kdv_lam hne hk0 (hdv _ _ _ _ _ fun v0 tk0 => ?_)
  have I : Inv X pins σ H { s with toks := tk0 } := I.tok _
  rw [makeFunction_eq]
  simp only [List.zip_nil_right, List.filterMap_nil, List.isEmpty_nil, if_true, pure_bind, List.isEmpty_cons, Bool.false_eq_true, if_false]
  refine wpAny_bind (wpAny_newTextTuple ?_)
  -- the tuple of defaults stands at the heap's end
  obtain ⟨t, et⟩ : ∃ t, s.heap.objs.size = t := ⟨_, rfl⟩
  rw [et]
  have I0 : Inv X pins σ H { s with heap := s.heap.push (PySem.W.kdv_tup [v0]), toks := tk0 } := I.kept (t' := tk0) fun b o e => Heap.get?_push_of_some _ e
  have tAt : (s.heap.push (PySem.W.kdv_tup [v0])).get? t = some (PySem.W.kdv_tup [v0]) := by
    rw [← et]
    exact Heap.get?_push_size _ rfl
  have tH : H t = none := I.hok.fresh (Nat.le_of_eq et)
  have apart : ∀ b, t ≤ b → b ∉ frs X.stack := fun b hb z => by
    rcases List.mem_cons.mp (I.stkSub _ z) with e | e
    · have h1 := I.lt
      rw [← e, et] at h1
      exact Nat.lt_irrefl _ (Nat.lt_of_lt_of_le h1 hb)
    · exact I.nofs (by rw [et]; exact hb) e
  have sz0 : (s.heap.push (PySem.W.kdv_tup [v0])).objs.size = t + 1 := by rw [Heap.size_push, et]
  generalize eh0 : s.heap.push (PySem.W.kdv_tup [v0]) = h0 at I0 tAt sz0 ⊢
  obtain ⟨ps, hP, tri, ha⟩ := hT _ hm
  have bP : h0.BuiltinsAt X.mg P := TB.bm.keeps I0.bk
  have atP : h0.get? P = some { cls := .none, data := .fields ps } := I0.hok P _ hP
  cases hc : codeAmong pos ps.toList with
  | none =>
    refine PySem.W.kdv_makeTail (s := { s with heap := h0, toks := tk0 }) (mg := X.mg) (c := c) (P := P) (ps := ps) (closure_ok caught) I0.ok.glob (I0.mod.glob.keeps I0.bk) hcode (TB.code.keeps I0.bk) atP tri hc TB.gP bP fun c' ctv doc h' tk hx hge hlt hrec htb => ?_
    obtain ⟨c2, oc, vs, tq, e2, hoc, hd, hv⟩ := hrec
    cases e2
    have hge0 : h0.objs.size ≤ c' := hge
    have grow : h0.objs.size ≤ h'.objs.size := Nat.le_trans hge0 (Nat.le_of_lt hlt)
    have nC : H c' = none := I0.hok.fresh hge
    have nPc : P ≠ c' := ne_of_none hP nC
    have ntP : t ≠ P := fun z => by rw [z, hP] at tH; cases tH
    have ntc : t ≠ c' := fun z => by rw [← z, sz0] at hge0; omega
    have I1 := inv_table (t' := tk) (more := #[rawInt pos.line, rawInt pos.col, .ref c']) (h' := h'.push (dobj X params body scope t doc ((X.mg "__name__").getD .none) c' ctv)) I0 hP
      (fun b o hb e => Heap.get?_push_of_some _ (hx b o hb e)) (Heap.get?_push_of_some _ htb) hge ⟨oc, vs, tq, Heap.get?_push_of_some _ hoc, hd, hv⟩
    have hE : ExtN H (upd (upd H P (.tbl (ps ++ #[rawInt pos.line, rawInt pos.col, .ref c']))) c' (CodeO c' (X.env.qual ++ "<lambda>"))) := fun b o e n => by
      rw [upd_ne (ne_of_none e nC), upd_ne (fun z => n ps (Option.some.inj (e.symm.trans (by rw [z]; exact hP))))]
      exact e
    have eL : (ps ++ #[rawInt pos.line, rawInt pos.col, .ref c']).toList = ps.toList ++ [rawInt pos.line, rawInt pos.col, .ref c'] := by simp
    refine h h'.objs.size t c' v0 doc ((X.mg "__name__").getD .none) ctv _ _ I1 hE (fun p hp => ?_) (Heap.get?_push_size _ rfl) (Heap.get?_push_of_some _ (hx t _ ntP tAt)) ?_ (apart _ (by omega)) (by rw [upd_ne ntc, upd_ne ntP]; exact tH) (apart _ (Nat.le_refl _)) upd_same
    · by_cases hb : p.1 = P
      · rw [hu p hp hb, hb]
        refine ⟨_, by rw [upd_ne nPc, upd_same], by rw [eL]; exact PySem.TriplesOk_snoc _ _ _ _ tri, fun p' cv hcv => ?_⟩
        rw [eL] at hcv
        rcases among_app _ tri hcv with z | z
        · obtain ⟨c0, e1, e2⟩ := ha p' cv z
          exact ⟨c0, e1, hE _ _ e2 codeO_ne⟩
        · exact ⟨c', z, upd_same⟩
      · obtain ⟨ps', a1, a2, a3⟩ := hT p hp
        refine ⟨ps', by rw [upd_ne (ne_of_none a1 nC), upd_ne hb]; exact a1, a2, fun p' cv hcv => ?_⟩
        obtain ⟨c0, e1, e2⟩ := a3 p' cv hcv
        exact ⟨c0, e1, hE _ _ e2 codeO_ne⟩
    · have n1 : h'.objs.size ≠ c' := Nat.ne_of_gt hlt
      have n2 : h'.objs.size ≠ P := Nat.ne_of_gt (Nat.lt_of_lt_of_le (Heap.lt_size atP) grow)
      rw [upd_ne n1, upd_ne n2]
      exact I0.hok.fresh grow
  | some cv =>
    obtain ⟨c', e, hco⟩ := ha pos cv hc
    subst e
    refine PySem.W.kdv_makeTailHit (s := { s with heap := h0, toks := tk0 }) (mg := X.mg) (c := c) (P := P) (ps := ps) (closure_ok caught) I0.ok.glob (I0.mod.glob.keeps I0.bk) hcode (TB.code.keeps I0.bk) atP tri hc bP fun ctv doc h' tk hx hsz => ?_
    have hsz0 : h0.objs.size ≤ h'.objs.size := hsz
    have I1 : Inv X pins σ H { s with heap := h'.push (dobj X params body scope t doc ((X.mg "__name__").getD .none) c' ctv), toks := tk } := I0.kept fun b o e => Heap.get?_push_of_some _ (hx b o e)
    exact h h'.objs.size t c' v0 doc ((X.mg "__name__").getD .none) ctv H _ I1 (ExtN.refl H) hT (Heap.get?_push_size _ rfl) (Heap.get?_push_of_some _ (hx t _ tAt)) (I0.hok.fresh hsz) (apart _ (by omega)) tH (apart _ (Nat.le_refl _)) hco
/-- g(lambda p=..: body) -/
theorem pe_lamcallD {T : List (Addr × Str)} {TT : (XK → Hp → VK → Prop) → Hp → VK → Prop} {x a : Str} {g c P : Addr} {k : Nat} {pg : Arguments} {bg : List Stmt} {sg : Scope} {dV kV doc pm cdv ct oc : Value} {an od : Option Addr} {osl : Array (Option Value)} {Ng : List Str}
    {params : Arguments} {body : Expr} {scope : Scope} {t : XK → TE} {px lpos pos : Pos} (hg : Gl X x) (hm : X.mg x = some (.ref g)) (hk : PySem.W.keepIn X.K (.ref g) = true)
    (lk : X.K.lookup g = some ⟨oc, od, .func (PySem.W.fnOf x x pg bg sg dV kV doc pm an cdv ct), osl⟩) (hcg : PySem.W.codeIn X.K cdv x = true) (hb : L2.Binds X.K (PySem.W.fnOf x x pg bg sg dV kV doc pm an cdv ct) [a] []) (Sg : FnScope Ng [a] sg) (hNg : Ng[0]? = some a) (hva : Vis sg a)
    (hG : GivesTo X Ng x sg g cdv bg a (X.env.qual ++ "<lambda>") TT)
    (TB : TabB X.base X.mg c P) (hcode : X.env.code = .ref c) (hmT : (P, X.env.qual ++ "<lambda>") ∈ T) (hu : ∀ p ∈ T, p.1 = P → p.2 = X.env.qual ++ "<lambda>") (hr : Room (k + 2) X.A) (L : LamD X.N p X.env.scope scope) (hne : params.defaults.isEmpty = false) (hk0 : params.kw_defaults = [])
    (hdv : ∀ (M : Model) (A : Around) (E : Value → Shared → Prop) (s : Shared) (Q : List Value → Shared → Prop), (∀ (v0 : Value) (tk : Tok), Q [v0] { s with toks := tk }) → wpAny M A (evalAll (evalEach params.defaults X.env)) Q E s)
    (hbind : BindD params body scope p)
    (bodyR : ∀ (A : Around) (outer : List Env) (s : Shared) (H : Hp) (E : XK) (f c' : Addr), Room k (A.deeper (lamEnv X scope s.heap.objs.size f c')) → PE (lamCx X A outer s H E scope f c') body (t E))
    (hdb : (x == ("__debug__" : Str)) = false := by decide) (hd : (a == ("__debug__" : Str)) = false := by decide) (hcd : (a == ("__classdict__" : Str)) = false := by decide) :
    PE X (.Call (.Name x px) [.Lambda params body scope lpos] [] pos) (tLam T TT t) := by
  refine ⟨fun pins s σ H Q I h => ?_⟩
  obtain ⟨hT, h⟩ := h
  refine wpAny_Call_Name_kw (ld_glob I hg hm ?_ hdb)
  refine PySem.W.callWith_K (h₀ := X.base) I.ok.mod.kin hk ?_ (by rfl) (by rfl)
  show wpAny _ _ (spliced ((false, eval (.Lambda params body scope lpos) X.env) :: backTo pos (starEach [] X.env))) _ _ s
  refine Calls.spliced_cons (lamD_make I TB hcode hmT hu hT hne hk0 hdv (L.caught I.ok) fun f t0 c' v0 dc' pm' ctv H1 s' I1 eN T1 hf ht hfn hfr htn htr hco => ?_)
  refine Calls.spliced_nil ⟨I1.kIn, ?_⟩
  have ran : codeAny (model X.prog X.w) X.A (.call (.ref g) ⟨[.ref f], []⟩) (CR C8.CX0 X.stack X.prog X.w H1 s' Q C8.E0) s' := by
    refine run_ofS (N := Ng) (ps := [a]) (us := [.ref f]) (vs := [.ref f]) lk hcg Sg hr I1.env0 (hb s' [.ref f] I1.kIn rfl) (.cons rfl .nil) rfl fun hr' => ?_
    obtain ⟨t', ht', hq'⟩ := hG f c' s' H1 Q (fun E H' Q' => t E σ H' Q') (fun W pn xe E p1 p2 tk hW => pe_actD (i := 0) I1 L hf ht hfn hfr htn htr hbind tk hW hr' (fun A outer s H hr2 => bodyR A outer s H E f c' hr2) hNg hva hd hcd) hco (h H1 eN T1)
    exact ⟨t', ht'.nox, hq'⟩
  refine wpAny_call (codeAny_mono ran fun r s2 told => ?_)
  match r, told with
  | .error e, told => exact (show False from told).elim
  | .ok (.ret u), told => exact I1.after told
  | .ok .next, told => exact told.elim
  | .ok .brk, told => exact told.elim
  | .ok .cont, told => exact told.elim
end
end
section
open LamX
/-! ### defs whose code object is known; _law_word(lambda ..) -/
theorem Def.mkC {P : Program} {w : World} {K : PySem.W.Frag} {mg : Str → Option Value} {base : Heap} {x qual : Str} {params : Arguments} {body : List Stmt} {scope : Scope} {kws : List (Str × V)} {f cc : Addr} {fd : FuncData} {N ps : List Str} {k : Nat} {sp : Sp}
    (F : FunD K x qual params body scope [] kws f fd) (hc : fd.code = .ref cc) (hm : mg x = some (.ref f)) (S : FnScope N ps scope) (len : ∀ vs H Q E, sp vs H Q E → vs.length = ps.length)
    (hb : ∀ (kV doc pm : Value) (an : Option Addr) (cdv ct : Value) (us : List Value), us.length = ps.length → bindArgs (PySem.W.fnOf x qual params body scope .none kV doc pm an cdv ct) ⟨us, []⟩ = pure (ps.zip us))
    (hbody : ∀ (A : Around) (outer : List Env) (s : Shared) (H : Hp) (vs : List V) (Q : VK) (E : XK), Room k (A.deeper (envOfC qual scope s.heap.objs.size f (.ref cc))) → sp vs H Q E →
      WB (bx P w K mg base N qual scope f (.ref cc) A outer s H E) body { nx := fun _ H' => Q .non H', rt := Q } (start N vs) H) : Def P w K mg base (k + 1) x sp := by
  have hk := F.kp
  have hB := F.bindsN hb
  obtain ⟨oc, od, dV, kV, doc, pm, an, cdv, ct, osl, rfl, lk, hcd, _, _⟩ := F.ex
  cases (show cdv = .ref cc from hc)
  exact ⟨f, _, ps, hm, hk, hB, fn_of lk hcd S len fun A outer s H vs Q E hr h => ⟨_, pss, hbody A outer s H vs Q E hr h⟩⟩
section
variable {X : Cx} {g cc Pt CT CB : Addr} {fdS : FuncData} {k : Nat} {params : Arguments} {body : Expr} {scope : Scope} {px lpos pos : Pos} {σ : L2.St} {H : Hp} {Q : VK} {p : Str}
/-- _law_word(lambda: body) -/
theorem we_word (FS : FnP X.K "_law_word" 53 g fdS) (hm : X.mg "_law_word" = some (.ref g)) (hg : Gl X "_law_word")
    (S : SaidOk X.K X.mg CT CB) (TB : TabB X.base X.mg cc Pt) (hcode : X.env.code = .ref cc) (hr : Room (k + 2) X.A) (L : LamS X.env.scope scope) (hdef : defaultsOf params X.env = ([], []))
    (hbind : ∀ (q : Str) (cl : List (Str × Addr)) (pm cv ctv : Value), bindArgs (PySem.W.kla_fn "<lambda>" q params body scope cl pm cv ctv) ⟨[], []⟩ = pure [])
    (q : Tabs [(Pt, X.env.qual ++ "<lambda>")] H ∧ ∀ H1, ExtN H H1 → Tabs [(Pt, X.env.qual ++ "<lambda>")] H1 → ∀ Qn, tLamB X k scope body (fun cls d H' => cls = .ref CB ∧ d = none ∧ ∀ H2, Same H' H2 → Q (.str "NoRules") H2) σ H1 Qn) :
    WE X (.Call (.Name "_law_word" px) [.Lambda params body scope lpos] [] pos) σ H Q := by
  have hb : Binds X.K fdS ["call"] [] := FS.bindsN fun _ _ _ _ _ _ us hl => match us, hl with | [_], _ => rfl
  have hk := FS.kp
  obtain ⟨oc, od, dV, kV, doc, pm, an, cdv, ct, osl, rfl, lk, hcd, _, _⟩ := FS.ex
  have hu : X.A.units + 100 < cLine := by
    have := hr.un
    omega
  exact .of (pe_lamcall (T := [(Pt, X.env.qual ++ "<lambda>")]) hg hm hk lk hcd hb sq53 rfl (.inl rfl) (said_gives S hu) TB hcode (by simp) (by simp) hr L hdef hbind (fun A outer s H E f c' r => tLamB_pe A outer s H E f c' r)) q
/-- _law_word(lambda p=..: body) -/
theorem we_wordD (FS : FnP X.K "_law_word" 53 g fdS) (hm : X.mg "_law_word" = some (.ref g)) (hg : Gl X "_law_word")
    (S : SaidOk X.K X.mg CT CB) (TB : TabB X.base X.mg cc Pt) (hcode : X.env.code = .ref cc) (hr : Room (k + 2) X.A) (L : LamD X.N p X.env.scope scope) (hne : params.defaults.isEmpty = false) (hk0 : params.kw_defaults = [])
    (hdv : ∀ (M : Model) (A : Around) (E : Value → Shared → Prop) (s : Shared) (Q : List Value → Shared → Prop), (∀ (v0 : Value) (tk : Tok), Q [v0] { s with toks := tk }) → wpAny M A (evalAll (evalEach params.defaults X.env)) Q E s) (hbind : BindD params body scope p)
    (q : Tabs [(Pt, X.env.qual ++ "<lambda>")] H ∧ ∀ H1, ExtN H H1 → Tabs [(Pt, X.env.qual ++ "<lambda>")] H1 → ∀ Qn, tLamB X k scope body (fun cls d H' => cls = .ref CB ∧ d = none ∧ ∀ H2, Same H' H2 → Q (.str "NoRules") H2) σ H1 Qn) :
    WE X (.Call (.Name "_law_word" px) [.Lambda params body scope lpos] [] pos) σ H Q := by
  have hb : Binds X.K fdS ["call"] [] := FS.bindsN fun _ _ _ _ _ _ us hl => match us, hl with | [_], _ => rfl
  have hk := FS.kp
  obtain ⟨oc, od, dV, kV, doc, pm, an, cdv, ct, osl, rfl, lk, hcd, _, _⟩ := FS.ex
  have hu : X.A.units + 100 < cLine := by
    have := hr.un
    omega
  exact .of (pe_lamcallD (T := [(Pt, X.env.qual ++ "<lambda>")]) hg hm hk lk hcd hb sq53 rfl (.inl rfl) (said_gives S hu) TB hcode (by simp) (by simp) hr L hne hk0 hdv hbind (fun A outer s H E f c' r => tLamB_pe A outer s H E f c' r)) q
theorem pas_lam {X : Cx} {A : Around} {outer : List Env} {s : Shared} {H : Hp} {E : XK} {scope : Scope} {f c' : Addr} : Pas (lamCx X A outer s H E scope f c') (fun cls d _ H => E cls d H) := pas_of (takes_of rfl rfl rfl rfl)
end
/-! ### data where all but tables stay -/
theorem rd_ext {H H' : Hp} (e : ExtN H H') {a : Addr} {u : HO} (hu : ∀ ps, u ≠ .tbl ps) (h : Rd H a u) : Rd H' a u := by
  rcases h with h | ⟨o, h⟩
  · exact .inl (e _ _ h hu)
  · exact .inr ⟨o, e _ _ h (fun _ z => by cases z)⟩
mutual
theorem dp_ext {K : PySem.W.Frag} {H H' : Hp} (e : ExtN H H') : ∀ {d : PyData} {v : V}, Dp K H v d → Dp K H' v d
  | _, _, .non => .non
  | _, _, .bl b => .bl b
  | _, _, .int i => .int i
  | _, _, .str x => .str x
  | _, _, .lst h g => .lst (h.imp (rd_ext e (fun _ z => by cases z)) id) (dpAll_ext e g)
  | _, _, .tup h g => .tup (h.imp (rd_ext e (fun _ z => by cases z)) id) (dpAll_ext e g)
theorem dpAll_ext {K : PySem.W.Frag} {H H' : Hp} (e : ExtN H H') : ∀ {ds : List PyData} {vs : List V}, DpAll K H vs ds → DpAll K H' vs ds
  | _, _, .nil => .nil
  | _, _, .cons h g => .cons (dp_ext e h) (dpAll_ext e g)
end
theorem MacQ.ext {K : PySem.W.Frag} {H H' : Hp} {v : V} {b : Bool} (q : MacQ K H v b) (e : ExtN H H') : MacQ K H' v b := by
  cases q with
  | non h t => exact .non (dp_ext e h) t
  | dict h => exact .dict (e _ _ h (fun _ z => by cases z))
  | tup h l o => exact .tup (dp_ext e h) l o
theorem MacQ.same {K : PySem.W.Frag} {H H' : Hp} {v : V} {b : Bool} (q : MacQ K H v b) (s : Same H H') : MacQ K H' v b := q.ext fun b o h _ => s b o h
theorem HandP.ext {H H' : Hp} {h c : Addr} (p : HandP H h c) (e : ExtN H H') : HandP H' h c := by
  obtain ⟨vs, e1, ns, i1, i2, i3, i4, ev, hc, n, p1⟩ := p
  exact ⟨vs, e _ _ e1 (fun _ z => by cases z), ns, i1, i2, i3, i4, ev, e _ _ hc (fun _ z => by cases z), n, p1⟩
theorem tabS_off {S : List Addr} {H H' : Hp} {P : Addr} {q : Str} (t : TabS H P q) (l : ∀ a ∈ S, ∃ vs, H a = some (.lst vs)) (s : Same (hid S H) (hid S H')) : TabS H' P q := by
  obtain ⟨ps, h1, h2, h3⟩ := t
  have keep : ∀ {b : Addr} {o : HO}, H b = some o → (∀ vs, o ≠ .lst vs) → H' b = some o := fun {b o} e n => by
    refine same_at s (fun hb => ?_) e
    obtain ⟨vs, e2⟩ := l b hb
    rw [e] at e2
    exact n vs (Option.some.inj e2)
  refine ⟨ps, keep h1 (fun vs z => by cases z), h2, fun pos cv hc => ?_⟩
  obtain ⟨c, e1, e2⟩ := h3 pos cv hc
  exact ⟨c, e1, keep e2 fun vs z => by unfold CodeO at z; cases z⟩
theorem tabs_off {H H' : Hp} {hh c Pt : Addr} {q : Str} (t : Tabs [(Pt, q)] H) (hp : HandP H hh c) (s : Same (hid [hh] H) (hid [hh] H')) : Tabs [(Pt, q)] H' := fun p hpm => tabS_off (t p hpm) (fun a ha => by rw [List.mem_singleton.mp ha]; exact hp.hh) s
end
section
open LamX
/-! ### _law_are_refused -/
theorem cutV_from (xs : List V) (i : Nat) : cutV xs (some (i : Int)) none = xs.drop i := by
  unfold cutV
  rw [HT.sIx_none, HT.sIx_nat]
  by_cases h : i ≤ xs.length
  · rw [Nat.min_eq_left h, List.take_of_length_le (by rw [List.length_drop]; exact Nat.le_refl _)]
  · rw [Nat.min_eq_right (by omega), List.drop_of_length_le (Nat.le_refl _), List.drop_of_length_le (by omega)]
    simp
theorem macI_ok {m : Mac} (o : MacOk m) : It9Ok (macI m) := ⟨fun nm L rs e => by cases e; exact ⟨o.sm, o.lits, o.few, o.rules⟩⟩
theorem It9Ok.of_not {i : It9} (h : ∀ nm L rs, i ≠ .pair nm L rs) : It9Ok i := ⟨fun nm L rs e => absurd e (h nm L rs)⟩
theorem bad_twice {ms : List Mac} (h : 1 ≤ ms.length) : macB (ms.map macI ++ ms.map macI) = false := by
  have : decide ((ms.map macI ++ ms.map macI).map it9N).Nodup = false := by
    refine decide_eq_false fun nd => ?_
    cases ms with
    | nil => simp at h
    | cons m r =>
      rw [List.map_append] at nd
      exact (List.nodup_append.mp nd).2.2 (it9N (macI m)) (by simp) (it9N (macI m)) (by simp) rfl
  rw [macB, this, Bool.and_false, Bool.and_false]
theorem bad_item {is js : List It9} {i : It9} (h : it9B i = false) : macB (is ++ ([i] ++ js)) = false := by
  have : (is ++ ([i] ++ js)).all it9B = false := by
    rw [List.all_append, List.all_append]
    simp [h]
  rw [macB, this, Bool.false_and, Bool.and_false]
theorem bad_long {is : List It9} (h : 12 < is.length) : macB is = false := by
  have : decide (1 ≤ is.length ∧ is.length ≤ 12) = false := decide_eq_false fun z => by omega
  rw [macB, this, Bool.false_and]
def lit1 : PyData := .tuple [.tuple [.int 5, .tuple [.tuple [], .tuple [.tuple [.tuple [.str "_"], .int 1]]]]]
def lit2 : PyData := .tuple [.tuple [.str "m", .tuple [.tuple [], .tuple []]]]
def lit3 : PyData := .tuple [.tuple [.str "m", .tuple [.tuple [], .tuple [.tuple [.tuple [.str "_", .str "a", .str "a"], .int 1]]]]]
def lit4 : PyData := .tuple [.tuple [.str "m"]]
def it1 : List It9 := [.pair (.int 5) [] [([], .int 1)]]
def it2 : List It9 := [.pair (.str "m") [] []]
def it3 : List It9 := [.pair (.str "m") [] [([.str "a", .str "a"], .int 1)]]
def it4 : List It9 := [.one (.str "m")]
theorem lits_nil : LitsOk [] := ⟨by decide, (fun s h => by cases h), .nil⟩
theorem one_form : FormOk (.int 1) := ⟨by decide +kernel, by decide +kernel, by decide +kernel⟩
theorem rule1 : RuleP [] ([], .int 1) := ⟨⟨by decide +kernel, by decide +kernel, by decide +kernel⟩, by decide +kernel, fun _ => ⟨one_form, by decide +kernel, fun x _ l _ => rfl⟩⟩
theorem rule3 : RuleP [] ([.str "a", .str "a"], .int 1) := ⟨⟨by decide +kernel, by decide +kernel, by decide +kernel⟩, by decide +kernel, fun _ => ⟨one_form, by decide +kernel, fun x _ l _ => rfl⟩⟩
theorem it1_ok : ∀ i ∈ it1, It9Ok i := fun i hi => by
  rw [List.mem_singleton.mp hi]
  exact ⟨fun nm L rs e => by cases e; exact ⟨by decide +kernel, lits_nil, by decide, (fun r hr => by rw [List.mem_singleton.mp hr]; exact rule1)⟩⟩
theorem it2_ok : ∀ i ∈ it2, It9Ok i := fun i hi => by
  rw [List.mem_singleton.mp hi]
  exact ⟨fun nm L rs e => by cases e; exact ⟨by decide +kernel, lits_nil, by decide, (fun r hr => by cases hr)⟩⟩
theorem it3_ok : ∀ i ∈ it3, It9Ok i := fun i hi => by
  rw [List.mem_singleton.mp hi]
  exact ⟨fun nm L rs e => by cases e; exact ⟨by decide +kernel, lits_nil, by decide, (fun r hr => by rw [List.mem_singleton.mp hr]; exact rule3)⟩⟩
theorem it4_ok : ∀ i ∈ it4, It9Ok i := fun i hi => by
  rw [List.mem_singleton.mp hi]
  exact .of_not fun nm L rs e => by cases e
theorem bad_lits : macB it1 = false ∧ macB it2 = false ∧ macB it3 = false ∧ macB it4 = false := by
  refine ⟨by decide +kernel, by decide +kernel, ?_, by decide +kernel⟩
  have : goodD [] (.tuple [.str "a", .str "a"]) = false := by decide +kernel
  simp [macB, it3, it9B, rulesB, this]
section
variable {P : Program} {w : World} {K : PySem.W.Frag} {mg : Str → Option Value} {base : Heap} {f f2 g cc Pt CT : Addr} {fd fd2 fdS : FuncData} {C CB CM CN : Addr} {L : List Str}
theorem MacQ.bad {H : Hp} {v : V} {is : List It9} (h : Dp K H v (.tuple (is.map it9D))) (l : is.length ≤ 1000) (o : ∀ i ∈ is, It9Ok i) (b : macB is = false) : MacQ K H v false := by
  rw [← b]
  exact .tup h l o
def qz : Str := ("_law_are_refused" ++ ".<locals>." : Str) ++ "<lambda>"
def sp_refused (K : PySem.W.Frag) (Pt : Addr) : Sp := fun vs H Q _ => ∃ hh c v ms, vs = [.ref hh, v] ∧ HandP H hh c ∧ Dp K (hid [hh] H) v (macsD ms) ∧ MacsOk ms ∧ Tabs [(Pt, qz)] H ∧ ∀ H', HandP H' hh c → Tabs [(Pt, qz)] H' → Q (.bl true) H'
abbrev NZ : List Str := ["hand", "macros", "at", "words", "bad"]
theorem sq65 : FnScope NZ ["hand", "macros"] (defScope (top 65)) := ⟨rfl, rfl, rfl, by decide +kernel, rfl, by decide +kernel, by decide +kernel⟩
theorem ok_refused (F : FnP K "_law_are_refused" 65 f fd) (hc : fd.code = .ref cc) (hm : mg "_law_are_refused" = some (.ref f)) (FS : FnP K "_law_word" 53 g fdS) (hms : mg "_law_word" = some (.ref g)) (S : SaidOk K mg CT CN) (TB : TabB base mg cc Pt)
    (ml : mg "len" = none) (mli : BTy mg "list" "list") (DD : Def P w K mg base 1 "_law_draw" sp_draw) (DY : Def P w K mg base 2 "_law_any" (sp_any K)) (DE : Def P w K mg base 52 "ends_told" (sp_ends_told K CN)) (DI : Def P w K mg base 53 "is_ending" (sp_is_ending K)) (DO : Def P w K mg base 52 "order_for" (sp_order_for K CN))
    (DA : Def P w K mg base 50 "are_macros" (sp_are_macros K)) (LI : Def P w K mg base 3 "_law_is" (sp_lis K 2)) : Def P w K mg base 57 "_law_are_refused" (sp_refused K Pt) := by
  refine Def.mkC F hc hm sq65 (fun vs H Q E h => ?_) (fun _ _ _ _ _ _ us hl => match us, hl with | [_, _], _ => rfl) (fun A outer s H vs Q E hr h => ?_)
  · obtain ⟨hh, c, v, ms, rfl, _⟩ := h
    rfl
  · obtain ⟨hh, c, v, ms, rfl, hp, hd, hok, tb, q⟩ := h
    have nd := sq65.nd
    have hd0 := WP.dp_mono hid_same hd
    have hms12 := hok.len
    refine wb_cons (ws_set 2 nd rfl (by k_clsL) ?_)
    refine we_call' (RW := fun _ _ _ _ => False) DD (Room.mono hr (by omega)) pas_no (by rfl) ?_
    keq_hits
    rw [List.length_map]
    refine ⟨hh, c, _, rfl, hp, by omega, by omega, fun k ws k0 k1 LL => ?_⟩
    obtain ⟨at_, rfl⟩ : ∃ j : Nat, k = j := ⟨k.toNat, by omega⟩
    have p1 := HandP.put LL
    have s1 : Same (hid [hh] H) (hid [hh] (upd H hh (.lst ws))) := hid_put (by simp)
    have tb1 := tabs_off tb hp s1
    have hd1 := WP.dp_mono s1 hd
    generalize upd H hh (.lst ws) = H1 at p1 tb1 hd1 ⊢
    have hd1' := WP.dp_mono hid_same hd1
    obtain ⟨a, xs, rfl, hx, hxs⟩ := dp_tup hd1'
    have lx := dpAll_len hxs
    rw [List.length_map] at lx
    have offH : ∀ {G : Hp}, HandP G hh c → Off [hh] G := fun {G} pg a ha z => by
      rw [List.mem_singleton.mp ha] at z
      obtain ⟨vs, e⟩ := pg.hh
      rw [z] at e
      cases e
    show WP.WB _ _ _ _ _
    refine wb_cons (ws_set 4 nd rfl (by k_clsL) ?_)
    refine we_call' (RW := fun _ _ _ _ => False) DY (Room.mono hr (by omega)) pas_no (by rfl) ?_
    refine wa_cons (we_var 0 (by rfl) (by k_clsL) (by rfl) ?_)
    refine wa_cons (we_lst ?_)
    refine wa_cons (we_non ?_)
    refine wa_cons (we_tup (wa_nil ⟨by show 0 ≤ sizeLine; decide, fun t0 ht0 => ?_⟩))
    have u2 : Same H1 (upd H1 t0 (.tup [])) := Same.new ht0
    have e2 : SqT K (upd H1 t0 (.tup [])) t0 [] := SqT.of upd_same
    generalize upd H1 t0 (.tup []) = H2 at u2 e2 ⊢
    refine wa_cons (we_int ?_)
    refine wa_cons (we_str ?_)
    refine wa_cons ?_
    refine we_callTy call_list_of (by rfl) mli.m mli.b ?_
    refine wa_cons (we_var 1 (by rfl) (by k_clsL) (by rfl) ?_)
    refine wa_nil ⟨a, xs, rfl, .inr (u2.tup hx), fun lm hlm => ?_⟩
    have u3 : Same H2 (upd H2 lm (.lst xs)) := Same.new hlm
    have e3 : upd H2 lm (.lst xs) lm = some (.lst xs) := upd_same
    generalize upd H2 lm (.lst xs) = H3 at u3 e3 ⊢
    have s13 := u2.trans u3
    refine wa_cons ?_
    refine we_op op_catA ?_
    refine we_var 1 (by rfl) (by k_clsL) (by rfl) ?_
    refine we_var 1 (by rfl) (by k_clsL) (by rfl) ?_
    refine i_cat (s13.tup hx) (s13.tup hx) (by show _ ≤ 16777216; omega) fun c6 H4 s4 e4 => ?_
    have s14 := s13.trans s4
    refine wa_cons ?_
    refine we_op op_catA (we_op op_catA (we_slH sl_tupA ?_))
    refine we_var 1 (by rfl) (by k_clsL) (by rfl) ?_
    refine we_var 2 (by rfl) (by k_clsL) (by rfl) ?_
    refine ⟨_, rfl, i_sl (s14.tup hx) fun c7 H5 s5 e5 => ?_⟩
    rw [cutV_to] at e5
    have s15 := s14.trans s5
    refine we_tup (wa_cons (we_str (wa_nil ⟨by show 1 ≤ sizeLine; decide, fun c8 hc8 => ?_⟩)))
    have u6 : Same H5 (upd H5 c8 (.tup [.str "?"])) := Same.new hc8
    have e6 : SqT K (upd H5 c8 (.tup [.str "?"])) c8 [.str "?"] := SqT.of upd_same
    generalize upd H5 c8 (.tup [.str "?"]) = H6 at u6 e6 ⊢
    have s16 := s15.trans u6
    refine i_cat (u6.tup e5) e6 (by rw [List.length_take]; show _ ≤ 16777216; simp; omega) fun c9 H7 s7 e7 => ?_
    have s17 := s16.trans s7
    refine we_slL sl_tupA ?_
    refine we_var 1 (by rfl) (by k_clsL) (by rfl) ?_
    refine we_op op_add ?_
    refine we_var 2 (by rfl) (by k_clsL) (by rfl) ?_
    keq_hits
    refine ⟨_, rfl, i_sl (s17.tup hx) fun c10 H8 s8 e8 => ?_⟩
    rw [show (at_ : Int) + 1 = ((at_ + 1 : Nat) : Int) by omega, cutV_from] at e8
    have s18 := s17.trans s8
    refine i_cat (s8.tup e7) e8 (by rw [List.length_append, List.length_take, List.length_drop]; show _ ≤ 16777216; simp; omega) fun c11 H9 s9 e9 => ?_
    have s19 := s18.trans s9
    refine wa_cons ?_
    refine we_op op_repT ?_
    refine we_var 1 (by rfl) (by k_clsL) (by rfl) ?_
    refine we_int ?_
    refine ⟨a, 13, xs, rfl, rfl, s19.tup hx, (fun z => by rw [z] at lx; simp at lx; omega), by decide, by decide, by omega, fun c12 hc12 => ?_⟩
    have u10 : Same H9 (upd H9 c12 (.tup (List.replicate (Int.toNat 13) xs).flatten)) := Same.new hc12
    have e10 : SqT K (upd H9 c12 (.tup (List.replicate (Int.toNat 13) xs).flatten)) c12 (List.replicate 13 xs).flatten := SqT.of upd_same
    generalize upd H9 c12 (.tup (List.replicate (Int.toNat 13) xs).flatten) = H10 at u10 e10 ⊢
    have s110 := s19.trans u10
    refine wa_cons ?_
    refine we_lit 60 (fun _ => none) [hh] (by kernel_rfl) namesAt_none (offH (p1.same s110)) (d := lit1) fun v11 H11 s11 g11 => ?_
    have s111 := s110.trans s11
    refine wa_cons ?_
    refine we_lit 60 (fun _ => none) [hh] (by kernel_rfl) namesAt_none (offH (p1.same s111)) (d := lit2) fun v12 H12 s12 g12 => ?_
    have s112 := s111.trans s12
    refine wa_cons ?_
    refine we_lit 60 (fun _ => none) [hh] (by kernel_rfl) namesAt_none (offH (p1.same s112)) (d := lit3) fun v13 H13 s13' g13 => ?_
    have s113 := s112.trans s13'
    refine wa_cons (we_dnew fun d0 hd0 => ?_)
    have u14 : Same H13 (upd H13 d0 (.dK [])) := Same.new hd0
    have e14 : upd H13 d0 (.dK []) d0 = some (.dK []) := upd_same
    generalize upd H13 d0 (.dK []) = H14 at u14 e14 ⊢
    have s114 := s113.trans u14
    refine wa_cons ?_
    refine we_lit 60 (fun _ => none) [hh] (by kernel_rfl) namesAt_none (offH (p1.same s114)) (d := lit4) fun v15 H15 s15' g15 => ?_
    have s115 := s114.trans s15'
    refine wa_nil ⟨by show 13 ≤ sizeLine; decide, fun ll hll => ?_⟩
    have u16 : Same H15 (upd H15 ll (.lst [.non, .ref t0, .int 5, .str "?", .ref lm, .ref c6, .ref c11, .ref c12, v11, v12, v13, .ref d0, v15])) := Same.new hll
    have e16 : upd H15 ll (.lst [.non, .ref t0, .int 5, .str "?", .ref lm, .ref c6, .ref c11, .ref c12, v11, v12, v13, .ref d0, v15]) ll = some (.lst [.non, .ref t0, .int 5, .str "?", .ref lm, .ref c6, .ref c11, .ref c12, v11, v12, v13, .ref d0, v15]) := upd_same
    have p16 := (p1.same s115).fresh (o := .lst [.non, .ref t0, .int 5, .str "?", .ref lm, .ref c6, .ref c11, .ref c12, v11, v12, v13, .ref d0, v15]) hll
    have llh := ((p1.same s115).newC hll).1
    generalize upd H15 ll (.lst [.non, .ref t0, .int 5, .str "?", .ref lm, .ref c6, .ref c11, .ref c12, v11, v12, v13, .ref d0, v15]) = H16 at u16 e16 p16 ⊢
    have s116 := s115.trans u16
    refine wa_nil ⟨hh, c, ll, _, rfl, p16, llh, e16, by simp, by simp, fun kx wsx bv evx Lx => ?_⟩
    obtain ⟨hvs, hhv⟩ := p16.hh
    have mv : ∀ {d : PyData} {v : V}, nolist d = true → Dp K H16 v d → Dp K (upd H16 hh (.lst wsx)) v d := fun n h => dp_updL hhv n h
    have nlm : nolists (ms.map macD) = true := nolists_all fun d hd => by
      obtain ⟨m, hm, rfl⟩ := List.mem_map.mp hd
      exact nolist_mac (hok.ok m hm)
    have lit : ∀ {G : Hp} {v : V} {is : List It9} {d : PyData}, Same G H16 → Dz (hid [hh] G) v d → .tuple (is.map it9D) = d → nolist d = true → is.length ≤ 1000 → (∀ i ∈ is, It9Ok i) → macB is = false → MacQ K (upd H16 hh (.lst wsx)) v false := fun {G v is d} s g e n l o b => by
      refine .bad (is := is) ?_ l o b
      rw [e]
      exact mv n (WP.dp_mono (hid_same.trans s) g.dp)
    have hxs16 := dpAll_mono s116 hxs
    have mI : ∀ (ks : List Mac), (ks.map macI).map it9D = ks.map macD := fun ks => macs_items ks
    have r14 := s15'.trans u16
    have r13 := u14.trans r14
    have r12 := s13'.trans r13
    have r11 := s12.trans r12
    have r10 := s11.trans r11
    have r9 := u10.trans r10
    have r4 := s5.trans (u6.trans (s7.trans (s8.trans (s9.trans r9))))
    have r3 := s4.trans r4
    have r2 := u3.trans r3
    have okI : ∀ ks : List Mac, (∀ m ∈ ks, m ∈ ms) → ∀ i ∈ ks.map macI, It9Ok i := fun ks hk i hi => by
      obtain ⟨m, hm, rfl⟩ := List.mem_map.mp hi
      exact macI_ok (hok.ok m (hk m hm))
    have hbad : MacQ K (upd H16 hh (.lst wsx)) bv false := by
      match kx, evx with
      | 0, ev => cases ev; exact .non .non rfl
      | 1, ev => cases ev; exact .bad (is := []) (mv rfl (.tup (r2.tup e2) .nil)) (by decide) (fun i hi => by cases hi) (by decide +kernel)
      | 2, ev => cases ev; exact .non (.int 5) rfl
      | 3, ev => cases ev; exact .non (.str "?") rfl
      | 4, ev =>
        cases ev
        have lmh : lm ≠ hh := fun z => by
          obtain ⟨vs, e⟩ := (p1.same u2).hh
          rw [z, e] at hlm
          cases hlm
        refine .non (d := .list (ms.map macD)) (.lst (SqL.of (by rw [upd_ne lmh]; exact r3 _ _ e3)) ?_) rfl
        exact dpAll_updL hhv nlm hxs16
      | 5, ev =>
        cases ev
        refine .bad (is := ms.map macI ++ ms.map macI) ?_ (by rw [List.length_append, List.length_map]; omega) (fun i hi => ?_) (bad_twice hms12.1)
        · have e : (ms.map macI ++ ms.map macI).map it9D = ms.map macD ++ ms.map macD := by rw [List.map_append, mI]
          rw [e]
          refine mv ?_ (.tup (r4.tup e4) (dpAll_app hxs16 hxs16))
          show nolists _ = true
          refine nolists_all fun d hd => ?_
          rcases List.mem_append.mp hd with h | h
          · obtain ⟨m, hm, rfl⟩ := List.mem_map.mp h
            exact nolist_mac (hok.ok m hm)
          · obtain ⟨m, hm, rfl⟩ := List.mem_map.mp h
            exact nolist_mac (hok.ok m hm)
        · rcases List.mem_append.mp hi with h | h <;> exact okI ms (fun _ h => h) i h
      | 6, ev =>
        cases ev
        refine .bad (is := (ms.take at_).map macI ++ ([.wrd "?"] ++ (ms.drop (at_ + 1)).map macI)) ?_ (by simp only [List.length_append, List.length_map, List.length_take, List.length_drop, List.length_singleton]; omega) (fun i hi => ?_) (bad_item rfl)
        · have e : ((ms.take at_).map macI ++ ([It9.wrd "?"] ++ (ms.drop (at_ + 1)).map macI)).map it9D = ((ms.map macD).take at_ ++ [.str "?"]) ++ (ms.map macD).drop (at_ + 1) := by
            rw [List.map_append, List.map_append, mI, mI, List.map_take, List.map_drop]
            simp [it9D]
          rw [e]
          refine mv ?_ (.tup (r9.tup e9) (dpAll_app (dpAll_app (dpAll_take at_ hxs16) (.cons (.str "?") .nil)) (dpAll_drop (at_ + 1) hxs16)))
          show nolists _ = true
          refine nolists_all fun d hd => ?_
          rcases List.mem_append.mp hd with h | h
          · rcases List.mem_append.mp h with h | h
            · obtain ⟨m, hm, rfl⟩ := List.mem_map.mp (List.mem_of_mem_take h)
              exact nolist_mac (hok.ok m hm)
            · rw [List.mem_singleton.mp h]
              rfl
          · obtain ⟨m, hm, rfl⟩ := List.mem_map.mp (List.mem_of_mem_drop h)
            exact nolist_mac (hok.ok m hm)
        · rcases List.mem_append.mp hi with h | h
          · exact okI _ (fun m hm => List.mem_of_mem_take hm) i h
          · rcases List.mem_append.mp h with h | h
            · rw [List.mem_singleton.mp h]
              exact .of_not fun nm L rs e => by cases e
            · exact okI _ (fun m hm => List.mem_of_mem_drop hm) i h
      | 7, ev =>
        cases ev
        have len13 : ((List.replicate 13 (ms.map macI)).flatten).length = 13 * ms.length := by
          rw [List.length_flatten, List.map_replicate, List.length_map, List.sum_replicate_nat]
        refine .bad (is := (List.replicate 13 (ms.map macI)).flatten) ?_ (by rw [len13]; omega) (fun i hi => ?_) (bad_long (by rw [len13]; omega))
        · have e : ((List.replicate 13 (ms.map macI)).flatten).map it9D = (List.replicate 13 (ms.map macD)).flatten := by
            rw [List.map_flatten, List.map_replicate, mI]
          rw [e]
          have rep : ∀ n : Nat, DpAll K H16 (List.replicate n xs).flatten (List.replicate n (ms.map macD)).flatten := fun n => by
            induction n with
            | zero => exact .nil
            | succ n ih =>
              rw [List.replicate_succ, List.replicate_succ, List.flatten_cons, List.flatten_cons]
              exact dpAll_app hxs16 ih
          refine mv ?_ (.tup (r10.tup e10) (rep 13))
          show nolists _ = true
          refine nolists_all fun d hd => ?_
          obtain ⟨l, hl, hd⟩ := List.mem_flatten.mp hd
          rw [(List.mem_replicate.mp hl).2] at hd
          obtain ⟨m, hm, rfl⟩ := List.mem_map.mp hd
          exact nolist_mac (hok.ok m hm)
        · obtain ⟨l, hl, hi⟩ := List.mem_flatten.mp hi
          rw [(List.mem_replicate.mp hl).2] at hi
          exact okI ms (fun _ h => h) i hi
      | 8, ev => cases ev; exact lit r11 g11 (is := it1) rfl (by decide +kernel) (by decide) it1_ok bad_lits.1
      | 9, ev => cases ev; exact lit r12 g12 (is := it2) rfl (by decide +kernel) (by decide) it2_ok bad_lits.2.1
      | 10, ev => cases ev; exact lit r13 g13 (is := it3) rfl (by decide +kernel) (by decide) it3_ok bad_lits.2.2.1
      | 11, ev =>
        cases ev
        have dh : d0 ≠ hh := fun z => by
          obtain ⟨vs, e⟩ := (p1.same s113).hh
          rw [z, e] at hd0
          cases hd0
        exact .dict (kvs := []) (by rw [upd_ne dh]; exact r14 _ _ e14)
      | 12, ev => cases ev; exact lit u16 g15 (is := it4) rfl (by decide +kernel) (by decide) it4_ok bad_lits.2.2.2
      | kx + 13, ev => simp at ev
    have tb17 : Tabs [(Pt, qz)] (upd H16 hh (.lst wsx)) := tabs_off (tabs_off tb1 p1 (same_hid s116)) p16 (hid_put (by simp))
    have p17 := HandP.put Lx
    clear e2 e3 e4 e5 e6 e7 e8 e9 e10 g11 g12 g13 g15 e14 e16 mv lit okI mI hxs16
    generalize upd H16 hh (.lst wsx) = H17 at hbad tb17 p17 ⊢
    show WP.WB _ _ _ _ _
    refine wb_cons (ws_set 3 nd rfl (by k_clsL) (we_lst (wa_cons ?_)))
    refine we_word FS hms (by rfl) S TB rfl (k := 53) (Room.mono hr (by omega)) (lamS_by (by show lamSB (defScope (top 65)) _ = true; decide +kernel)) (by rfl) (fun _ _ _ _ _ => by rfl) ⟨tb17, fun H18 eN T18 Qn => ?_⟩
    have b18 := hbad.ext eN
    have p18 := p17.ext eN
    intro A' outer' s' H0' f' c' r'
    refine we_call' DE (Room.mono r' (by omega)) pas_lam (by rfl) ?_
    keq_hits
    refine ⟨bv, rfl, .inl ⟨b18, fun H19 s19' => ⟨rfl, rfl, fun H20 s20 => ?_⟩⟩⟩
    have s1820 := s19'.trans s20
    have b20 := b18.same s1820
    have p20 := p18.same s1820
    have T20 : Tabs [(Pt, qz)] H20 := T18.ext s1820
    refine wa_cons ?_
    refine we_wordD (p := "of") FS hms (by rfl) S TB rfl (k := 53) (Room.mono hr (by omega)) (lamD_by (by show lamDB NZ "of" (defScope (top 65)) _ = true; decide +kernel)) (by rfl) (by rfl) ?_ ?_ ⟨T20, fun H21 eN2 T21 Qn2 => ?_⟩
    · exact fun M A E s Q h => PySem.W.kdv_all1 (wpAny_Constant_int (PySem.W.kdv_all0 (h _ _)))
    · exact fun v0 q cl t doc pm cv ctv => ⟨_, rfl, rfl⟩
    · have b21 := b20.ext eN2
      have p21 := p20.ext eN2
      intro A2 outer2 s2' H02 f2' c2' r2'
      refine we_call' DO (Room.mono r2' (by omega)) pas_lam (by rfl) ?_
      keq_hits
      refine ⟨bv, rfl, .inl ⟨b21, fun H22 s22 => ⟨rfl, rfl, fun H23 s23 => ?_⟩⟩⟩
      have s2123 := s22.trans s23
      have b23 := b21.same s2123
      have p23 := p21.same s2123
      have T23 : Tabs [(Pt, qz)] H23 := T21.ext s2123
      refine wa_nil ⟨by show 2 ≤ sizeLine; decide, fun wl hwl => ?_⟩
      have u24 : Same H23 (upd H23 wl (.lst [.str "NoRules", .str "NoRules"])) := Same.new hwl
      have e24 : upd H23 wl (.lst [.str "NoRules", .str "NoRules"]) wl = some (.lst [.str "NoRules", .str "NoRules"]) := upd_same
      generalize upd H23 wl (.lst [.str "NoRules", .str "NoRules"]) = H24 at u24 e24 ⊢
      show WP.WB _ _ _ _ _
      refine wb_one (ws_ret (we_and (we_cmp (op_eqD hr.units) rfl ?_)))
      refine we_var 3 (by rfl) (by k_clsL) (by rfl) ?_
      refine we_op op_rep ?_
      keq_hits
      refine ⟨by show 1 ≤ sizeLine; decide, fun w2 hw2 => ?_⟩
      have u25 : Same H24 (upd H24 w2 (.lst [.str "NoRules"])) := Same.new hw2
      have e25 : upd H24 w2 (.lst [.str "NoRules"]) w2 = some (.lst [.str "NoRules"]) := upd_same
      generalize upd H24 w2 (.lst [.str "NoRules"]) = H25 at u25 e25 ⊢
      keq_hits
      refine ⟨w2, 2, _, rfl, rfl, e25, by decide, by decide, by decide +kernel, fun w3 hw3 => ?_⟩
      have u26 : Same H25 (upd H25 w3 (.lst (List.replicate (Int.toNat 2) [V.str "NoRules"]).flatten)) := Same.new hw3
      have e26 : upd H25 w3 (.lst (List.replicate (Int.toNat 2) [V.str "NoRules"]).flatten) w3 = some (.lst [.str "NoRules", .str "NoRules"]) := upd_same
      generalize upd H25 w3 (.lst (List.replicate (Int.toNat 2) [V.str "NoRules"]).flatten) = H26 at u26 e26 ⊢
      have two : DpAll K H26 [V.str "NoRules", .str "NoRules"] [.str "NoRules", .str "NoRules"] := .cons (.str _) (.cons (.str _) .nil)
      refine ⟨.list [.str "NoRules", .str "NoRules"], .list [.str "NoRules", .str "NoRules"], .lst (SqL.of (u26 _ _ (u25 _ _ e24))) two, .lst (SqL.of e26) two, by decide +kernel, by decide +kernel, i_bl (i_ift (by decide +kernel) (we_one ?_))⟩
      have s2326 := u24.trans (u25.trans u26)
      have b26 := b23.same s2326
      keq_hits
      refine ⟨bv, false, rfl, b26, fun H27 s27 => ?_⟩
      keq_hits
      refine ⟨bv, rfl, .inl ⟨b26.same s27, fun H28 s28 => ?_⟩⟩
      keq_hits
      refine ⟨by show 2 ≤ sizeLine; decide, fun w4 hw4 => ?_⟩
      have u29 : Same H28 (upd H28 w4 (.lst [.bl false, .bl false])) := Same.new hw4
      have e29 : upd H28 w4 (.lst [.bl false, .bl false]) w4 = some (.lst [.bl false, .bl false]) := upd_same
      generalize upd H28 w4 (.lst [.bl false, .bl false]) = H29 at u29 e29 ⊢
      keq_hits
      refine ⟨by show 2 ≤ sizeLine; decide, fun w5 hw5 => ?_⟩
      have u30 : Same H29 (upd H29 w5 (.lst [.bl false, .bl false])) := Same.new hw5
      have e30 : upd H29 w5 (.lst [.bl false, .bl false]) w5 = some (.lst [.bl false, .bl false]) := upd_same
      generalize upd H29 w5 (.lst [.bl false, .bl false]) = H30 at u30 e30 ⊢
      keq_hits
      refine ⟨_, _, .list [.bool false, .bool false], rfl, .lst (SqL.of (u30 _ _ e29)) (.cons (.bl _) (.cons (.bl _) .nil)), .lst (SqL.of e30) (.cons (.bl _) (.cons (.bl _) .nil)), by decide +kernel, fun H31 s31 => ?_⟩
      have sF := s2326.trans (s27.trans (s28.trans (u29.trans (u30.trans s31))))
      exact q _ (p23.same sF) (T23.ext sF)
end
end
section
open LamX
/-! ### the law -/
mutual
theorem anyK_congr {l l' : List (Str × Nat)} (h : ∀ s, l.lookup s = l'.lookup s) (n : Nat) : ∀ d, anyK l n d = anyK l' n d
  | .str s => by unfold anyK lvl; rw [h s]
  | .tuple ds => by simp only [anyK, anyKs_congr h n ds]
  | .none => rfl
  | .bool _ => rfl
  | .int _ => rfl
  | .list _ => rfl
  | .dict _ => rfl
theorem anyKs_congr {l l' : List (Str × Nat)} (h : ∀ s, l.lookup s = l'.lookup s) (n : Nat) : ∀ ds, anyKs l n ds = anyKs l' n ds
  | [] => rfl
  | d :: ds => by simp only [anyKs, anyK_congr h n d, anyKs_congr h n ds]
end
mutual
theorem tmplB_congr {l l' : List (Str × Nat)} (h : ∀ s, l.lookup s = l'.lookup s) : ∀ (lev : Nat) (d : PyData), tmplB l lev d = tmplB l' lev d
  | lev, .str s => by simp only [tmplB, h s]
  | lev, .tuple ds => by simp only [tmplB, tmplBs_congr h lev true ds]
  | _, .none => rfl
  | _, .bool _ => rfl
  | _, .int _ => rfl
  | _, .list _ => rfl
  | _, .dict _ => rfl
theorem tmplBs_congr {l l' : List (Str × Nat)} (h : ∀ s, l.lookup s = l'.lookup s) : ∀ (lev : Nat) (prev : Bool) (ds : List PyData), tmplBs l lev prev ds = tmplBs l' lev prev ds
  | _, _, [] => rfl
  | lev, prev, d :: ds => by simp only [tmplBs, anyK_congr h (lev + 1) d, tmplB_congr h (lev + if repHd ds = true then 1 else 0) d, tmplBs_congr h lev (isRep d) ds]
end
theorem look_perm {l l' : List (Str × Nat)} (p : l.Perm l') (nd : (l'.map (·.1)).Nodup) (s : Str) : l.lookup s = l'.lookup s := by
  have nd2 : (l.map (·.1)).Nodup := (p.map _).nodup_iff.mpr nd
  by_cases h : ∃ n, (s, n) ∈ l'
  · obtain ⟨n, hn⟩ := h
    rw [look_some nd hn, look_some nd2 (p.mem_iff.mpr hn)]
  · have h : ∀ n, (s, n) ∉ l' := fun n hn => h ⟨n, hn⟩
    rw [look_none h, look_none fun n hn => h n (p.mem_iff.mp hn)]
def tmChk (L : List Str) (d t : PyData) : Bool := match shapeS L d with
  | some x => decide ((namesS x 0).map (·.1)).Nodup && tmplB (namesS x 0) 0 t
  | none => true
theorem tmChk_ok {L : List Str} {d t : PyData} (h : tmChk L d t = true) : TmOk L d t := fun x ex l hl => by
  unfold tmChk at h
  rw [ex] at h
  simp only [Bool.and_eq_true, decide_eq_true_eq] at h
  rw [tmplB_congr (look_perm hl h.1)]
  exact h.2
def ruleChk (L : List Str) (r : Rl) : Bool := smallD (.tuple (.str "_" :: r.1)) && (decide (dsize (.tuple (.str "_" :: r.1)) ≤ 3000 ∧ ddep (.tuple (.str "_" :: r.1)) ≤ 20) && (formBs r.1 && (smallD r.2 && (decide (dsize r.2 ≤ 3000 ∧ ddep r.2 ≤ 20) && (formB r.2 && (tmChk L (.tuple r.1) r.2 && goodD L (.tuple r.1)))))))
theorem ruleChk_ok {L : List Str} {r : Rl} (h : ruleChk L r = true) : RuleP L r ∧ goodD L (.tuple r.1) = true := by
  unfold ruleChk at h
  simp only [Bool.and_eq_true, decide_eq_true_eq] at h
  obtain ⟨a, ⟨b, c⟩, d, e, ⟨f, g⟩, i, j, k⟩ := h
  exact ⟨⟨⟨a, b, c⟩, d, fun _ => ⟨⟨e, f, g⟩, i, tmChk_ok j⟩⟩, k⟩
def macChk (m : Mac) : Bool := smallD (.str m.nm) && (nameS m.nm && (decide (1 ≤ m.rs.length ∧ m.rs.length ≤ 20) && m.rs.all (ruleChk m.L)))
theorem macChk_ok {m : Mac} (l : LitsOk m.L) (h : macChk m = true) : MacOk m := by
  unfold macChk at h
  simp only [Bool.and_eq_true, decide_eq_true_eq, List.all_eq_true] at h
  obtain ⟨a, b, ⟨c, d⟩, e⟩ := h
  exact ⟨a, l, d, fun r hr => (ruleChk_ok (e r hr)).1, b, c, fun r hr => (ruleChk_ok (e r hr)).2⟩
def lessM : Mac := ⟨"and", [], [([], .int 1), ([.str "a"], .str "a"), ([.str "a", .str "b", .str "..."], .tuple [.str "if", .str "a", .tuple [.str "and", .str "b", .str "..."], .int 0])]⟩
def moreM : Mac := ⟨"up", [], [([.str "a"], .tuple [.str "up", .tuple [.str "and", .str "a", .int 1]])]⟩
def twiceM : Mac := ⟨"twice", [], [([.str "a", .tuple [.str "b", .str "c"]], .tuple [.str "twice", .str "a", .str "a"])]⟩
theorem less_ok : MacOk lessM := macChk_ok lits_nil (by decide +kernel)
theorem more_ok : MacOk moreM := macChk_ok lits_nil (by decide +kernel)
theorem twice_ok : MacOk twiceM := macChk_ok lits_nil (by decide +kernel)
theorem macs1 : MacsOk [lessM] := ⟨fun m h => by rw [List.mem_singleton.mp h]; exact less_ok, by decide, by decide +kernel⟩
theorem macs2 : MacsOk [lessM, moreM] := ⟨fun m h => by
  rcases List.mem_cons.mp h with rfl | h
  · exact less_ok
  · rw [List.mem_singleton.mp h]; exact more_ok, by decide, by decide +kernel⟩
theorem macs3 : MacsOk [moreM, lessM] := ⟨fun m h => by
  rcases List.mem_cons.mp h with rfl | h
  · exact more_ok
  · rw [List.mem_singleton.mp h]; exact less_ok, by decide, by decide +kernel⟩
theorem macs4 : MacsOk [twiceM] := ⟨fun m h => by rw [List.mem_singleton.mp h]; exact twice_ok, by decide, by decide +kernel⟩
theorem ends1 : endsM [lessM] = none := by decide +kernel
theorem ends2 : endsM [lessM, moreM] = some (("up" : Str), 0) := by decide +kernel
theorem ends4 : endsM [twiceM] = some (("twice" : Str), 0) := by decide +kernel
theorem order3 : orderM (["and", "up"] : List Str) [moreM, lessM] = some (["and", "up"] : List Str) := by decide +kernel
theorem sorted3 {ns : List Str} (hp : ns.Perm (nmsOf [moreM, lessM])) (hs : sortedS ns = true) : ns = (["and", "up"] : List Str) := by
  refine sortedS_one (hp.trans ?_) hs (by decide +kernel)
  exact List.Perm.swap _ _ _
theorem hid_both {S : List Addr} {H H' : Hp} (s : Same H H') : Same (hid S H) (hid S H') := fun b o e => by
  by_cases hb : b ∈ S
  · rw [hid_in hb] at e
    cases e
  · rw [hid_out hb] at e ⊢
    exact s _ _ e
def sp_law (K : PySem.W.Frag) (Pt : Addr) : Sp := fun vs H Q _ => ∃ (a : Addr) (ns : List Int), vs = [.ref a] ∧ SqL K H a (ns.map V.int) ∧ H Pt = some (.tbl #[]) ∧ ∀ H', Q (.bl true) H'
structure LawF (P : Program) (w : World) (K : PySem.W.Frag) (mg : Str → Option Value) (base : Heap) (CN Pt : Addr) : Prop where
  dh : Def P w K mg base 1 "_law_hand" (sp_hand K)
  de : Def P w K mg base 52 "ends_told" (sp_ends_told K CN)
  dor : Def P w K mg base 52 "order_for" (sp_order_for K CN)
  dm : Def P w K mg base 7 "_law_macros" (sp_lmacros K)
  dr : Def P w K mg base 54 "_law_is_right" (sp_right K)
  df : Def P w K mg base 57 "_law_are_refused" (sp_refused K Pt)
  mr : mg "range" = none
section
variable {P : Program} {w : World} {K : PySem.W.Frag} {mg : Str → Option Value} {base : Heap} {f Pt CN : Addr} {fd : FuncData}
abbrev NLaw : List Str := ["script", "hand", "less", "more", "turn", "macros"]
theorem sq66 : FnScope NLaw ["script"] (defScope (top 66)) := ⟨rfl, rfl, rfl, by decide +kernel, rfl, by decide +kernel, by decide +kernel⟩
theorem ok_law (F : FnP K "law" 66 f fd) (Lf : LawF P w K mg base CN Pt) :
    FnOk P w K mg base (L2.CX P w) 59 f fd ["script"] (sp_law K Pt) := by
  obtain ⟨dh, de, dor, dm, dr, df, mr⟩ := Lf
  obtain ⟨oc, od, dV, kV, doc, pm, an, cdv, ct, osl, rfl, lk, hcd, _, _⟩ := F.ex
  refine fn_of lk hcd sq66 (fun vs H Q E h => ?_) fun A outer s H vs Q E hr h => ⟨_, pss, ?_⟩
  · obtain ⟨a, ns, rfl, _⟩ := h
    rfl
  obtain ⟨a, ns, rfl, hS, hT, q⟩ := h
  have nd := sq66.nd
  show WB _ (Stmt.Assign _ _ _ :: _) _ _ H
  refine wb_cons (ws_set 1 nd rfl (by k_clsL) ?_)
  refine we_call' (RW := fun _ _ _ _ => False) dh (Room.mono hr (by omega)) pas_no (by rfl) ?_
  refine wa_cons (we_var 0 (by rfl) (by k_clsL) (by rfl) ?_)
  refine wa_nil ⟨a, ns, rfl, hS, fun hh c H1 s1 hp1 hn1 => ?_⟩
  have hT1 := s1 _ _ hT
  show WP.WB _ _ _ _ _
  refine wb_cons (ws_set 2 nd rfl (by k_clsL) ?_)
  refine we_lit 60 (fun _ => none) [] (by kernel_rfl) namesAt_none (fun a ha => nomatch ha) (d := macD lessM) fun v2 H2 s2 g2 => ?_
  show WP.WB _ _ _ _ _
  refine wb_cons (ws_set 3 nd rfl (by k_clsL) ?_)
  refine we_lit 60 (fun _ => none) [] (by kernel_rfl) namesAt_none (fun a ha => nomatch ha) (d := macD moreM) fun v3 H3 s3 g3 => ?_
  show WP.WB _ _ _ _ _
  have dl : Dp K H3 v2 (macD lessM) := WP.dp_mono s3 (g2.mono hid_same).dp
  have dmo : Dp K H3 v3 (macD moreM) := (g3.mono hid_same).dp
  have hT3 := s3 _ _ (s2 _ _ hT1)
  have hp3 := hp1.same (s2.trans s3)
  -- ends_told((less,)) != ("ends",) or ..
  refine wb_cons (ws_if (wt_ww (ww_or (wt_cmp (op_neD hr.units) rfl ?_))))
  refine we_call' (RW := fun _ _ _ _ => False) de (Room.mono hr (by omega)) pas_no (by rfl) ?_
  refine wa_cons (we_tup (wa_cons (we_var 2 (by rfl) (by k_clsL) (by rfl) ?_)))
  refine wa_nil ⟨by show 1 ≤ sizeLine; decide, fun t4 ht4 => ?_⟩
  have s4 : Same H3 (upd H3 t4 (.tup [v2])) := Same.new ht4
  have d4 : Dp K (upd H3 t4 (.tup [v2])) (.ref t4) (macsD [lessM]) := .tup (SqT.of upd_same) (.cons (WP.dp_mono s4 dl) .nil)
  generalize upd H3 t4 (.tup [v2]) = H4 at s4 d4 ⊢
  refine wa_nil ⟨_, rfl, .inr ⟨[lessM], d4, macs1, fun p5 H5 s5 d5 => ?_⟩⟩
  rw [ends1] at d5
  refine we_lit 60 (fun _ => none) [] (by kernel_rfl) namesAt_none (fun a ha => nomatch ha) (d := endsD none) fun v6 H6 s6 g6 => ?_
  refine ⟨_, _, WP.dp_mono s6 d5, (g6.mono hid_same).dp, by decide +kernel, by decide +kernel, i_bl (i_iff (by decide +kernel) (ww_or (wt_cmp (op_neD hr.units) rfl ?_)))⟩
  have s36 := s4.trans (s5.trans s6)
  -- ends_told((less, more)) != ("rule", "up", 0)
  refine we_call' (RW := fun _ _ _ _ => False) de (Room.mono hr (by omega)) pas_no (by rfl) ?_
  refine wa_cons (we_tup (wa_cons (we_var 2 (by rfl) (by k_clsL) (by rfl) ?_)))
  refine wa_cons (we_var 3 (by rfl) (by k_clsL) (by rfl) ?_)
  refine wa_nil ⟨by show 2 ≤ sizeLine; decide, fun t7 ht7 => ?_⟩
  have s7 : Same H6 (upd H6 t7 (.tup [v2, v3])) := Same.new ht7
  have d7 : Dp K (upd H6 t7 (.tup [v2, v3])) (.ref t7) (macsD [lessM, moreM]) := .tup (SqT.of upd_same) (.cons (WP.dp_mono (s36.trans s7) dl) (.cons (WP.dp_mono (s36.trans s7) dmo) .nil))
  generalize upd H6 t7 (.tup [v2, v3]) = H7 at s7 d7 ⊢
  refine wa_nil ⟨_, rfl, .inr ⟨[lessM, moreM], d7, macs2, fun p8 H8 s8 d8 => ?_⟩⟩
  rw [ends2] at d8
  refine we_lit 60 (fun _ => none) [] (by kernel_rfl) namesAt_none (fun a ha => nomatch ha) (d := endsD (some (("up" : Str), 0))) fun v9 H9 s9 g9 => ?_
  refine ⟨_, _, WP.dp_mono s9 d8, (g9.mono hid_same).dp, by decide +kernel, by decide +kernel, i_bl (i_iff (by decide +kernel) (ww_or1 (wt_cmp (op_neD hr.units) rfl ?_)))⟩
  have s39 := s36.trans (s7.trans (s8.trans s9))
  -- order_for((more, less)) != ("and", "up")
  refine we_call' (RW := fun _ _ _ _ => False) dor (Room.mono hr (by omega)) pas_no (by rfl) ?_
  refine wa_cons (we_tup (wa_cons (we_var 3 (by rfl) (by k_clsL) (by rfl) ?_)))
  refine wa_cons (we_var 2 (by rfl) (by k_clsL) (by rfl) ?_)
  refine wa_nil ⟨by show 2 ≤ sizeLine; decide, fun t10 ht10 => ?_⟩
  have s10 : Same H9 (upd H9 t10 (.tup [v3, v2])) := Same.new ht10
  have d10 : Dp K (upd H9 t10 (.tup [v3, v2])) (.ref t10) (macsD [moreM, lessM]) := .tup (SqT.of upd_same) (.cons (WP.dp_mono (s39.trans s10) dmo) (.cons (WP.dp_mono (s39.trans s10) dl) .nil))
  generalize upd H9 t10 (.tup [v3, v2]) = H10 at s10 d10 ⊢
  refine wa_nil ⟨_, rfl, .inr ⟨[moreM, lessM], d10, macs3, fun ns11 p11 H11 pm11 so11 s11 d11 => ?_⟩⟩
  rw [sorted3 pm11 so11, order3] at d11
  refine we_lit 60 (fun _ => none) [] (by kernel_rfl) namesAt_none (fun a ha => nomatch ha) (d := ordD (some (["and", "up"] : List Str))) fun v12 H12 s12 g12 => ?_
  refine ⟨_, _, WP.dp_mono s12 d11, (g12.mono hid_same).dp, by decide +kernel, by decide +kernel, i_bl (i_iff (by decide +kernel) (wb_nil ?_))⟩
  have s3x := s39.trans (s10.trans (s11.trans s12))
  have hT12 := s3x _ _ hT3
  have hp12 := hp3.same s3x
  clear s3x s39 s36
  show WP.WB _ _ _ _ _
  -- ends_told((("twice", ..),)) != ("rule", "twice", 0)
  refine wb_cons (ws_if (wt_cmp (op_neD hr.units) rfl ?_))
  refine we_call' (RW := fun _ _ _ _ => False) de (Room.mono hr (by omega)) pas_no (by rfl) ?_
  refine wa_cons ?_
  refine we_lit 60 (fun _ => none) [] (by kernel_rfl) namesAt_none (fun a ha => nomatch ha) (d := macsD [twiceM]) fun v13 H13 s13 g13 => ?_
  refine wa_nil ⟨_, rfl, .inr ⟨[twiceM], (g13.mono hid_same).dp, macs4, fun p14 H14 s14 d14 => ?_⟩⟩
  rw [ends4] at d14
  refine we_lit 60 (fun _ => none) [] (by kernel_rfl) namesAt_none (fun a ha => nomatch ha) (d := endsD (some (("twice" : Str), 0))) fun v15 H15 s15 g15 => ?_
  refine ⟨_, _, WP.dp_mono s15 d14, (g15.mono hid_same).dp, by decide +kernel, by decide +kernel, i_bl (i_iff (by decide +kernel) (wb_nil ?_))⟩
  have s1x := s13.trans (s14.trans s15)
  have hp15 := hp12.same s1x
  have tb15 : Tabs [(Pt, qz)] H15 := fun p hp => by
    rw [List.mem_singleton.mp hp]
    exact TabS.nil (s1x _ _ hT12)
  clear s1x
  show WP.WB _ _ _ _ _
  refine wb_cons ?_
  refine ws_for passes_bx rfl (pi_range1 (by rfl) mr pa) (by k_memK) ?_
  show WA _ _ _ _ _
  refine wa_cons (we_int (wa_nil ⟨6, rfl, by decide, by decide, ?_⟩))
  refine for_it walk_range (fun i σ H' => (∃ r4 r5, σ = [some (.ref a), some (.ref hh), some v2, some v3, r4, r5]) ∧ HandP H' hh c ∧ Tabs [(Pt, qz)] H') ⟨⟨_, _, rfl⟩, hp15, tb15⟩ (fun _ _ _ _ _ => trivial) ?_ ?_
  · rintro i x σ H3 H16 hi ⟨⟨r4, r5, rfl⟩, hp16, tb16⟩ ⟨rfl, rfl⟩
    show WP.WB _ _ _ _ _
    refine wb_cons (ws_set 5 nd rfl (by k_clsL) ?_)
    refine we_call' (RW := fun _ _ _ _ => False) dm (Room.mono hr (by omega)) pas_no (by rfl) ?_
    refine wa_cons (we_var 1 (by rfl) (by k_clsL) (by rfl) ?_)
    refine wa_nil ⟨hh, c, rfl, hp16, fun v17 H17 ms s17 hp17 d17 mok hds => ?_⟩
    have tb17 := tabs_off tb16 hp16 s17
    show WP.WB _ _ _ _ _
    refine wb_cons (ws_if (wt_ww (ww_or (wt_not (wt_val ?_)))))
    refine we_call' (RW := fun _ _ _ _ => False) dr (Room.mono hr (by omega)) pas_no (by rfl) ?_
    refine wa_cons (we_var 1 (by rfl) (by k_clsL) (by rfl) ?_)
    refine wa_cons (we_var 5 (by rfl) (by k_clsL) (by rfl) ?_)
    refine wa_nil ⟨_, _, ms, rfl, WP.dp_mono hid_same d17, mok, hds, fun H18 s18 => ?_⟩
    refine i_bl ?_
    show if false = true then _ else _
    refine i_iff rfl (ww_or1 (wt_not (wt_val ?_)))
    refine we_call' (RW := fun _ _ _ _ => False) df (Room.mono hr (by omega)) pas_no (by rfl) ?_
    refine wa_cons (we_var 1 (by rfl) (by k_clsL) (by rfl) ?_)
    refine wa_cons (we_var 5 (by rfl) (by k_clsL) (by rfl) ?_)
    refine wa_nil ⟨hh, c, _, ms, rfl, hp17.same s18, WP.dp_mono (hid_both s18) d17, mok, Tabs.ext tb17 s18, fun H19 hp19 tb19 => ?_⟩
    refine i_bl ?_
    show if false = true then _ else _
    refine i_iff rfl (wb_nil ?_)
    exact wb_nil ⟨⟨_, _, rfl⟩, hp19, tb19⟩
  rintro σ H16 ⟨⟨r4, r5, rfl⟩, _, _⟩
  show WP.WB _ _ _ _ _
  refine wb_one (ws_ret (we_bl ?_))
  exact q _
end
end
section
/-! ### the head: what the module's names say at the end of the top -/
open He
def fd0 (i : Nat) (n : Str) : DefD := ⟨(n, none), n, n, defArgs (top i), defBody (top i), defScope (top i), [], []⟩
def fm0 (C : Str) (q n : Str) (i j : Nat) : DefD := ⟨(C, some n), n, q, defArgs (mth i j), defBody (mth i j), defScope (mth i j), [], []⟩
def fnTop : List (Nat × Str) := ([(13, "is_integer"), (14, "is_within"), (15, "is_tuple"), (16, "is_sized"), (17, "is_name"), (18, "is_word"), (19, "is_form"), (23, "shape"), (24, "list_shape"), (25, "depths"), (26, "check_literals"), (27, "is_pattern")] : List (Nat × Str)) ++ ([(28, "is_good"), (29, "check_pattern"), (32, "check_shape"), (33, "repeated_keys"), (34, "is_template"), (35, "is_fit"), (36, "are_rules"), (38, "are_macros"), (39, "check_macros"), (40, "weight"), (41, "often"), (42, "uses_in")] : List (Nat × Str)) ++ ([(43, "is_less"), (44, "ends_told"), (45, "is_ending"), (46, "order_for"), (48, "_law_hand"), (49, "_law_draw"), (50, "_law_any"), (51, "_law_mixed"), (52, "_law_is"), (53, "_law_word"), (54, "_law_pattern"), (55, "_law_repeats")] : List (Nat × Str)) ++ ([(56, "_law_template"), (57, "_law_macros"), (58, "_law_weight"), (59, "_law_counts"), (60, "_law_uses"), (61, "_law_is_less"), (62, "_law_ends"), (63, "_law_order"), (64, "_law_is_right"), (65, "_law_are_refused"), (66, "law")] : List (Nat × Str))
def fnMth : List DefD := [fm0 "Plain" "Plain.list_parts" "list_parts" 22 0, fm0 "Plain" "Plain.integer" "integer" 22 1, fm0 "Plain" "Plain.word_in" "word_in" 22 2, fm0 "Plain" "Plain.key" "key" 22 3,
  fm0 "BadPattern" "TextError.__init__" "__init__" 2 0, fm0 "BadTemplate" "TextError.__init__" "__init__" 2 0, fm0 "NoRules" "TextError.__init__" "__init__" 2 0]
def fn : List DefD := fnTop.map (fun p => fd0 p.1 p.2) ++ fnMth
def gloN : List Str := (["is_integer", "is_within", "is_tuple", "is_sized", "is_name", "is_word", "is_form", "shape", "list_shape", "depths", "check_literals", "is_pattern"] : List Str) ++ (["is_good", "check_pattern", "check_shape", "repeated_keys", "is_template", "is_fit", "are_rules", "are_macros", "check_macros", "weight", "often", "uses_in"] : List Str) ++ (["is_less", "ends_told", "is_ending", "order_for", "_law_hand", "_law_draw", "_law_any", "_law_mixed", "_law_is", "_law_word", "_law_pattern", "_law_repeats"] : List Str) ++ (["_law_template", "_law_macros", "_law_weight", "_law_counts", "_law_uses", "_law_is_less", "_law_ends", "_law_order", "_law_is_right", "_law_are_refused", "law", "TextError"] : List Str) ++ (["BadPattern", "BadTemplate", "NoRules", "Plain"] : List Str)
def freeN : List Str := (["isinstance", "len", "all", "any", "enumerate", "sorted", "range", "abs", "int", "str", "tuple", "list"] : List Str) ++ (["bool", "zip", "ValueError"] : List Str)
def faC : List Fa := [.str "SIGNS" "abcdefghijklmnopqrstuvwxyz?*+-<=>!", .int "MOST_INT" 1000000000, .int "MOST_DEEP" 40, .int "MOST_PARTS" 3000, .str "REPEAT" "...", .str "ANY" "_", .int "MOST_REPEATS" 3, .int "MOST_RULES" 20, .cls "Plain",
  .meth "Plain" "list_parts", .meth "Plain" "integer", .meth "Plain" "word_in", .meth "Plain" "key", .meth "BadPattern" "__init__", .meth "BadTemplate" "__init__", .meth "NoRules" "__init__", .exm "BadPattern" "BadPattern" true, .exm "NoRules" "TextError" true]
def fa : List Fa := gloN.map .glo ++ (freeN.map .free ++ faC)
def mk0B (K : PySem.W.Frag) (C : Addr) : Bool := PySem.W.makesIn K C && (eqO (PySem.W.findIn K (.ref C) "__init__") (some (some (.builtin "object.__init__"))) && PySem.W.keepIn K (.ref C))
theorem mk0B_ok {K : PySem.W.Frag} {C : Addr} (h : mk0B K C = true) : Mk0 K C := by
  obtain ⟨h1, h2⟩ := ba h
  obtain ⟨h3, h4⟩ := ba h2
  exact ⟨h1, eqO_ok h3, h4⟩
def oexObjB (K : PySem.W.Frag) (C : Addr) : Bool := match K.lookup C with
  | some ⟨.type c, _, .cls ⟨_, _, .ref D :: bm, _, _, true, _, _, _, _, false⟩, sl⟩ => decide (c = "type") && (decide (D = C) && (PySem.HandSPX.refsVE bm && (match sl.toList with
    | [_, _, _, _, some (.builtin n), _] => decide (n = "ValueError.__new__")
    | _ => false)))
  | _ => false
theorem arr6 {α : Type} {a : Array α} {x y z u v w : α} (h : a.toList = [x, y, z, u, v, w]) : a = #[x, y, z, u, v, w] := by
  cases a
  cases h
  rfl
theorem oexObjB_ok {K : PySem.W.Frag} {C : Addr} (h : oexObjB K C = true) : ∃ nm q N bs bm sn sub ab col dd k0 k1 k2 k3 k5, K.lookup C = some (excClassObj nm q C N bs bm true sn sub ab col dd k0 k1 k2 k3 k5 "ValueError.__new__") ∧ PySem.HandSPX.refsVE bm = true := by
  unfold oexObjB at h
  split at h
  · rename_i e
    obtain ⟨h1, h2⟩ := ba h
    obtain ⟨h3, h4⟩ := ba h2
    obtain ⟨h5, h6⟩ := ba h4
    split at h6
    · rename_i e2
      have e3 := arr6 e2
      rw [of_decide_eq_true h6] at e3
      rw [of_decide_eq_true h1, of_decide_eq_true h3, e3] at e
      exact ⟨_, _, _, _, _, _, _, _, _, _, _, _, _, _, _, e, h5⟩
    · cases h6
  · cases h
def oexB (K : PySem.W.Frag) (C : Addr) : Bool := oexObjB K C && (eqO (PySem.W.findIn K (.ref C) "__setattr__") (some (some (.builtin "object.__setattr__"))) && (decide (PySem.W.subIn K (.ref C) (.type "BaseException") = some true) && (decide (PySem.W.typeIn K (.ref C) = some (.type "type")) && PySem.W.keepIn K (.ref C))))
theorem oexB_ok {K : PySem.W.Frag} {C : Addr} (h : oexB K C = true) : OexC K C := by
  obtain ⟨h1, h2⟩ := ba h
  obtain ⟨h3, h4⟩ := ba h2
  obtain ⟨h5, h6⟩ := ba h4
  obtain ⟨h7, h8⟩ := ba h6
  exact ⟨oexObjB_ok h1, eqO_ok h3, of_decide_eq_true h5, of_decide_eq_true h7, h8⟩
def excB (K : PySem.W.Frag) (D : Addr) : Bool := eqO (PySem.W.findIn K (.ref D) "__getattribute__") (some (some (.builtin "BaseException.__getattribute__"))) && (eqO (PySem.W.findIn K (.ref D) "__getattr__") (some none) && (decide (PySem.W.subIn K (.ref D) (.type "BaseException") = some true) && (PySem.W.hasDictIn K D &&
  (eqO (PySem.W.findIn K (.ref D) "__class__") (some (some (.builtin "object.__class__"))) && (eqO (PySem.W.specialIn K (.builtin "object.__class__") "__get__") (some (some (.builtin "getset_descriptor.__get__"))) && (decide (PySem.W.takesIn K (.builtin "object.__class__") = some true) && decide (PySem.W.mroIn K D (.type "object") = some true)))))))
theorem excB_ok {K : PySem.W.Frag} {D : Addr} (h : excB K D = true) : ExcC K D := by
  obtain ⟨h1, h⟩ := ba h
  obtain ⟨h2, h⟩ := ba h
  obtain ⟨h3, h⟩ := ba h
  obtain ⟨h4, h⟩ := ba h
  obtain ⟨h5, h⟩ := ba h
  obtain ⟨h6, h⟩ := ba h
  obtain ⟨h7, h8⟩ := ba h
  exact ⟨eqO_ok h1, eqO_ok h2, of_decide_eq_true h3, h4, eqO_ok h5, eqO_ok h6, of_decide_eq_true h7, of_decide_eq_true h8⟩
def veiB (K : PySem.W.Frag) : Bool := match PySem.W.findCls K (.type "ValueError") (.type "type") "__init__" with
  | some (.val (.builtin n)) => decide (n = "ValueError.__init__")
  | _ => false
theorem veiB_ok {K : PySem.W.Frag} (h : veiB K = true) : PySem.W.findCls K (.type "ValueError") (.type "type") "__init__" = some (.val (.builtin "ValueError.__init__")) := by
  unfold veiB at h
  split at h
  · rename_i n e
    rw [e, of_decide_eq_true h]
  · cases h
def exs (K : PySem.W.Frag) : List Bool := [mk0B K (ga K "Plain"), oexB K (ga K "BadPattern"), oexB K (ga K "BadTemplate"), oexB K (ga K "NoRules"), excB K (ga K "NoRules"), decide (PySem.W.kitOne K (.ref (ga K "NoRules")) (.ref (ga K "NoRules")) = some true), decide (PySem.W.kitOne K (.ref (ga K "NoRules")) (.type "ValueError") = some true), veiB K]
def ex (K : PySem.W.Frag) : Bool := (exs K).all id
def tf : List Defn := [("_law_are_refused", none)]
end
section
set_option maxHeartbeats 0
/-! ### the top's run -/
abbrev R : PySem.W.OpenRow := PySem.W.OpenLaw.row PySem.Challenge.rw_owntexts_k29_whole_macros_that_end
abbrev hk : PySem.W.Hook := He.hookX 4 fa fn [] tf ex
noncomputable def ob (s : PySem.W.SharedT) : He.AlX := He.obsX 4 fa fn [] tf ex (HandSHeadRun.getT s)
theorem ob_eq (s : PySem.W.SharedT) : ob s = hk.obs s.abs := He.obsX_eq (HandSHeadRun.getT_eq s)
def nmA : List Str := ["_wall", "TextError", "BadPattern", "BadTemplate", "NoRules", "SIGNS", "MOST_INT", "MOST_DEEP", "MOST_PARTS", "REPEAT", "ANY", "is_integer", "is_within", "is_tuple", "is_sized", "is_name", "is_word", "is_form", "MOST_REPEATS", "Plain"]
def nmB : List Str := ["shape", "list_shape", "depths", "check_literals", "is_pattern", "is_good", "check_pattern", "MOST_RULES", "check_shape", "repeated_keys", "is_template", "is_fit", "are_rules", "are_macros", "check_macros", "weight", "often", "uses_in", "is_less", "ends_told"]
def nmC : List Str := ["is_ending", "order_for", "_law_hand", "_law_draw", "_law_any", "_law_mixed", "_law_is", "_law_word", "_law_pattern", "_law_repeats", "_law_template", "_law_macros", "_law_weight", "_law_counts", "_law_uses", "_law_is_less", "_law_ends", "_law_order", "_law_is_right", "_law_are_refused"]
def loose : List Str := nmA ++ nmB ++ nmC
theorem run (w : World) : HandSHeadRun.RunEq R (PySem.W.view R.prog [66]) hk ob 40000 loose w := by
  intro os
  kernel_rfl
end
section
/-! ### all promises together -/
open He
structure Kn (K : PySem.W.Frag) (mg : Str → Option Value) : Prop where
  glo : ∀ x ∈ gloN, mg x = some (.ref (ga K x))
  free : ∀ x ∈ freeN, mg x = none
  fnT : ∀ p ∈ fnTop, ∃ fd, FnP K p.2 p.1 (ga K p.2) fd
  fnM : ∀ d ∈ fnMth, ∃ fd, FunD K d.name d.qual d.params d.body d.scope [] [] (fAd K d.at_) fd
  sg : ∃ t, mg "SIGNS" = some (.str "abcdefghijklmnopqrstuvwxyz?*+-<=>!" t)
  mi : ∃ t, mg "MOST_INT" = some (.int 1000000000 t)
  md : ∃ t, mg "MOST_DEEP" = some (.int 40 t)
  mp : ∃ t, mg "MOST_PARTS" = some (.int 3000 t)
  rp : ∃ t, mg "REPEAT" = some (.str "..." t)
  an : ∃ t, mg "ANY" = some (.str "_" t)
  mr : ∃ t, mg "MOST_REPEATS" = some (.int 3 t)
  ml : ∃ t, mg "MOST_RULES" = some (.int 20 t)
  cP : Cls K (ga K "Plain")
  m0 : Meth K (ga K "Plain") "list_parts" (fAd K ("Plain", some "list_parts"))
  m1 : Meth K (ga K "Plain") "integer" (fAd K ("Plain", some "integer"))
  m2 : Meth K (ga K "Plain") "word_in" (fAd K ("Plain", some "word_in"))
  m3 : Meth K (ga K "Plain") "key" (fAd K ("Plain", some "key"))
  i1 : Meth K (ga K "BadPattern") "__init__" (fAd K ("BadPattern", some "__init__"))
  i2 : Meth K (ga K "BadTemplate") "__init__" (fAd K ("BadTemplate", some "__init__"))
  i3 : Meth K (ga K "NoRules") "__init__" (fAd K ("NoRules", some "__init__"))
  x1 : PySem.W.exmOne K (.ref (ga K "BadPattern")) (.ref (ga K "BadPattern")) = some true
  x2 : PySem.W.exmOne K (.ref (ga K "NoRules")) (.ref (ga K "TextError")) = some true
  kP : Mk0 K (ga K "Plain")
  oB : OexC K (ga K "BadPattern")
  oM : OexC K (ga K "BadTemplate")
  oN : OexC K (ga K "NoRules")
  eN : ExcC K (ga K "NoRules")
  y1 : PySem.W.kitOne K (.ref (ga K "NoRules")) (.ref (ga K "NoRules")) = some true
  y2 : PySem.W.kitOne K (.ref (ga K "NoRules")) (.type "ValueError") = some true
  vi : PySem.W.findCls K (.type "ValueError") (.type "type") "__init__" = some (.val (.builtin "ValueError.__init__"))
theorem kn_of {K : PySem.W.Frag} {h : Heap} {mg : Str → Option Value} (X : K.In h) (G : h.Ns mainGlobals mg) (c : SaysD fa fn K) (e : ex K = true) : Kn K mg := by
  have g0 : ∀ f ∈ fa, f.ok K = true := fun f hf => c.facts hf
  have gc : ∀ f ∈ faC, f.ok K = true := fun f hf => g0 f (List.mem_append_right _ (List.mem_append_right _ hf))
  have e0 : ∀ b ∈ exs K, b = true := fun b hb => List.all_eq_true.mp e b hb
  have at_ : ∀ (i : Nat) (f : Fa), faC[i]? = some f → f.ok K = true := fun i f hf => gc f (List.mem_of_getElem? hf)
  have et : ∀ (i : Nat) (b : Bool), (exs K)[i]? = some b → b = true := fun i b hb => e0 b (List.mem_of_getElem? hb)
  exact {
    glo := fun x hx => glo_ok X G (g0 (.glo x) (List.mem_append_left _ (List.mem_map_of_mem hx)))
    free := fun x hx => free_ok X G (g0 (.free x) (List.mem_append_right _ (List.mem_append_left _ (List.mem_map_of_mem hx))))
    fnT := fun p hp => c.defs (d := fd0 p.1 p.2) (List.mem_append_left _ (List.mem_map_of_mem (f := fun p => fd0 p.1 p.2) hp))
    fnM := fun d hd => by
      have z := c.defs (d := d) (List.mem_append_right _ hd)
      have e1 : d.dvs K = [] := by
        have : ∀ d ∈ fnMth, d.dfl.length = 0 := by decide +kernel
        unfold DefD.dvs
        rw [List.eq_nil_of_length_eq_zero (this d hd)]
        rfl
      have e2 : d.kws K = [] := by
        have : ∀ d ∈ fnMth, d.kwd.length = 0 := by decide +kernel
        unfold DefD.kws
        rw [List.eq_nil_of_length_eq_zero (this d hd)]
        rfl
      rw [e1, e2] at z
      exact z
    sg := str_ok X G (at_ 0 _ rfl)
    mi := int_ok X G (at_ 1 _ rfl)
    md := int_ok X G (at_ 2 _ rfl)
    mp := int_ok X G (at_ 3 _ rfl)
    rp := str_ok X G (at_ 4 _ rfl)
    an := str_ok X G (at_ 5 _ rfl)
    mr := int_ok X G (at_ 6 _ rfl)
    ml := int_ok X G (at_ 7 _ rfl)
    cP := cls_ok (at_ 8 _ rfl)
    m0 := meth_ok (at_ 9 _ rfl)
    m1 := meth_ok (at_ 10 _ rfl)
    m2 := meth_ok (at_ 11 _ rfl)
    m3 := meth_ok (at_ 12 _ rfl)
    i1 := meth_ok (at_ 13 _ rfl)
    i2 := meth_ok (at_ 14 _ rfl)
    i3 := meth_ok (at_ 15 _ rfl)
    x1 := exm_ok (at_ 16 _ rfl)
    x2 := exm_ok (at_ 17 _ rfl)
    kP := mk0B_ok (et 0 _ rfl)
    oB := oexB_ok (et 1 _ rfl)
    oM := oexB_ok (et 2 _ rfl)
    oN := oexB_ok (et 3 _ rfl)
    eN := excB_ok (et 4 _ rfl)
    y1 := of_decide_eq_true (et 5 _ rfl)
    y2 := of_decide_eq_true (et 6 _ rfl)
    vi := veiB_ok (et 7 _ rfl) }
theorem scI : FnScope ["self"] ["self"] (defScope (mth 2 0)) := ⟨rfl, rfl, rfl, by decide +kernel, rfl, by decide +kernel, by decide +kernel⟩
theorem ok_init {P : Program} {w : World} {K : PySem.W.Frag} {mg : Str → Option Value} {base : Heap} {f : Addr} {fd : FuncData} (n : Kn K mg) (F : FnM K "TextError.__init__" "__init__" 2 0 f fd) : FnOk P w K mg base (L2.CX P w) 1 f fd ["self"] (fun vs H Q _ => ∃ a C, vs = [.ref a] ∧ OexC K C ∧ H a = some (exo a C none) ∧ Q .non H) := by
  refine F.ok scI (fun vs H Q E h => ?_) fun cdv A outer s H vs Q E hr h => ⟨_, pss, ?_⟩
  · obtain ⟨a, C, rfl, _⟩ := h
    rfl
  obtain ⟨a, C, rfl, T, ha, q⟩ := h
  show WB (bx P w K mg base ["self"] "TextError.__init__" (defScope (mth 2 0)) f cdv A outer s H E) [Stmt.Expr _ _] _ [some (.ref a)] H
  refine wb_one (ws_expr ?_)
  refine .of (pe_veinit (by rfl) (n.free "ValueError" (by decide +kernel)) n.vi pa) ?_
  refine wa_cons (we_var 0 (by rfl) (by k_clsL) (by rfl) (wa_nil ?_))
  exact ⟨a, C, [], rfl, by simp, T, ha, q⟩
end
section
open He LamX
section
variable {P : Program} {w : World} {K : PySem.W.Frag} {mg : Str → Option Value} {base : Heap} {L : List Str}
theorem err_of {x : Str} {C f : Addr} (n : Kn K mg) (g : mg x = some (.ref C)) (T : OexC K C) (m : Meth K C "__init__" f) (F : ∃ fd, FnM K "TextError.__init__" "__init__" 2 0 f fd) : ErrC P w K mg base 1 x C := by
  obtain ⟨fd, F⟩ := F
  exact ⟨g, T, f, fd, ["self"], m.at_, by simpa [PySem.W.isFn] using m.fn, F.bindsN (fun _ _ _ _ _ _ us hl => match us, hl with | [_], _ => rfl), ok_init n F⟩
abbrev aP (K : PySem.W.Frag) : Addr := ga K "Plain"
abbrev aB (K : PySem.W.Frag) : Addr := ga K "BadPattern"
abbrev aT (K : PySem.W.Frag) : Addr := ga K "BadTemplate"
abbrev aN (K : PySem.W.Frag) : Addr := ga K "NoRules"
/-- what no literals are told of -/
structure BD (P : Program) (w : World) (K : PySem.W.Frag) (mg : Str → Option Value) (base : Heap) : Prop where
  nm : Def P w K mg base 1 "is_name" (sp_is_name K)
  tu : Def P w K mg base 1 "is_tuple" (sp_is_tuple K)
  sz : Def P w K mg base 1 "is_sized" (sp_is_sized K)
  fo : Def P w K mg base 3 "is_form" (sp_is_form K)
  O : PlainOk P w K mg base (aP K)
  EB : ErrC P w K mg base 1 "BadPattern" (aB K)
  ET : ErrC P w K mg base 1 "BadTemplate" (aT K)
  EN : ErrC P w K mg base 1 "NoRules" (aN K)
  dd : Def P w K mg base 3 "depths" (sp_depths K (aB K))
  cs : Def P w K mg base 4 "check_shape" (sp_cs K (aP K))
theorem bt_int (n : Kn K mg) : BTy mg "int" "int" := ⟨n.free "int" (by decide +kernel), PyProof.Rows.boot_int⟩
theorem bt_str (n : Kn K mg) : BTy mg "str" "str" := ⟨n.free "str" (by decide +kernel), PyProof.Rows.boot_str⟩
theorem bt_bool (n : Kn K mg) : BTy mg "bool" "bool" := ⟨n.free "bool" (by decide +kernel), PyProof.Rows.boot_bool⟩
theorem bt_tuple (n : Kn K mg) : BTy mg "tuple" "tuple" := ⟨n.free "tuple" (by decide +kernel), PyProof.Rows.boot_tuple⟩
theorem bt_list (n : Kn K mg) : BTy mg "list" "list" := ⟨n.free "list" (by decide +kernel), PyProof.Rows.boot_list⟩
theorem bd_of (n : Kn K mg) : BD P w K mg base := by
  have T := fun i x (h : (i, x) ∈ fnTop) => n.fnT (i, x) h
  have G := n.glo
  have mi := n.free "isinstance" (by decide +kernel)
  have ml := n.free "len" (by decide +kernel)
  have ma := n.free "all" (by decide +kernel)
  have me := n.free "enumerate" (by decide +kernel)
  obtain ⟨_, F13⟩ := T 13 "is_integer" (by decide +kernel)
  obtain ⟨_, F14⟩ := T 14 "is_within" (by decide +kernel)
  obtain ⟨_, F15⟩ := T 15 "is_tuple" (by decide +kernel)
  obtain ⟨_, F16⟩ := T 16 "is_sized" (by decide +kernel)
  obtain ⟨_, F17⟩ := T 17 "is_name" (by decide +kernel)
  obtain ⟨_, F18⟩ := T 18 "is_word" (by decide +kernel)
  obtain ⟨_, F19⟩ := T 19 "is_form" (by decide +kernel)
  obtain ⟨_, F25⟩ := T 25 "depths" (by decide +kernel)
  obtain ⟨_, F32⟩ := T 32 "check_shape" (by decide +kernel)
  obtain ⟨_, F33⟩ := T 33 "repeated_keys" (by decide +kernel)
  obtain ⟨_, M0⟩ := n.fnM (fm0 "Plain" "Plain.list_parts" "list_parts" 22 0) (by simp [fnMth])
  obtain ⟨_, M1⟩ := n.fnM (fm0 "Plain" "Plain.integer" "integer" 22 1) (by simp [fnMth])
  obtain ⟨_, M2⟩ := n.fnM (fm0 "Plain" "Plain.word_in" "word_in" 22 2) (by simp [fnMth])
  obtain ⟨_, M3⟩ := n.fnM (fm0 "Plain" "Plain.key" "key" 22 3) (by simp [fnMth])
  have ii : Def P w K mg base 1 "is_integer" (sp_is_integer K) := ok_is_integer F13 (G "is_integer" (by decide +kernel)) mi (bt_int n) (bt_bool n)
  have iw : Def P w K mg base 2 "is_within" (sp_is_within K) := ok_is_within F14 (G "is_within" (by decide +kernel)) ii
  have tu : Def P w K mg base 1 "is_tuple" (sp_is_tuple K) := ok_is_tuple F15 (G "is_tuple" (by decide +kernel)) mi ml (bt_tuple n)
  have sz : Def P w K mg base 1 "is_sized" (sp_is_sized K) := ok_is_sized F16 (G "is_sized" (by decide +kernel)) mi ml (bt_tuple n)
  have nm : Def P w K mg base 1 "is_name" (sp_is_name K) := ok_is_name F17 (G "is_name" (by decide +kernel)) mi ml ma n.sg (bt_str n)
  have wd : Def P w K mg base 2 "is_word" (sp_is_word K) := ok_is_word F18 (G "is_word" (by decide +kernel)) mi (bt_str n) n.rp n.an nm
  have fo : Def P w K mg base 3 "is_form" (sp_is_form K) := ok_is_form F19 (G "is_form" (by decide +kernel)) mi ml (bt_tuple n) n.mp n.md n.mi wd iw
  have O : PlainOk P w K mg base (aP K) := ⟨n.cP, n.kP, G "Plain" (by decide +kernel), ok_list_parts M0 n.m0 mi (bt_tuple n), ok_integer M1 n.m1 ii, ok_word_in M2 n.m2 mi (bt_str n), ok_key M3 n.m3⟩
  have EB : ErrC P w K mg base 1 "BadPattern" (aB K) := err_of n (G "BadPattern" (by decide +kernel)) n.oB n.i1 (n.fnM (fm0 "BadPattern" "TextError.__init__" "__init__" 2 0) (by simp [fnMth]))
  have ET : ErrC P w K mg base 1 "BadTemplate" (aT K) := err_of n (G "BadTemplate" (by decide +kernel)) n.oM n.i2 (n.fnM (fm0 "BadTemplate" "TextError.__init__" "__init__" 2 0) (by simp [fnMth]))
  have EN : ErrC P w K mg base 1 "NoRules" (aN K) := err_of n (G "NoRules" (by decide +kernel)) n.oN n.i3 (n.fnM (fm0 "NoRules" "TextError.__init__" "__init__" 2 0) (by simp [fnMth]))
  exact {
    nm := nm
    tu := tu
    sz := sz
    fo := fo
    O := O
    EB := EB
    ET := ET
    EN := EN
    dd := ok_depths F25 (G "depths" (by decide +kernel)) EB n.mr ml
    cs := ok_cs F32 (G "check_shape" (by decide +kernel)) O ml me (bt_int n) n.rp (ok_rep F33 (G "repeated_keys" (by decide +kernel)) O ml (bt_list n)) }
theorem rules_of (n : Kn K mg) (LO : LitsOk L) : Def P w K mg base 49 "are_rules" (sp_are_rules K L) := by
  obtain ⟨nm, tu, sz, fo, O, EB, ET, EN, dd, cs⟩ := bd_of (P := P) (w := w) (base := base) n
  have T := fun i x (h : (i, x) ∈ fnTop) => n.fnT (i, x) h
  have G := n.glo
  have mi := n.free "isinstance" (by decide +kernel)
  have ml := n.free "len" (by decide +kernel)
  have mal := n.free "all" (by decide +kernel)
  have me := n.free "enumerate" (by decide +kernel)
  have mt := n.free "tuple" (by decide +kernel)
  obtain ⟨_, F23⟩ := T 23 "shape" (by decide +kernel)
  obtain ⟨_, F24⟩ := T 24 "list_shape" (by decide +kernel)
  obtain ⟨_, F26⟩ := T 26 "check_literals" (by decide +kernel)
  obtain ⟨_, F27⟩ := T 27 "is_pattern" (by decide +kernel)
  obtain ⟨_, F28⟩ := T 28 "is_good" (by decide +kernel)
  obtain ⟨_, F29⟩ := T 29 "check_pattern" (by decide +kernel)
  obtain ⟨_, F34⟩ := T 34 "is_template" (by decide +kernel)
  obtain ⟨_, F35⟩ := T 35 "is_fit" (by decide +kernel)
  obtain ⟨_, F36⟩ := T 36 "are_rules" (by decide +kernel)
  have sh : Def P w K mg base 44 "shape" (sp_shape K (aP K) (aB K) L 20) := ok_shapes F23 (G "shape" (by decide +kernel)) F24 (G "list_shape" (by decide +kernel)) O EB n.rp n.an ml me mt 20
  have cl : Def P w K mg base 3 "check_literals" (sp_check_literals K L) := ok_check_literals F26 (G "check_literals" (by decide +kernel)) LO ml mal sz nm
  have ig : Def P w K mg base 45 "is_good" (sp_is_good K L) := ok_is_good F28 (G "is_good" (by decide +kernel)) O EB n.x1 sh dd
  have ip : Def P w K mg base 46 "is_pattern" (sp_is_pattern K L) := ok_is_pattern F27 (G "is_pattern" (by decide +kernel)) cl fo ig
  have cp : Def P w K mg base 47 "check_pattern" (sp_check_pattern K (aB K) L) := ok_check_pattern F29 (G "check_pattern" (by decide +kernel)) EB ip
  have fit : Def P w K mg base 45 "is_fit" (sp_is_fit K L) := ok_is_fit F35 (G "is_fit" (by decide +kernel)) O ET sh dd cs
  have tm : Def P w K mg base 48 "is_template" (sp_is_template K L) := ok_is_template F34 (G "is_template" (by decide +kernel)) cp fo fit
  exact ok_are_rules F36 (G "are_rules" (by decide +kernel)) EB mi ml (bt_tuple n) (bt_str n) n.rp n.ml tu sz cl ip tm fo
theorem said_of (n : Kn K mg) : SaidOk K mg (ga K "TextError") (aN K) := ⟨n.glo "TextError" (by decide +kernel), n.glo "NoRules" (by decide +kernel), n.free "isinstance" (by decide +kernel), n.free "ValueError" (by decide +kernel), n.eN, n.x2, n.y1, n.y2⟩
/-- the tested defs of macros -/
structure MD (P : Program) (w : World) (K : PySem.W.Frag) (mg : Str → Option Value) (base : Heap) : Prop where
  am : Def P w K mg base 50 "are_macros" (sp_are_macros K)
  et : Def P w K mg base 52 "ends_told" (sp_ends_told K (aN K))
  ie : Def P w K mg base 53 "is_ending" (sp_is_ending K)
  orf : Def P w K mg base 52 "order_for" (sp_order_for K (aN K))
theorem md_of (n : Kn K mg) : MD P w K mg base := by
  obtain ⟨nm, _, _, _, _, _, _, EN, _, _⟩ := bd_of (P := P) (w := w) (base := base) n
  have T := fun i x (h : (i, x) ∈ fnTop) => n.fnT (i, x) h
  have G := n.glo
  have mi := n.free "isinstance" (by decide +kernel)
  have ml := n.free "len" (by decide +kernel)
  have mal := n.free "all" (by decide +kernel)
  have me := n.free "enumerate" (by decide +kernel)
  have mt := n.free "tuple" (by decide +kernel)
  have mso := n.free "sorted" (by decide +kernel)
  obtain ⟨_, F38⟩ := T 38 "are_macros" (by decide +kernel)
  obtain ⟨_, F39⟩ := T 39 "check_macros" (by decide +kernel)
  obtain ⟨_, F40⟩ := T 40 "weight" (by decide +kernel)
  obtain ⟨_, F41⟩ := T 41 "often" (by decide +kernel)
  obtain ⟨_, F42⟩ := T 42 "uses_in" (by decide +kernel)
  obtain ⟨_, F43⟩ := T 43 "is_less" (by decide +kernel)
  obtain ⟨_, F44⟩ := T 44 "ends_told" (by decide +kernel)
  obtain ⟨_, F45⟩ := T 45 "is_ending" (by decide +kernel)
  obtain ⟨_, F46⟩ := T 46 "order_for" (by decide +kernel)
  have am : Def P w K mg base 50 "are_macros" (sp_are_macros K) := ok_are_macros F38 (G "are_macros" (by decide +kernel)) mi ml (bt_tuple n) nm fun L LO => rules_of n LO
  have cm : Def P w K mg base 51 "check_macros" (sp_check_macros K (aN K)) := ok_check_macros F39 (G "check_macros" (by decide +kernel)) EN am
  have wt : Def P w K mg base 20 "weight" (sp_weight K 19) := ok_weights F40 (G "weight" (by decide +kernel)) mi ml me (bt_tuple n) n.rp 19
  have oft : Def P w K mg base 3 "often" (sp_often K) := ok_often F41 (G "often" (by decide +kernel)) mi ml me (bt_tuple n) (bt_str n) (bt_int n) n.rp
  have us : Def P w K mg base 3 "uses_in" (sp_uses K) := ok_uses F42 (G "uses_in" (by decide +kernel)) mi ml (bt_list n) (bt_tuple n) (bt_str n)
  have il : Def P w K mg base 21 "is_less" (sp_is_less K) := ok_is_less F43 (G "is_less" (by decide +kernel)) oft wt
  have et : Def P w K mg base 52 "ends_told" (sp_ends_told K (aN K)) := ok_ends_told F44 (G "ends_told" (by decide +kernel)) me cm us il
  exact {
    am := am
    et := et
    ie := ok_is_ending F45 (G "is_ending" (by decide +kernel)) am et
    orf := ok_order_for F46 (G "order_for" (by decide +kernel)) mso ml mal mt cm us }
theorem lawF_of {cc Pt f g : Addr} {fd fdS : FuncData} (n : Kn K mg) (F65 : FnP K "_law_are_refused" 65 f fd) (hc : fd.code = .ref cc) (hm : mg "_law_are_refused" = some (.ref f)) (FS : FnP K "_law_word" 53 g fdS) (hms : mg "_law_word" = some (.ref g)) (TB : TabB base mg cc Pt) : LawF P w K mg base (aN K) Pt := by
  obtain ⟨am, et, ie, orf⟩ := md_of (P := P) (w := w) (base := base) n
  have T := fun i x (h : (i, x) ∈ fnTop) => n.fnT (i, x) h
  have G := n.glo
  have mi := n.free "isinstance" (by decide +kernel)
  have ml := n.free "len" (by decide +kernel)
  have mal := n.free "all" (by decide +kernel)
  have man := n.free "any" (by decide +kernel)
  have mab := n.free "abs" (by decide +kernel)
  have mr := n.free "range" (by decide +kernel)
  have me := n.free "enumerate" (by decide +kernel)
  have mt := n.free "tuple" (by decide +kernel)
  have mso := n.free "sorted" (by decide +kernel)
  have mz := n.free "zip" (by decide +kernel)
  obtain ⟨_, F48⟩ := T 48 "_law_hand" (by decide +kernel)
  obtain ⟨_, F49⟩ := T 49 "_law_draw" (by decide +kernel)
  obtain ⟨_, F50⟩ := T 50 "_law_any" (by decide +kernel)
  obtain ⟨_, F51⟩ := T 51 "_law_mixed" (by decide +kernel)
  obtain ⟨_, F52⟩ := T 52 "_law_is" (by decide +kernel)
  obtain ⟨_, F54⟩ := T 54 "_law_pattern" (by decide +kernel)
  obtain ⟨_, F55⟩ := T 55 "_law_repeats" (by decide +kernel)
  obtain ⟨_, F56⟩ := T 56 "_law_template" (by decide +kernel)
  obtain ⟨_, F57⟩ := T 57 "_law_macros" (by decide +kernel)
  obtain ⟨_, F58⟩ := T 58 "_law_weight" (by decide +kernel)
  obtain ⟨_, F59⟩ := T 59 "_law_counts" (by decide +kernel)
  obtain ⟨_, F60⟩ := T 60 "_law_uses" (by decide +kernel)
  obtain ⟨_, F61⟩ := T 61 "_law_is_less" (by decide +kernel)
  obtain ⟨_, F62⟩ := T 62 "_law_ends" (by decide +kernel)
  obtain ⟨_, F63⟩ := T 63 "_law_order" (by decide +kernel)
  obtain ⟨_, F64⟩ := T 64 "_law_is_right" (by decide +kernel)
  have dw : Def P w K mg base 1 "_law_draw" sp_draw := ok_draw F49 (G "_law_draw" (by decide +kernel)) ml (bt_int n)
  have da : Def P w K mg base 2 "_law_any" (sp_any K) := ok_any F50 (G "_law_any" (by decide +kernel)) ml dw
  have dmx : Def P w K mg base 2 "_law_mixed" sp_mixed := ok_mixed F51 (G "_law_mixed" (by decide +kernel)) ml (bt_list n) dw
  have li : Def P w K mg base 3 "_law_is" (sp_lis K 2) := ok_lis F52 (G "_law_is" (by decide +kernel)) ⟨mi⟩ ml mal mz (bt_tuple n) (bt_list n) (bt_bool n) (bt_int n) (bt_str n) 2
  have pa : Def P w K mg base 3 "_law_pattern" (sp_pat K) := ok_pat F54 (G "_law_pattern" (by decide +kernel)) mr mt dw da
  have rp : Def P w K mg base 1 "_law_repeats" (sp_repeats K) := ok_repeats F55 (G "_law_repeats" (by decide +kernel)) mi me (bt_tuple n) (bt_list n)
  have tm : Def P w K mg base 6 "_law_template" (sp_tmpl K 3) := ok_tmpls F56 (G "_law_template" (by decide +kernel)) mr mt dw da 3
  have lw : Def P w K mg base 20 "_law_weight" (sp_lweight K 19) := ok_lweights F58 (G "_law_weight" (by decide +kernel)) mi me (bt_tuple n) 19
  have lc : Def P w K mg base 20 "_law_counts" (sp_lcounts K 19) := ok_lcounts F59 (G "_law_counts" (by decide +kernel)) mi me (bt_tuple n) (bt_str n) 19
  have lu : Def P w K mg base 20 "_law_uses" (sp_luses K 19) := ok_luses F60 (G "_law_uses" (by decide +kernel)) mi (bt_tuple n) 19
  have ll : Def P w K mg base 21 "_law_is_less" (sp_is_less K) := ok_lis_less F61 (G "_law_is_less" (by decide +kernel)) man lc lw
  have le : Def P w K mg base 22 "_law_ends" (sp_lends K) := ok_lends F62 (G "_law_ends" (by decide +kernel)) me lu ll
  have lo : Def P w K mg base 22 "_law_order" (sp_lorder K) := ok_lorder F63 (G "_law_order" (by decide +kernel)) mso mal mt lu
  exact {
    dh := ok_hand F48 (G "_law_hand" (by decide +kernel)) ml mab (bt_int n)
    de := et
    dor := orf
    dm := ok_lmacros F57 (G "_law_macros" (by decide +kernel)) mr me mt (bt_list n) dw da dmx pa rp tm
    dr := ok_right F64 (G "_law_is_right" (by decide +kernel)) mt et ie orf am le lo li
    df := ok_refused F65 hc hm FS hms (said_of n) TB ml (bt_list n) dw da et ie orf am li
    mr := mr }
end
end
section
open He
theorem law_at {w : World} {mg : Str → Option Value} {f : Addr} {h : Heap} (Y : (hk).says w h) (G : h.Ns mainGlobals mg) (hmg : mg "law" = some (.ref f)) : ∃ K : PySem.W.Frag, K.In h ∧ LamX.LawAtS PySem.Challenge.rw_owntexts_k29_whole_macros_that_end w K (L2.CX R.prog w) 59 63 "script" mg f h := by
  obtain ⟨K, X, c⟩ := Y
  have n : Kn K mg := kn_of X G c.t.d c.more
  obtain ⟨fd, F⟩ := n.fnT (66, "law") (by decide +kernel)
  obtain ⟨fdA, FA⟩ := n.fnT (65, "_law_are_refused") (by decide +kernel)
  obtain ⟨fdS, FS⟩ := n.fnT (53, "_law_word") (by decide +kernel)
  have e := hmg.symm.trans (n.glo "law" (by decide +kernel))
  cases e
  obtain ⟨oc, od, dV, kV, doc, pm, an, cdv, ct, osl, efd, lk, hcd, _, _⟩ := id FA.ex
  obtain ⟨cc, rfl⟩ := codeIn_ref hcd
  have hc : fdA.code = .ref cc := by rw [efd] <;> rfl
  have ecT : cT K ("_law_are_refused", none) = (cc, tabOf K cc) := by
    have z := codeOf_eq (p := ("_law_are_refused", none)) lk hc
    unfold cT
    rw [z]
  have mem : (("_law_are_refused", none) : Defn) ∈ tf := by simp [tf]
  have hd := c.hd _ mem
  have out := c.out _ mem
  have emp := c.empty _ mem
  rw [ecT] at hd out emp
  have b := FunD.bindsA (ps := ["script"]) F fun _ _ _ _ _ _ us hl => match us, hl with | [_], _ => rfl
  refine ⟨K, X, fd, [(cc, tabOf K cc)], sp_law K (tabOf K cc), fun p hp => ?_, fun p hp => ?_, fun p hp => ?_, fun s v => b s [v] rfl, fun H a ns _ _ hT hS => ⟨a, ns, rfl, hS, hT _ (List.mem_singleton.mpr rfl), fun _ => rfl⟩, fun base _ _ TB => ?_⟩
  · rw [List.mem_singleton.mp hp]
    exact emp
  · rw [List.mem_singleton.mp hp]
    exact out
  · rw [List.mem_singleton.mp hp]
    exact PySem.W.codeHd_of_K X hd
  · exact ok_law F (lawF_of n FA hc (n.glo "_law_are_refused" (by decide +kernel)) FS (n.glo "_law_word" (by decide +kernel)) (TB _ (List.mem_singleton.mpr rfl)))
end
end K9
end
section
set_option Elab.async false
set_option linter.all false
set_option maxRecDepth 100000
set_option maxHeartbeats 0
open PySem PySem.W PySem.Calls PyProof.Rows
theorem K9.end_ : PySem.Challenge.rw_owntexts_k29_whole_macros_that_end.Holds := by
  w_on; o_law
  refine HandSHeadRun.head_any (r := K9.R) (q := view K9.R.prog [66]) (H := K9.hk) (ob := K9.ob) (M := 40000) (loose := K9.loose) (d := HandSHeadRun.topDef K9.R.prog 66) (kwd := []) K9.ob_eq
    (by kernel_rfl) (fun s => by kernel_rfl) K9.run (by kernel_rfl) (by kernel_rfl) (by kernel_rfl) (by rfl) (by first | assumption | decide +kernel) (by decide +kernel) ⟨rfl, rfl, rfl, rfl, rfl, by decide +kernel⟩ ?hw ?hc
  case hw => w_witness2
  case hc =>
    refine LamX.walk_ofTsE (l := PySem.Challenge.rw_owntexts_k29_whole_macros_that_end) (n := 63) (k := 59) (x := "script") (CX := fun w => L2.CX K9.R.prog w) rfl (by decide) (by kernel_rfl) ⟨rfl, by decide, by decide⟩ ?F ?C
    case F =>
      intro w mg f h Y G hmg0
      have hmg : mg ("law" : PySem.Str) = some (.ref f) := by
        have e : (HandSHeadRun.topDef K9.R.prog 66).name = ("law" : PySem.Str) := by kernel_rfl
        rw [← e]
        exact hmg0
      exact K9.law_at Y G hmg
    case C =>
      rintro w H s e s' ⟨a, B, H', cls, d, _, _, _, _, _, _, _, z⟩
      exact z
end
set_option maxHeartbeats 0 in
theorem PySem.Challenge.cw_owntexts_k29_whole_macros_that_end_holds : PySem.Challenge.rw_owntexts_k29_whole_macros_that_end.Holds := by
  exact K9.end_
