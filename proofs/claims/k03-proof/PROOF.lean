import PyProof.Rows.All
import Wide.All
import OpenK.AllK
import Wide.FinOn
import KE.KStateDown
import HandS.ForMost
import HandS.ForExc
import HandS.IsInst
import HandS.Defaults
import HandS.Flow
import HandS.TupAny
import HandS.DictComp
import HandS.ExcInit
import HandS.WordsDict
import KE.GoesMore
import HandS.Walk
import HandS.More
import HandS.New0
import HandS.Codes
import HandS.Dict
import HandS.TryOnly
import HandS.DictTup
import HandS.SortOrd
import KE.KSortTupAny
import PyProof.DictUpdate
import KE.KDictPairs
import KE.DataFind
import HandS.Deep
import HandS.SetFor
import HandS.Strs
import HandS.Lambda
import HandS.ExcIs
import HandS.Style
import HandS.HeadHook4
import HandS.HeadWalk
import HandS.HeadEnd
import HandS.Head0
import HandS.Head1
import HandS.Head2
import PySem.Challenge.RW_owntexts_k03_whole_patterns
section
set_option Elab.async false
set_option linter.all false
set_option maxRecDepth 100000
set_option maxHeartbeats 2000000
/-! Weakest preconditions over the hand layer: WE, WT, WW, WA, WS, WB; a rule a construct, from the layer's own. -/
namespace WP
open PySem PySem.Spec PyProof.Rows L2
structure WE (X : Cx) (e : Expr) (σ : L2.St) (H : Hp) (Q : VK) : Prop where
  run : ∀ pins s, Inv X pins σ H s → wpAny (model X.prog X.w) X.A (eval e X.env) (EP X pins σ Q) X.xe s
structure WT (X : Cx) (e : Expr) (σ : L2.St) (H : Hp) (Q : Bool → Hp → Prop) : Prop where
  run : ∀ pins s, Inv X pins σ H s → wpAny (model X.prog X.w) X.A (isTrue e X.env (eval e X.env)) (TP X pins σ Q) X.xe s
structure WW (X : Cx) (e : Expr) (σ : L2.St) (H : Hp) (Q : Bool → Hp → Prop) : Prop where
  run : ∀ whole pins s, Inv X pins σ H s → wpAny (model X.prog X.w) X.A (isTrue e X.env whole) (TP X pins σ Q) X.xe s
structure WA (X : Cx) (es : List Expr) (σ : L2.St) (H : Hp) (Q : List V → Hp → Prop) : Prop where
  run : ∀ pos pins s, Inv X pins σ H s → wpAny (model X.prog X.w) X.A (spliced (backTo pos (starEach es X.env))) (AP X pins σ Q) X.xe s
structure WS (X : Cx) (st : Stmt) (D : Ends) (σ : L2.St) (H : Hp) : Prop where
  run : ∀ pins s, Inv X pins σ H s → wpAny (model X.prog X.w) X.A (exec st X.env) (SP X pins D) X.xe s
structure WB (X : Cx) (sts : List Stmt) (D : Ends) (σ : L2.St) (H : Hp) : Prop where
  run : ∀ pins s, Inv X pins σ H s → wpAny (model X.prog X.w) X.A (execs sts X.env) (SP X pins D) X.xe s
section
variable {X : Cx} {e a b c : Expr} {es : List Expr} {st : Stmt} {sts rest : List Stmt} {σ : L2.St} {H : Hp} {Q : VK} {QT : Bool → Hp → Prop} {QA : List V → Hp → Prop} {D : Ends} {pos p : Pos}
theorem pe : PE X e (WE X e) := ⟨fun pins s σ H Q I h => h.run pins s I⟩
theorem pt : PT X e (WT X e) := ⟨fun pins s σ H Q I h => h.run pins s I⟩
theorem pw : PW X e (WW X e) := ⟨fun wh pins s σ H Q I h => h.run wh pins s I⟩
theorem pa : PA X es (WA X es) := ⟨fun pos pins s σ H Q I h => h.run pos pins s I⟩
theorem ps : PS X st (WS X st) := ⟨fun pins s σ H D I h => h.run pins s I⟩
theorem pss : PSs X sts (WB X sts) := ⟨fun pins s σ H D I h => h.run pins s I⟩
theorem WE.of {t : TE} (h : PE X e t) (q : t σ H Q) : WE X e σ H Q := ⟨fun pins s I => h.run pins s σ H Q I q⟩
theorem WT.of {t : TT} (h : PT X e t) (q : t σ H QT) : WT X e σ H QT := ⟨fun pins s I => h.run pins s σ H QT I q⟩
theorem WW.of {t : TT} (h : PW X e t) (q : t σ H QT) : WW X e σ H QT := ⟨fun wh pins s I => h.run wh pins s σ H QT I q⟩
theorem WA.of {t : TA} (h : PA X es t) (q : t σ H QA) : WA X es σ H QA := ⟨fun pos pins s I => h.run pos pins s σ H QA I q⟩
theorem WS.of {t : TS} (h : PS X st t) (q : t D σ H) : WS X st D σ H := ⟨fun pins s I => h.run pins s σ H D I q⟩
theorem WB.of {t : TS} (h : PSs X sts t) (q : t D σ H) : WB X sts D σ H := ⟨fun pins s I => h.run pins s σ H D I q⟩
theorem WE.mono {Q' : VK} (h : WE X e σ H Q) (q : ∀ v H, Q v H → Q' v H) : WE X e σ H Q' := ⟨fun pins s I => thn (h.run pins s I) fun _ _ ⟨v, H', I', r, z⟩ => ⟨v, H', I', r, q _ _ z⟩⟩
/-! names, constants -/
theorem we_var {x : Str} (i : Nat) {v : V} (hN : X.N[i]? = some x) (hv : Vis X.env.scope x) (hs : σ[i]? = some (some v)) (q : Q v H)
    (hd : (x == ("__debug__" : Str)) = false := by decide) (hcd : (x == ("__classdict__" : Str)) = false := by decide) : WE X (.Name x pos) σ H Q := .of (pe_var hN hv hd hcd) ⟨v, hs, q⟩
theorem we_int {i : Int} {j : Nat} (q : Q (.int i) H) : WE X (.Constant (.int i) j pos) σ H Q := .of pe_int q
theorem we_bl {i : Bool} {j : Nat} (q : Q (.bl i) H) : WE X (.Constant (.bool i) j pos) σ H Q := .of pe_bl q
theorem we_non {j : Nat} (q : Q .non H) : WE X (.Constant .none j pos) σ H Q := .of pe_non q
theorem we_str {i : Str} {j : Nat} (q : Q (.str i) H) : WE X (.Constant (.str i) j pos) σ H Q := .of pe_str q
theorem we_glob {x : Str} {v : V} {u : Value} (hg : Gl X x) (hm : X.mg x = some u) (r : RelV v u) (q : Q v H) (hd : (x == ("__debug__" : Str)) = false := by decide) : WE X (.Name x pos) σ H Q := .of (pe_glob hg hm r hd) q
theorem we_bltn {x : Str} {v : V} {u : Value} (hg : Gl X x) (hm : X.mg x = none) (hv : bootBuiltins x = some u) (r : RelV v u) (q : Q v H) (hn : x ≠ "__name__" := by decide) (hd : (x == ("__debug__" : Str)) = false := by decide) : WE X (.Name x pos) σ H Q := .of (pe_bltn hg hm hv r hn hd) q
/-! operators -/
theorem we_op {op : Operator} {r : R2} (ho : OpR X (binaryOp op) r) (q : WE X a σ H fun x H1 => WE X b σ H1 fun y H2 => r x y H2 Q) : WE X (.BinOp a op b pos) σ H Q := .of (pe_op ho pe pe) q
theorem we_un {op : UnaryOp} {r : V → Hp → VK → Prop} (ho : UnR X (unaryOp op) r) (q : WE X a σ H fun x H1 => r x H1 Q) : WE X (.UnaryOp op a pos) σ H Q := .of (pe_un ho pe) q
theorem we_cmp {op : CmpOp} {r : R2} (ho : OpR X (compareOp op) r) (hm : behindInMarks op b = false) (q : WE X a σ H fun x H1 => WE X b σ H1 fun y H2 => r x y H2 Q) : WE X (.Compare a [op] [b] pos) σ H Q := .of (pe_cmpR ho pe pe hm) q
theorem wt_cmp {op : CmpOp} {r : R2} (ho : OpR X (compareOp op) r) (hm : behindInMarks op b = false) (q : WE X a σ H fun x H1 => WE X b σ H1 fun y H2 => r x y H2 fun z H3 => ∃ k, z = .bl k ∧ QT k H3) : WT X (.Compare a [op] [b] pos) σ H QT := .of (pt_cmpR ho pe pe hm) q
theorem we_if (q : WT X c σ H fun k H1 => if k = true then WE X a σ H1 Q else WE X b σ H1 Q) : WE X (.IfExp c a b pos) σ H Q := .of (pe_ifExp pt pe pe) q
theorem wt_not (q : WT X a σ H fun k H1 => QT (!k) H1) : WT X (.UnaryOp .Not a pos) σ H QT := .of (pt_not pt) q
theorem we_not (q : WE X a σ H fun x H1 => ∃ k, x = .bl k ∧ Q (.bl (!k)) H1) : WE X (.UnaryOp .Not a pos) σ H Q := .of (pe_not pe) q
theorem wt_ww {op : BoolOp} (q : WW X (.BoolOp op es pos) σ H QT) : WT X (.BoolOp op es pos) σ H QT := ⟨q.run _⟩
theorem ww_and (q : WT X a σ H fun k H1 => if k = true then WW X (.BoolOp .And (b :: es) pos) σ H1 QT else QT false H1) : WW X (.BoolOp .And (a :: b :: es) pos) σ H QT := .of (pw_and pt pw) q
theorem ww_or (q : WT X a σ H fun k H1 => if k = true then QT true H1 else WW X (.BoolOp .Or (b :: es) pos) σ H1 QT) : WW X (.BoolOp .Or (a :: b :: es) pos) σ H QT := .of (pw_or pt pw) q
theorem ww_and1 (q : WT X a σ H QT) : WW X (.BoolOp .And [a] pos) σ H QT := .of (pw_and1 pt) q
theorem ww_or1 (q : WT X a σ H QT) : WW X (.BoolOp .Or [a] pos) σ H QT := .of (pw_or1 pt) q
theorem we_and (q : WE X a σ H fun x H1 => ∃ k, x = .bl k ∧ if k = true then WE X (.BoolOp .And (b :: es) pos) σ H1 Q else Q (.bl false) H1) : WE X (.BoolOp .And (a :: b :: es) pos) σ H Q := .of (pe_and pe pe) q
theorem we_or (q : WE X a σ H fun x H1 => ∃ k, x = .bl k ∧ if k = true then Q (.bl true) H1 else WE X (.BoolOp .Or (b :: es) pos) σ H1 Q) : WE X (.BoolOp .Or (a :: b :: es) pos) σ H Q := .of (pe_or pe pe) q
theorem we_one {op : BoolOp} (q : WE X a σ H Q) : WE X (.BoolOp op [a] pos) σ H Q := .of (pe_one pe) q
theorem wt_val (q : WE X e σ H fun x H1 => ∃ k, x = .bl k ∧ QT k H1) (he : ∀ whole, isTrue e X.env whole = (do let v ← whole; standAt e.pos; holding [v] (truthy v)) := by intro _; rfl) : WT X e σ H QT := .of (pt_val pe he) q
theorem we_chain {op op' : CmpOp} {r r' : R2} (ho : OpR X (compareOp op) r) (ho' : OpR X (compareOp op') r') (q : WE X a σ H fun x H1 => WE X b σ H1 fun y H2 => r x y H2 fun z H3 => ∃ k, z = .bl k ∧ (if k = true then WE X c σ H3 fun w' H4 => r' y w' H4 Q else Q (.bl false) H3))
    (hm : lastMarks [op, op'] [b, c] = false := by with_unfolding_all rfl) : WE X (.Compare a [op, op'] [b, c] pos) σ H Q := .of (pe_chain ho ho' pe pe pe hm) q
/-! displays, subscripts -/
theorem wa_nil (q : QA [] H) : WA X [] σ H QA := .of pa_nil q
theorem wa_cons (q : WE X e σ H fun x H1 => WA X es σ H1 fun xs H2 => QA (x :: xs) H2) (hs : starEach (e :: es) X.env = (false, eval e X.env) :: starEach es X.env := by rfl) : WA X (e :: es) σ H QA := .of (pa_cons pe pa hs) q
theorem we_tup {j : Nat} (q : WA X es σ H fun xs H1 => xs.length ≤ sizeLine ∧ ∀ p, H1 p = none → Q (.ref p) (upd H1 p (.tup xs))) : WE X (.Tuple es j pos) σ H Q := .of (pe_tup pa) q
theorem we_lst (q : WA X es σ H fun xs H1 => xs.length ≤ sizeLine ∧ ∀ p, H1 p = none → Q (.ref p) (upd H1 p (.lst xs))) : WE X (.List es pos) σ H Q := .of (pe_lst pa) q
theorem we_ix {r : R2} (hr : IxR X r) (hs : PlainIx b) (q : WE X a σ H fun x H1 => WE X b σ H1 fun y H2 => r x y H2 Q) : WE X (.Subscript a b pos) σ H Q := .of (pe_ix hr pe pe hs) q
/-! statements -/
theorem wb_nil (q : D.nx σ H) : WB X [] D σ H := .of pss_nil q
theorem wb_cons (q : WS X st { D with nx := WB X rest D } σ H) : WB X (st :: rest) D σ H := .of (pss_cons ps pss) q
theorem wb_one (q : WS X st D σ H) : WB X [st] D σ H := .of (pss_one ps) q
theorem ws_ret (q : WE X e σ H D.rt) : WS X (.Return (some e) pos) D σ H := .of (ps_ret pe) q
theorem ws_if {s1 s2 : List Stmt} (q : WT X c σ H fun k H1 => if k = true then WB X s1 D σ H1 else WB X s2 D σ H1) : WS X (.If c s1 s2 pos) D σ H := .of (ps_if pt pss pss) q
theorem ws_expr (q : WE X e σ H fun _ H1 => D.nx σ H1) (hs : swapsWith e none pos.line X.env = pure false := by rfl) : WS X (.Expr e pos) D σ H := .of (ps_expr pe hs) q
theorem ws_set {x : Str} {pos' : Pos} (i : Nat) (hN : X.N.Nodup) (hi : X.N[i]? = some x) (hx : Loc X.env.scope x) (q : WE X e σ H fun v H1 => D.nx (σ.set i (some v)) H1) (hs : swapsWith e (some (.Name x pos')) pos.line X.env = pure false := by rfl)
    (hf : X.fn x = true ∨ X.env.scope.names.lookup x = some .local := by first | exact .inl rfl | exact .inr rfl | assumption) : WS X (.Assign [.Name x pos'] e pos) D σ H := .of (ps_set hN hi hx pe hs hf) q
theorem ws_asg {tg : Expr} {g : TG} (hg : PG X tg g) (q : WE X e σ H fun x H1 => g x σ H1 D.nx) (hs : swapsWithSole [tg] e pos.line X.env = pure false := by rfl) (hw : swappedStores [tg] e X.env = pure none := by rfl) (h1 : List.map (fun x => x.snd) (assignEach [tg] X.env) = [assign tg X.env] := by rfl) : WS X (.Assign [tg] e pos) D σ H := .of (ps_asg pe hg hs hw h1) q
theorem ws_aug {x : Str} {op : Operator} {ti : TIp} {pos' : Pos} (i : Nat) {v : V} (hN : X.N.Nodup) (hi : X.N[i]? = some x) (hx : Loc X.env.scope x) (ho : PIp X op ti) (hs : σ[i]? = some (some v)) (q : WE X e σ H fun y H1 => ti v y H1 fun z H2 => D.nx (σ.set i (some z)) H2)
    (hf : X.fn x = true ∨ X.env.scope.names.lookup x = some .local := by first | exact .inl rfl | exact .inr rfl | assumption) : WS X (.AugAssign (.Name x pos') op e pos) D σ H := .of (ps_aug hN hi hx pe ho hf) ⟨v, hs, q⟩
theorem ws_for {iter tg : Expr} {body : List Stmt} {wi : TI} {g : TG} (hp : PassesOwn (model X.prog X.w) X.A X.env X.xe) (hc : X.calm = true) (hi : PI X tg iter wi) (hg : PG X tg g) (q : tFor wi g (WB X body) D σ H) (hs : ∀ x, foldedSetIterable iter X.env x = pure x := by intro _; rfl) : WS X (.For tg iter body [] pos) D σ H := .of (ps_for hp hc hi hg pss hs) q
theorem ws_while {body : List Stmt} (hp : PassesOwn (model X.prog X.w) X.A X.env X.xe) (q : tWhile (WT X c) (WB X body) D σ H) : WS X (.While c body [] pos) D σ H := .of (ps_while hp pt pss) q
end
/-! ### defs by name -/
/-- the def that the module calls x keeps sp, by level k -/
structure Def (P : Program) (w : World) (K : PySem.W.Frag) (mg : Str → Option Value) (base : Heap) (k : Nat) (x : Str) (sp : Sp) : Prop where
  ex : ∃ f fd ps, mg x = some (.ref f) ∧ PySem.W.keepIn K (.ref f) = true ∧ Binds K fd ps [] ∧ FnOk P w K mg base (L2.CX P w) k f fd ps sp
/-- so a method m of the class at C -/
structure MDef (P : Program) (w : World) (K : PySem.W.Frag) (mg : Str → Option Value) (base : Heap) (k : Nat) (C : Addr) (m : Str) (sp : Sp) : Prop where
  ex : ∃ f fd ps, Meth K C m f ∧ Binds K fd ps [] ∧ FnOk P w K mg base (L2.CX P w) k f fd ps sp
section
variable {X : Cx} {RW : WX} {e o : Expr} {es : List Expr} {σ : L2.St} {H : Hp} {Q : VK} {pos p apos : Pos} {k : Nat} {x m : Str} {sp : Sp} {C : Addr}
theorem passT (tk : Takes X RW) (σ : L2.St) : PassesAt (L2.CX X.prog X.w) X σ (fun cls d H' => RW cls d σ H') := passAt tk σ
theorem we_call (F : Def X.prog X.w X.K X.mg X.base k x sp) (hr : Room k X.A) (tk : Takes X RW) (hg : Gl X x) (q : WA X (e :: es) σ H fun vs H1 => sp vs H1 Q fun cls d H' => RW cls d σ H')
    (hdb : (x == ("__debug__" : Str)) = false := by decide) (he : starEach (e :: es) X.env = (false, eval e X.env) :: starEach es X.env := by rfl) (hpl : (backTo pos (starEach es X.env)).any (·.1) = false := by rfl) : WE X (.Call (.Name x p) (e :: es) [] pos) σ H Q := by
  obtain ⟨f, fd, ps, hm, hk, hb, F⟩ := F.ex
  exact .of (pe_callS (E := fun σ cls d H' => RW cls d σ H') F hr hg hm hk hb (fun σ => passAt tk σ) pa hdb he hpl) q
theorem we_callB {id : String} {r : List V → Hp → VK → Prop} (hc : CallR X (.builtin id) r) (hg : Gl X x) (hm : X.mg x = none) (hv : bootBuiltins x = some (.builtin id)) (q : WA X (e :: es) σ H fun vs H1 => r vs H1 Q) (hn : x ≠ "__name__" := by decide) (hdb : (x == ("__debug__" : Str)) = false := by decide)
    (he : starEach (e :: es) X.env = (false, eval e X.env) :: starEach es X.env := by rfl) (hpl : (backTo pos (starEach es X.env)).any (·.1) = false := by rfl) : WE X (.Call (.Name x p) (e :: es) [] pos) σ H Q := .of (pe_callB hc hg hm hv pa hn hdb he hpl) q
theorem we_callTy {T : String} {r : List V → Hp → VK → Prop} (hc : CallR X (.type T) r) (hg : Gl X x) (hm : X.mg x = none) (hv : bootBuiltins x = some (.type T)) (q : WA X (e :: es) σ H fun vs H1 => r vs H1 Q) (hn : x ≠ "__name__" := by decide) (hdb : (x == ("__debug__" : Str)) = false := by decide)
    (he : starEach (e :: es) X.env = (false, eval e X.env) :: starEach es X.env := by rfl) (hpl : (backTo pos (starEach es X.env)).any (·.1) = false := by rfl) : WE X (.Call (.Name x p) (e :: es) [] pos) σ H Q := .of (pe_callTy hc hg hm hv pa hn hdb he hpl) q
end
/-- the body's context of a def -/
abbrev bx (P : Program) (w : World) (K : PySem.W.Frag) (mg : Str → Option Value) (base : Heap) (N : List Str) (qual : Str) (sc : Scope) (f : Addr) (cdv : Value) (A : Around) (outer : List Env) (s : Shared) (H : Hp) (E : XK) : Cx := cxOf (L2.CX P w) P w K mg base N qual sc f cdv A outer s H E
theorem Def.mk' {P : Program} {w : World} {K : PySem.W.Frag} {mg : Str → Option Value} {base : Heap} {x qual : Str} {params : Arguments} {body : List Stmt} {scope : Scope} {kws : List (Str × V)} {f : Addr} {fd : FuncData} {N ps : List Str} {k : Nat} {sp : Sp}
    (F : FunD K x qual params body scope [] kws f fd) (hm : mg x = some (.ref f)) (S : FnScope N ps scope) (len : ∀ vs H Q E, sp vs H Q E → vs.length = ps.length)
    (hb : ∀ (kV doc pm : Value) (an : Option Addr) (cdv ct : Value) (us : List Value), us.length = ps.length → bindArgs (PySem.W.fnOf x qual params body scope .none kV doc pm an cdv ct) ⟨us, []⟩ = pure (ps.zip us))
    (hbody : ∀ (cdv : Value) (A : Around) (outer : List Env) (s : Shared) (H : Hp) (vs : List V) (Q : VK) (E : XK), Room k (A.deeper (envOfC qual scope s.heap.objs.size f cdv)) → Takes (bx P w K mg base N qual scope f cdv A outer s H E) (fun cls d _ H => E cls d H) → sp vs H Q E →
      WB (bx P w K mg base N qual scope f cdv A outer s H E) body { nx := fun _ H' => Q .non H', rt := Q } (start N vs) H) : Def P w K mg base (k + 1) x sp :=
  ⟨f, fd, ps, hm, F.kp, F.bindsN hb, F.ok S len fun cdv A outer s H vs Q E hr h => ⟨_, pss, hbody cdv A outer s H vs Q E hr (takes_of rfl rfl rfl rfl) h⟩⟩
end WP
end
section
set_option Elab.async false
set_option linter.all false
set_option maxRecDepth 100000
set_option maxHeartbeats 2000000
namespace WP
open PySem PySem.Spec PyProof.Rows L2
/-! ### heaps, data -/
theorem _root_.L2.Same.new {H : Hp} {p : Addr} {o : HO} (h : H p = none) : Same H (upd H p o) := fun b u e => by
  rw [upd_ne (ne_of_none e h)]
  exact e
theorem _root_.L2.Same.mut {H0 H : Hp} {p : Addr} {o : HO} (s : Same H0 H) (h : H0 p = none) : Same H0 (upd H p o) := fun b u e => by
  rw [upd_ne (ne_of_none e h)]
  exact s b u e
theorem _root_.L2.Same.tup {K : PySem.W.Frag} {H H' : Hp} {a : Addr} {xs : List V} (e : Same H H') (h : SqT K H a xs) : SqT K H' a xs := by
  rcases h with (h | ⟨o, h⟩) | h
  · exact .inl (.inl (e _ _ h))
  · exact .inl (.inr ⟨o, e _ _ h⟩)
  · exact .inr h
mutual
theorem dp_mono {K : PySem.W.Frag} {H H' : Hp} (e : Same H H') : ∀ {d : PyData} {v : V}, Dp K H v d → Dp K H' v d
  | _, _, .non => .non
  | _, _, .bl b => .bl b
  | _, _, .int i => .int i
  | _, _, .str x => .str x
  | _, _, .lst h g => .lst (e.seq h) (dpAll_mono e g)
  | _, _, .tup h g => .tup (Same.tup e h) (dpAll_mono e g)
theorem dpAll_mono {K : PySem.W.Frag} {H H' : Hp} (e : Same H H') : ∀ {ds : List PyData} {vs : List V}, DpAll K H vs ds → DpAll K H' vs ds
  | _, _, .nil => .nil
  | _, _, .cons h g => .cons (dp_mono e h) (dpAll_mono e g)
end
section
variable {K : PySem.W.Frag} {H : Hp}
theorem dpAll_len : ∀ {vs : List V} {ds : List PyData}, DpAll K H vs ds → vs.length = ds.length
  | _, _, .nil => rfl
  | _, _, .cons _ g => congrArg (· + 1) (dpAll_len g)
theorem dpAll_at : ∀ {vs : List V} {ds : List PyData} {i : Nat} {d : PyData}, DpAll K H vs ds → ds[i]? = some d → ∃ v, vs[i]? = some v ∧ Dp K H v d
  | _, _, _, _, .nil, h => by simp at h
  | _, _, 0, _, .cons h g, e => by
    simp at e
    subst e
    exact ⟨_, rfl, h⟩
  | _, _, i + 1, _, .cons h g, e => by
    obtain ⟨v, e1, e2⟩ := dpAll_at (i := i) g (by simpa using e)
    exact ⟨v, by simpa using e1, e2⟩
theorem dpAll_atv : ∀ {vs : List V} {ds : List PyData} {i : Nat} {v : V}, DpAll K H vs ds → vs[i]? = some v → ∃ d, ds[i]? = some d ∧ Dp K H v d
  | _, _, _, _, .nil, h => by simp at h
  | _, _, 0, _, .cons h g, e => by
    simp at e
    subst e
    exact ⟨_, rfl, h⟩
  | _, _, i + 1, _, .cons h g, e => by
    obtain ⟨v, e1, e2⟩ := dpAll_atv (i := i) g (by simpa using e)
    exact ⟨v, by simpa using e1, e2⟩
theorem dpAll_app : ∀ {vs ws : List V} {ds es : List PyData}, DpAll K H vs ds → DpAll K H ws es → DpAll K H (vs ++ ws) (ds ++ es)
  | _, _, _, _, .nil, g => g
  | _, _, _, _, .cons h g, g2 => .cons h (dpAll_app g g2)
theorem dpAll_take : ∀ {vs : List V} {ds : List PyData} (n : Nat), DpAll K H vs ds → DpAll K H (vs.take n) (ds.take n)
  | _, _, 0, _ => .nil
  | _, _, _ + 1, .nil => .nil
  | _, _, n + 1, .cons h g => .cons h (dpAll_take n g)
theorem dpAll_drop : ∀ {vs : List V} {ds : List PyData} (n : Nat), DpAll K H vs ds → DpAll K H (vs.drop n) (ds.drop n)
  | _, _, 0, g => g
  | _, _, _ + 1, .nil => .nil
  | _, _, n + 1, .cons h g => dpAll_drop n g
theorem dpAll_snoc {vs : List V} {ds : List PyData} {v : V} {d : PyData} (g : DpAll K H vs ds) (h : Dp K H v d) : DpAll K H (vs ++ [v]) (ds ++ [d]) := dpAll_app g (.cons h .nil)
end
/-! ### isinstance of data -/
def tyD : PyData → String
  | .none => "NoneType" | .bool _ => "bool" | .int _ => "int" | .str _ => "str" | .list _ => "list" | .tuple _ => "tuple" | .dict _ => "dict"
def dTup : PyData → Bool
  | .tuple _ => true
  | _ => false
def dStr : PyData → Bool
  | .str _ => true
  | _ => false
def dBool : PyData → Bool
  | .bool _ => true
  | _ => false
def dInt : PyData → Bool
  | .int _ => true
  | .bool _ => true
  | _ => false
def isiD (d : PyData) (T : String) : Option Bool := if T = "tuple" then some (dTup d) else if T = "str" then some (dStr d) else if T = "bool" then some (dBool d) else if T = "int" then some (dInt d) else none
theorem dp_ty {K : PySem.W.Frag} {H : Hp} {v : V} {d : PyData} (h : Dp K H v d) : TyX K H v (.type (tyD d)) := by
  cases h with
  | non => exact .base .non
  | bl b => exact .base (.bl b)
  | int i => exact .base (.int i)
  | str x => exact .base (.str x)
  | lst h _ =>
    rcases h with (h | ⟨o, h⟩) | ⟨o, its, n, h, c, _⟩
    · exact .base (.lst h)
    · exact .base (.frz h)
    · exact .kList h c
  | tup h _ =>
    rcases h with (h | ⟨o, h⟩) | ⟨o, its, n, h, c, _⟩
    · exact .base (.tup h)
    · exact .fTuple h
    · exact .kTuple h c
theorem dp_nodict {K : PySem.W.Frag} {H : Hp} {v : V} {kvs : List (PyData × PyData)} (h : Dp K H v (.dict kvs)) : False := by cases h
theorem kit_tuple : ∀ a ∈ ["NoneType", "bool", "int", "str", "list", "tuple"], kitB a "tuple" = some (decide (a = "tuple")) := by decide +kernel
theorem kit_str : ∀ a ∈ ["NoneType", "bool", "int", "str", "list", "tuple"], kitB a "str" = some (decide (a = "str")) := by decide +kernel
theorem kit_bool : ∀ a ∈ ["NoneType", "bool", "int", "str", "list", "tuple"], kitB a "bool" = some (decide (a = "bool")) := by decide +kernel
theorem kit_int : ∀ a ∈ ["NoneType", "bool", "int", "str", "list", "tuple"], kitB a "int" = some (decide (a = "int" ∨ a = "bool")) := by decide +kernel
theorem kit_data {K : PySem.W.Frag} {H : Hp} {v : V} {d : PyData} {T : String} {b : Bool} (h : Dp K H v d) (e : isiD d T = some b) : kitB (tyD d) T = some b := by
  unfold isiD at e
  have dd : ∀ kvs, d ≠ .dict kvs := fun kvs z => by
    subst z
    exact dp_nodict h
  split at e
  · next z =>
    subst z
    cases d <;> first | exact absurd rfl (dd _) | (injection e with e; subst e; exact kit_tuple _ (by simp [tyD]))
  · split at e
    · next z =>
      subst z
      cases d <;> first | exact absurd rfl (dd _) | (injection e with e; subst e; exact kit_str _ (by simp [tyD]))
    · split at e
      · next z =>
        subst z
        cases d <;> first | exact absurd rfl (dd _) | (injection e with e; subst e; exact kit_bool _ (by simp [tyD]))
      · split at e
        · next z =>
          subst z
          cases d <;> first | exact absurd rfl (dd _) | (injection e with e; subst e; exact kit_int _ (by simp [tyD]))
        · cases e
def rIsiD (K : PySem.W.Frag) : List V → Hp → VK → Prop := fun xs H Q => ∃ (x : V) (T : String) (d : PyData) (b : Bool), xs = [x, .ty T] ∧ Dp K H x d ∧ isiD d T = some b ∧ Q (.bl b) H
theorem call_isiD {X : Cx} : CallR X (.builtin "isinstance") (rIsiD X.K) := by
  intro pins s σ H xs us Q I r h
  obtain ⟨x, T, d, b, e, hd, hb, q⟩ := h
  exact call_isi pins s σ H xs us Q I r ⟨x, .ty T, .type (tyD d), .type T, b, e, .ty T, dp_ty hd, kit_ty (kit_data hd hb), q⟩
/-! ### two rules for one operator -/
theorem opOr {X : Cx} {f : Value → Value → Sem Value} {r r' : R2} (h : OpR X f r) (h' : OpR X f r') : OpR X f (fun x y H Q => r x y H Q ∨ r' x y H Q) := by
  intro pins s σ H x y v u Q I rx ry q
  rcases q with q | q
  · exact h pins s σ H x y v u Q I rx ry q
  · exact h' pins s σ H x y v u Q I rx ry q
theorem callOr {X : Cx} {f : Value} {r r' : List V → Hp → VK → Prop} (h : CallR X f r) (h' : CallR X f r') : CallR X f (fun xs H Q => r xs H Q ∨ r' xs H Q) := by
  intro pins s σ H xs us Q I r1 q
  rcases q with q | q
  · exact h pins s σ H xs us Q I r1 q
  · exact h' pins s σ H xs us Q I r1 q
/-- a module's text, an int -/
def GStr (X : Cx) (x z : Str) : Prop := ∃ t, X.mg x = some (.str z t)
def GInt (X : Cx) (x : Str) (i : Int) : Prop := ∃ t, X.mg x = some (.int i t)
theorem we_gstr {X : Cx} {x z : Str} {σ : L2.St} {H : Hp} {Q : VK} {pos : Pos} (h : ∃ t, X.mg x = some (.str z t)) (hg : Gl X x) (q : Q (.str z) H) (hd : (x == ("__debug__" : Str)) = false := by decide) : WE X (.Name x pos) σ H Q :=
  let ⟨t, h⟩ := h; we_glob (v := .str z) hg h ⟨t, rfl⟩ q hd
theorem we_gint {X : Cx} {x : Str} {i : Int} {σ : L2.St} {H : Hp} {Q : VK} {pos : Pos} (h : ∃ t, X.mg x = some (.int i t)) (hg : Gl X x) (q : Q (.int i) H) (hd : (x == ("__debug__" : Str)) = false := by decide) : WE X (.Name x pos) σ H Q :=
  let ⟨t, h⟩ := h; we_glob (v := .int i) hg h ⟨t, rfl⟩ q hd
theorem we_ty {X : Cx} {x : Str} {T : String} {σ : L2.St} {H : Hp} {Q : VK} {pos : Pos} (hm : X.mg x = none) (hv : bootBuiltins x = some (.type T)) (hg : Gl X x) (q : Q (.ty T) H) (hn : x ≠ "__name__" := by decide) (hd : (x == ("__debug__" : Str)) = false := by decide) : WE X (.Name x pos) σ H Q :=
  we_bltn (v := .ty T) hg hm hv rfl q hn hd
end WP
end
section
set_option Elab.async false
set_option linter.all false
set_option maxRecDepth 100000
set_option maxHeartbeats 4000000
/-! A list comprehension whose element may raise: the exception leaves the block (noted in the def's frame) and is in the def's air. -/
namespace WP
open PySem PySem.Spec PyProof.Rows L2
open Sem (wp)
/-- what a comprehension's code leaves, the block's frame told: cenv -/
def cpost (M : Model) (A : Around) (E : Value → Shared → Prop) (Q : Value → Shared → Prop) (acc : Value) (cenv : Env) (r : Result) (s' : Shared) : Prop :=
  match r with
  | .ok _ => ∃ m, s'.heap.Ns cenv.locals m ∧ ∀ h', Heap.SameBut cenv.locals s'.heap h' → Q acc { s' with heap := h' }
  | .error x => ∃ m, s'.heap.Ns cenv.locals m ∧ ∀ h', Heap.SameBut cenv.locals s'.heap h' → wpAny M A (passOn "comprehension.variables-let-go" x cenv : Sem Value) (fun _ _ => False) E { s' with heap := h' }
theorem comp_free {M : Model} {A : Around} {E : Value → Shared → Prop} {s : Shared} {env : Env} {e : Expr} {scope : Scope} {pos : Pos} {newAcc first : Sem Value} {g : Comprehension} {gs : List Comprehension} {cl : List (Str × Addr)}
    {Q : Value → Shared → Prop}
    (hcl : clausesOf e = g :: gs) (hs : ∀ x, foldedSetIterable g.iter env x = pure x) (hclos : closureFor scope env = pure cl)
    (hkind : scope.kind = .function) (hnames : ∀ x ∈ scope.names, x.2 = .local → scope.names.lookup x.1 = some .local)
    (h : wpAny M A first (fun x s₁ => wpAny M A (pyIter x) (fun it s₂ => wpAny M A newAcc (fun acc s₃ =>
      wpAny M A (newFunctionEnv scope env.globals cl [] env.qual none .none (some env)) (fun cenv s₄ =>
        codeAny M A (.compStart e 0 it acc { cenv with scope := relabel scope env }) (cpost M A E Q acc { cenv with scope := relabel scope env }) s₄) E s₃) E s₂) E s₁) E s) :
    wpAny M A (comprehension e scope env pos newAcc false first none) Q E s := by
  unfold comprehension
  rw [hclos, hcl]
  refine wpAny_bind (wpAny_mono h (fun x s₁ h₁ => wpAny_bind (wpAny_standAt (wpAny_bind (wpAny_of_eq (hs x) (wpAny_bind (wpAny_holding (wpAny_mono h₁ (fun it s₂ h₂ =>
    wpAny_standIf (wpAny_bind (wpAny_mono h₂ (fun acc s₃ h₃ => wpAny_bind (wpAny_pure (wpAny_bind (wpAny_mono h₃ (fun cenv s₄ h₄ => ?_) fun _ _ h' => h')))) fun _ _ h' => h')))
      fun _ _ h' => h'))))))) fun _ _ h' => h')
  dsimp only
  have hv : ∀ x ∈ (scope.names.filter fun x => (x.2 == .local || x.2 == .cell) && x.1 != (".0" : Str)).reverse, x.2 = .local →
      Env.kindOf { cenv with scope := relabel scope env } x.1 = some .local := fun x hx hl => lookup_relabel_local (hnames x (List.mem_filter.mp (List.mem_reverse.mp hx)).1 hl)
  refine wpAny_holding (wpAny_bind (wpAny_attempt (wpAny_holding (wpAny_run (codeAny_mono h₄ fun r s' hr => ?_)))))
  cases r with
  | ok f =>
    obtain ⟨m, hn, hr⟩ := hr
    exact wpAny_bind (wpAny_holding (wpAny_comp_letGo (cenv := { cenv with scope := relabel scope env }) hkind _ s' m hv hn fun h' m' _ hs' => wpAny_pure (hr h' hs')))
  | error x =>
    obtain ⟨m, hn, hr⟩ := hr
    exact wpAny_bind (wpAny_holding (wpAny_comp_letGo (cenv := { cenv with scope := relabel scope env }) hkind _ s' m hv hn fun h' m' _ hs' => wpAny_mono (hr h' hs') (fun _ _ f => f.elim) fun _ _ y => y))
/-- an exception from a call within a block: flying over the def's frames -/
def XB (X : Cx) (W : WX) (u : Value) (s' : Shared) : Prop :=
  ∃ (a : Addr) (B : Heap) (sI : Shared) (pins : List (Addr × Obj)) (σ : L2.St) (H : Hp) (cls : Value) (d : Option Addr),
    u = .ref a ∧ Inv X pins σ H sI ∧ (∀ b o, sI.heap.get? b = some o → b ∉ frs X.stack → B.get? b = some o) ∧ sI.heap.UpToSlots s'.heap ∧
      HandSPX.FlyingZ B X.stack a (Zc cls d) s'.heap ∧ H a = none ∧ s'.os = sI.os ∧ AllBare s'.gens ∧ W cls d σ H
theorem xb_of_call {X : Cx} {W : WX} {E : XK} {pins : List (Addr × Obj)} {σ : L2.St} {H : Hp} {s s' : Shared} (I : Inv X pins σ H s) (hW : ∀ cls d H', E cls d H' → W cls d σ H') {u : Value} (c : L2.CX X.prog X.w X.stack H s E u s') : XB X W u s' := by
  obtain ⟨a, B, H', cls, d, rfl, fl, hok, ub, na, os, ag, hE⟩ := c
  obtain ⟨G, g1, g2⟩ := restrict s'.heap fun b => (B.get? b).isSome || decide (b ∈ frs X.stack)
  have st : B.StaysIn s'.heap := fl.1
  have gB : ∀ b o, B.get? b = some o → G.get? b = some o := fun b o e => by
    rw [g1 b (by simp [e])]
    exact st b o e
  have gF : ∀ b, b ∈ frs X.stack → G.get? b = s'.heap.get? b := fun b hb => g1 b (by simp [hb])
  have og : ∀ b o, G.get? b = some o → s'.heap.get? b = some o ∧ ((B.get? b).isSome = true ∨ b ∈ frs X.stack) := fun b o e => by
    cases q : ((B.get? b).isSome || decide (b ∈ frs X.stack)) with
    | false => rw [g2 b q] at e; cases e
    | true =>
      rw [g1 b q] at e
      exact ⟨e, by simpa [Bool.or_eq_true] using q⟩
  refine ⟨a, B, { s with heap := G, gens := s'.gens, drawn := s'.drawn, toks := s'.toks }, pins, σ, H', cls, d, rfl, ?_, fun b o e hb => ?_, Heap.UpToSlots.of_keeps fun b o e => (og b o e).1, fl, na, os, ag, hW _ _ _ hE⟩
  · refine I.call (ch := []) ⟨fun b o e n hb _ => gB b o (ub.keep b o e n hb), fun b o e n hb _ => ?_, fun b o e n _ => ub.free b o e n, fun b o e _ => ?_, ub.tups, ub.frzs, ub.tbls⟩ (hok.kept gB) ag (fun _ z => nomatch z)
    · obtain ⟨sl, q⟩ := ub.slot b o e hb
      exact ⟨sl, by rw [gF b hb]; exact q⟩
    · by_cases hb : b ∈ frs X.stack
      · obtain ⟨sl, q⟩ := ub.slot b o e hb
        exact ⟨_, by rw [gF b hb]; exact q⟩
      · obtain ⟨o', q⟩ := ub.there b o e hb
        exact ⟨o', gB b o' q⟩
  · obtain ⟨e', h⟩ := og b o e
    rcases h with h | h
    · obtain ⟨o', q⟩ := Option.isSome_iff_exists.mp h
      have z := st b o' q
      rw [e'] at z; cases z
      exact q
    · exact absurd h hb
/-- what raising calls may do here -/
def Pas (X : Cx) (RW : WX) : Prop := ∀ σ, PassesAt (L2.CX X.prog X.w) X σ (fun cls d H' => RW cls d σ H')
theorem pas_of {X : Cx} {RW : WX} (tk : Takes X RW) : Pas X RW := fun σ => passAt tk σ
/-- the block's context: what it raises is in its air -/
abbrev blkW (X : Cx) (s : Shared) (H : Hp) (scope : Scope) (cenv : Env) (fp : List Addr) (W : WX) : Cx := (X.blk s H scope cenv fp).wish (XB (X.blk s H scope cenv fp) W)
theorem pas_blk {X : Cx} {s : Shared} {H : Hp} {scope : Scope} {cenv : Env} {fp : List Addr} {W : WX} : Pas (blkW X s H scope cenv fp W) W := fun σ pins H s e s' I c => xb_of_call (X := X.blk _ _ _ _ _) (pins := pins) I.unwish (fun _ _ _ h => h) c
theorem note_eq {u : Value} {env env' : Env} (h : env.frame = env'.frame) : noteFrame u env = noteFrame u env' := by
  unfold noteFrame PySem.frameOf
  rw [h]
theorem stays_of {B B' h : Heap} (st : B.StaysIn h) (le : ∀ b o, B'.get? b = some o → B.get? b = some o) : B'.StaysIn h := fun b o e => st b o (le b o e)
/-- out of the block into the def's air -/
theorem xb_out {X : Cx} {RW : WX} {pins : List (Addr × Obj)} {σ : L2.St} {s3 : Shared} {H3 : Hp} {scope : Scope} {cl : List (Str × Addr)} {fp : List Addr} {own : List (Str × Nat)} {Q : Value → Shared → Prop} {acc u : Value} {s' : Shared}
    (hs : X.stack = X.env :: X.outer) (hf : X.env.frame = some X.env.locals) (tk : Takes X RW) (I3 : Inv X pins σ H3 s3) (hfp : ∀ b ∈ fp, FpOk X pins H3 b)
    (x : XB (X.blk s3 H3 scope (compEnvC scope cl s3.heap.objs.size X.env) fp) (fun cls d _ H => RW cls d σ H) u s') :
    notedBy (model X.prog X.w) X.A (compEnvC scope cl s3.heap.objs.size X.env) (fun e s'' => cpost (model X.prog X.w) X.A X.xe Q acc (compEnvC scope cl s3.heap.objs.size X.env) (.error e) s'') u s' := by
  obtain ⟨a, B, sI, pins', σ', H, cls, d, rfl, I, nb, up, fl, na, os, ag, w⟩ := x
  have hfr : X.A.frames = some (X.env :: X.outer) := by rw [I3.ok.frames, hs]
  unfold notedBy
  rw [note_eq (show (compEnvC scope cl s3.heap.objs.size X.env).frame = X.env.frame from rfl)]
  have fl' : HandSPX.FlyingZ B (X.env :: X.outer) a (Zc cls d) s'.heap := by
    have z : HandSPX.FlyingZ B X.stack a (Zc cls d) s'.heap := fl
    rw [hs] at z
    exact z
  refine HandSPX.looks_onZ Zc.steady hfr hf fl' fun h1 hh up1 => ?_
  obtain ⟨m, hn, _⟩ := I.loc
  have hn : sI.heap.Ns s3.heap.objs.size m := hn
  generalize hC : s3.heap.objs.size = C at hn
  have up2 := up.trans up1
  have ns1 : h1.Ns C m := by
    obtain ⟨o, es, ep, ho, hd, r⟩ := hn
    obtain ⟨sl, e1⟩ := up2 C o ho (fun vs z => by rw [hd] at z; cases z)
    exact ⟨_, es, ep, e1, hd, r⟩
  refine ⟨m, ?_, fun h' sb => ?_⟩
  · exact ns1
  have sb : Heap.SameBut C h1 h' := sb
  -- the ground without the block's dict
  obtain ⟨B', b1, b2⟩ := restrict B fun b => decide (b ≠ C)
  have bl : ∀ b o, B'.get? b = some o → B.get? b = some o ∧ b ≠ C := fun b o e => by
    by_cases hb : b = C
    · rw [b2 b (by simp [hb])] at e
      cases e
    · rw [b1 b (by simp [hb])] at e
      exact ⟨e, hb⟩
  have k' : ∀ b, b ≠ C → h'.get? b = h1.get? b := fun b hb => sb.2 b hb
  have dC : ∃ o es ep, h1.get? C = some o ∧ o.data = .dict es ep := by
    obtain ⟨o, es, ep, ho, hd, _⟩ := ns1
    exact ⟨o, es, ep, ho, hd⟩
  obtain ⟨hst, hen, hfu, oe, vs, T, oT, ts, he, hz, hd, h1T, hnT, hTe, hT, hdT, h3⟩ := hh
  have aC : a ≠ C := fun z => by
    obtain ⟨o, es, ep, ho, hdd⟩ := dC
    rw [← z, he] at ho
    cases ho
    rw [hd] at hdd
    cases hdd
  have TC : T ≠ C := fun z => by
    obtain ⟨o, es, ep, ho, hdd⟩ := dC
    rw [← z, hT] at ho
    cases ho
    rw [hdT] at hdd
    cases hdd
  have frC : ∀ b ∈ frs (X.env :: X.outer), b ≠ C := fun b hb z => by
    have hb' : b ∈ frs X.stack := by rw [hs]; exact hb
    obtain ⟨_, o, ho, _⟩ := I3.stack.mem hb'
    have q := Heap.lt_size ho
    rw [z, hC] at q
    exact absurd q (Nat.lt_irrefl _)
  have fuB : ∀ l : List Env, h1.FunFrames B l → (∀ b ∈ frs l, b ≠ C) → h'.FunFrames B' l := by
    intro l
    induction l with
    | nil => intro _ _; trivial
    | cons env r ih =>
      intro hl hne
      obtain ⟨hk, ⟨L, o, hfL, hnL, hoL, hdL⟩, hr⟩ := hl
      have hL : L ≠ C := hne L (by unfold frs; rw [List.filterMap_cons, hfL]; exact List.mem_cons_self)
      refine ⟨hk, ⟨L, o, hfL, ?_, by rw [k' L hL]; exact hoL, hdL⟩, ih hr fun b hb => hne b ?_⟩
      · cases q : B'.get? L with
        | none => rfl
        | some o' => rw [(bl _ _ q).1] at hnL; cases hnL
      · unfold frs at hb ⊢
        rw [List.filterMap_cons, hfL]
        exact List.mem_cons_of_mem _ hb
  have held : HandSPX.HeldZ B' (X.env :: X.outer) a (Zc cls d) X.env.locals h' := by
    refine ⟨fun b o e => ?_, ?_, fuB _ hfu frC, oe, vs, T, oT, ts, ?_, hz, hd, h1T, ?_, hTe, ?_, hdT, h3⟩
    · rw [k' b (bl b o e).2]
      exact hst b o (bl b o e).1
    · cases q : B'.get? a with
      | none => rfl
      | some o => rw [(bl _ _ q).1] at hen; cases hen
    · rw [k' a aC]; exact he
    · cases q : B'.get? T with
      | none => rfl
      | some o => rw [(bl _ _ q).1] at hnT; cases hnT
    · rw [k' T TC]; exact hT
  -- passOn
  unfold PySem.passOn
  refine wpAny_bind (wpAny_field (show h'.get? a = some oe by rw [k' a aC]; exact he) hd h1T ?_)
  rw [if_neg (by simp)]
  refine wpAny_bind ?_
  show wpAny _ _ (setFlight (.ref a) X.env.frame) _ _ _
  rw [hf]
  refine HandSPX.setFlight_onZ held fun h2 held2 up3 => ?_
  refine wpAny_throw (tk _ _ ?_)
  -- the state without it, in the def's context
  obtain ⟨G, g1, g2⟩ := restrict sI.heap fun b => decide (b ≠ C)
  have gk : ∀ b, b ≠ C → G.get? b = sI.heap.get? b := fun b hb => g1 b (by simp [hb])
  have gl : ∀ b o, G.get? b = some o → sI.heap.get? b = some o ∧ b ≠ C := fun b o e => by
    by_cases hb : b = C
    · rw [g2 b (by simp [hb])] at e
      cases e
    · rw [gk b hb] at e
      exact ⟨e, hb⟩
  have hHC : H C = none := by
    have z : H s3.heap.objs.size = none := I.free
    rw [hC] at z
    exact z
  have tne : ∀ b o, H b = some o → b ≠ C := fun b o e z => by rw [z, hHC] at e; cases e
  have old : ∀ b o, s3.heap.get? b = some o → b ≠ C := fun b o e z => by
    have q := Heap.lt_size e
    rw [z, hC] at q
    exact absurd q (Nat.lt_irrefl _)
  have hokG : HOk X.prog X.w H G := fun b o q => (I.hok b o q).stay (fun c u hc r => by
    rw [gk c (by rcases hc with hc | hc
                 · rw [hc]; exact tne _ _ q
                 · exact tne _ _ hc)]
    exact r) (fun _ r => r) fun _ _ r => r
  have hbase : Un (frs X.stack) fp H3 H s3.heap sI.heap := I.base
  have J : Inv X pins σ H { sI with heap := G } := by
    refine I3.call' (ch := fp) I.os ⟨fun b o e n hb hx => ?_, fun b o e n hb hx => ?_, hbase.free, fun b o e hx => ?_, hbase.tups, hbase.frzs, hbase.tbls⟩ hokG I.bare fun b hb => ⟨(hfp b hb).2.2.2.1, (hfp b hb).2.1, (hfp b hb).2.2.2.2.1, (hfp b hb).2.2.2.2.2⟩
    · show G.get? b = some o
      rw [gk b (old b o e)]
      exact hbase.keep b o e n hb hx
    · obtain ⟨sl, q⟩ := hbase.slot b o e n hb hx
      exact ⟨sl, by show G.get? b = _; rw [gk b (old b o e)]; exact q⟩
    · obtain ⟨o', q⟩ := hbase.there b o e hx
      exact ⟨o', by show G.get? b = _; rw [gk b (old b o e)]; exact q⟩
  refine ⟨a, B', { sI with heap := G }, pins, σ, H, cls, d, rfl, J, fun b o e hb => ?_, fun b o e hnf => ?_, ?_, na, os, ag, w⟩
  · obtain ⟨e1, e2⟩ := gl b o e
    rw [b1 b (by simp [e2])]
    exact nb b o e1 hb
  · obtain ⟨e1, e2⟩ := gl b o e
    obtain ⟨sl, e3⟩ := up2 b o e1 hnf
    rw [← k' b e2] at e3
    obtain ⟨sl2, e4⟩ := up3 b _ e3 hnf
    exact ⟨sl2, e4⟩
  · rw [hs]
    exact .inr (.inr held2)
end WP
end
section
set_option Elab.async false
set_option linter.all false
set_option maxRecDepth 100000
set_option maxHeartbeats 4000000
namespace WP
open PySem PySem.Spec PyProof.Rows L2
open Sem (wp)
section
variable {X : Cx} {RW : WX}
theorem lcX_core {pins : List (Addr × Obj)} {s : Shared} {σ : L2.St} {H : Hp} {Q : VK} {elt tg iter : Expr} {ifs : List Expr} {scope : Scope} {own : List (Str × Nat)} {pos pos' : Pos} {wi : TI} {g : TG} {tt : TT} {te : TE}
    (hst : X.stack = X.env :: X.outer) (hfr : X.env.frame = some X.env.locals) (tk : Takes X RW)
    (hc : X.calm = true) (hN : X.N.Nodup) (I : Inv X pins σ H s) (hi : PI X tg iter wi) (ok : BlkOk X.N X.env.scope scope own)
    (hg : ∀ (s : Shared) (H : Hp) (C : Addr) (cl : List (Str × Addr)) (fp : List Addr), PG (blkW X s H scope (compEnvC scope cl C X.env) fp (fun cls d _ H => RW cls d σ H)) tg g) (ht : ∀ (s : Shared) (H : Hp) (C : Addr) (cl : List (Str × Addr)) (fp : List Addr), PTs (blkW X s H scope (compEnvC scope cl C X.env) fp (fun cls d _ H => RW cls d σ H)) ifs tt)
    (he : ∀ (s : Shared) (H : Hp) (C : Addr) (cl : List (Str × Addr)) (fp : List Addr), PE (blkW X s H scope (compEnvC scope cl C X.env) fp (fun cls d _ H => RW cls d σ H)) elt te) (hs : ∀ x, foldedSetIterable iter X.env x = pure x)
    (h : tLc wi g tt te (own.map (·.2)) σ H Q) :
    wpAny (model X.prog X.w) X.A (comprehension (.ListComp elt [⟨tg, iter, ifs, 0⟩] scope pos) scope X.env pos' (newList []) false (eval iter X.env) none) (EP X pins σ Q) X.xe s := by
  have hfree : ∀ y ∈ scope.names, y.2 = .free → ∃ c, X.env.cells.lookup y.1 = some c := fun y hy e => by
    rcases ok.free y hy e with k | k
    · exact I.ok.has _ (.inl k)
    · exact I.ok.has _ (.inr k)
  refine comp_free rfl hs (closure_ok hfree) ok.kind (fun y hy e => by rw [ok.uniq y hy, e])
    (thn (hi.run pins s σ H _ I h) fun xv s1 hx => thn hx fun itv s2 h2 => ?_)
  obtain ⟨it, fp, tn, J, H2, e, I2, T, st2, f2, q⟩ := h2
  subst e
  refine wpAny_newObj_type (newEnv_comp ?_) (by show 0 ≤ sizeLine; decide)
  generalize hD : s2.heap.objs.size = D
  have hDn : H2 D = none := I2.hok.fresh (Nat.le_of_eq hD)
  obtain ⟨W, ⟨m0, w0⟩, turn⟩ := q D hDn
  generalize hs3 : ({ s2 with heap := s2.heap.push { cls := .type "list", data := .seq ([] : List Value).toArray } } : Shared) = s3
  have I3 : Inv X pins σ (upd H2 D (.lst [])) s3 := by
    rw [← hs3]
    refine I2.laid (t' := s2.toks) (fun b o e => Heap.get?_push_of_some _ e) (Nat.le_of_eq hD) ⟨Nat.zero_le _, [], 0, .nil, ?_⟩
    rw [← hD]
    exact Heap.get?_push_size _ rfl
  have h3 : s3.heap = s2.heap.push { cls := .type "list", data := .seq ([] : List Value).toArray } := by rw [← hs3]
  have sz : ∀ b ∈ fp, b < s2.heap.objs.size := fun b hb => by
    obtain ⟨o, e, _⟩ := T.obj _ _ st2 b hb
    exact Heap.lt_size e
  have f3 : ∀ b ∈ fp, FpOk X pins (upd H2 D (.lst [])) b ∧ b < s3.heap.objs.size := fun b hb => by
    have hlt := sz b hb
    refine ⟨⟨?_, (f2 b hb).2⟩, by rw [h3, Heap.size_push]; exact Nat.lt_succ_of_lt hlt⟩
    rw [upd_ne (by rw [← hD]; exact Nat.ne_of_lt hlt)]
    exact (f2 b hb).1
  have st3 : tn 0 s3.heap := T.keep _ _ _ st2 fun b _ o e => by rw [h3]; exact Heap.get?_push_of_some _ e
  have I4 := block_start I3 ok hN f3
  have pg := hg s3 (upd H2 D (.lst [])) s3.heap.objs.size (cellsFrom (s3.heap.objs.size + 1) scope.names (cloFrom X.env.cells scope.names [])) fp
  have pt := ht s3 (upd H2 D (.lst [])) s3.heap.objs.size (cellsFrom (s3.heap.objs.size + 1) scope.names (cloFrom X.env.cells scope.names [])) fp
  have pe := he s3 (upd H2 D (.lst [])) s3.heap.objs.size (cellsFrom (s3.heap.objs.size + 1) scope.names (cloFrom X.env.cells scope.names [])) fp
  have xout : ∀ u s', XB (X.blk s3 (upd H2 D (.lst [])) scope (compEnvC scope (cellsFrom (s3.heap.objs.size + 1) scope.names (cloFrom X.env.cells scope.names [])) s3.heap.objs.size X.env) fp) (fun cls d _ H => RW cls d σ H) u s' →
      notedBy (model X.prog X.w) X.A (compEnvC scope (cellsFrom (s3.heap.objs.size + 1) scope.names (cloFrom X.env.cells scope.names [])) s3.heap.objs.size X.env) (fun e s'' => cpost (model X.prog X.w) X.A X.xe (EP X pins σ Q) (.ref D) (compEnvC scope (cellsFrom (s3.heap.objs.size + 1) scope.names (cloFrom X.env.cells scope.names [])) s3.heap.objs.size X.env) (.error e) s'') u s' :=
    fun u s' x => xb_out (own := own) hst hfr tk I3 (fun b hb => (f3 b hb).1) x
  show codeAny _ _ (.compStart (.ListComp elt [⟨tg, iter, ifs, 0⟩] scope pos) 0 (.ref it) (.ref D) (compEnvC scope (cellsFrom (s3.heap.objs.size + 1) scope.names (cloFrom X.env.cells scope.names [])) s3.heap.objs.size X.env)) (cpost (model X.prog X.w) X.A X.xe (EP X pins σ Q) (.ref D) (compEnvC scope (cellsFrom (s3.heap.objs.size + 1) scope.names (cloFrom X.env.cells scope.names [])) s3.heap.objs.size X.env)) { s3 with heap := pushCells (s3.heap.push { cls := .type "dict", data := .dict #[] }) scope.names }
  have nfp : ∀ b ∈ fp, (upd H2 D (.lst [])) b = none := fun b hb => (f3 b hb).1.1
  generalize hce : compEnvC scope (cellsFrom (s3.heap.objs.size + 1) scope.names (cloFrom X.env.cells scope.names [])) s3.heap.objs.size X.env = ce at I4 pg pt pe xout ⊢
  have cL : ce.locals = s3.heap.objs.size := by subst hce; rfl
  generalize hH3 : upd H2 D (.lst []) = H3 at I3 I4 pg pt pe w0 nfp f3 xout
  generalize hs4 : ({ s3 with heap := pushCells (s3.heap.push { cls := .type "dict", data := .dict #[] }) scope.names } : Shared) = s4 at I4 ⊢
  have st4 : tn 0 s4.heap := T.keep _ _ _ st3 fun b _ o e => by rw [← hs4]; exact pushCells_keeps _ _ _ _ (Heap.get?_push_of_some _ e)
  generalize hWx : (fun (cls : Value) (d : Option Addr) (_ : L2.St) (H : Hp) => RW cls d σ H) = Wx at pg pt pe xout
  have thX : ∀ {α : Type} {t : Sem α} {Q1 Q2 : α → Shared → Prop} {s : Shared}, wpAny (model X.prog X.w) X.A t Q1 (XB (X.blk s3 H3 scope ce fp) Wx) s → (∀ a s, Q1 a s → Q2 a s) → wpAny (model X.prog X.w) X.A t Q2 (notedBy (model X.prog X.w) X.A ce (fun e s'' => cpost (model X.prog X.w) X.A X.xe (EP X pins σ Q) (.ref D) ce (.error e) s'')) s :=
    fun h hQ => wpAny_mono h hQ xout
  have I4 : Inv (blkW X s3 H3 scope ce fp Wx) [] (wipe σ (own.map (·.2))) H3 s4 := I4.wish _
  have stat : ∀ {σ' : L2.St} {H' : Hp} {s' : Shared}, Inv (blkW X s3 H3 scope ce fp Wx) [] σ' H' s' → (∀ b ∈ fp, H' b = none) → ∀ b ∈ fp, FpOk (blkW X s3 H3 scope ce fp Wx) [] H' b := fun {σ' H' s'} I' hn b hb =>
    ⟨hn b hb, (I'.ok.exf b hb).1, I'.ok.exfs b hb, .inl hb, fun x c e => (I'.ok.exf b hb).2 x c e, fun p hp => absurd (show p ∈ ([] : List (Addr × Obj)) ++ [] from hp) (by simp)⟩
  have loop : codeAny (model X.prog X.w) X.A (.compLoop (.ListComp elt [⟨tg, iter, ifs, 0⟩] scope pos) 0 (.ref it) (.ref D) ce) (cpost (model X.prog X.w) X.A X.xe (EP X pins σ Q) (.ref D) ce) s4 := by
    refine compLoop_any (fun n s' => ∃ i H', Inv (blkW X s3 H3 scope ce fp Wx) [] (wipe σ (own.map (·.2))) H' s' ∧ tn i s'.heap ∧ (∀ b ∈ fp, H' b = none) ∧ W i n H') ?_ m0 ⟨0, H3, I4, st4, nfp, w0⟩
    rintro n s5 ⟨i, H5, I5, st5, n5, w5⟩
    rcases turn i n H5 w5 with ⟨stop, qq⟩ | ⟨go, Nx, hNx, step⟩
    · have td := T.done (blkW X s3 H3 scope ce fp Wx) rfl rfl rfl hc i [] s5 _ H5 (fun _ _ => False) I5 (stat I5 n5) st5 stop
      refine thnF td fun r s6 ⟨hr, I6⟩ => ?_
      subst hr
      have I7 : Inv X pins σ H5 s6 := I3.call' (ch := fp) I6.os I6.base I6.hok I6.bare fun b hb => ⟨(f3 b hb).1.2.2.2.1, (f3 b hb).1.2.1, (f3 b hb).1.2.2.2.2.1, (f3 b hb).1.2.2.2.2.2⟩
      have nC : H5 s3.heap.objs.size = none := by
        have z : H5 ce.locals = none := I6.free
        rw [cL] at z
        exact z
      obtain ⟨m, hn, _⟩ := I6.loc
      have hn : s6.heap.Ns ce.locals m := hn
      refine ⟨m, hn, fun h'' sb => ?_⟩
      rw [cL] at sb
      obtain ⟨f0, f1, f2', f3', f4, f5⟩ := I3.fpOk (Nat.le_refl _) nC
      exact ⟨.ref D, H5, I7.turned (t' := s6.toks) (fun b o hb e => (sb.2 b hb).trans e) f0 f1 f3' f4 f5, rfl, qq⟩
    · have ti := T.item (blkW X s3 H3 scope ce fp Wx) rfl rfl rfl hc i [] s5 _ H5 (fun _ _ => False) I5 (stat I5 n5) st5 go
      refine thnF ti fun r s6 ⟨u, hr, h6⟩ => ?_
      subst hr
      refine thnF h6 fun _ s7 ⟨x, H7, I7, r7, y7, st7, n7⟩ => ?_
      have I7' := I7.pinned (stat I7 n7) (T.obj _ _ st7)
      refine thX (pg.run _ s7 _ H7 x u _ I7' r7 (step x H7 y7)) fun _ s8 ⟨σ8, H8, I8, hw8, q8⟩ => ?_
      refine thX (pt.run _ s8 σ8 H8 _ I8 q8) fun b s9 ⟨H9, I9, q9⟩ => ?_
      have fin : ∀ {s' : Shared} {H' : Hp}, Inv (blkW X s3 H3 scope ce fp Wx) ([] ++ pinsAt fp s7.heap) σ8 H' s' → Nx H' → ∃ m, m < n ∧ ∃ i H', Inv (blkW X s3 H3 scope ce fp Wx) [] (wipe σ (own.map (·.2))) H' s' ∧ tn i s'.heap ∧ (∀ b ∈ fp, H' b = none) ∧ W i m H' := fun {s' H'} I' nx => by
        obtain ⟨m', hm, w'⟩ := hNx H' nx
        have pin' : ∀ b ∈ fp, ∀ o, s7.heap.get? b = some o → s'.heap.get? b = some o ∧ H' b = none := fun b hb o e =>
          let z := I'.pin (b, o) (List.mem_append_right _ (List.mem_append_right _ (mem_pinsAt hb e)))
          ⟨z.1, z.2.1⟩
        have hl : (wipe σ (own.map (·.2))).length = σ8.length := by rw [← hw8, wipe_length]
        refine ⟨m', hm, i + 1, H', (I'.unpinned (pins := [])).weak hl (fun j v e => ?_), T.keep _ _ _ st7 fun b hb o e => (pin' b hb o e).1, fun b hb => ?_, w'⟩
        · rw [← hw8] at e
          exact (wipe_some e).1
        · obtain ⟨o, e, _⟩ := T.obj _ _ st7 b hb
          exact (pin' b hb o e).2
      cases b with
      | false =>
        simp only [Bool.false_eq_true, if_false] at q9 ⊢
        exact fin I9 q9
      | true =>
        simp only [if_true] at q9 ⊢
        refine thX (pe.run _ s9 σ8 H9 _ I9 q9) fun z s10 ⟨yv, H10, I10, r10, acc, hD10, hz10, nx⟩ => ?_
        exact app_ok (X := blkW X s3 H3 scope ce fp Wx) I10 hD10 hz10 r10 fun s11 I11 => fin I11 nx
  exact codeAny_compStart_list loop (T.self X.A 0 _ _ _ st4 loop)
/-- the element's wish, at whatever block -/
def teW (X : Cx) (RW : WX) (σ0 : L2.St) (scope : Scope) (elt : Expr) : TE := fun σ H Q => ∀ (s : Shared) (H0 : Hp) (C : Addr) (cl : List (Str × Addr)) (fp : List Addr), WE (blkW X s H0 scope (compEnvC scope cl C X.env) fp (fun cls d _ H => RW cls d σ0 H)) elt σ H Q
def ttW (X : Cx) (RW : WX) (σ0 : L2.St) (scope : Scope) : List Expr → TT
  | [] => tYes
  | c :: _ => fun σ H Q => ∀ (s : Shared) (H0 : Hp) (C : Addr) (cl : List (Str × Addr)) (fp : List Addr), WT (blkW X s H0 scope (compEnvC scope cl C X.env) fp (fun cls d _ H => RW cls d σ0 H)) c σ H Q
theorem we_lc {σ : L2.St} {H : Hp} {Q : VK} {elt tg iter : Expr} {scope : Scope} {own : List (Str × Nat)} {pos : Pos} {wi : TI} {g : TG}
    (hst : X.stack = X.env :: X.outer) (hfr : X.env.frame = some X.env.locals) (tk : Takes X RW) (hc : X.calm = true) (hN : X.N.Nodup) (hi : PI X tg iter wi) (ok : BlkOk X.N X.env.scope scope own)
    (hg : ∀ (s : Shared) (H : Hp) (C : Addr) (cl : List (Str × Addr)) (fp : List Addr), PG (blkW X s H scope (compEnvC scope cl C X.env) fp (fun cls d _ H => RW cls d σ H)) tg g)
    (h : tLc wi g tYes (teW X RW σ scope elt) (own.map (·.2)) σ H Q) (hs : ∀ x, foldedSetIterable iter X.env x = pure x := by intro _; rfl) :
    WE X (.ListComp elt [⟨tg, iter, [], 0⟩] scope pos) σ H Q := by
  refine ⟨fun pins s I => ?_⟩
  rw [eval_ListComp]
  exact lcX_core hst hfr tk hc hN I hi ok hg (fun _ _ _ _ _ => pts_nil) (fun s H0 C cl fp => ⟨fun pins s' σ' H' Q' I' q => (q s H0 C cl fp).run pins s' I'⟩) hs h
theorem we_lcI {σ : L2.St} {H : Hp} {Q : VK} {elt tg iter c : Expr} {scope : Scope} {own : List (Str × Nat)} {pos : Pos} {wi : TI} {g : TG}
    (hst : X.stack = X.env :: X.outer) (hfr : X.env.frame = some X.env.locals) (tk : Takes X RW) (hc : X.calm = true) (hN : X.N.Nodup) (hi : PI X tg iter wi) (ok : BlkOk X.N X.env.scope scope own)
    (hg : ∀ (s : Shared) (H : Hp) (C : Addr) (cl : List (Str × Addr)) (fp : List Addr), PG (blkW X s H scope (compEnvC scope cl C X.env) fp (fun cls d _ H => RW cls d σ H)) tg g)
    (h : tLc wi g (ttW X RW σ scope [c]) (teW X RW σ scope elt) (own.map (·.2)) σ H Q) (hs : ∀ x, foldedSetIterable iter X.env x = pure x := by intro _; rfl) :
    WE X (.ListComp elt [⟨tg, iter, [c], 0⟩] scope pos) σ H Q := by
  refine ⟨fun pins s I => ?_⟩
  rw [eval_ListComp]
  exact lcX_core hst hfr tk hc hN I hi ok hg (fun s H0 C cl fp => pts_one ⟨fun pins s' σ' H' Q' I' q => (q s H0 C cl fp).run pins s' I'⟩) (fun s H0 C cl fp => ⟨fun pins s' σ' H' Q' I' q => (q s H0 C cl fp).run pins s' I'⟩) hs h
end
end WP
end
section
set_option Elab.async false
set_option linter.all false
set_option maxRecDepth 100000
set_option maxHeartbeats 4000000
/-! Own errors whose __init__ stores nothing: made without arguments, raised. -/
namespace WP
open PySem PySem.Spec PyProof.Rows L2
section
variable {X : Cx}
theorem mk_endN {pins : List (Addr × Obj)} {σ : L2.St} {H1 H2 : Hp} {Q : XK} {hp hp2 h2 : Heap} {g1 g2 : Array GenState} {d1 d2 : Drawn} {t1 t2 : Nat} {os1 os2 : OsState} {a C : Addr} (T : Raises X (.ref C)) (I1 : Inv X pins σ H1 ⟨hp, g1, d1, t1, os1⟩)
    (ha : hp.objs.size ≤ a) (k : ∀ b o, hp.get? b = some o → hp2.get? b = some o) (un : Un (frs X.stack) [] (upd H1 a (exo a C none)) H2 hp2 h2) (hok : HOk X.prog X.w H2 h2) (ho : os2 = os1) (hb : AllBare g2)
    (ea : H2 a = some (exo a C none)) (q : Q (.ref C) none (del H2 a)) : MkP X pins σ Q (.ref a) ⟨h2, g2, d2, t2, os2⟩ := by
  obtain ⟨t0, hoe⟩ := exo_at hok ea
  have hn : H1 a = none := I1.hok.fresh ha
  obtain ⟨G, g1', g2'⟩ := restrict h2 fun b => decide (b ≠ a)
  have gk : ∀ b, b ≠ a → G.get? b = h2.get? b := fun b hb => g1' b (decide_eq_true hb)
  have ge : G.get? a = none := g2' a (by simp)
  have nha : ∀ {b : Addr} {o : Obj}, hp.get? b = some o → b ≠ a := fun {b o} z => Nat.ne_of_lt (Nat.lt_of_lt_of_le (Heap.lt_size z) ha)
  have up : ∀ {b : Addr}, b ≠ a → H1 b = none → upd H1 a (exo a C none) b = none := fun {b} hb n => by rw [upd_ne hb]; exact n
  have U : Un (frs X.stack) [] H1 (del H2 a) hp G := {
    keep := fun b o z n hf hx => by
      rw [gk b (nha z)]
      exact un.keep b o (k b o z) (up (nha z) n) hf hx
    slot := fun b o z n hf hx => by
      rw [gk b (nha z)]
      exact un.slot b o (k b o z) (up (nha z) n) hf hx
    free := fun b o z n hx => by
      rw [del_ne (nha z)]
      exact un.free b o (k b o z) (up (nha z) n) hx
    there := fun b o z hx => by
      rw [gk b (nha z)]
      exact un.there b o (k b o z) hx
    tups := fun b xs z => by
      rw [del_ne (ne_of_none z hn)]
      exact un.tups b xs (by rw [upd_ne (ne_of_none z hn)]; exact z)
    frzs := fun b o v z => by
      rw [del_ne (ne_of_none z hn)]
      exact un.frzs b o v (by rw [upd_ne (ne_of_none z hn)]; exact z)
    tbls := fun b ps z => by
      rw [del_ne (ne_of_none z hn)]
      exact un.tbls b ps (by rw [upd_ne (ne_of_none z hn)]; exact z) }
  have hok3 : HOk X.prog X.w (del H2 a) G := fun b o z => by
    have hba : b ≠ a := fun e => by
      rw [e, del_same] at z
      cases z
    rw [del_ne hba] at z
    have noa : ∀ {c : Addr}, H2 c = some (.own b) → c ≠ a := fun {c} hc => at_ne ea hc exo_own
    exact (hok b o z).stay (fun c v hc y => by
        have hca : c ≠ a := by
          rcases hc with hc | hc
          · rw [hc]
            exact hba
          · exact noa hc
        rw [gk c hca]
        exact y)
      (fun c hc => by rw [del_ne (noa hc)]; exact hc) (fun c xs hc => by rw [del_ne (at_ne ea hc exo_tup)]; exact hc)
  have J : Inv X pins σ (del H2 a) ⟨G, g2, d2, t2, os2⟩ := I1.call' (ch := []) ho U hok3 hb (fun b z => absurd z (by simp))
  refine ⟨a, _, _, ⟨G, g2, d2, t2, os2⟩, _, .ref C, none, rfl, J, fun b o z => ?_, ge, hoe, ⟨rfl, rfl⟩, rfl, rfl, del_same, rfl, hb, T, q⟩
  by_cases hba : b = a
  · have z' : G.get? b = some o := z
    rw [hba, ge] at z'
    cases z'
  · exact (gk b hba).symm.trans z
/-- the __init__ of such an error: nothing changes -/
def spVe (K : PySem.W.Frag) : Sp := fun vs H Q _ => ∃ a C, vs = [.ref a] ∧ OexC K C ∧ H a = some (exo a C none) ∧ Q .non H
/-- what the module says of an own error class without data -/
structure ErrC (P : Program) (w : World) (K : PySem.W.Frag) (mg : Str → Option Value) (base : Heap) (k : Nat) (x : Str) (C : Addr) : Prop where
  gC : mg x = some (.ref C)
  T : OexC K C
  ini : ∃ fI fd ps, PySem.W.findIn K (.ref C) "__init__" = some (some (.ref fI)) ∧ PySem.W.typeIn K (.ref fI) = some (.type "function") ∧ Binds K fd ps [] ∧ FnOk P w K mg base (L2.CX P w) k fI fd ps (spVe K)
/-- C() makes an error, whose own dict is none -/
theorem pmk_err {RW : WX} {x : Str} {C : Addr} {k : Nat} {p pos : Pos} (Er : ErrC X.prog X.w X.K X.mg X.base k x C) (hr : Room (k + 1) X.A) (tk0 : ∀ (pins : List (Addr × Obj)) (σ : L2.St) (H : Hp) (s : Shared) (e : Value) (s' : Shared), Inv X pins σ H s → L2.CX X.prog X.w X.stack H s (fun _ _ _ => False) e s' → X.xe e s') (hg : Gl X x)
    (hdb : (x == ("__debug__" : Str)) = false := by decide) : PMk X (.Call (.Name x p) [] [] pos) (fun _ H Q => Q (.ref C) none H) := by
  intro pins s σ H Q I q
  obtain ⟨fI, fd, ps, iC, tI, hb, F1⟩ := Er.ini
  have T := Er.T
  obtain ⟨nm, qn, N, bs, bm, sn, sub, ab, col, dd, k0, k1, k2, k3, k5, hC, hbm⟩ := T.cls
  refine wpAny_Call_Name_kw (ld_glob I hg Er.gC ?_ hdb)
  refine PySem.W.callWith_K0 I.kIn T.kC ?_
  show wpAny _ _ (call (.ref C) []) _ _ _
  obtain ⟨hp, g, dr, tk, os⟩ := s
  have hsz : hp.objs.size ≤ hp.objs.size + 1 := Nat.le_succ _
  have hn : H (hp.objs.size + 1) = none := I.hok.fresh hsz
  have kk : ∀ b o, hp.get? b = some o → ((hp.push (PySem.W.kdv_tup [])).push (PySem.HandSPX.excO C hp.objs.size)).get? b = some o := fun b o e => Heap.get?_push_of_some _ (Heap.get?_push_of_some _ e)
  have hget : ((hp.push (PySem.W.kdv_tup [])).push (PySem.HandSPX.excO C hp.objs.size)).get? (hp.objs.size + 1) = some (PySem.HandSPX.excO C hp.objs.size) := by heap_get
  have I2 : Inv X pins σ (upd H (hp.objs.size + 1) (exo (hp.objs.size + 1) C none)) ⟨(hp.push (PySem.W.kdv_tup [])).push (PySem.HandSPX.excO C hp.objs.size), g, dr, tk, os⟩ :=
    I.laid (t' := tk) (a := hp.objs.size + 1) (o := exo (hp.objs.size + 1) C none) (h' := (hp.push (PySem.W.kdv_tup [])).push (PySem.HandSPX.excO C hp.objs.size)) kk hsz (exo_ok hget)
  have r2 : Vals ([V.ref (hp.objs.size + 1)] : List V) [Value.ref (hp.objs.size + 1)] := .cons rfl .nil
  have hq : spVe X.K ([V.ref (hp.objs.size + 1)] : List V) (upd H (hp.objs.size + 1) (exo (hp.objs.size + 1) C none)) (fun v H2 => v = .non ∧ H2 = upd H (hp.objs.size + 1) (exo (hp.objs.size + 1) C none)) (fun _ _ _ => False) := ⟨_, C, rfl, T, upd_same, rfl, rfl⟩
  have hl : ([Value.ref (hp.objs.size + 1)] ++ ([] : List Value)).length = ps.length := F1.len _ _ _ _ hq
  refine wpAny_call (PySem.HandSPX.call_own F.excBase_ValueError (fun Y => PySem.HandSPX.refsVE_contains Y bm hbm) (I.kIn _ _ hC) (PySem.W.looks_findIn I.kIn iC) (fun self => PySem.W.bind_fn I.kIn self tI) (by show 0 ≤ sizeLine; decide)
    (codeAny_mono (F1.run _ X.stack _ _ ⟨[Value.ref (hp.objs.size + 1)], []⟩ ([Value.ref (hp.objs.size + 1)] ++ []) _ _ (fun _ _ _ => False) (hr.make C [] []) (I2.env0.make C [] []) (hb _ [Value.ref (hp.objs.size + 1)] I2.kIn hl) r2 hq) fun r s' hq' => ?_))
  cases r with
  | error er => exact tk0 pins σ _ _ er s' I2 hq'
  | ok fl =>
    cases fl with
    | ret u =>
      obtain ⟨v, H2, os2, bare2, un2, hok2, rv, ev, eH⟩ := hq'
      subst ev eH
      obtain ⟨h2, g2, d2, t2, os'⟩ := s'
      refine ⟨rv, mk_endN (raises_own T.exC T.tyC) I hsz kk un2 hok2 os2 bare2 upd_same ?_⟩
      have e : del (upd H (hp.objs.size + 1) (exo (hp.objs.size + 1) C none)) (hp.objs.size + 1) = H := by
        funext b
        by_cases h : b = hp.objs.size + 1
        · rw [h, del_same, hn]
        · rw [del_ne h, upd_ne h]
      rw [e]
      exact q
    | next => exact False.elim hq'
    | brk => exact False.elim hq'
    | cont => exact False.elim hq'
theorem cx_false {pins : List (Addr × Obj)} {σ : L2.St} {H : Hp} {s s' : Shared} {e : Value} (c : L2.CX X.prog X.w X.stack H s (fun _ _ _ => False) e s') : False := by
  obtain ⟨_, _, _, _, _, _, _, _, _, _, _, _, z⟩ := c
  exact z
/-- raise C() -/
theorem ws_raise {RW : WX} {x : Str} {C : Addr} {k : Nat} {p pos pos2 : Pos} {D : Ends} {σ : L2.St} {H : Hp} (Er : ErrC X.prog X.w X.K X.mg X.base k x C) (hr : Room (k + 1) X.A) (hc : X.calm = true) (tk : Takes X RW) (hg : Gl X x)
    (q : RW (.ref C) none σ H) (hdb : (x == ("__debug__" : Str)) = false := by decide) : WS X (.Raise (some (.Call (.Name x p) [] [] pos)) none pos2) D σ H :=
  .of (ps_raise hc tk (pmk_err (RW := RW) Er hr (fun pins σ H s e s' _ c => (cx_false (pins := pins) (σ := σ) c).elim) hg hdb)) q
end
end WP
end
section
set_option Elab.async false
set_option linter.all false
set_option maxRecDepth 100000
set_option maxHeartbeats 4000000
/-! Readings in short, by what is known of the values. -/
namespace WP
open PySem PySem.Spec PyProof.Rows L2
section
variable {X : Cx} {K : PySem.W.Frag} {H : Hp} {Q : VK} {x y v : V} {d e : PyData}
theorem i_isi {T : String} {b : Bool} (h : Dp K H x d) (hb : isiD d T = some b) (q : Q (.bl b) H) : rIsiD K [x, .ty T] H Q := ⟨x, T, d, b, rfl, h, hb, q⟩
theorem i_bl {P : Bool → Prop} {b : Bool} (h : P b) : ∃ k, V.bl b = .bl k ∧ P k := ⟨b, rfl, h⟩
theorem i_I0 {g : Int → Int → V} {i j : Int} (q : Q (g i j) H) : rI0 g (.int i) (.int j) H Q := ⟨i, j, rfl, rfl, q⟩
theorem i_I {C : Int → Int → Prop} {g : Int → Int → V} {i j : Int} (c : C i j) (q : Q (g i j) H) : rI C g (.int i) (.int j) H Q := ⟨i, j, rfl, rfl, c, q⟩
/-- == and != of flat things or of data -/
def rEqA (K : PySem.W.Frag) : R2 := fun x y H Q => rEq x y H Q ∨ rEqD K x y H Q
def rNeA (K : PySem.W.Frag) : R2 := fun x y H Q => rNe x y H Q ∨ rNeD K x y H Q
theorem op_eqA (hu : X.A.units + 64 < cLine) : OpR X (compareOp .Eq) (rEqA X.K) := opOr op_eq (op_eqD hu)
theorem op_neA (hu : X.A.units + 64 < cLine) : OpR X (compareOp .NotEq) (rNeA X.K) := opOr op_ne (op_neD hu)
theorem i_eqS (h : scal x y = true) (q : Q (.bl (decide (x = y))) H) : rEqA K x y H Q := .inl ⟨h, q⟩
theorem i_neS (h : scal x y = true) (q : Q (.bl (!decide (x = y))) H) : rNeA K x y H Q := .inl ⟨h, q⟩
theorem i_eqD (h : Dp K H x d) (h' : Dp K H y e) (s : SeqAt.shaped d = true) (s' : SeqAt.shaped e = true) (q : Q (.bl (PyData.eqv d e)) H) : rEqA K x y H Q := .inr ⟨d, e, h, h', s, s', q⟩
theorem i_neD (h : Dp K H x d) (h' : Dp K H y e) (s : SeqAt.shaped d = true) (s' : SeqAt.shaped e = true) (q : Q (.bl (!PyData.eqv d e)) H) : rNeA K x y H Q := .inr ⟨d, e, h, h', s, s', q⟩
/-- len -/
def rLn (K : PySem.W.Frag) : List V → Hp → VK → Prop := fun xs H Q => (∃ x n, xs = [x] ∧ LenV K x H n ∧ Q (.int n) H) ∨ ∃ a kvs, xs = [.ref a] ∧ H a = some (.dK kvs) ∧ Q (.int kvs.length) H
theorem call_ln : CallR X (.builtin "len") (rLn X.K) := callOr call_len call_lenD
theorem i_lenK {a : Addr} {kvs : List (Key × V)} (h : H a = some (.dK kvs)) (q : Q (.int kvs.length) H) : rLn K [.ref a] H Q := .inr ⟨a, kvs, rfl, h, q⟩
theorem i_lenT {a : Addr} {xs : List V} (h : SqT K H a xs) (q : Q (.int xs.length) H) : rLn K [.ref a] H Q := .inl ⟨_, _, rfl, .inr ⟨xs, h, rfl⟩, q⟩
theorem i_lenL {a : Addr} {xs : List V} (h : SqL K H a xs) (q : Q (.int xs.length) H) : rLn K [.ref a] H Q := .inl ⟨_, _, rfl, .inl ⟨xs, h, rfl⟩, q⟩
theorem i_lenS {z : Str} (h : z.length ≤ sizeLine) (q : Q (.int z.length) H) : rLn K [.str z] H Q := .inl ⟨_, _, rfl, ⟨h, rfl⟩, q⟩
theorem i_lenD {ds : List PyData} (h : Dp K H x (.tuple ds)) (q : Q (.int ds.length) H) : rLn K [x] H Q := by
  cases h with
  | tup h g =>
    have e := dpAll_len g
    exact i_lenT h (by rw [e]; exact q)
theorem fin_bl {b b' : Bool} (q : Q (.bl b) H) (e : b' = b) : Q (.bl b') H := by
  rw [e]
  exact q
theorem pe_of {v' : V} (q : Q v H) (e : v' = v) : Q v' H := by
  rw [e]
  exact q
/-- a test whose answer is known -/
theorem i_ift {b : Bool} {A B : Prop} (h : b = true) (q : A) : if b = true then A else B := by
  rw [if_pos h]
  exact q
theorem i_iff {b : Bool} {A B : Prop} (h : b = false) (q : B) : if b = true then A else B := by
  rw [if_neg (by rw [h]; exact Bool.false_ne_true)]
  exact q
theorem i_ite {b : Bool} {A B : Prop} (h1 : b = true → A) (h2 : b = false → B) : if b = true then A else B := by
  cases b with
  | true => exact iteT (h1 rfl)
  | false => exact iteF (h2 rfl)
theorem dTup_of (h : dTup d = true) : ∃ ds, d = .tuple ds := by
  cases d <;> first | exact ⟨_, rfl⟩ | cases h
theorem dStr_of (h : dStr d = true) : ∃ z, d = .str z := by
  cases d <;> first | exact ⟨_, rfl⟩ | cases h
theorem dp_str {z : Str} (h : Dp K H x (.str z)) : x = .str z := by cases h; rfl
theorem dp_int {z : Int} (h : Dp K H x (.int z)) : x = .int z := by cases h; rfl
theorem dp_bl {z : Bool} (h : Dp K H x (.bool z)) : x = .bl z := by cases h; rfl
theorem dp_non (h : Dp K H x .none) : x = .non := by cases h; rfl
theorem dp_tup {ds : List PyData} (h : Dp K H x (.tuple ds)) : ∃ a xs, x = .ref a ∧ SqT K H a xs ∧ DpAll K H xs ds := by
  cases h with
  | tup h g => exact ⟨_, _, rfl, h, g⟩
end
/-- is None, is not None -/
def rIsN : R2 := fun x y H Q => y = .non ∧ Q (.bl (decide (x = .non))) H
def rNotN : R2 := fun x y H Q => y = .non ∧ Q (.bl (!decide (x = .non))) H
theorem op_isNA {X : Cx} : OpR X (compareOp .Is) rIsN := op_isN
theorem op_notNA {X : Cx} : OpR X (compareOp .IsNot) rNotN := op_notN
theorem i_isN {x : V} {H : Hp} {Q : VK} (q : Q (.bl (decide (x = .non))) H) : rIsN x .non H Q := ⟨rfl, q⟩
theorem i_notN {x : V} {H : Hp} {Q : VK} (q : Q (.bl (!decide (x = .non))) H) : rNotN x .non H Q := ⟨rfl, q⟩
/-! ### the module's built-in names -/
structure BTy (mg : Str → Option Value) (x : Str) (T : String) : Prop where
  m : mg x = none
  b : bootBuiltins x = some (.type T)
theorem we_bty {X : Cx} {x : Str} {T : String} {σ : L2.St} {H : Hp} {Q : VK} {pos : Pos} (h : BTy X.mg x T) (hg : Gl X x) (q : Q (.ty T) H) (hn : x ≠ "__name__" := by decide) (hd : (x == ("__debug__" : Str)) = false := by decide) : WE X (.Name x pos) σ H Q :=
  we_ty h.m h.b hg q hn hd
end WP
end
section
set_option Elab.async false
set_option linter.all false
set_option maxRecDepth 100000
set_option maxHeartbeats 4000000
/-! enumerate of a tuple. -/
namespace WP
open PySem PySem.Spec PyProof.Rows L2
open Sem (wp)
open AutoSeq1 (wpAny_loadPart')
theorem meets_enumerate_newT (l : Addr) (items : Array Value) (n : Nat) (dct : Option Addr) (sl : Array (Option Value)) :
    Meets (Builtin.«enumerate.__new__» ⟨[.type "enumerate", .ref l], []⟩) (fun _ R s => s.heap.get? l = some { cls := .type "tuple", dict := dct, data := .seq items n, slots := sl } ∧
      R (.ok (.ret (.ref (s.heap.push { cls := .type "tuple_iterator", data := .fields #[.ref l, .int 0 0] }).objs.size)))
        { s with heap := (s.heap.push { cls := .type "tuple_iterator", data := .fields #[.ref l, .int 0 0] }).push { cls := .type "enumerate", data := .fields #[.none, .bool false, .ref s.heap.objs.size, rawInt 0, .none, .none] } }) :=
  .of_wp fun prog w A R s h => by
    obtain ⟨hp, g, d, tk, os⟩ := s; obtain ⟨hl, h⟩ := h
    have hsub := sub_enumerate
    have hL : Heap.IsTuple (Shared.heap ⟨hp, g, d, tk, os⟩) l items := ⟨_, hl, rfl, n, rfl⟩
    wp_walk using wpAny_loadPart' hl
    refine wpAny_stack_any fun st => wpAny_pure ?_
    split
    · rename_i c _ _ _ _ _
      cases (c == Value.type "enumerate")
      · wp_walk using wpAny_loadPart' hl, wpAny_pyIter_tuple hL
        exact ⟨_, rfl, h⟩
      · wp_walk using wpAny_loadPart' hl, wpAny_pyIter_tuple hL
        exact ⟨_, rfl, h⟩
    · wp_walk using wpAny_loadPart' hl, wpAny_pyIter_tuple hL
      exact ⟨_, rfl, h⟩
theorem call_enumerate_tuple {prog : Program} {w : World} {A : Around} {E : Value → Shared → Prop} {s : Shared} {l : Addr} {items : Array Value} {Q : Value → Shared → Prop} (hL : s.heap.IsTuple l items)
    (h : ∀ h', IsEnum h' (s.heap.objs.size + 1) s.heap.objs.size 0 .none → h'.IsTupleIter s.heap.objs.size l 0 → h'.objs.size = s.heap.objs.size + 2 →
      (∀ b o, s.heap.get? b = some o → h'.get? b = some o) → Q (.ref (s.heap.objs.size + 1)) { s with heap := h' }) :
    wpAny (model prog w) A (call (.type "enumerate") [.ref l]) Q E s := by
  obtain ⟨⟨c, dct, dt, sl⟩, hl, hc, n, hd⟩ := hL
  replace hc : c = .type "tuple" := hc
  replace hd : dt = .seq items n := hd
  subst hc hd
  refine callType_new F.called_enumerate (by decide) (F.typeCall_enumerate_1 _) (F.newCall_enumerate_1 _) (fun obj => F.args_object_init_2 obj _) F.entry_enumerate_new
    (meets_enumerate_newT l items n dct sl) ⟨hl, ?_⟩
  have hz : (s.heap.push { cls := .type "tuple_iterator", data := .fields #[.ref l, .int 0 0] }).objs.size = s.heap.objs.size + 1 := Heap.size_push ..
  show _ ∧ _
  rw [hz]
  have he : IsEnum ((s.heap.push { cls := .type "tuple_iterator", data := .fields #[.ref l, .int 0 0] }).push
      { cls := .type "enumerate", data := .fields #[.none, .bool false, .ref s.heap.objs.size, rawInt 0, .none, .none] }) (s.heap.objs.size + 1) s.heap.objs.size 0 .none := by
    have := Heap.get?_push_size (s.heap.push { cls := .type "tuple_iterator", data := .fields #[.ref l, .int 0 0] })
      (o := { cls := .type "enumerate", data := .fields #[.none, .bool false, .ref s.heap.objs.size, rawInt 0, .none, .none] }) rfl
    rw [hz] at this; exact this
  refine ⟨⟨_, he, rfl⟩, h _ he ⟨_, Heap.get?_push_of_some _ (Heap.get?_push_size _ rfl), rfl, rfl⟩ (by rw [Heap.size_push, hz]) fun b o x => Heap.get?_push_of_some _ (Heap.get?_push_of_some _ x)⟩
theorem wpAny_pyNext_enum_endT {prog : Program} {w : World} {A : Around} {E : Value → Shared → Prop} {s : Shared} {e it l : Addr} {i : Nat} {items : Array Value} {old : Value} {Q : Option Value → Shared → Prop} (hh : A.handled = none)
    (he : IsEnum s.heap e it i old) (hit : s.heap.IsTupleIter it l i) (hl : s.heap.IsTuple l items) (hx : items[i]? = none)
    (hQ : ∀ h', Heap.ExtBut it s.heap h' → Q none { s with heap := h' }) : wpAny (model prog w) A (pyNext (.ref e)) Q E s := by
  have hT : s.TypeIs (.ref e) "enumerate" := ⟨_, he, rfl⟩
  unfold pyNext
  refine wpAny_bind (wpAny_attempt (wpAny_callSpecial?_slot (name := Str.ofString "__next__") hT F.slot_enumerate_next
    (wpAny_call_entry F.slot_enumerate_next hT F.entry_enumerate_next ?_ (F.args_enumerate_next_1 _))))
  show wpAny _ _ (field (.ref e) 2 >>= _) _ _ _
  refine wpAny_bind (wpAny_field he rfl (x := .ref it) rfl ?_)
  refine wpAny_bind (wpAny_nextOf_tuple_end hh hit hl hx fun h' x he' hx' => ?_)
  obtain ⟨o, ho, hc⟩ := hx'
  refine wpAny_bind (wpAny_isInstance (T := "StopIteration") (b := true) ⟨o, ho, hc⟩ isSubtype_stop ?_)
  exact wpAny_pure (hQ _ he')
/-- the tuple at a as it stands at each turn, the items in new pairs -/
def IteT (K : PySem.W.Frag) (a : Addr) : It :=
  ⟨fun i H => ∃ (xs : List V) (x : V), SqT K H a xs ∧ xs[i]? = some x, fun i H v H' => ∃ T x, v = .ref T ∧ H T = none ∧ H' = upd H T (.tup [.int (i : Nat), x]) ∧ ∀ xs, SqT K H a xs → xs[i]? = some x, fun i H => ∃ xs : List V, SqT K H a xs ∧ xs.length ≤ i⟩
theorem turn_enumT {P : Program} {w : World} {K : PySem.W.Frag} {elts : List Expr} {kk : Nat} {tpos : Pos} (a e it : Addr) :
    Turn P w K (.Tuple elts kk tpos) (IteT K a) [e, it] e (fun i h => (∃ old, IsEnum h e it ((i : Nat) : Int) old) ∧ h.IsTupleIter it a i ∧ e ≠ it) where
  mem := by simp
  obj := fun i h st b hb => by
    obtain ⟨⟨old, he⟩, ⟨o, ho, hc, hd⟩, _⟩ := st
    have e' : b = e ∨ b = it := by simpa using hb
    rcases e' with z | z
    · rw [z]; exact ⟨_, he, fun v q => nomatch q⟩
    · rw [z]; exact ⟨o, ho, fun v q => by rw [hd] at q; cases q⟩
  keep := fun i h h' st k => let ⟨⟨old, he⟩, hi, hne⟩ := st; ⟨⟨old, k e (by simp) _ he⟩, hi.at fun o q => k it (by simp) o q, hne⟩
  item := by
    intro X hP hw hK hc i pins s σ H E I hf st hg
    subst hP hw hK
    obtain ⟨⟨old, he⟩, hit, hne⟩ := st
    obtain ⟨xs, x, hq, hx⟩ := hg
    obtain ⟨its, rv, p, hz⟩ := I.tuple hq
    obtain ⟨u, hu, ru⟩ := rv.get hx
    have hel : e < s.heap.objs.size := Heap.lt_size he
    have hil : it < s.heap.objs.size := by obtain ⟨_, q, _⟩ := hit; exact Heap.lt_size q
    have hai : a ≠ it := fun z => by
      obtain ⟨o1, q1, c1, _⟩ := hit
      obtain ⟨o2, q2, c2, _⟩ := p
      rw [z, q1] at q2; cases q2
      rw [c1] at c2; simp at c2
    have hae : e ≠ a := fun z => by
      obtain ⟨o2, q2, c2, _⟩ := p
      rw [← z, show s.heap.get? e = some _ from he] at q2; cases q2
      simp at c2
    have hin : i < its.toArray.size := by
      have q : its[i]? = some u := hu
      simpa using (List.getElem?_eq_some_iff.mp q).1
    refine wpAny_pyNext_enum_itemD (Draws.tuple (prog := X.prog) (w := X.w) (A := X.A.in1) (I.ok.hd hc) it a hai its.toArray) he ⟨hit, p⟩ hin hne (by simp [hne, hae]) fun x' h' tk hx' ho st' hT hsz hk => ?_
    have eu : x' = u := by
      have q : its.toArray[i]? = some u := by simpa using hu
      rw [hx'] at q
      exact Option.some.inj q
    subst eu
    refine ⟨_, rfl, wpAny_letOwnedTupleGo_enum (s := { s with heap := h', toks := tk + 1 }) ho fun h'' he' sb => ?_⟩
    have hT2 : h''.get? s.heap.objs.size = some { cls := .type "tuple", data := .seq #[.int i tk, x'] } := (sb.2 _ (Nat.ne_of_gt hel)).trans hT
    have new : ObjOk X.prog X.w (upd H s.heap.objs.size (.tup [.int (i : Nat), x])) h'' s.heap.objs.size (.tup [.int (i : Nat), x]) :=
      ⟨by show 2 ≤ sizeLine; decide, [.int i tk, x'], .cons ⟨_, rfl⟩ (.cons ru .nil), ⟨_, hT2, rfl, _, rfl⟩⟩
    have I1 : Inv X pins σ (upd H s.heap.objs.size (.tup [.int (i : Nat), x])) { s with heap := h'', toks := tk + 1 } :=
      I.turnedNew (ch := [e, it]) (fun b ob hb q => (sb.2 b (fun z => hb (by simp [z]))).trans (hk b ob (fun z => hb (by simp [z])) (fun z => hb (by simp [z])) q)) hf (Nat.le_refl _) new
    refine ⟨.ref s.heap.objs.size, _, I1, rfl, ⟨_, x, rfl, I.hok.fresh (Nat.le_refl _), rfl, fun ys hy => by rw [I.tuple_inj hy hq]; exact hx⟩, ⟨⟨x', ?_⟩, st'.1.at fun o q => (sb.2 it (Ne.symm hne)).trans q, hne⟩, fun b hb => ?_⟩
    · have e1 : ((i + 1 : Nat) : Int) = (i : Int) + 1 := by omega
      rw [e1]; exact he'
    · have hb' : b < s.heap.objs.size := by
        have e' : b = e ∨ b = it := by simpa using hb
        rcases e' with z | z
        · rw [z]; exact hel
        · rw [z]; exact hil
      rw [upd_ne (Nat.ne_of_lt hb')]
      exact (hf b hb).1
  done := by
    intro X hP hw hK hc i pins s σ H E I hf st hg
    subst hP hw hK
    obtain ⟨⟨old, he⟩, hit, hne⟩ := st
    obtain ⟨xs, hq, hx⟩ := hg
    obtain ⟨its, rv, p, hz⟩ := I.tuple hq
    obtain ⟨f0, f1, f2, f3, f4, f5⟩ := hf it (by simp)
    have hl := rv.length
    have hai : a ≠ it := fun z => by
      obtain ⟨o1, q1, c1, _⟩ := hit
      obtain ⟨o2, q2, c2, _⟩ := p
      rw [z, q1] at q2; cases q2
      rw [c1] at c2; simp at c2
    refine wpAny_pyNext_enum_endT (I.ok.hd hc) he hit p (by simp; omega) fun h' eb => ⟨rfl, I.turned (t' := s.toks) (fun b o hb q => eb b o hb q) f0 f1 f3 f4 f5⟩
  self := fun A i s Q E st h => let ⟨⟨_, he⟩, _⟩ := st; wpAny_pyIter_enum he h
def iEnumT (K : PySem.W.Frag) (ta : TA) : TI := fun σ H R => ta σ H fun vs H1 => ∃ a xs, vs = [.ref a] ∧ SqT K H1 a xs ∧ R (IteT K a) H1
theorem pi_enumT {X : Cx} {e : Expr} {ta : TA} {p pos tpos : Pos} {elts : List Expr} {kk : Nat} (hg : Gl X "enumerate") (hm : X.mg "enumerate" = none) (ha : PA X [e] ta) (hs : starEach [e] X.env = [(false, eval e X.env)] := by rfl) :
    PI X (.Tuple elts kk tpos) (.Call (.Name "enumerate" p) [e] [] pos) (iEnumT X.K ta) := by
  refine ⟨fun pins s σ H R I h => ?_⟩
  refine Call_ (ld_blt I hg hm boot_enumerate (PyProof.Rows.callWith_type1 (thn (ha.run pos pins s σ H _ I h) fun us s1 ⟨vs, H1, I1, r1, q1⟩ => ?_) hs rfl))
  obtain ⟨a, xs, ex, hq, q⟩ := q1
  subst ex
  cases r1 with
  | cons r rr =>
    cases rr
    cases r
    obtain ⟨its, rv, p', hz⟩ := I1.tuple hq
    refine call_enumerate_tuple (show s1.heap.IsTuple a its.toArray from p') fun h' he hit hsz hk => wpAny_pyIter_enum he ?_
    have I2 : Inv X pins σ H1 { s1 with heap := h' } := I1.kept (t' := s1.toks) hk
    refine ⟨s1.heap.objs.size + 1, [s1.heap.objs.size + 1, s1.heap.objs.size], _, _, H1, rfl, I2, turn_enumT a (s1.heap.objs.size + 1) s1.heap.objs.size, ⟨⟨.none, he⟩, hit, Nat.succ_ne_self _⟩, fun b hb => ?_, q⟩
    have e' : b = s1.heap.objs.size + 1 ∨ b = s1.heap.objs.size := by simpa using hb
    have hle : s1.heap.objs.size ≤ b := by
      rcases e' with z | z
      · rw [z]; exact Nat.le_add_right _ _
      · rw [z]; exact Nat.le_refl _
    exact I1.fpOk hle (I1.hok.fresh hle)
/-- what a turn over enumerate gives: a new pair -/
def YEn (xs : List V) : Nat → Hp → V → Hp → Prop := fun i H v H' => ∃ T x, v = .ref T ∧ H T = none ∧ H' = upd H T (.tup [.int (i : Nat), x]) ∧ xs[i]? = some x
theorem walk_enumT {K : PySem.W.Frag} {a : Addr} {xs : List V} : Walk (IteT K a) xs.length (fun H => SqT K H a xs) (YEn xs) :=
  ⟨fun i _ hi q => ⟨xs, xs[i], q, by simp [hi]⟩, fun _ q => ⟨xs, q, Nat.le_refl _⟩, fun _ _ _ _ _ q y => let ⟨T, x, e1, e2, e3, e4⟩ := y; ⟨T, x, e1, e2, e3, e4 xs q⟩⟩
end WP
end
section
set_option Elab.async false
set_option linter.all false
set_option maxRecDepth 100000
set_option maxHeartbeats 4000000
/-! Methods of built-in types and of own classes, instances without __init__, while and for by invariants. -/
namespace WP
open PySem PySem.Spec PyProof.Rows L2
open PySem.W (makesIn findIn looks_findIn oi_bind oi_plain entry_oi oi_kind oi_split oi_run check_slot Looks)
section
variable {X : Cx} {RW : WX} {e o a b c : Expr} {es : List Expr} {σ : L2.St} {H : Hp} {Q : VK} {pos p apos cpos : Pos} {k : Nat} {x m name : Str} {sp : Sp} {C : Addr} {T id : String} {r : V → List V → Hp → VK → Prop} {D : Ends}
theorem we_bm0 (pla : PlainAttrs T) (slot : Slot T name id) (hty : typeOf (.builtin id) = pure (.type "method_descriptor")) (hm : MtR X id r) (q : WE X o σ H fun x H1 => tyV X.K T x H1 ∧ r x [] H1 Q)
    (hbase : attributeBase o name X.env (eval o X.env) = eval o X.env := by rfl) (hline : (apos.endLine == cpos.line) = true := by rfl) : WE X (.Call (.Attribute o name apos) [] [] cpos) σ H Q := .of (pe_bm0 pla slot hty hm pe hbase hline) q
theorem we_bm (pla : PlainAttrs T) (slot : Slot T name id) (hty : typeOf (.builtin id) = pure (.type "method_descriptor")) (hm : MtR X id r) (q : WE X o σ H fun x H1 => tyV X.K T x H1 ∧ WA X (e :: es) σ H1 fun xs H2 => r x xs H2 Q)
    (hbase : attributeBase o name X.env (eval o X.env) = eval o X.env := by rfl)
    (hfew : ((backTo cpos (starEach (e :: es) X.env)).all (fun x => !x.1) && (backToKw cpos (keywordEach [] X.env)).all (fun x => x.1.isSome)
      && decide ((e :: es).length + ([] : List Keyword).length + (if ([] : List Keyword).isEmpty then 0 else 1) < 30)) = true := by rfl)
    (hline : (apos.endLine == cpos.line) = true := by rfl) (hs : starEach (e :: es) X.env = (false, eval e X.env) :: starEach es X.env := by rfl) (hplain : (backTo cpos (starEach es X.env)).any (·.1) = false := by rfl) :
    WE X (.Call (.Attribute o name apos) (e :: es) [] cpos) σ H Q := .of (pe_bm pla slot hty hm pe pa hbase hfew hline hs hplain) q
theorem we_append (q : WE X o σ H fun x H1 => tyV X.K "list" x H1 ∧ WA X (e :: es) σ H1 fun xs H2 => rAppend x xs H2 Q)
    (hbase : attributeBase o "append" X.env (eval o X.env) = eval o X.env := by rfl)
    (hfew : ((backTo cpos (starEach (e :: es) X.env)).all (fun x => !x.1) && (backToKw cpos (keywordEach [] X.env)).all (fun x => x.1.isSome)
      && decide ((e :: es).length + ([] : List Keyword).length + (if ([] : List Keyword).isEmpty then 0 else 1) < 30)) = true := by rfl)
    (hline : (apos.endLine == cpos.line) = true := by rfl) (hs : starEach (e :: es) X.env = (false, eval e X.env) :: starEach es X.env := by rfl) (hplain : (backTo cpos (starEach es X.env)).any (·.1) = false := by rfl) :
    WE X (.Call (.Attribute o "append" apos) (e :: es) [] cpos) σ H Q := we_bm PySem.F.plainAttrs_list PySem.F.slot_list_append PySem.F.type_list_append mt_append q hbase hfew hline hs hplain
theorem we_extend (q : WE X o σ H fun x H1 => tyV X.K "list" x H1 ∧ WA X (e :: es) σ H1 fun xs H2 => rExtend x xs H2 Q)
    (hbase : attributeBase o "extend" X.env (eval o X.env) = eval o X.env := by rfl)
    (hfew : ((backTo cpos (starEach (e :: es) X.env)).all (fun x => !x.1) && (backToKw cpos (keywordEach [] X.env)).all (fun x => x.1.isSome)
      && decide ((e :: es).length + ([] : List Keyword).length + (if ([] : List Keyword).isEmpty then 0 else 1) < 30)) = true := by rfl)
    (hline : (apos.endLine == cpos.line) = true := by rfl) (hs : starEach (e :: es) X.env = (false, eval e X.env) :: starEach es X.env := by rfl) (hplain : (backTo cpos (starEach es X.env)).any (·.1) = false := by rfl) :
    WE X (.Call (.Attribute o "extend" apos) (e :: es) [] cpos) σ H Q := we_bm PySem.F.plainAttrs_list PySem.F.slot_list_extend PySem.F.type_list_extend mt_extend q hbase hfew hline hs hplain
theorem we_pop (q : WE X o σ H fun x H1 => tyV X.K "list" x H1 ∧ rPop x [] H1 Q)
    (hbase : attributeBase o "pop" X.env (eval o X.env) = eval o X.env := by rfl) (hline : (apos.endLine == cpos.line) = true := by rfl) : WE X (.Call (.Attribute o "pop" apos) [] [] cpos) σ H Q := we_bm0 PySem.F.plainAttrs_list PySem.F.slot_list_pop PySem.F.type_list_pop mt_pop q hbase hline
/-- what a list that stands in H gives -/
theorem i_lstT {l : Addr} {xs : List V} (h : H l = some (.lst xs)) {P : Prop} (q : P) : tyV X.K "list" (.ref l) H ∧ P := ⟨.inl ⟨rfl, xs, SqL.of h⟩, q⟩
theorem i_append {l : Addr} {xs : List V} {y : V} (h : H l = some (.lst xs)) (hz : xs.length < sizeLine) (q : Q .non (upd H l (.lst (xs ++ [y])))) : rAppend (.ref l) [y] H Q := ⟨l, xs, y, rfl, rfl, h, hz, q⟩
theorem i_extend {l b : Addr} {xs zs : List V} (h : H l = some (.lst xs)) (h2 : H b = some (.lst zs)) (hz : xs.length + zs.length ≤ sizeLine) (q : Q .non (upd H l (.lst (xs ++ zs)))) : rExtend (.ref l) [.ref b] H Q := ⟨l, b, xs, zs, rfl, rfl, h, h2, hz, q⟩
theorem i_pop {l : Addr} {xs : List V} {y : V} (h : H l = some (.lst (xs ++ [y]))) (q : Q y (upd H l (.lst xs))) : rPop (.ref l) [] H Q := ⟨l, xs ++ [y], y, rfl, rfl, h, by simp, by rw [List.dropLast_concat]; exact q⟩
/-- o.m(e, ..), m a def of an own class -/
theorem we_meth {pl : Sem Bool} (M : MDef X.prog X.w X.K X.mg X.base k C m sp) (cl : Cls X.K C) (hr : Room k X.A) (pa' : Pas X RW) (q : WE X o σ H fun x H1 => ∃ a dx fs, x = .ref a ∧ H1 a = some (.ins C dx fs) ∧ fs.lookup m = none ∧ WA X (e :: es) σ H1 fun vs H2 => sp (x :: vs) H2 Q fun cls d H' => RW cls d σ H')
    (hst : starEach (e :: es) X.env = (false, eval e X.env) :: starEach es X.env := by rfl) (hpl : (backTo pos (starEach es X.env)).any (·.1) = false := by rfl)
    (ht : eval (.Call (.Attribute o m apos) (e :: es) [] pos) X.env = (do
      let ov ← eval o X.env
      standAt apos.atName
      let (f, first) ← holding [ov] (getMethod ov m pl)
      callWith pos f first (backTo pos (starEach (e :: es) X.env)) (backToKw pos (keywordEach [] X.env))) := by rfl) :
    WE X (.Call (.Attribute o m apos) (e :: es) [] pos) σ H Q := by
  obtain ⟨f, fd, ps, hm, hb, F⟩ := M.ex
  refine ⟨fun pins s I => ?_⟩
  refine PySem.W.methodCall_KW (pl := pl) (thn (q.run pins s I) fun u s1 ⟨x, H1, I1, rx, a, dx, fs, ex, ea, l, q⟩ => ?_) ht
  subst ex
  obtain rfl : u = Value.ref a := rx
  refine getmeth_ok I1 ea cl hm l ?_
  refine PySem.W.callWith_K (first := [.ref a]) (h₀ := X.base) I.ok.mod.kin hm.kp (thn (q.run pos pins s1 I1) fun us s2 ⟨vs, H2, I2, r, q2⟩ => ⟨I2.kIn, ?_⟩) hst hpl
  exact run_fnS (us := .ref a :: us) (vs := .ref a :: vs) (E := fun σ cls d H' => RW cls d σ H') F hr hb (pa' σ) I2 (.cons rfl r) q2
theorem we_call' (F : Def X.prog X.w X.K X.mg X.base k x sp) (hr : Room k X.A) (pa' : Pas X RW) (hg : Gl X x) (q : WA X (e :: es) σ H fun vs H1 => sp vs H1 Q fun cls d H' => RW cls d σ H')
    (hdb : (x == ("__debug__" : Str)) = false := by decide) (he : starEach (e :: es) X.env = (false, eval e X.env) :: starEach es X.env := by rfl) (hpl : (backTo pos (starEach es X.env)).any (·.1) = false := by rfl) : WE X (.Call (.Name x p) (e :: es) [] pos) σ H Q := by
  obtain ⟨f, fd, ps, hm, hk, hb, F⟩ := F.ex
  exact .of (pe_callS (E := fun σ cls d H' => RW cls d σ H') F hr hg hm hk hb pa' pa hdb he hpl) q
/-- C(), C a class of the text without own __init__ -/
structure Mk0 (K : PySem.W.Frag) (C : Addr) : Prop where
  makes : makesIn K C = true
  init : findIn K (.ref C) "__init__" = some (some (.builtin "object.__init__"))
  kp : PySem.W.keepIn K (.ref C) = true
theorem we_make0 (M : Mk0 X.K C) (hg : Gl X x) (hm : X.mg x = some (.ref C)) (q : ∀ y dx, H y = none → H dx = none → dx ≠ y → Q (.ref y) (upd (upd H dx (.own y)) y (.ins C dx [])))
    (hdb : (x == ("__debug__" : Str)) = false := by decide) : WE X (.Call (.Name x p) [] [] pos) σ H Q := by
  refine ⟨fun pins s I => ?_⟩
  refine wpAny_Call_Name_kw (ld_glob I hg hm ?_ hdb)
  refine PySem.W.callWith_K0 I.kIn M.kp ?_
  show wpAny _ _ (call (.ref C) []) _ _ _
  have hq := q (s.heap.objs.size + 1) s.heap.objs.size (I.hok.fresh (Nat.le_succ _)) (I.hok.fresh (Nat.le_refl _)) (Nat.ne_of_lt (Nat.lt_succ_self _))
  have I2 := Inv.made (C := C) I
  refine wpAny_call (make_map0 I.kIn M.makes M.init (fun self => Looks.of_pure (oi_bind self)) ?_)
  have t1 : Looks (model X.prog X.w) ((s.heap.push PySem.W.emptyDict).push (PySem.W.instObj C s.heap.objs.size)) (typeOf (.ref (s.heap.objs.size + 1))) (.ref C) := by
    have e2 : ((s.heap.push PySem.W.emptyDict).push (PySem.W.instObj C s.heap.objs.size)).get? (s.heap.objs.size + 1) = some (PySem.W.instObj C s.heap.objs.size) := by
      have z := Heap.get?_push_size (s.heap.push PySem.W.emptyDict) (o := PySem.W.instObj C s.heap.objs.size) rfl
      rw [Heap.size_push] at z
      exact z
    exact NwA.type_at e2 rfl
  have t2 : Looks (model X.prog X.w) ((s.heap.push PySem.W.emptyDict).push (PySem.W.instObj C s.heap.objs.size)) (isInstance (.ref (s.heap.objs.size + 1)) (.type "object")) true := t1.andThen (PySem.W.looks_mroIn (I2.kIn) (mro_obj M.makes))
  refine codeAny_call_builtin oi_plain entry_oi (@check_slot (model X.prog X.w) _ _ _ "object.__init__" "object" "__init__" (.ref (s.heap.objs.size + 1)) [] [] _ oi_kind oi_split t2 (NwA.oi_args_any _ _ _) ?_)
  rw [oi_run]
  exact wpAny_pure ⟨rfl, .ref (s.heap.objs.size + 1), _, I2, rfl, hq⟩
theorem wt_mono {QT QT' : Bool → Hp → Prop} (h : ∀ b H1, QT b H1 → QT' b H1) (q : WT X c σ H QT) : WT X c σ H QT' := ⟨fun pins s I => thn (q.run pins s I) fun _ _ ⟨H', I', z⟩ => ⟨H', I', h _ _ z⟩⟩
theorem ws_whileI {body : List Stmt} (hp : PassesOwn (model X.prog X.w) X.A X.env X.xe) (Pv : L2.St → Hp → Prop) (μ : L2.St → Hp → Nat) (h0 : Pv σ H)
    (hs : ∀ σ H, Pv σ H → WT X c σ H fun b H1 => if b = true then WB X body { D with nx := fun σ' H' => Pv σ' H' ∧ μ σ' H' < μ σ H, ct := fun σ' H' => Pv σ' H' ∧ μ σ' H' < μ σ H, bk := D.nx } σ H1 else D.nx σ H1) : WS X (.While c body [] pos) D σ H :=
  ws_while hp (while_by (c := WT X c) (tb := WB X body) Pv μ h0 hs fun _ _ _ _ h q => wt_mono h q)
end
end WP
end
section
set_option Elab.async false
set_option linter.all false
set_option maxRecDepth 100000
set_option maxHeartbeats 4000000
/-! Comprehensions by what their elements are. -/
namespace WP
open PySem PySem.Spec PyProof.Rows L2
/-- what the element at i is, at a heap; it stays so where all tracked things stay, and where a list changes -/
structure Stay (R : Nat → Hp → V → Prop) : Prop where
  same : ∀ i H H' v, Same H H' → R i H v → R i H' v
  upd : ∀ i H v D ys zs, H D = some (.lst ys) → R i H v → R i (upd H D (.lst zs)) v
theorem stay_val {f : Nat → V} : Stay (fun i _ v => v = f i) := ⟨fun _ _ _ _ _ h => h, fun _ _ _ _ _ _ _ h => h⟩
theorem stay_ex {α : Type} {R : α → Nat → Hp → V → Prop} (h : ∀ a, Stay (R a)) : Stay (fun i H v => ∃ a, R a i H v) :=
  ⟨fun i H H' v s ⟨a, r⟩ => ⟨a, (h a).same i H H' v s r⟩, fun i H v D ys zs e ⟨a, r⟩ => ⟨a, (h a).upd i H v D ys zs e r⟩⟩
/-- a new tuple of such values -/
theorem stay_tup {f : Nat → List V} : Stay (fun i H v => ∃ p, v = .ref p ∧ H p = some (.tup (f i))) :=
  ⟨fun i H H' v s ⟨p, e, h⟩ => ⟨p, e, s _ _ h⟩, fun i H v D ys zs e ⟨p, e', h⟩ => ⟨p, e', by rw [upd_ne (ne_of h e (fun z => nomatch z))]; exact h⟩⟩
mutual
def nolist : PyData → Bool
  | .list _ => false
  | .tuple ds => nolists ds
  | _ => true
def nolists : List PyData → Bool
  | [] => true
  | d :: ds => nolist d && nolists ds
end
theorem sqT_updL {K : PySem.W.Frag} {H : Hp} {a D : Addr} {xs ys zs : List V} (e : H D = some (.lst ys)) (h : SqT K H a xs) : SqT K (upd H D (.lst zs)) a xs := by
  rcases h with (h | ⟨o, h⟩) | h
  · exact .inl (.inl (by rw [upd_ne (ne_of h e (fun z => nomatch z))]; exact h))
  · exact .inl (.inr ⟨o, by rw [upd_ne (ne_of h e (fun z => nomatch z))]; exact h⟩)
  · exact .inr h
mutual
theorem dp_updL {K : PySem.W.Frag} {H : Hp} {D : Addr} {ys zs : List V} (e : H D = some (.lst ys)) : ∀ {d : PyData} {v : V}, nolist d = true → Dp K H v d → Dp K (upd H D (.lst zs)) v d
  | _, _, _, .non => .non
  | _, _, _, .bl b => .bl b
  | _, _, _, .int i => .int i
  | _, _, _, .str x => .str x
  | _, _, n, .lst h g => by simp [nolist] at n
  | _, _, n, .tup h g => .tup (sqT_updL e h) (dpAll_updL e (by simpa [nolist] using n) g)
theorem dpAll_updL {K : PySem.W.Frag} {H : Hp} {D : Addr} {ys zs : List V} (e : H D = some (.lst ys)) : ∀ {ds : List PyData} {vs : List V}, nolists ds = true → DpAll K H vs ds → DpAll K (upd H D (.lst zs)) vs ds
  | _, _, _, .nil => .nil
  | _, _, n, .cons h g => by
    simp only [nolists, Bool.and_eq_true] at n
    exact .cons (dp_updL e n.1 h) (dpAll_updL e n.2 g)
end
theorem stay_dp {K : PySem.W.Frag} {f : Nat → PyData} (h : ∀ i, nolist (f i) = true) : Stay (fun i H v => Dp K H v (f i)) :=
  ⟨fun i H H' v s r => dp_mono s r, fun i H v D ys zs e r => dp_updL e (h i) r⟩
section
variable {J : It} {n : Nat} {G : Hp → Prop} {Y : Nat → Hp → V → Hp → Prop} {g : TG} {te : TE} {tt : TT} {vs : List Nat} {σ : L2.St} {H1 : Hp} {D : Addr} {Qd : Hp → Prop}
/-- [e for .. in ..]: R tells the elements -/
theorem lc_R (R : Nat → Hp → V → Prop) (st : Stay R) (w : Walk J n G Y) (hn : n < sizeLine) (hD : H1 D = none) (hG : ∀ H, Same H1 H → G H)
    (hs : ∀ i x H H', i < n → Same H1 H → Y i H x H' → g x (wipe σ vs) H' fun σ2 H2 => wipe σ2 vs = wipe σ vs ∧ te σ2 H2 fun y H4 => Same H H4 ∧ R i H4 y)
    (hm : ∀ σ H Q Q', (∀ v H, Q v H → Q' v H) → te σ H Q → te σ H Q') (gm : ∀ x σ H Q Q', (∀ σ H, Q σ H → Q' σ H) → g x σ H Q → g x σ H Q')
    (hd : ∀ H acc, Same H1 H → H D = some (.lst acc) → acc.length = n → (∀ i v, acc[i]? = some v → R i H v) → Qd H) :
    ∃ W : Nat → Nat → Hp → Prop, (∃ m, W 0 m (upd H1 D (.lst []))) ∧ ∀ i m H, W i m H →
      (J.stop i H ∧ Qd H) ∨ (J.go i H ∧ ∃ Nx : Hp → Prop, (∀ H', Nx H' → ∃ m', m' < m ∧ W (i + 1) m' H') ∧ ∀ x H', J.yld i H x H' → g x (wipe σ vs) H' fun σ2 H2 => wipe σ2 vs = wipe σ vs ∧ tYes σ2 H2 fun b H3 =>
        if b = true then te σ2 H3 fun y H4 => ∃ acc, H4 D = some (.lst acc) ∧ acc.length < sizeLine ∧ Nx (upd H4 D (.lst (acc ++ [y]))) else Nx H3) := by
  refine lc_it w (fun i H => Same H1 H ∧ ∃ acc, H D = some (.lst acc) ∧ acc.length = i ∧ ∀ j v, acc[j]? = some v → R j H v) ⟨Same.new hD, [], upd_same, rfl, fun j v e => by simp at e⟩ (fun i H _ h => hG H h.1) ?_ ?_
  · rintro i x H H' hi ⟨s1, acc, hl, hz, hR⟩ y
    refine gm _ _ _ _ _ (fun σ2 H2 ⟨e, q⟩ => ⟨e, ?_⟩) (hs i x H H' hi s1 y)
    unfold tYes
    refine iteT (hm _ _ _ _ (fun v H4 ⟨s4, r4⟩ => ?_) q)
    have h4 := s4 D _ hl
    refine ⟨acc, h4, by omega, (s1.trans s4).mut hD, acc ++ [v], upd_same, by simp [hz], fun j u e => ?_⟩
    by_cases hj : j < acc.length
    · rw [List.getElem?_append_left hj] at e
      exact st.upd _ _ _ _ _ _ h4 (st.same _ _ _ _ s4 (hR j u e))
    · have hje : j = acc.length := by
        have := (List.getElem?_eq_some_iff.mp e).1
        simp at this
        omega
      subst hje
      simp at e
      subst e
      rw [hz]
      exact st.upd _ _ _ _ _ _ h4 r4
  · rintro H ⟨s1, acc, hl, hz, hR⟩
    exact hd H acc s1 hl hz hR
/-- [e for .. in .. if c]: the values and the tests are known by the turn -/
theorem lc_F (p : Nat → Bool) (f : Nat → V) (w : Walk J n G Y) (hn : n < sizeLine) (hD : H1 D = none) (hG : ∀ H, Same H1 H → G H)
    (hs : ∀ i x H H', i < n → Same H1 H → Y i H x H' → g x (wipe σ vs) H' fun σ2 H2 => wipe σ2 vs = wipe σ vs ∧ tt σ2 H2 fun b H3 => Same H H3 ∧ b = p i ∧ (b = true → te σ2 H3 fun y H4 => Same H H4 ∧ y = f i))
    (hm : ∀ σ H Q Q', (∀ v H, Q v H → Q' v H) → te σ H Q → te σ H Q') (tm : ∀ σ H Q Q', (∀ b H, Q b H → Q' b H) → tt σ H Q → tt σ H Q') (gm : ∀ x σ H Q Q', (∀ σ H, Q σ H → Q' σ H) → g x σ H Q → g x σ H Q')
    (hd : ∀ H, Same H1 H → H D = some (.lst (((List.range n).filter p).map f)) → Qd H) :
    ∃ W : Nat → Nat → Hp → Prop, (∃ m, W 0 m (upd H1 D (.lst []))) ∧ ∀ i m H, W i m H →
      (J.stop i H ∧ Qd H) ∨ (J.go i H ∧ ∃ Nx : Hp → Prop, (∀ H', Nx H' → ∃ m', m' < m ∧ W (i + 1) m' H') ∧ ∀ x H', J.yld i H x H' → g x (wipe σ vs) H' fun σ2 H2 => wipe σ2 vs = wipe σ vs ∧ tt σ2 H2 fun b H3 =>
        if b = true then te σ2 H3 fun y H4 => ∃ acc, H4 D = some (.lst acc) ∧ acc.length < sizeLine ∧ Nx (upd H4 D (.lst (acc ++ [y]))) else Nx H3) := by
  refine lc_it w (fun i H => Same H1 H ∧ H D = some (.lst (((List.range i).filter p).map f))) ⟨Same.new hD, upd_same⟩ (fun i H _ h => hG H h.1) ?_ ?_
  · rintro i x H H' hi ⟨s1, hl⟩ y
    refine gm _ _ _ _ _ (fun σ2 H2 ⟨e, q⟩ => ⟨e, tm _ _ _ _ (fun b H3 ⟨s3, hb, q3⟩ => ?_) q⟩) (hs i x H H' hi s1 y)
    cases b with
    | true =>
      refine iteT (hm _ _ _ _ (fun v H4 ⟨s4, e4⟩ => ?_) (q3 rfl))
      have h4 := s4 D _ hl
      refine ⟨_, h4, ?_, (s1.trans s4).mut hD, ?_⟩
      · have := List.length_filter_le p (List.range i)
        simp at this
        simp
        omega
      · rw [upd_same, List.range_succ, List.filter_append, List.map_append, e4]
        simp [← hb]
    | false =>
      refine iteF ⟨s1.trans s3, ?_⟩
      rw [s3 D _ hl, List.range_succ, List.filter_append, List.map_append]
      simp [← hb]
  · rintro H ⟨s1, hl⟩
    exact hd H s1 hl
end
theorem teW_mono {X : Cx} {RW : WX} {σ0 : L2.St} {scope : Scope} {elt : Expr} (σ : L2.St) (H : Hp) (Q Q' : VK) (h : ∀ v H, Q v H → Q' v H) (q : teW X RW σ0 scope elt σ H Q) : teW X RW σ0 scope elt σ H Q' := fun s H0 C cl fp => (q s H0 C cl fp).mono h
theorem ttW_mono {X : Cx} {RW : WX} {σ0 : L2.St} {scope : Scope} {ifs : List Expr} (σ : L2.St) (H : Hp) (Q Q' : Bool → Hp → Prop) (h : ∀ v H, Q v H → Q' v H) (q : ttW X RW σ0 scope ifs σ H Q) : ttW X RW σ0 scope ifs σ H Q' := by
  cases ifs with
  | nil => exact h _ _ q
  | cons c r => exact fun s H0 C cl fp => wt_mono h (q s H0 C cl fp)
theorem gName_mono {i : Nat} (x : V) (σ : L2.St) (H : Hp) (Q Q' : L2.St → Hp → Prop) (h : ∀ σ H, Q σ H → Q' σ H) (q : gName i x σ H Q) : gName i x σ H Q' := h _ _ q
theorem gTup2_mono {K : PySem.W.Frag} {i j : Nat} (x : V) (σ : L2.St) (H : Hp) (Q Q' : L2.St → Hp → Prop) (h : ∀ σ H, Q σ H → Q' σ H) (q : gTup K 2 (gCons (gName i) (gCons (gName j) gNil)) x σ H Q) : gTup K 2 (gCons (gName i) (gCons (gName j) gNil)) x σ H Q' := by
  obtain ⟨a, xs, e1, h1, h2, v, r, e3, v2, r2, e4, e5, q⟩ := q
  exact ⟨a, xs, e1, h1, h2, v, r, e3, v2, r2, e4, e5, h _ _ q⟩
theorem passes_bx {P : Program} {w : World} {K : PySem.W.Frag} {mg : Str → Option Value} {base : Heap} {N : List Str} {qual : Str} {sc : Scope} {f : Addr} {cdv : Value} {A : Around} {outer : List Env} {s : Shared} {H : Hp} {E : XK} :
    PassesOwn (model (bx P w K mg base N qual sc f cdv A outer s H E).prog (bx P w K mg base N qual sc f cdv A outer s H E).w) (bx P w K mg base N qual sc f cdv A outer s H E).A (bx P w K mg base N qual sc f cdv A outer s H E).env (bx P w K mg base N qual sc f cdv A outer s H E).xe :=
  passes_of (X := bx P w K mg base N qual sc f cdv A outer s H E) (E₁ := fun e s' => L2.CX P w outer H s E e s') rfl
/-- a, b = e1, e2 -/
theorem ws_par {X : Cx} {a b : Expr} {σ : L2.St} {H : Hp} {D : Ends} {pos : Pos} (i j : Nat) {x y : Str} {px py pt : Pos} {kt k2 pt2} (hc : X.calm = true) (hN : X.N.Nodup) (hi : X.N[i]? = some x) (hj : X.N[j]? = some y) (hij : i ≠ j)
    (hx : X.env.scope.names.lookup x = some .local) (hy : X.env.scope.names.lookup y = some .local) (hw : swappedStores [.Tuple [.Name x px, .Name y py] kt pt] (.Tuple [a, b] k2 pt2) X.env = pure (some [x, y]))
    (q : WE X a σ H fun v H1 => WE X b σ H1 fun u H2 => D.nx ((σ.set i (some v)).set j (some u)) H2)
    (hs : swapsWithSole [.Tuple [.Name x px, .Name y py] kt pt] (.Tuple [a, b] k2 pt2) pos.line X.env = pure false := by rfl)
    (s1 : starEach (a :: [b]) X.env = (false, eval a X.env) :: starEach [b] X.env := by rfl) (s2 : starEach (b :: []) X.env = (false, eval b X.env) :: starEach [] X.env := by rfl) :
    WS X (.Assign [.Tuple [.Name x px, .Name y py] kt pt] (.Tuple [a, b] k2 pt2) pos) D σ H :=
  .of (ps_par hc hN hi hj hij hx hy (pa_cons pe (pa_cons pe pa_nil s2) s1) hw hs) (by
    show WE X a σ H fun v H1 => WE X b σ H1 fun u H2 => ∃ v' w', [v, u] = [v', w'] ∧ _
    exact q.mono fun v H1 h => h.mono fun u H2 h2 => ⟨v, u, rfl, h2⟩)
theorem i_lenLt {K : PySem.W.Frag} {l : Addr} {xs : List V} {H : Hp} {Q : VK} (h : H l = some (.lst xs)) (q : Q (.int xs.length) H) : rLn K [.ref l] H Q := i_lenL (SqL.of h) q
/-- x, y = a pair -/
theorem i_two {K : PySem.W.Frag} {i j : Nat} {a : Addr} {v u : V} {σ : L2.St} {H : Hp} {Q : L2.St → Hp → Prop} (h : SqT K H a [v, u]) (q : Q ((σ.set i (some v)).set j (some u)) H) : gTup K 2 (gCons (gName i) (gCons (gName j) gNil)) (.ref a) σ H Q :=
  ⟨a, _, rfl, h, rfl, v, _, rfl, u, _, rfl, rfl, q⟩
end WP
end
section
set_option Elab.async false
set_option linter.all false
set_option maxRecDepth 100000
set_option maxHeartbeats 4000000
namespace WP
open PySem PySem.Spec PyProof.Rows L2
/-- a method keeps its promise -/
theorem MDef.mk' {P : Program} {w : World} {K : PySem.W.Frag} {mg : Str → Option Value} {base : Heap} {x qual : Str} {params : Arguments} {body : List Stmt} {scope : Scope} {kws : List (Str × V)} {f : Addr} {fd : FuncData} {N ps : List Str} {k : Nat} {sp : Sp} {C : Addr}
    (F : FunD K x qual params body scope [] kws f fd) (hm : Meth K C x f) (S : FnScope N ps scope) (len : ∀ vs H Q E, sp vs H Q E → vs.length = ps.length)
    (hb : ∀ (kV doc pm : Value) (an : Option Addr) (cdv ct : Value) (us : List Value), us.length = ps.length → bindArgs (PySem.W.fnOf x qual params body scope .none kV doc pm an cdv ct) ⟨us, []⟩ = pure (ps.zip us))
    (hbody : ∀ (cdv : Value) (A : Around) (outer : List Env) (s : Shared) (H : Hp) (vs : List V) (Q : VK) (E : XK), Room k (A.deeper (envOfC qual scope s.heap.objs.size f cdv)) → Takes (bx P w K mg base N qual scope f cdv A outer s H E) (fun cls d _ H => E cls d H) → sp vs H Q E →
      WB (bx P w K mg base N qual scope f cdv A outer s H E) body { nx := fun _ H' => Q .non H', rt := Q } (start N vs) H) : MDef P w K mg base (k + 1) C x sp :=
  ⟨f, fd, ps, hm, F.bindsN hb, F.ok S len fun cdv A outer s H vs Q E hr h => ⟨_, pss, hbody cdv A outer s H vs Q E hr (takes_of rfl rfl rfl rfl) h⟩⟩
theorem op_eqA1 {X : Cx} (hu : X.A.units + 64 < cLine) : OpR X (compareOp .Eq) (rEqA X.K) := op_eqA hu
end WP
end
section
set_option Elab.async false
set_option linter.all false
set_option maxRecDepth 100000
set_option maxHeartbeats 4000000
/-! Slices, subscripts, tuples joined, tuple of a list. -/
namespace WP
open PySem PySem.Spec PyProof.Rows L2
section
variable {X : Cx} {K : PySem.W.Frag} {e a b c : Expr} {σ : L2.St} {H : Hp} {Q : VK} {pos p p2 : Pos} {lo hi : Option Int}
theorem we_slH {r : V → Option Int → Option Int → Hp → VK → Prop} (hr : SlR X r) (q : WE X a σ H fun x H1 => WE X b σ H1 fun y H2 => ∃ i, y = .int i ∧ r x none (some i) H2 Q) : WE X (.Subscript a (.Slice none (some b) none p2) pos) σ H Q :=
  .of (pe_slice hr pe po_none (po_some pe)) (q.mono fun _ _ h => h)
theorem we_slL {r : V → Option Int → Option Int → Hp → VK → Prop} (hr : SlR X r) (q : WE X a σ H fun x H1 => WE X b σ H1 fun y H2 => ∃ i, y = .int i ∧ r x (some i) none H2 Q) : WE X (.Subscript a (.Slice (some b) none none p2) pos) σ H Q :=
  .of (pe_slice hr pe (po_some pe) po_none) (q.mono fun _ _ h => h.mono fun _ _ h => h)
theorem we_slB {r : V → Option Int → Option Int → Hp → VK → Prop} (hr : SlR X r) (q : WE X a σ H fun x H1 => WE X b σ H1 fun y H2 => ∃ i, y = .int i ∧ WE X c σ H2 fun z H3 => ∃ j, z = .int j ∧ r x (some i) (some j) H3 Q) : WE X (.Subscript a (.Slice (some b) (some c) none p2) pos) σ H Q :=
  .of (pe_slice hr pe (po_some pe) (po_some pe)) (q.mono fun _ _ h => h.mono fun _ _ ⟨i, e, h⟩ => ⟨i, e, h.mono fun _ _ h => h⟩)
theorem cutV_whole {xs : List V} (h : HT.sIx xs.length 0 lo = 0 ∧ HT.sIx xs.length xs.length hi = xs.length) : cutV xs lo hi = xs := by
  unfold cutV
  rw [h.1, h.2]
  simp
theorem i_sl {n : Addr} {xs : List V} (h : SqT K H n xs) (q : ∀ d H', Same H H' → SqT K H' d (cutV xs lo hi) → Q (.ref d) H') : rSlA K (.ref n) lo hi H Q :=
  ⟨n, xs, rfl, h, fun hw => q n H (Same.refl _) (by rwa [cutV_whole hw]), fun _ d hd => q d _ (Same.new hd) (SqT.of upd_same)⟩
theorem i_cat {n m : Addr} {xs ys : List V} (h : SqT K H n xs) (g : SqT K H m ys) (hz : xs.length + ys.length ≤ sizeLine) (q : ∀ d H', Same H H' → SqT K H' d (xs ++ ys) → Q (.ref d) H') : rCatA K (.ref n) (.ref m) H Q :=
  ⟨n, m, xs, ys, rfl, rfl, h, g, hz, fun e => q m H (Same.refl _) (by rw [e]; exact g), fun _ e => q n H (Same.refl _) (by rw [e, List.append_nil]; exact h), fun _ _ d hd => q d _ (Same.new hd) (SqT.of upd_same)⟩
def rTupOf (K : PySem.W.Frag) : List V → Hp → VK → Prop := fun xs H Q => ∃ p ys, xs = [.ref p] ∧ ((SqL K H p ys ∧ ∀ l, H l = none → Q (.ref l) (upd H l (.tup ys))) ∨ (SqT K H p ys ∧ Q (.ref p) H))
theorem call_tup : CallR X (.type "tuple") (rTupOf X.K) := call_tuple_of
theorem i_tupL {n : Addr} {xs : List V} (h : H n = some (.lst xs)) (q : ∀ l, H l = none → Q (.ref l) (upd H l (.tup xs))) : rTupOf K [.ref n] H Q := ⟨n, xs, rfl, .inl ⟨SqL.of h, q⟩⟩
theorem i_ixT {n : Addr} {xs : List V} {i : Int} {v : V} (h : SqT K H n xs) (e : atI xs i = some v) (q : Q v H) : rIxT K (.ref n) (.int i) H Q := ⟨n, xs, i, v, rfl, rfl, h, e, q⟩
theorem i_ixL {n : Addr} {xs : List V} {i : Int} {v : V} (h : SqL K H n xs) (e : atI xs i = some v) (q : Q v H) : rIxL K (.ref n) (.int i) H Q := ⟨n, xs, i, v, rfl, rfl, h, e, q⟩
theorem plainIx_int {n : Int} {j : Nat} : PlainIx (.Constant (.int n) j pos) := fun _ _ => by with_unfolding_all rfl
theorem plainIx_name {x : Str} : PlainIx (.Name x pos) := fun _ _ => by with_unfolding_all rfl
theorem plainIx_op {op : Operator} : PlainIx (.BinOp a op b pos) := fun _ _ => by with_unfolding_all rfl
theorem stay_dpo {g : Nat → Option PyData} (h : ∀ i d, g i = some d → nolist d = true) : Stay (fun i H v => ∃ d, g i = some d ∧ Dp K H v d) :=
  ⟨fun i H H' v s ⟨d, e, r⟩ => ⟨d, e, dp_mono s r⟩, fun i H v D ys zs e ⟨d, e2, r⟩ => ⟨d, e2, dp_updL e (h i d e2) r⟩⟩
theorem atI_nat {α : Type} {xs : List α} {i : Nat} (h : i < xs.length) : atI xs (i : Int) = xs[i]? := by
  unfold atI ixN
  simp [h]
end
end WP
namespace WP
open PySem PySem.Spec PyProof.Rows L2
theorem i_ins {H : Hp} {kk dx C : Addr} {fs : List (Str × V)} {m : Str} {P : Prop} (h : H kk = some (.ins C dx fs)) (l : fs.lookup m = none) (q : P) : ∃ a dx fs, V.ref kk = .ref a ∧ H a = some (.ins C dx fs) ∧ fs.lookup m = none ∧ P := ⟨kk, dx, fs, rfl, h, l, q⟩
end WP
end
section
set_option Elab.async false
set_option linter.all false
set_option maxRecDepth 100000
set_option maxHeartbeats 4000000
/-! name = [..]: a block whose parts let nothing out. -/
namespace WP
open PySem PySem.Spec PyProof.Rows L2
section
variable {X : Cx} {RW : WX}
theorem pas_no : Pas X (fun _ _ _ _ => False) := fun σ pins H s e s' I c => (cx_false (X := X) (pins := pins) (σ := σ) c).elim
def teC (X : Cx) (scope : Scope) (elt : Expr) : TE := fun σ H Q => ∀ (s : Shared) (H0 : Hp) (C : Addr) (cl : List (Str × Addr)) (fp : List Addr), WE (X.blk s H0 scope (compEnvC scope cl C X.env) fp) elt σ H Q
def ttC (X : Cx) (scope : Scope) : List Expr → TT
  | [] => tYes
  | c :: _ => fun σ H Q => ∀ (s : Shared) (H0 : Hp) (C : Addr) (cl : List (Str × Addr)) (fp : List Addr), WT (X.blk s H0 scope (compEnvC scope cl C X.env) fp) c σ H Q
theorem teC_mono {scope : Scope} {elt : Expr} (σ : L2.St) (H : Hp) (Q Q' : VK) (h : ∀ v H, Q v H → Q' v H) (q : teC X scope elt σ H Q) : teC X scope elt σ H Q' := fun s H0 C cl fp => (q s H0 C cl fp).mono h
theorem ttC_mono {scope : Scope} {c : Expr} {r : List Expr} (σ : L2.St) (H : Hp) (Q Q' : Bool → Hp → Prop) (h : ∀ v H, Q v H → Q' v H) (q : ttC X scope (c :: r) σ H Q) : ttC X scope (c :: r) σ H Q' := fun s H0 C cl fp => wt_mono h (q s H0 C cl fp)
theorem teC_pe {scope : Scope} {elt : Expr} (s : Shared) (H0 : Hp) (C : Addr) (cl : List (Str × Addr)) (fp : List Addr) : PE (X.blk s H0 scope (compEnvC scope cl C X.env) fp) elt (teC X scope elt) := ⟨fun pins s' σ' H' Q' I' q => (q s H0 C cl fp).run pins s' I'⟩
theorem ttC_pt {scope : Scope} {c : Expr} {r : List Expr} (s : Shared) (H0 : Hp) (C : Addr) (cl : List (Str × Addr)) (fp : List Addr) : PT (X.blk s H0 scope (compEnvC scope cl C X.env) fp) c (ttC X scope (c :: r)) := ⟨fun pins s' σ' H' Q' I' q => (q s H0 C cl fp).run pins s' I'⟩
variable {σ : L2.St} {H : Hp} {D : Ends} {Q : VK} {elt tg iter c : Expr} {scope : Scope} {pos spos py : Pos} {y : Str} {wi : TI} {g : TG}
theorem ws_lcI (i : Nat) (own : List (Str × Nat)) (hc : X.calm = true) (hN : X.N.Nodup) (hy : X.N[i]? = some y) (hk : X.env.scope.kind = .function) (hyl : X.env.scope.names.lookup y = some .local) (hl : (py.line == pos.line) = true)
    (ha : (scope.names.any fun (n, k) => n == y && (k == .local || k == .cell)) = false) (hi : PI X tg iter wi) (ok : BlkOk X.N X.env.scope scope own)
    (hg : ∀ (s : Shared) (H : Hp) (C : Addr) (cl : List (Str × Addr)) (fp : List Addr), PG (X.blk s H scope (compEnvC scope cl C X.env) fp) tg g)
    (h : tLc wi g (ttC X scope [c]) (teC X scope elt) (own.map (·.2)) σ H fun v H1 => D.nx (σ.set i (some v)) H1) (hs : ∀ x, foldedSetIterable iter X.env x = pure x := by intro _; rfl) :
    WS X (.Assign [.Name y py] (.ListComp elt [⟨tg, iter, [c], 0⟩] scope pos) spos) D σ H :=
  .of (ps_setLc hc hN hy hyl (sw_true hk hyl hl ha) hi ok hg (fun s H C cl fp => pts_one (ttC_pt s H C cl fp)) (fun s H C cl fp => teC_pe s H C cl fp) hs) h
theorem ws_lc (i : Nat) (own : List (Str × Nat)) (hc : X.calm = true) (hN : X.N.Nodup) (hy : X.N[i]? = some y) (hk : X.env.scope.kind = .function) (hyl : X.env.scope.names.lookup y = some .local) (hl : (py.line == pos.line) = true)
    (ha : (scope.names.any fun (n, k) => n == y && (k == .local || k == .cell)) = false) (hi : PI X tg iter wi) (ok : BlkOk X.N X.env.scope scope own)
    (hg : ∀ (s : Shared) (H : Hp) (C : Addr) (cl : List (Str × Addr)) (fp : List Addr), PG (X.blk s H scope (compEnvC scope cl C X.env) fp) tg g)
    (h : tLc wi g tYes (teC X scope elt) (own.map (·.2)) σ H fun v H1 => D.nx (σ.set i (some v)) H1) (hs : ∀ x, foldedSetIterable iter X.env x = pure x := by intro _; rfl) :
    WS X (.Assign [.Name y py] (.ListComp elt [⟨tg, iter, [], 0⟩] scope pos) spos) D σ H :=
  .of (ps_setLc hc hN hy hyl (sw_true hk hyl hl ha) hi ok hg (fun _ _ _ _ _ => pts_nil) (fun s H C cl fp => teC_pe s H C cl fp) hs) h
theorem pg_two (i j : Nat) {x y : Str} {px py pt : Pos} {kt : Nat} (hc : X.calm = true) (hN : X.N.Nodup) (hi : X.N[i]? = some x) (hj : X.N[j]? = some y) (lx : X.env.scope.names.lookup x = some .local) (ly : X.env.scope.names.lookup y = some .local) :
    PG X (.Tuple [.Name x px, .Name y py] kt pt) (gTup X.K 2 (gCons (gName i) (gCons (gName j) gNil))) :=
  pg_tup hc (pgs_cons (pg_name hN hi (.inl lx) (.inr lx)) (pgs_cons (pg_name hN hj (.inl ly) (.inr ly)) pgs_nil))
end
end WP
end
section
set_option Elab.async false
set_option linter.all false
set_option maxRecDepth 100000
set_option maxHeartbeats 4000000
/-! Dicts. -/
namespace WP
open PySem PySem.Spec PyProof.Rows L2
section
variable {X : Cx} {σ : L2.St} {H : Hp} {D : Ends} {Q : VK} {QT : Bool → Hp → Prop} {o i e : Expr} {pos pos' : Pos} {k : Nat} {a : Addr} {kvs : List (Key × V)} {key : Key}
theorem we_dnew (q : ∀ p, H p = none → Q (.ref p) (upd H p (.dK []))) : WE X (.Dict [] [] pos) σ H Q := .of pe_dnewK q
theorem wt_din (hr : Room k X.A) (hm : behindInMarks .In o = false) (q : WE X i σ H fun y H1 => WE X o σ H1 fun x H2 => ∃ a u, x = .ref a ∧ DGet H2 a y u ∧ QT u.isSome H2) : WT X (.Compare i [.In] [o] pos) σ H QT :=
  .of (pt_cmp (pc_din (by have := hr.units; omega) pe pe) hm) (q.mono fun y H1 h => h.mono fun x H2 ⟨a, u, e1, e2, e3⟩ => ⟨a, u, e1, e2, _, rfl, e3⟩)
theorem we_dget (hr : Room k X.A) (hs : NoSl i) (q : WE X o σ H fun x H1 => WE X i σ H1 fun y H2 => ∃ a v, x = .ref a ∧ DGet H2 a y (some v) ∧ Q v H2) : WE X (.Subscript o i pos) σ H Q := .of (pe_dget (by have := hr.units; omega) pe pe hs) q
theorem ws_dput (hr : Room k X.A) (q : WE X e σ H fun v H1 => WE X o σ H1 fun x H2 => WE X i σ H2 fun y H3 => ∃ a H4, x = .ref a ∧ DPut H3 a y v H4 ∧ D.nx σ H4) (hs : swapsWith e (some (.Subscript o i pos')) pos.line X.env = pure false := by rfl) : WS X (.Assign [.Subscript o i pos'] e pos) D σ H :=
  .of (ps_dput (by have := hr.units; omega) pe pe pe hs) q
theorem i_dget (h : H a = some (.dK kvs)) {P : Option V → Prop} (q : P (valV kvs key)) : ∃ b u, V.ref a = .ref b ∧ DGet H b (kV key) u ∧ P u := ⟨a, _, rfl, DGet.k h, q⟩
theorem i_dput {v : V} (h : H a = some (.dK kvs)) (hl : kvs.length < sizeLine) {P : Hp → Prop} (q : P (upd H a (.dK (putK kvs key v)))) : ∃ b H', V.ref a = .ref b ∧ DPut H b (kV key) v H' ∧ P H' := ⟨a, _, rfl, DPut.k h hl, q⟩
theorem ws_whileW {c : Expr} {body : List Stmt} (hp : PassesOwn (model X.prog X.w) X.A X.env X.xe) (W : Nat → L2.St → Hp → Prop) (h0 : ∃ m, W m σ H)
    (hs : ∀ m σ H, W m σ H → WT X c σ H fun b H1 => if b = true then WB X body { D with nx := fun σ' H' => ∃ m', m' < m ∧ W m' σ' H', ct := fun σ' H' => ∃ m', m' < m ∧ W m' σ' H', bk := D.nx } σ H1 else D.nx σ H1) : WS X (.While c body [] pos) D σ H :=
  ws_while hp ⟨W, h0, fun m σ H w => wt_mono (fun b H1 q => by
    cases b with
    | true => exact ⟨_, fun _ _ h => h, q⟩
    | false => exact q) (hs m σ H w)⟩
theorem atI0 {α : Type} {x : α} {xs : List α} : atI (x :: xs) 0 = some x := by simp [atI, ixN]
theorem atI1 {α : Type} {x y : α} {xs : List α} : atI (x :: y :: xs) 1 = some y := by
  have : (1 : Int) < (xs.length : Int) + 1 + 1 := by omega
  simp [atI, ixN, this]
end
end WP
end
section
set_option Elab.async false
set_option linter.all false
set_option maxRecDepth 100000
set_option maxHeartbeats 4000000
/-! try .. except C; dict comprehensions; for over what is walked. -/
namespace WP
open PySem PySem.Spec PyProof.Rows L2
section
variable {X : Cx} {Wout : WX} {σ : L2.St} {H : Hp} {D : Ends} {Q : VK}
def tsB (X : Cx) (sts : List Stmt) : Addr → Value → Option Addr → TS := fun a cls d D σ H => ∀ (oe : Obj) (pn : List (Addr × Obj)), Zc cls d oe → (∃ vs, oe.data = .fields vs) → WB (X.suite a ((a, oe) :: pn)) sts D σ H
theorem ws_try {x : Str} {c : Value} {body suite : List Stmt} {b₀ : Stmt} {np pos pos' : Pos} (hs : X.stack = X.env :: X.outer) (hf : X.env.frame = some X.env.locals) (hc : Names X x c) (tk : Takes X Wout)
    (q : ∀ (pn : List (Addr × Obj)) (xe : Value → Shared → Prop), Takes (X.tr pn xe) (wOnly X.K c (tsB X (b₀ :: suite)) Wout D) → WB (X.tr pn xe) body D σ H) :
    WS X (.Try body [.ExceptHandler (some (.Name x np)) none (b₀ :: suite) pos'] [] [] pos) D σ H :=
  .of (ps_try_only (tb := fun W D σ H => ∀ (pn : List (Addr × Obj)) (xe : Value → Shared → Prop), Takes (X.tr pn xe) W → WB (X.tr pn xe) body D σ H) hs hf hc tk
    (fun W pn xe tk' _ => ⟨fun pins s σ' H' D' I h => (h pn xe tk').run pins s I⟩)
    (fun a oe cls d pn hz hd => ⟨fun pins s σ' H' D' I h => (h oe pn hz hd).run pins s I⟩)) q
theorem i_caught {K : PySem.W.Frag} {c cls : Value} {d : Option Addr} {ts : Addr → Value → Option Addr → TS} (he : PySem.W.exmOne K cls c = some true) (q : ∀ a, H a = none → ts a cls d D σ H) : wOnly K c ts Wout D cls d σ H :=
  ⟨true, he, fun _ a ha => q a ha, fun h => nomatch h⟩
variable {kx vx tg iter : Expr} {scope : Scope} {own : List (Str × Nat)} {pos : Pos} {wi : TI} {g : TG}
theorem we_dc (hc : X.calm = true) (hN : X.N.Nodup) (hi : PI X tg iter wi) (ok : BlkOk X.N X.env.scope scope own)
    (hg : ∀ (s : Shared) (H : Hp) (C : Addr) (cl : List (Str × Addr)) (fp : List Addr), PG (X.blk s H scope (compEnvC scope cl C X.env) fp) tg g)
    (h : tDc wi g tYes (teC X scope kx) (teC X scope vx) (own.map (·.2)) σ H Q) (hs : ∀ x, foldedSetIterable iter X.env x = pure x := by intro _; rfl) : WE X (.DictComp kx vx [⟨tg, iter, [], 0⟩] scope pos) σ H Q :=
  .of (pe_dc hc hN hi ok hg (fun _ _ _ _ _ => pts_nil) (fun s H C cl fp => teC_pe s H C cl fp) (fun s H C cl fp => teC_pe s H C cl fp) hs) h
end
section
variable {J : It} {n : Nat} {G : Hp → Prop} {Y : Nat → Hp → V → Hp → Prop} {g : TG} {tk tv : TE} {vs : List Nat} {σ : L2.St} {H1 : Hp} {D : Addr} {Qd : Hp → Prop}
/-- {k: v for ..}: Pv by the turn, the new dict at D within -/
theorem dc_it (w : Walk J n G Y) (Pv : Nat → Hp → Prop) (h0 : Pv 0 (upd H1 D (.dK []))) (hG : ∀ i H, i ≤ n → Pv i H → G H)
    (hs : ∀ i x H H', i < n → Pv i H → Y i H x H' → g x (wipe σ vs) H' fun σ2 H2 => wipe σ2 vs = wipe σ vs ∧ tYes σ2 H2 fun b H3 =>
      if b = true then tk σ2 H3 fun y H4 => tv σ2 H4 fun z H5 => ∃ kvs k, y = kV k ∧ H5 D = some (.dK kvs) ∧ kvs.length < sizeLine ∧ Pv (i + 1) (upd H5 D (.dK (putK kvs k z))) else Pv (i + 1) H3) (hd : ∀ H, Pv n H → Qd H) :
    ∃ W : Nat → Nat → Hp → Prop, (∃ m, W 0 m (upd H1 D (.dK []))) ∧ ∀ i m H, W i m H →
      (J.stop i H ∧ Qd H) ∨ (J.go i H ∧ ∃ Nx : Hp → Prop, (∀ H', Nx H' → ∃ m', m' < m ∧ W (i + 1) m' H') ∧ ∀ x H', J.yld i H x H' → g x (wipe σ vs) H' fun σ2 H2 => wipe σ2 vs = wipe σ vs ∧ tYes σ2 H2 fun b H3 =>
        if b = true then tk σ2 H3 fun y H4 => tv σ2 H4 fun z H5 => ∃ kvs k, y = kV k ∧ H5 D = some (.dK kvs) ∧ kvs.length < sizeLine ∧ Nx (upd H5 D (.dK (putK kvs k z))) else Nx H3) := by
  refine ⟨fun i m H => m + i = n ∧ Pv i H, ⟨n, rfl, h0⟩, fun i m H ⟨hm, p⟩ => ?_⟩
  have q := hG i H (by omega) p
  by_cases hlt : i < n
  · exact .inr ⟨w.goes i H hlt q, Pv (i + 1), fun H' p' => ⟨n - (i + 1), by omega, by omega, p'⟩, fun x H' y => hs i x H H' hlt p (w.yields i H x H' hlt q y)⟩
  · have e : i = n := by omega
    subst e
    exact .inl ⟨w.stops H q, hd H p⟩
end
end WP
end
section
set_option Elab.async false
set_option linter.all false
set_option maxRecDepth 100000
set_option maxHeartbeats 4000000
/-! d.items() of a dict whose keys are texts, and sorted of it: the pairs by their texts. -/
namespace WP
open PySem PySem.Spec PyProof.Rows L2 L2.DX PySem.W
theorem pairs_at {P : Program} {w : World} {es : List DictEntry} {kvs : List (Key × Value)} (h : Pairs (mixKind P w) es kvs) : ∀ {j : Nat} {e : DictEntry}, es[j]? = some e → ∃ kv, kvs[j]? = some kv ∧ (mixKind P w).is kv.1 e.key = true ∧ e.val = kv.2 := by
  induction h with
  | nil => intro j e z; simp at z
  | cons h1 h2 _ ih =>
    intro j e z
    cases j with
    | zero =>
      simp at z
      subst z
      exact ⟨_, rfl, h1, h2⟩
    | succ j => simpa using ih (j := j) (by simpa using z)
def txtLt (x y : Str) : Bool := decide (x.cps.toList < y.cps.toList)
theorem swo_txt {α : Type} (k : α → Str) : SrtO.Swo (fun v u : α => txtLt (k v) (k u)) where
  asym := fun x y h => by
    have h := of_decide_eq_true h
    exact decide_eq_false (List.lt_asymm h)
  tr := fun x y z h1 h2 => by
    have h1 := of_decide_eq_false h1
    have h2 := of_decide_eq_false h2
    exact decide_eq_false fun h3 => by
      rcases Std.lt_trichotomy (α := List Nat) (k x).cps.toList (k y).cps.toList with h | h | h
      · exact h2 (List.lt_trans h3 h)
      · exact h2 (h ▸ h3)
      · exact h1 h
/-- the text of the pair at v -/
def keyS (h : Heap) (v : Value) : Str := DT.txOf (DT.seqAt0 h (DT.refOf (some v)))
theorem keyS_at {h : Heap} {a : Addr} {x : Str} {t : Tok} {u : Value} (e : h.get? a = some { cls := .type "tuple", data := .seq #[.str x t, u] }) : keyS h (.ref a) = x := by
  have : IsTup h a #[.str x t, u] := ⟨_, e, rfl, 0, rfl⟩
  show DT.txOf (DT.seqAt0 h a) = x
  rw [DT.seqAt0_of this]
  rfl
/-- the pair (x, u) at v -/
def PairS (h : Heap) (v : Value) (x : Str) (u : Value) : Prop := ∃ a t, v = .ref a ∧ h.get? a = some { cls := .type "tuple", data := .seq #[.str x t, u] }
section
variable {prog : Program} {w : World} {A : Around} {s : Shared}
theorem firstsS {h : Heap} : ∀ vs : List Value, (∀ v ∈ vs, ∃ x u, PairS h v x u) → ∃ fs : List Value, KatTups h vs fs ∧ fs.length = vs.length ∧ ∀ f ∈ fs, ∃ x t, f = Value.str x t
  | [], _ => ⟨[], .nil, rfl, fun _ z => nomatch z⟩
  | v :: vs, g => by
    obtain ⟨fs, k1, k2, k3⟩ := firstsS vs fun u hu => g u (List.mem_cons_of_mem _ hu)
    obtain ⟨x, u, a, t, rfl, e⟩ := g v List.mem_cons_self
    refine ⟨.str x t :: fs, .cons e rfl rfl rfl k1, by simp [k2], fun f hf => ?_⟩
    rcases List.mem_cons.mp hf with rfl | hf
    · exact ⟨x, t, rfl⟩
    · exact k3 f hf
theorem sortableS {a : Addr} {vs : List Value} {h0 : Heap} (hne : 0 < vs.length) (hp : ∀ v ∈ vs, ∃ x u, PairS h0 v x u) (hu : ∀ v ∈ vs, ∀ v' ∈ vs, keyS h0 v = keyS h0 v' → v = v')
    (hk : ∀ b o, h0.get? b = some o → o.cls = .type "tuple" → b ≠ a ∧ s.heap.get? b = some o) : SrtO.SortableO prog w A s a vs fun v v' => txtLt (keyS h0 v) (keyS h0 v') := by
  intro h' keep
  have up : ∀ {v : Value} {x : Str} {u : Value}, PairS h0 v x u → PairS h' v x u := fun ⟨b, t, e1, e2⟩ => ⟨b, t, e1, keep b _ (hk b _ e2 rfl).1 (hk b _ e2 rfl).2⟩
  obtain ⟨fs, f1, f2, f3⟩ := firstsS (h := h') vs fun v hv => let ⟨x, u, g⟩ := hp v hv; ⟨x, u, up g⟩
  refine ⟨tuples' true, fun Q E hq => ?_, fun p q mp mq => ?_⟩
  · refine kat_kind (T := .type "str") f1 (by omega) (fun f hf => ?_) (by rfl) ?_
    · obtain ⟨x, t, rfl⟩ := f3 f hf
      exact Looks.now
    · have e : (Value.type "str" != Value.type "tuple") = true := by first | decide +kernel | rfl
      rw [e]
      exact hq
  · obtain ⟨x, u, b, t, e1, g1⟩ := hp _ mp
    obtain ⟨y, u', b', t', e2, g2⟩ := hp _ mq
    have k1 : keyS h0 p.1 = x := by rw [e1]; exact keyS_at g1
    have k2 : keyS h0 q.1 = y := by rw [e2]; exact keyS_at g2
    have g1' := keep b _ (hk b _ g1 rfl).1 (hk b _ g1 rfl).2
    have g2' := keep b' _ (hk b' _ g2 rfl).1 (hk b' _ g2 rfl).2
    have same := hu _ mp _ mq
    show wpAny (model prog w) A (keyLt' (tuples' true) p.1 q.1) (fun r s' => s' = _ ∧ r = txtLt (keyS h0 p.1) (keyS h0 q.1)) (fun _ _ => False) _
    rw [k1, k2]
    rw [k1, k2] at same
    rw [e1, e2] at same ⊢
    refine kat_lt g1' rfl g2' rfl ?_
    show KatLex prog w A true (decide (2 < 2)) _ [(.str x t, .str y t'), (u, u')] 0 _
    refine kat_cons (SeqAt.EqAt.str_str x t y t' prog w _ _ ?_)
    refine kat_go (fun z => ?_) (fun z => ?_)
    · have z : x = y := by simpa using z
      subst z
      cases same rfl
      rw [g1] at g2
      cases g2
      refine kat_yes (kat_cons (SeqAt.EqAt.same u prog w _ _ ?_))
      refine kat_go (fun _ => kat_yes (kat_nil ⟨rfl, ?_⟩)) (fun z => nomatch z)
      exact (decide_eq_false (List.lt_irrefl _)).symm
    · exact kat_no (oneLt_any_str ⟨rfl, rfl⟩)
end
section
variable {X : Cx}
def rItemsK : V → List V → Hp → VK → Prop := fun x xs H Q => ∃ (a : Addr) (kvs : List (Key × V)), x = .ref a ∧ xs = [] ∧ H a = some (.dK kvs) ∧ ∀ p, H p = none → Q (.ref p) (upd H p (itemsO p a))
theorem mt_itemsK : MtR X "dict.items" rItemsK := by
  intro pins s σ H x xs v us Q I rx rxs h
  obtain ⟨a, kvs, rfl, rfl, ha, q⟩ := h
  cases rx
  cases rxs
  obtain ⟨z, hd, vs, rel, o, es, ep, ho, hx, hdat, _⟩ := dk_of I.hok ha
  refine DT.callItems (es := es) (ep := ep) hd ⟨o, ho, hx, hdat⟩ ?_
  exact ⟨.ref s.heap.objs.size, _, I.laid (t' := s.toks) (fun b u e => Heap.get?_push_of_some _ e) (Nat.le_refl _) (itemsO_ok (Heap.get?_push_size _ rfl)), rfl, q _ (I.hok.fresh (Nat.le_refl _))⟩
abbrev entS (e : Str × V) : Key × V := (.inr e.1, e.2)
def rSortK : List V → Hp → VK → Prop := fun vs H Q => ∃ (p a : Addr) (ks : List (Str × V)), vs = [.ref p] ∧ H p = some (itemsO p a) ∧ H a = some (.dK (ks.map entS)) ∧ (ks.map (·.1)).Nodup ∧ ks.length < sizeLine ∧
  ∀ (H' : Hp) (l : Addr) (ps : List (Addr × Str × V)), Same H H' → H l = none → (ps.map (·.2)).Perm ks → (ps.map (·.2)).Pairwise (fun e f => txtLt f.1 e.1 = false) → H' l = some (.lst (ps.map fun z => V.ref z.1)) → (∀ z ∈ ps, H' z.1 = some (.tup [.str z.2.1, z.2.2])) → Q (.ref l) H'
theorem cr_sortedK (hc : X.calm = true) : CallR X (.builtin "sorted") rSortK := by
  intro pins s σ H xs us Q I r h
  obtain ⟨p, a, ks, rfl, hp, ha, hnd, hsz, q⟩ := h
  obtain rfl := Vals.ref1 r
  have view : s.heap.IsItemsView p a := (show ObjOk X.prog X.w H s.heap p (itemsO p a) from I.hok p _ hp).1
  obtain ⟨z, hd, vs, rel, o, es, ep, ho, hx, hdat, hkeys, hps, hn⟩ := dk_of I.hok ha
  have l1 : (ks.map entS).length = vs.length := Paired.length rel
  have l2 : es.size = vs.length := by have := hps.length; simpa using this
  rw [List.length_map] at l1
  have hs63 := sizeLine_eq
  refine DT.sortedI (es := es) (ep := ep) (I.ok.hd hc) view ⟨o, ho, hx, hdat⟩ (by omega) fun h' tk as hk hlt hl hG => ?_
  have lak : as.length = ks.length := by omega
  have nd : as.Nodup := List.Pairwise.imp (fun h => Nat.ne_of_lt h) hG.rise
  have pr : ∀ (j : Nat) (b : Addr), as[j]? = some b → ∃ (e : Str × V) (t : Tok) (u : Value), ks[j]? = some e ∧ RelV e.2 u ∧ h'.get? b = some { cls := .type "tuple", data := .seq #[.str e.1 t, u] } := by
    intro j b hj
    obtain ⟨en, he, hg⟩ := hG.pairs j b hj
    obtain ⟨kv, e1, e2, e3⟩ := pairs_at hps (j := j) (e := en) (by rw [Array.getElem?_toList]; exact he)
    obtain ⟨y, y1, y2, y3⟩ := pget rel e1
    rw [List.getElem?_map] at y1
    cases hkj : ks[j]? with
    | none => rw [hkj] at y1; cases y1
    | some e =>
      rw [hkj] at y1
      cases y1
      rw [← y2] at e2
      rcases keyIs_shape (show keyIs (.inr e.1) en.key = true from e2) with ⟨i, t, z1, _⟩ | ⟨x, t, z1, z2⟩
      · cases z1
      · cases z1
        rw [z2, e3] at hg
        exact ⟨e, t, kv.2, rfl, y3, hg⟩
  have hob : (h'.push { cls := .type "list", data := .seq (as.map Value.ref).toArray }).get? h'.objs.size = some (seqObj "list" (as.map Value.ref).toArray 0) := Heap.get?_push_size _ rfl
  have ne0 : ∀ b o, h'.get? b = some o → b ≠ h'.objs.size := fun b o e => Nat.ne_of_lt (Heap.lt_size e)
  have ka : ∀ b o, h'.get? b = some o → (h'.push { cls := .type "list", data := .seq (as.map Value.ref).toArray }).get? b = some o := fun b o e => Heap.get?_push_of_some _ e
  generalize h'.push { cls := .type "list", data := .seq (as.map Value.ref).toArray } = h2 at hob ka ⊢
  have at_ : ∀ v ∈ as.map Value.ref, ∃ (j : Nat) (b : Addr) (e : Str × V) (t : Tok) (u : Value), v = .ref b ∧ as[j]? = some b ∧ ks[j]? = some e ∧ RelV e.2 u ∧ h'.get? b = some { cls := .type "tuple", data := .seq #[.str e.1 t, u] } := by
    intro v hv
    obtain ⟨b, hb, rfl⟩ := List.mem_map.mp hv
    obtain ⟨j, hj⟩ := List.mem_iff_getElem?.mp hb
    obtain ⟨e, t, u, g⟩ := pr j b hj
    exact ⟨j, b, e, t, u, rfl, hj, g⟩
  have uniq : ∀ v ∈ as.map Value.ref, ∀ v' ∈ as.map Value.ref, keyS h' v = keyS h' v' → v = v' := by
    intro v hv v' hv' e
    obtain ⟨j, b, e1, t, u, rfl, j1, j2, _, j3⟩ := at_ v hv
    obtain ⟨i, b', e2, t', u', rfl, i1, i2, _, i3⟩ := at_ v' hv'
    rw [keyS_at j3, keyS_at i3] at e
    have m1 : (ks.map (·.1))[j]? = some e1.1 := by rw [List.getElem?_map, j2]; rfl
    have m2 : (ks.map (·.1))[i]? = some e2.1 := by rw [List.getElem?_map, i2]; rfl
    have ij : j = i := (List.getElem?_inj (List.getElem?_eq_some_iff.mp m1).1 hnd).mp (by rw [m1, m2, e])
    subst ij
    rw [j1] at i1
    cases i1
    rfl
  refine wpAny_call_entry PyProof.Rows.slot_list_sort ⟨_, hob, rfl⟩ PyProof.Rows.entry_list_sort
    (SrtO.list_sort_ord (ltv := fun v v' => txtLt (keyS h' v) (keyS h' v')) (swo_txt (keyS h')) hob (by rw [List.length_map]; omega)
      (fun hge => sortableS (by omega) (fun v hv => let ⟨j, b, e, t, u, e1, _, _, _, g⟩ := at_ v hv; ⟨e.1, u, b, t, e1, g⟩) uniq fun b o e _ => ⟨ne0 b o e, ka b o e⟩)
      fun out o1 o2 => ⟨.none, rfl, ?_⟩) (PyProof.Rows.args_list_sort _)
  show EP X pins σ Q (.ref h'.objs.size) { s with heap := sortedHeap h2 h'.objs.size (as.map Value.ref) out.toArray, toks := tk }
  obtain ⟨zs, pz, ez⟩ := perm_lift (fun z : Addr × Str × V => Value.ref z.1) o2.perm (as.zip ks) (by
    rw [show (fun z : Addr × Str × V => Value.ref z.1) = Value.ref ∘ Prod.fst from rfl, ← List.map_map, List.map_fst_zip (by omega)])
  have idx : ∀ z ∈ zs, ∃ j : Nat, as[j]? = some z.1 ∧ ks[j]? = some z.2 := fun z hz => by
    obtain ⟨j, hj⟩ := List.mem_iff_getElem?.mp (pz.mem_iff.mp hz)
    exact ⟨j, List.getElem?_zip_eq_some.mp hj⟩
  have hperm : (zs.map (·.2)).Perm ks := by
    have e := pz.map (·.2)
    rwa [List.map_snd_zip (by omega)] at e
  have ktx : ∀ z ∈ zs, keyS h' (.ref z.1) = z.2.1 := fun z hz => by
    obtain ⟨j, j1, j2⟩ := idx z hz
    obtain ⟨e, t, u, g1, _, g2⟩ := pr j _ j1
    rw [j2] at g1
    cases g1
    exact keyS_at g2
  have hsort : (zs.map (·.2)).Pairwise (fun e f => txtLt f.1 e.1 = false) := by
    rw [← ez] at o1
    have o1 := List.pairwise_map.mp o1
    refine List.pairwise_map.mpr (List.Pairwise.imp_of_mem (fun {x y} hx hy h => ?_) o1)
    have h : txtLt (keyS h' (.ref y.1)) (keyS h' (.ref x.1)) = false := h
    rw [ktx x hx, ktx y hy] at h
    exact h
  have kF : ∀ b o, b ≠ h'.objs.size → h2.get? b = some o → (sortedHeap h2 h'.objs.size (as.map Value.ref) out.toArray).get? b = some o := fun b o hb e => (PyProof.Rows.sortedHeap_old hb (Heap.lt_size e)).trans e
  have kS : ∀ b o, s.heap.get? b = some o → (sortedHeap h2 h'.objs.size (as.map Value.ref) out.toArray).get? b = some o := fun b o e => kF b o (ne0 _ _ (hk b o e)) (ka b o (hk b o e))
  obtain ⟨eF, heF⟩ := PyProof.Rows.sortedHeap_at (vs := as.map Value.ref) (out := out.toArray) hob
  have I1 : Inv X pins σ H { s with heap := sortedHeap h2 h'.objs.size (as.map Value.ref) out.toArray, toks := tk } := I.kept (t' := tk) kS
  have hn0 : H h'.objs.size = none := I.hok.fresh (Nat.le_of_lt hlt)
  have hlen : (zs.map fun z => V.ref z.1).length ≤ sizeLine := by
    have e := hperm.length_eq
    rw [List.length_map] at e ⊢
    omega
  have rv : Vals (zs.map fun z => V.ref z.1) out.toArray.toList := by
    rw [show out.toArray.toList = out by simp, ← ez]
    exact vals_maps (fun z : Addr × Str × V => V.ref z.1) (fun z => Value.ref z.1) zs fun _ _ => rfl
  have I2 : Inv X pins σ (upd H h'.objs.size (.lst (zs.map fun z => V.ref z.1))) { s with heap := sortedHeap h2 h'.objs.size (as.map Value.ref) out.toArray, toks := tk } :=
    I1.take (h' := sortedHeap h2 h'.objs.size (as.map Value.ref) out.toArray) (t' := tk) (fun b ob _ e => e) (I.fpOk (Nat.le_of_lt hlt) hn0) ⟨hlen, out.toArray.toList, eF, rv, heF⟩
  obtain ⟨H2, I3, g, qt⟩ := takeT (P := fun b ws => ∃ (j : Nat) (e : Str × V), as[j]? = some b ∧ ks[j]? = some e ∧ ws = [.str e.1, e.2]) I as _ I2 nd fun b hb => by
    obtain ⟨j, hj⟩ := List.mem_iff_getElem?.mp hb
    obtain ⟨e, t, u, he, ru, hg⟩ := pr j b hj
    have hbl : s.heap.objs.size ≤ b := Nat.le_of_lt (hG.above b hb)
    refine ⟨hbl, ?_, [.str e.1, e.2], ⟨j, e, hj, he, rfl⟩, fun H3 => ⟨(by rw [sizeLine_eq]; show 2 ≤ 16777216; omega), [Value.str e.1 t, u], .cons ⟨t, rfl⟩ (.cons ru .nil), ⟨_, kF _ _ (ne0 _ _ hg) (ka _ _ hg), rfl, 0, rfl⟩⟩⟩
    rw [upd_ne (ne0 _ _ hg)]
    exact I.hok.fresh hbl
  refine ⟨.ref h'.objs.size, H2, I3, rfl, q H2 h'.objs.size zs (fun b o e => g b o (by rw [upd_ne (ne_of_none e hn0)]; exact e)) hn0 hperm hsort (g _ _ upd_same) fun z hz => ?_⟩
  obtain ⟨i, i1, i2⟩ := idx z hz
  obtain ⟨ws, ⟨j, e, j1, j2, ev⟩, hH⟩ := qt z.1 (List.mem_of_getElem? i1)
  have eij : i = j := (List.getElem?_inj (List.getElem?_eq_some_iff.mp i1).1 nd).mp (i1.trans j1.symm)
  subst eij
  rw [i2] at j2
  cases j2
  rw [ev] at hH
  exact hH
end
end WP
namespace WP
open PySem PySem.Spec PyProof.Rows L2 L2.DX PySem.W
section
variable {X : Cx} {e o : Expr} {es : List Expr} {σ : L2.St} {H : Hp} {Q : VK} {pos p apos cpos : Pos}
theorem we_items (q : WE X o σ H fun x H1 => tyV X.K "dict" x H1 ∧ rItemsK x [] H1 Q)
    (hbase : attributeBase o "items" X.env (eval o X.env) = eval o X.env := by rfl) (hline : (apos.endLine == cpos.line) = true := by rfl) : WE X (.Call (.Attribute o "items" apos) [] [] cpos) σ H Q :=
  we_bm0 PySem.F.plainAttrs_dict PySem.F.slot_dict_items PySem.F.type_dict_items mt_itemsK q hbase hline
theorem i_items {a : Addr} {kvs : List (Key × V)} (h : H a = some (.dK kvs)) (q : ∀ p, H p = none → Q (.ref p) (upd H p (itemsO p a))) : tyV X.K "dict" (.ref a) H ∧ rItemsK (.ref a) [] H Q :=
  ⟨.inr (.inr (.inl ⟨rfl, .inl ⟨kvs, h⟩⟩)), a, kvs, rfl, rfl, h, q⟩
end
end WP
end
section
set_option Elab.async false
set_option linter.all false
set_option maxRecDepth 100000
set_option maxHeartbeats 4000000
/-! d.update(e). -/
namespace WP
open PySem PySem.Spec PyProof.Rows L2 L2.DX PySem.W
section
variable {X : Cx}
def rUpdK : V → List V → Hp → VK → Prop := fun x xs H Q => ∃ (a b : Addr) (kvs more : List (Key × V)), x = .ref a ∧ xs = [.ref b] ∧ a ≠ b ∧ H a = some (.dK kvs) ∧ H b = some (.dK more) ∧ kvs.length + more.length ≤ sizeLine ∧ Q .non (upd H a (.dK (mergeK kvs more)))
theorem mt_updK : MtR X "dict.update" rUpdK := by
  intro pins s σ H x xs v us Q I rx rxs h
  obtain ⟨a, b, kvs, more, rfl, rfl, hab, ha, hb, hsz, q⟩ := h
  cases rx
  cases rxs with
  | cons r1 r2 =>
    cases r2
    cases r1
    obtain ⟨z, hd, vs, rel, dd⟩ := dk_of I.hok ha
    obtain ⟨z2, hd2, ws, rel2, dd2⟩ := dk_of I.hok hb
    refine call_meetsIn PySem.F.slot_dict_update dd.typeIs PySem.F.entry_dict_update (PySem.F.args_dict_update_2 _ _) (meets_dict_update (mixKind X.prog X.w) a b hab hd2)
      ⟨vs, ws, dd, dd2, by rw [← rel.length, ← rel2.length]; exact hsz, fun h' dd' _ hs => ?_⟩
    have he : ∃ q, h'.get? a = some q := let ⟨q, _, _, hq, _⟩ := dd'; ⟨q, hq⟩
    exact ⟨.non, _, d_write (t' := s.toks) I (by rw [ha]; exact True.intro) hs he (dk_new (Nat.le_trans (length_mergeK _ _) hsz) hd (KV.merge rel2 rel) dd'), rfl, q⟩
theorem mergeK_app : ∀ {more kvs : List (Key × V)}, ((kvs ++ more).map (·.1)).Nodup → mergeK kvs more = kvs ++ more
  | [], kvs, _ => by simp [mergeK]
  | p :: more, kvs, h => by
    have e : valV kvs p.1 = none := by
      have z := valV_any p.1 kvs
      cases q : valV kvs p.1 with
      | none => rfl
      | some v =>
        rw [q] at z
        obtain ⟨y, hy, e⟩ := List.any_eq_true.mp z
        have e : y.1 = p.1 := by simpa using e
        rw [List.map_append, List.nodup_append] at h
        exact absurd e (h.2.2 y.1 (List.mem_map_of_mem hy) p.1 (by simp))
    have e2 : mergeK kvs (p :: more) = mergeK (kvs ++ [p]) more := by
      show mergeK (putK kvs p.1 p.2) more = _
      rw [putK_new _ e]
    rw [e2, mergeK_app (by simpa using h)]
    simp
variable {e o : Expr} {es : List Expr} {σ : L2.St} {H : Hp} {Q : VK} {pos p apos cpos : Pos}
theorem we_update (q : WE X o σ H fun x H1 => tyV X.K "dict" x H1 ∧ WA X (e :: es) σ H1 fun xs H2 => rUpdK x xs H2 Q)
    (hbase : attributeBase o "update" X.env (eval o X.env) = eval o X.env := by rfl)
    (hfew : ((backTo cpos (starEach (e :: es) X.env)).all (fun x => !x.1) && (backToKw cpos (keywordEach [] X.env)).all (fun x => x.1.isSome)
      && decide ((e :: es).length + ([] : List Keyword).length + (if ([] : List Keyword).isEmpty then 0 else 1) < 30)) = true := by rfl)
    (hline : (apos.endLine == cpos.line) = true := by rfl) (hs : starEach (e :: es) X.env = (false, eval e X.env) :: starEach es X.env := by rfl) (hplain : (backTo cpos (starEach es X.env)).any (·.1) = false := by rfl) :
    WE X (.Call (.Attribute o "update" apos) (e :: es) [] cpos) σ H Q := we_bm PySem.F.plainAttrs_dict PySem.F.slot_dict_update PySem.F.type_dict_update mt_updK q hbase hfew hline hs hplain
theorem i_dct {a : Addr} {kvs : List (Key × V)} {K : PySem.W.Frag} {P : Prop} (h : H a = some (.dK kvs)) (q : P) : tyV K "dict" (.ref a) H ∧ P := ⟨.inr (.inr (.inl ⟨rfl, .inl ⟨kvs, h⟩⟩)), q⟩
theorem i_update {a b : Addr} {kvs more : List (Key × V)} (hab : a ≠ b) (ha : H a = some (.dK kvs)) (hb : H b = some (.dK more)) (hz : kvs.length + more.length ≤ sizeLine) (q : Q .non (upd H a (.dK (mergeK kvs more)))) : rUpdK (.ref a) [.ref b] H Q := ⟨a, b, kvs, more, rfl, rfl, hab, ha, hb, hz, q⟩
end
section
variable {X : Cx} {σ : L2.St} {H : Hp} {D : Ends} {iter tg : Expr} {body : List Stmt} {pos : Pos}
/-- for x in what is walked: Pv by the turn, the slots, the heap -/
theorem ws_forI {J : It} {n : Nat} {G : Hp → Prop} {Y : Nat → Hp → V → Hp → Prop} {g : TG} {wi : TI} (w : Walk J n G Y) (hp : PassesOwn (model X.prog X.w) X.A X.env X.xe) (hc : X.calm = true) (hi : PI X tg iter wi) (hg : PG X tg g)
    (q : wi σ H fun J' H1 => J' = J ∧ ∃ Pv : Nat → L2.St → Hp → Prop, Pv 0 σ H1 ∧ (∀ i σ H, i ≤ n → Pv i σ H → G H) ∧
      (∀ i x σ H H', i < n → Pv i σ H → Y i H x H' → g x σ H' fun σ2 H2 => WB X body { D with nx := Pv (i + 1), ct := Pv (i + 1), bk := D.nx } σ2 H2) ∧ ∀ σ H, Pv n σ H → D.nx σ H)
    (hmono : ∀ (R R' : It → Hp → Prop), (∀ J H, R J H → R' J H) → wi σ H R → wi σ H R') (hs : ∀ x, foldedSetIterable iter X.env x = pure x := by intro _; rfl) : WS X (.For tg iter body [] pos) D σ H := by
  refine ws_for hp hc hi hg (hmono _ _ (fun J' H1 ⟨e, Pv, h0, hG, hst, hd⟩ => ?_) q) hs
  subst e
  exact for_it w Pv h0 hG hst hd
end
end WP
end
section
set_option Elab.async false
set_option linter.all false
set_option maxRecDepth 100000
set_option maxHeartbeats 4000000
/-! A value's object locked; {k: v}; calm blocks as values. -/
namespace WP
open PySem PySem.Spec PyProof.Rows L2
section
variable {X : Cx} {e k v elt tg iter : Expr} {σ : L2.St} {H : Hp} {Q : VK} {pos : Pos} {scope : Scope} {own : List (Str × Nat)} {wi : TI} {g : TG}
theorem we_lock (q : WE X e σ H fun v H1 => ∃ d u, v = .ref d ∧ H1 d = some u ∧ Mut (some u) ∧ ∀ od, Q v (upd H1 d (.frz od u))) : WE X e σ H Q :=
  ⟨fun pins s I => thn (q.run pins s I) fun x s1 ⟨v, H1, I1, r, d, u, ev, hd, mu, q1⟩ => let ⟨od, I2⟩ := I1.lock hd mu; ⟨v, _, I2, r, q1 od⟩⟩
theorem we_disp1 (q : ∀ p, H p = none → WE X k σ (upd H p (.dK [])) fun x H1 => WE X v σ H1 fun y H2 => H2 p = some (.dK []) ∧ ∃ key, x = kV key ∧ Q (.ref p) (upd H2 p (.dK [(key, y)]))) : WE X (.Dict [some k] [v] pos) σ H Q :=
  .of (pe_disp (pps_cons pe pe pps_nil) (by rfl) rfl (by simp) (by simp)) fun p hp => (q p hp).mono fun x H1 h => h.mono fun y H2 ⟨h1, key, ex, h2⟩ => ⟨h1, [(key, y)], by rw [ex]; rfl, by simp, h2⟩
theorem we_lcc (hc : X.calm = true) (hN : X.N.Nodup) (hi : PI X tg iter wi) (ok : BlkOk X.N X.env.scope scope own)
    (hg : ∀ (s : Shared) (H : Hp) (C : Addr) (cl : List (Str × Addr)) (fp : List Addr), PG (X.blk s H scope (compEnvC scope cl C X.env) fp) tg g)
    (h : tLc wi g tYes (teC X scope elt) (own.map (·.2)) σ H Q) (hs : ∀ x, foldedSetIterable iter X.env x = pure x := by intro _; rfl) : WE X (.ListComp elt [⟨tg, iter, [], 0⟩] scope pos) σ H Q :=
  .of (pe_lc hc hN hi ok hg (fun _ _ _ _ _ => pts_nil) (fun s H C cl fp => teC_pe s H C cl fp) hs) h
end
end WP
end
section
set_option Elab.async false
set_option linter.all false
set_option maxRecDepth 100000
set_option maxHeartbeats 4000000
namespace WP
open PySem PySem.Spec PyProof.Rows L2
/-- x, y, z, u = a tuple of four -/
theorem i_four {K : PySem.W.Frag} {i j k l : Nat} {a : Addr} {v u w z : V} {σ : L2.St} {H : Hp} {Q : L2.St → Hp → Prop} (h : SqT K H a [v, u, w, z]) (q : Q ((((σ.set i (some v)).set j (some u)).set k (some w)).set l (some z)) H) : gTup K 4 (gCons (gName i) (gCons (gName j) (gCons (gName k) (gCons (gName l) gNil)))) (.ref a) σ H Q :=
  ⟨a, _, rfl, h, rfl, v, _, rfl, u, _, rfl, w, _, rfl, z, _, rfl, rfl, q⟩
theorem cutV_mid (xs : List V) (k : Int) : cutV xs (some k) (some k) = [] := by
  unfold cutV HT.sIx
  simp
def rInt1 : List V → Hp → VK → Prop := fun xs H Q => (∃ i, xs = [.int i] ∧ Q (.int i) H) ∨ ∃ k, xs = [.bl k] ∧ Q (.int (if k then 1 else 0)) H
theorem call_int1' {X : Cx} : CallR X (.type "int") rInt1 := call_int1
theorem iEnumT_mono {X : Cx} {K : PySem.W.Frag} {es : List Expr} {σ : L2.St} {H : Hp} (R R' : It → Hp → Prop) (h : ∀ J H, R J H → R' J H) (q : iEnumT K (WA X es) σ H R) : iEnumT K (WA X es) σ H R' :=
  ⟨fun pos pins s I => thn (q.run pos pins s I) fun us s1 ⟨vs, H1, I1, r, a, xs, e1, e2, e3⟩ => ⟨vs, H1, I1, r, a, xs, e1, e2, h _ _ e3⟩⟩
theorem rd_updK {H : Hp} {p : Addr} {kvs kvs' : List (Key × V)} {a : Addr} {u : HO} (e : H p = some (.dK kvs)) (hu : u ≠ .dK kvs) (h : Rd H a u) : Rd (upd H p (.dK kvs')) a u := by
  rcases h with h | ⟨o, h⟩
  · exact .inl (by rw [upd_ne (ne_of h e hu)]; exact h)
  · exact .inr ⟨o, by rw [upd_ne (ne_of h e (fun z => nomatch z))]; exact h⟩
theorem sqT_updK {K : PySem.W.Frag} {H : Hp} {p : Addr} {kvs kvs' : List (Key × V)} {a : Addr} {xs : List V} (e : H p = some (.dK kvs)) (h : SqT K H a xs) : SqT K (upd H p (.dK kvs')) a xs := h.imp (rd_updK e (fun z => nomatch z)) id
theorem sqL_updK {K : PySem.W.Frag} {H : Hp} {p : Addr} {kvs kvs' : List (Key × V)} {a : Addr} {xs : List V} (e : H p = some (.dK kvs)) (h : SqL K H a xs) : SqL K (upd H p (.dK kvs')) a xs := h.imp (rd_updK e (fun z => nomatch z)) id
mutual
theorem dp_updK {K : PySem.W.Frag} {H : Hp} {p : Addr} {kvs kvs' : List (Key × V)} (e : H p = some (.dK kvs)) : ∀ {d : PyData} {v : V}, Dp K H v d → Dp K (upd H p (.dK kvs')) v d
  | _, _, .non => .non
  | _, _, .bl b => .bl b
  | _, _, .int i => .int i
  | _, _, .str x => .str x
  | _, _, .lst h g => .lst (sqL_updK e h) (dpAll_updK e g)
  | _, _, .tup h g => .tup (sqT_updK e h) (dpAll_updK e g)
theorem dpAll_updK {K : PySem.W.Frag} {H : Hp} {p : Addr} {kvs kvs' : List (Key × V)} (e : H p = some (.dK kvs)) : ∀ {ds : List PyData} {vs : List V}, DpAll K H vs ds → DpAll K (upd H p (.dK kvs')) vs ds
  | _, _, .nil => .nil
  | _, _, .cons h g => .cons (dp_updK e h) (dpAll_updK e g)
end
/-- e, its object locked -/
def weL (X : Cx) (e : Expr) : TE := fun σ H Q => WE X e σ H fun v H1 => ∃ d u, v = .ref d ∧ H1 d = some u ∧ Mut (some u) ∧ ∀ od, Q v (upd H1 d (.frz od u))
theorem peL {X : Cx} {e : Expr} : PE X e (weL X e) := ⟨fun pins s σ H Q I h => (we_lock h).run pins s I⟩
theorem iTup_mono {X : Cx} {K : PySem.W.Frag} {e : Expr} {σ : L2.St} {H : Hp} (R R' : It → Hp → Prop) (h : ∀ J H, R J H → R' J H) (q : iTup K (WE X e) σ H R) : iTup K (WE X e) σ H R' :=
  WE.mono q fun v H1 ⟨a, e1, e2, e3⟩ => ⟨a, e1, e2, h _ _ e3⟩
end WP
end
section
set_option Elab.async false
set_option linter.all false
set_option maxRecDepth 100000
set_option maxHeartbeats 4000000
/-! Tuples of which the object is known (no own dict), and dict of such a tuple of pairs. -/
namespace WP
open PySem PySem.Spec PyProof.Rows L2
section
variable {X : Cx} {es : List Expr} {σ : L2.St} {H : Hp} {Q : VK} {pos : Pos}
/-- a plain tuple object -/
structure Pl (o : Obj) : Prop where
  cls : o.cls = .type "tuple"
  dct : o.dict = none
theorem we_tupZ {j : Nat} (q : WA X es σ H fun xs H1 => xs.length ≤ sizeLine ∧ ∀ p o, H1 p = none → Pl o → Q (.ref p) (upd H1 p (.frz o (.tup xs)))) : WE X (.Tuple es j pos) σ H Q := by
  refine ⟨fun pins s I => ?_⟩
  refine wpAny_Tuple_spliced (thn (q.run pos pins s I) fun us s1 ⟨xs, H1, I1, r, z, q⟩ => ⟨by rw [← r.length]; exact z, ?_⟩)
  refine ⟨.ref s1.heap.objs.size, _, I1.laid (t' := s1.toks) (fun b u e => Heap.get?_push_of_some _ e) (Nat.le_refl _) ?_, rfl, q _ { cls := .type "tuple", data := .seq us.toArray } (I1.hok.fresh (Nat.le_refl _)) ⟨rfl, rfl⟩⟩
  exact ⟨Heap.get?_push_size _ rfl, z, us, r, ⟨_, Heap.get?_push_size _ rfl, rfl, _, rfl⟩⟩
def rTupZ (K : PySem.W.Frag) : List V → Hp → VK → Prop := fun xs H Q => ∃ p ys, xs = [.ref p] ∧ SqL K H p ys ∧ ∀ l o, H l = none → Pl o → Q (.ref l) (upd H l (.frz o (.tup ys)))
theorem call_tupZ : CallR X (.type "tuple") (rTupZ X.K) := by
  intro pins s σ H xs us Q I r h
  obtain ⟨p, ys, rfl, hq, q⟩ := h
  obtain ⟨u, rfl, rx⟩ := vals1 r
  cases rx
  obtain ⟨its, r', pl, hz⟩ := I.list hq
  have hlen := r'.length
  refine call_tuple_list pl.isList (fun h' kp => ?_) (by simp only [List.size_toArray] <;> omega)
  have I1 : Inv X pins σ H { s with heap := h' } := I.kept (t' := s.toks) kp
  refine ⟨.ref h'.objs.size, _, I1.laid (t' := s.toks) (fun b o e => Heap.get?_push_of_some _ e) (Nat.le_refl _) ?_, rfl, q _ { cls := .type "tuple", data := .seq its.toArray } (I1.hok.fresh (Nat.le_refl _)) ⟨rfl, rfl⟩⟩
  exact ⟨Heap.get?_push_size _ rfl, hz, its, r', IsTup.new _ _⟩
theorem i_tupZ {K : PySem.W.Frag} {n : Addr} {xs : List V} (h : H n = some (.lst xs)) (q : ∀ l o, H l = none → Pl o → Q (.ref l) (upd H l (.frz o (.tup xs)))) : rTupZ K [.ref n] H Q := ⟨n, xs, rfl, SqL.of h, q⟩
theorem sqT_frz {K : PySem.W.Frag} {a : Addr} {o : Obj} {xs : List V} (h : H a = some (.frz o (.tup xs))) : SqT K H a xs := .inl (.inr ⟨o, h⟩)
theorem vpairs_of {pins : List (Addr × Obj)} {s : Shared} (I : Inv X pins σ H s) : ∀ {ps : List Addr} {kvs : List (Key × V)}, Paired (fun p kv => SqT X.K H p [kV kv.1, kv.2]) ps kvs →
    ∃ (prs : List (Key × Value)) (vps : List (Value × Value)), KV kvs prs ∧ prs.length = ps.length ∧ vps.length = ps.length ∧ ∀ (j : Nat) (k v : Value), vps[j]? = some (k, v) → ∃ (b : Addr) (q : Key × Value), ps[j]? = some b ∧ prs[j]? = some q ∧ q.2 = v ∧ keyIs q.1 k = true ∧ IsTup s.heap b #[k, v]
  | _, _, .nil => ⟨[], [], .nil, rfl, rfl, fun j k v e => by simp at e⟩
  | _, _, .cons (a := p) (b := kv) h t => by
    obtain ⟨prs, vps, r, h1, h2, h3⟩ := vpairs_of I t
    obtain ⟨its, rv, ht, _⟩ := I.tuple h
    obtain ⟨u, y, ei, ru, ry⟩ := vals2 rv
    subst ei
    refine ⟨(kv.1, y) :: prs, (u, y) :: vps, .cons ⟨rfl, ry⟩ r, by simp [h1], by simp [h2], fun j k v e => ?_⟩
    cases j with
    | zero =>
      cases (Option.some.inj e)
      exact ⟨p, (kv.1, y), rfl, rfl, rfl, kV_is (P := X.prog) (w := X.w) ru, ht⟩
    | succ j =>
      obtain ⟨b, q, e1, e2, e3, e4, e5⟩ := h3 j k v (by simpa using e)
      exact ⟨b, q, by simpa using e1, by simpa using e2, e3, e4, e5⟩
def rDictT (K : PySem.W.Frag) : List V → Hp → VK → Prop := fun xs H Q => ∃ (a : Addr) (o : Obj) (ps : List Addr) (kvs : List (Key × V)), xs = [.ref a] ∧ H a = some (.frz o (.tup (ps.map V.ref))) ∧ Pl o ∧ Paired (fun p kv => SqT K H p [kV kv.1, kv.2]) ps kvs ∧
  ∀ p, H p = none → Q (.ref p) (upd H p (.dK (mergeK [] kvs)))
theorem call_dictT (hc : X.calm = true) : CallR X (.type "dict") (rDictT X.K) := by
  intro pins s σ H xs us Q I r h
  obtain ⟨a, o, ps, kvs, rfl, ha, pl, hp, q⟩ := h
  obtain ⟨u, rfl, rx⟩ := vals1 r
  cases rx
  obtain ⟨hz, its, rv, ob, ho, hcl, n, hdat⟩ := (show ObjOk X.prog X.w H s.heap a (.frz o (.tup (ps.map V.ref))) from I.hok a _ ha).2
  have hgo : s.heap.get? a = some o := (show ObjOk X.prog X.w H s.heap a (.frz o (.tup (ps.map V.ref))) from I.hok a _ ha).1
  rw [hgo] at ho
  cases ho
  have ei := refs_at rv
  subst ei
  rw [List.length_map] at hz
  obtain ⟨prs, vps, rel, hl, hl2, hpr⟩ := vpairs_of I hp
  refine PySem.call_dict_pairs (knd := mixKind X.prog X.w) (kvs := prs) (PySem.PairArg.tuple a (ps.map Value.ref).toArray (fun j => ps.getD j 0) vps) (I.ok.hd hc) ⟨⟨o, n, hgo, pl.cls, pl.dct, hdat⟩, by simp [hl2], fun j k v e => ?_⟩ ⟨by omega, fun j k v e => ?_⟩ (by omega) fun h' tk hd' kk => ?_
  · obtain ⟨b, q', e1, e2, e3, e4, e5⟩ := hpr j k v e
    refine ⟨by simp [e1], .inl ?_⟩
    show s.heap.IsTuple (ps.getD j 0) #[k, v]
    rw [show ps.getD j 0 = b by simp [e1]]
    exact e5
  · obtain ⟨b, q', e1, e2, e3, e4, e5⟩ := hpr j k v e
    exact ⟨q'.1, by rw [e2, ← e3], e4⟩
  · have hm : (s.heap.objs.size == sysModules) = false := beq_eq_false_iff_ne.mpr (Nat.ne_of_gt I.big)
    have hlen : (mergeK [] kvs).length ≤ sizeLine := by
      refine Nat.le_trans (length_mergeK kvs []) ?_
      rw [List.length_nil, Nat.zero_add, rel.length, hl]
      exact hz
    exact ⟨.ref s.heap.objs.size, _, I.laid (t' := tk) (fun b o e => kk b o (by simp) e) (Nat.le_refl _) (show ObjOk X.prog X.w _ _ _ (.dK (mergeK [] kvs)) from ⟨hlen, hm, merged [] prs, KV.merge rel .nil, hd'⟩), rfl, q _ (I.hok.fresh (Nat.le_refl _))⟩
end
end WP
end
section
set_option Elab.async false
set_option linter.all false
set_option maxRecDepth 100000
set_option maxHeartbeats 4000000
/-! t.count(x) of a tuple whose object is known, l.count(x) of flags; a heap with a place hidden. -/
namespace WP
open PySem PySem.Spec PyProof.Rows L2
section
variable {X : Cx} {K : PySem.W.Frag} {o e : Expr} {es : List Expr} {σ : L2.St} {H : Hp} {Q : VK} {pos apos cpos : Pos}
/-- how often a datum stands in a tuple -/
def rCntT (K : PySem.W.Frag) : V → List V → Hp → VK → Prop := fun x xs H Q => ∃ (a : Addr) (ys : List V) (y : V) (d : PyData) (ds : List PyData), x = .ref a ∧ xs = [y] ∧ SqT K H a ys ∧ DpAll K H ys ds ∧ Dp K H y d ∧ PyData.plainAll ds = true ∧ d.plain = true ∧ d.depth ≤ 1 ∧
  Q (.int ((ds.countP fun z => PyData.eqv z d : Nat) : Int)) H
theorem mt_tcount (hu : X.A.units + 65 < cLine) : MtR X "tuple.count" (rCntT X.K) := by
  intro pins s σ H x xs v us Q I rx rxs h
  obtain ⟨a, ys, y, d, ds, rfl, rfl, ht, hds, hd, p1, p2, p3, q⟩ := h
  cases rx
  obtain ⟨uy, rfl, ry⟩ := rxs.one
  obtain ⟨bs, r1⟩ := Dp.reads I d y uy hd ry
  obtain ⟨its, rv, hit, _⟩ := I.tuple ht
  obtain ⟨as, h4⟩ := Dp.readsAll I ds _ its hds rv
  exact PySem.SeqAt.count_tuple_data (vs := its.toArray) hit (show ReadsAll s.heap its.toArray.toList ds as from h4) r1 p1 p2 (by omega) ⟨.int _, H, I.tok _, ⟨s.toks, rfl⟩, q⟩
end
section
variable {X : Cx} {o i e : Expr} {st : Stmt} {rest : List Stmt} {σ : L2.St} {H : Hp} {Q : VK} {D : Ends} {pos p : Pos}
theorem WS.mono {D' : Ends} (h : WS X st D σ H) (h1 : ∀ σ H, D.nx σ H → D'.nx σ H) (h2 : ∀ v H, D.rt v H → D'.rt v H) (h3 : ∀ σ H, D.bk σ H → D'.bk σ H) (h4 : ∀ σ H, D.ct σ H → D'.ct σ H) : WS X st D' σ H :=
  ⟨fun pins s I => thn (h.run pins s I) fun fl s' q => by
    cases fl with
    | next => exact Exists.elim q fun a q => Exists.elim q fun b q => ⟨a, b, q.1, h1 _ _ q.2⟩
    | brk => exact Exists.elim q fun a q => Exists.elim q fun b q => ⟨a, b, q.1, h3 _ _ q.2⟩
    | cont => exact Exists.elim q fun a q => Exists.elim q fun b q => ⟨a, b, q.1, h4 _ _ q.2⟩
    | ret u => exact Exists.elim q fun v q => Exists.elim q fun a q => Exists.elim q fun b q => ⟨v, a, b, q.1, q.2.1, h2 _ _ q.2.2⟩⟩
/-- a cut behind a statement: what holds there, then the rest -/
theorem wb_cut (I : L2.St → Hp → Prop) (h1 : WS X st { D with nx := I } σ H) (h2 : ∀ σ' H', I σ' H' → WB X rest D σ' H') : WB X (st :: rest) D σ H :=
  wb_cons (h1.mono (fun σ H q => h2 σ H q) (fun _ _ q => q) (fun _ _ q => q) fun _ _ q => q)
/-- l[i] = e -/
theorem ws_put (q : WE X e σ H fun x H1 => WE X o σ H1 fun y H2 => WE X i σ H2 fun z H3 => rSetL y z x H3 fun H4 => D.nx σ H4) (hs : swapsWithSole [.Subscript o i p] e pos.line X.env = pure false := by rfl) (hw : swappedStores [.Subscript o i p] e X.env = pure none := by rfl)
    (h1 : List.map (fun x => x.snd) (assignEach [.Subscript o i p] X.env) = [assign (.Subscript o i p) X.env] := by rfl)
    (ha : ∀ v, assign (.Subscript o i p) X.env v = (do
      let ov ← holding [v] (eval o X.env)
      let iv ← holding [v, ov] (eval i X.env)
      standAt p
      holding [v, ov, iv] (setItem ov iv v)
      release [v, ov, iv] []) := by intro _; rfl) : WS X (.Assign [.Subscript o i p] e pos) D σ H :=
  ws_asg (pg_sub pe pe set_list ha) q hs hw h1
end
end WP
end
section
set_option Elab.async false
set_option linter.all false
set_option maxRecDepth 100000
set_option maxHeartbeats 4000000
/-! t.count(e), t a tuple whose object is known; % and // and ** and abs, int of numbers; set of texts. -/
namespace WP
open PySem PySem.Spec PyProof.Rows L2
section
variable {X : Cx} {K : PySem.W.Frag} {o e : Expr} {es : List Expr} {σ : L2.St} {H : Hp} {Q : VK} {pos apos cpos p p2 q2 : Pos} {x : Str}
def KnT (x : V) (H : Hp) : Prop := ∃ a ob xs, x = .ref a ∧ H a = some (.frz ob (.tup xs)) ∧ Pl ob
theorem we_tcount (hu : X.A.units + 65 < cLine) (q : WE X o σ H fun x H1 => KnT x H1 ∧ WA X (e :: es) σ H1 fun xs H2 => rCntT X.K x xs H2 Q)
    (hbase : attributeBase o "count" X.env (eval o X.env) = eval o X.env := by rfl)
    (hfew : ((backTo cpos (starEach (e :: es) X.env)).all (fun x => !x.1) && (backToKw cpos (keywordEach [] X.env)).all (fun x => x.1.isSome)
      && decide ((e :: es).length + ([] : List Keyword).length + (if ([] : List Keyword).isEmpty then 0 else 1) < 30)) = true := by rfl)
    (hline : (apos.endLine == cpos.line) = true := by rfl) (hs : starEach (e :: es) X.env = (false, eval e X.env) :: starEach es X.env := by rfl) (hplain : (backTo cpos (starEach es X.env)).any (·.1) = false := by rfl) :
    WE X (.Call (.Attribute o "count" apos) (e :: es) [] cpos) σ H Q := by
  refine ⟨fun pins s I => wpAny_Call_method_late hbase hfew hline rfl (thn (q.run pins s I) fun v s1 got => ?_)⟩
  obtain ⟨y, H1, I1, r1, ⟨a, ob, xs, rfl, hob, pl⟩, more⟩ := got
  cases r1
  have hg : s1.heap.get? a = some ob := (show ObjOk X.prog X.w H1 s1.heap a (.frz ob (.tup xs)) from I1.hok a _ hob).1
  refine ⟨"tuple", "tuple.count", PySem.F.plainAttrs_tuple, PySem.F.slot_tuple_count, PySem.F.type_tuple_count, ⟨ob, hg, pl.cls⟩, fun b z => ?_, ?_⟩
  · cases z
    exact ⟨ob, hg, pl.dct⟩
  · have args := more.run cpos pins s1 I1
    rw [hs] at args ⊢
    exact Calls.callWith_builtin (by show (false || (backTo cpos (starEach es X.env)).any (·.1)) = false; rw [hplain] <;> rfl) (Calls.evalArgs_plain (thn args fun us s2 fin => by
      obtain ⟨vs, H2, I2, rs, done⟩ := fin
      exact mt_tcount hu pins s2 σ H2 (.ref a) vs _ us Q I2 rfl rs done))
end
end WP
end
section
set_option Elab.async false
set_option linter.all false
set_option maxRecDepth 100000
set_option maxHeartbeats 6400000
/-! set(l) of a list of texts, any of them more than once; its len. -/
namespace WP
open PySem PySem.Spec PyProof.Rows L2
/-- the unlike texts, as they are met -/
def onceS (acc : List Str) (x : Str) : List Str := if acc.any (· == x) then acc else acc ++ [x]
def metS (xs : List Str) (i : Nat) : List Str := (xs.take i).foldl onceS []
theorem onceS_any (acc : List Str) (x k : Str) : (onceS acc x).any (· == k) = (acc.any (· == k) || decide (k = x)) := by
  by_cases e : k = x
  · subst e
    unfold onceS
    split
    · rename_i h
      rw [h]
      simp
    · simp
  · have e' : (x == k) = false := by
      rw [beq_eq_false_iff_ne]
      exact fun z => e z.symm
    unfold onceS
    split <;> simp [e, e']
theorem onceS_len (acc : List Str) (x : Str) : (onceS acc x).length = if acc.any (· == x) then acc.length else acc.length + 1 := by
  unfold onceS
  split <;> simp
theorem metS_succ {xs : List Str} {i : Nat} (h : i < xs.length) : metS xs (i + 1) = onceS (metS xs i) (xs.getD i Str.empty) := by
  unfold metS
  rw [List.take_succ_eq_append_getElem h, List.foldl_append]
  simp [List.getD, h]
theorem metS_le (xs : List Str) : ∀ i, (metS xs i).length ≤ i
  | 0 => by simp [metS]
  | i + 1 => by
    have ih := metS_le xs i
    by_cases h : i < xs.length
    · rw [metS_succ h, onceS_len]
      split <;> omega
    · have e : xs.take (i + 1) = xs.take i := by rw [List.take_of_length_le (by omega), List.take_of_length_le (by omega)]
      have : metS xs (i + 1) = metS xs i := by simp [metS, e]
      rw [this]
      omega
section
variable {prog : Program} {w : World} {A : Around} {R : Result → Shared → Prop} {I : Addr} {fp wr : List Addr} {G : Array GenState → Array GenState → Prop} {P : Nat → Value → Prop} {St : Nat → Shared → Prop}
/-- what the set at S holds when i texts are in -/
abbrev HoldsS (prog : Program) (w : World) (h : Heap) (S : Addr) (xs : List Str) (i : Nat) : Prop := h.SetOf (PySem.strKind prog w) S (fun k => (metS xs i).any (· == k)) (metS xs i).length
theorem fill_texts {xs : List Str} {S : Addr} (W : WalksS prog w A.in1 I fp wr G xs.length P St) (off : S ∉ fp) (few : xs.length + 1 < scanBound) (txt : ∀ i v, P i v → ∃ t, v = .str (xs.getD i Str.empty) t) (left : Nat) :
    ∀ (i : Nat) (s : Shared), i + left = xs.length → St i s → HoldsS prog w s.heap S xs i → (∀ s', Moved (S :: wr) G s s' → HoldsS prog w s'.heap S xs xs.length → R (.ok (.ret .none)) s') →
      codeAny (model prog w) A (.builtin "set.update.loop" ⟨[.ref S, .ref I], []⟩) R s := by
  have off' : S ∉ wr := fun h => off (W.sub _ h)
  have wide : ∀ b ∈ wr, b ∈ S :: wr := fun b => List.mem_cons_of_mem _
  have still : ∀ {s s' : Shared} {i : Nat}, Moved wr G s s' → HoldsS prog w s.heap S xs i → HoldsS prog w s'.heap S xs i := fun m h => by
    obtain ⟨o, es, ep, t, ho, more⟩ := h
    exact ⟨o, es, ep, t, m.heap S _ off' ho, more⟩
  induction left with
  | zero =>
    intro i s e at_i held fin
    obtain rfl : i = xs.length := by omega
    refine codeAny_builtin PyProof.Rows.F.entry_set_update_loop ?_
    rw [Around.under_plainId PyProof.Rows.F.plain_set_update_loop _]
    exact wpAny_bind (W.done s _ _ at_i fun s' m => wpAny_pure (fin s' (m.mono wide) (still m held)))
  | succ left more =>
    intro i s e at_i held fin
    have lt : i < xs.length := by omega
    refine codeAny_builtin PyProof.Rows.F.entry_set_update_loop ?_
    rw [Around.under_plainId PyProof.Rows.F.plain_set_update_loop _]
    refine wpAny_bind (W.item i s _ _ lt at_i fun v s' is_v at_i' m => ?_)
    obtain ⟨t, rfl⟩ := txt i v is_v
    have held' := still m held
    refine wpAny_bind (wpAny_holding ?_)
    unfold setAdd
    refine wpAny_holding (wpAny_bind ((PySem.strKind prog w).pyHash (k := xs.getD i Str.empty) (strKind_is _ _ _ _) ?_))
    have few' : (metS xs i).length + 1 < scanBound := by
      have := metS_le xs i
      omega
    refine wpAny_setAddHashed_of (knd := PySem.strKind prog w) (s := { s' with toks := s'.toks + 1 }) (strKind_is _ _ _ _) rfl held' few' fun h2 but got => ?_
    have next : HoldsS prog w h2 S xs (i + 1) := PyProof.Rows.SetOf_congr got (fun k => by rw [metS_succ lt, onceS_any]) (by rw [metS_succ lt, onceS_len])
    have keeps : ∀ b, b ≠ S → h2.get? b = s'.heap.get? b := but.2
    refine wpAny_pure ⟨plainId_quiet PyProof.Rows.F.plain_set_update_loop _, more (i + 1) _ (by omega) (W.frame _ s' _ _ at_i' (Nat.le_succ _) fun b hb o eo => ?_) next fun s2 m2 last => ?_⟩
    · rw [keeps b fun z => off (z ▸ hb)]
      exact eo
    · refine fin s2 (Moved.trans W.gtrans ((m.mono wide).then_heap (Nat.le_succ _) fun b o hb eo => ?_) m2) last
      rw [keeps b fun z => hb (by rw [z]; exact List.mem_cons_self)]
      exact eo
end
section
variable {prog : Program} {w : World} {A : Around} {E : Value → Shared → Prop} {s : Shared}
theorem set_of_texts {l : Addr} {items : Array Value} {xs : List Str} {Q : Value → Shared → Prop} (calm : A.handled = none) (isl : s.heap.IsList l items) (txts : PyProof.Rows.StrsAre items.toList xs) (few : xs.length + 1 < scanBound)
    (fin : ∀ (h' : Heap) (tk : Nat), HoldsS prog w h' s.heap.objs.size xs xs.length → (∀ b o, b < s.heap.objs.size → s.heap.get? b = some o → h'.get? b = some o) → Q (.ref s.heap.objs.size) { s with heap := h', toks := tk }) :
    wpAny (model prog w) A (call (.type "set") [.ref l]) Q E s := by
  have size : xs.length = items.size := by rw [← StrsAre.len_eq txts, Array.length_toList]
  obtain ⟨c, tl, mro⟩ := PySem.F.called_set.mro
  have f1 := PySem.F.called_set.made
  have f2 := PySem.F.called_set.sub
  have f3 := PySem.F.called_set.notType
  have f4 := PySem.F.called_set.canCreate
  have f5 := PySem.F.typeCall_set_1 (.ref l)
  refine wpAny_call (codeAny_of_tree ?_)
  show wpAny _ _ (callAny (.type "set") _) _ _ _
  refine wpAny_pure ⟨Code.quiet_builtin _ (by decide +kernel), codeAny_builtin PySem.F.entry_type_call ?_⟩
  rw [Around.under_plain (weight_type_call_type "set" [.ref l] []) rfl]
  repeat (any_goals (first | assumption | wp_step))
  refine codeAny_mono (code_set_new_1 (.ref l) (E := E) (Q₁ := fun obj s₁ => ∃ led : Bool, obj = .ref s.heap.objs.size ∧ s₁ = { s with heap := s.heap.push { cls := .type "set", dict := none, data := .set #[] 0 (.fresh 0 0 led) } }) fun led => ⟨led, rfl, rfl⟩) fun r s₁ made => ?_
  cases r with
  | error e => exact made
  | ok fl =>
    cases fl with
    | next => exact made.elim
    | brk => exact made.elim
    | cont => exact made.elim
    | ret obj =>
      obtain ⟨led, rfl, rfl⟩ := made
      have atS : (s.heap.push { cls := .type "set", dict := none, data := .set #[] 0 (.fresh 0 0 led) }).get? s.heap.objs.size = some { cls := .type "set", dict := none, data := .set #[] 0 (.fresh 0 0 led) } := Heap.get?_push_size _ rfl
      have isS : Shared.TypeIs { s with heap := s.heap.push { cls := .type "set", dict := none, data := .set #[] 0 (.fresh 0 0 led) } } (.ref s.heap.objs.size) "set" := ⟨_, atS, rfl⟩
      have g1 := PySem.F.called_set.init.lookup
      have g2 := PySem.F.called_set.init.bind (.ref s.heap.objs.size)
      repeat (any_goals (first | assumption | wp_step))
      refine codeAny_mono (codeAny_call_builtin (R := wants (fun r s₂ => r = .none ∧ ∃ h' tk, s₂ = { s with heap := h', toks := tk } ∧ HoldsS prog w h' s.heap.objs.size xs xs.length ∧ (∀ b o, b < s.heap.objs.size → s.heap.get? b = some o → h'.get? b = some o)) E)
        PySem.F.called_set.init.plain PySem.F.entry_set_init (check_set_init_1 isS ?_)) fun r₂ s₂ filled => ?_
      · obtain ⟨⟨oc, od, odata, osl⟩, hol, hcl, nl, hdl⟩ := isl
        simp only at hcl hdl
        subst hcl hdl
        have atl : (s.heap.push { cls := .type "set", dict := none, data := .set #[] 0 (.fresh 0 0 led) }).get? l = some { cls := .type "list", dict := od, data := .seq items nl, slots := osl } := Heap.get?_push_of_some _ hol
        have isl1 : (s.heap.push { cls := .type "set", dict := none, data := .set #[] 0 (.fresh 0 0 led) }).IsList l items := ⟨_, atl, rfl, nl, rfl⟩
        have k1 := PySem.F.sub_list_set
        have k2 := PySem.F.sub_list_frozenset
        have k3 : (Value.type "list" == Value.type "dict") = false := by decide
        have ltl : l < s.heap.objs.size := Heap.lt_size hol
        unfold Builtin.«set.__init__» noKeywords Builtin.Frozenset.updateFrom
        generalize hPI : pyIter = PI
        wp_walk
        subst hPI
        refine wpAny_pyIter_list isl1 ?_
        refine wpAny_bind (wpAny_runValue ?_)
        have calm3 : A.in1.in1.in1.handled = none := by simp [calm]
        have sz : (s.heap.push { cls := .type "set", dict := none, data := .set #[] 0 (.fresh 0 0 led) }).objs.size = s.heap.objs.size + 1 := Heap.size_push _ _
        have lI : l ≠ (s.heap.push { cls := .type "set", dict := none, data := .set #[] 0 (.fresh 0 0 led) }).objs.size := by
          rw [Heap.size_push]
          exact Nat.ne_of_lt (Nat.lt_succ_of_lt ltl)
        have off : s.heap.objs.size ∉ [(s.heap.push { cls := .type "set", dict := none, data := .set #[] 0 (.fresh 0 0 led) }).objs.size, l] := by
          simp only [Heap.size_push, List.mem_cons, List.not_mem_nil, or_false, not_or]
          exact ⟨Nat.ne_of_lt (Nat.lt_succ_self _), Nat.ne_of_gt ltl⟩
        have txt : ∀ (i : Nat) (v : Value), items[i]? = some v → ∃ t, v = .str (xs.getD i Str.empty) t := fun i v hv => SS.strs_at txts i v (by rw [Array.getElem?_toList]; exact hv)
        have W := (Walks.list calm3 (s.heap.push { cls := .type "set", dict := none, data := .set #[] 0 (.fresh 0 0 led) }).objs.size l lI items).toS (prog := prog) (w := w)
        rw [← size] at W
        refine fill_texts W off few txt xs.length 0 _ (by omega) ⟨⟨_, Heap.get?_push_size _ rfl, rfl, rfl⟩, isl1.push _⟩ ?_ fun s' m last => ?_
        · exact PyProof.Rows.SetOf_congr ((PyProof.Rows.setObjOf_fresh (knd := PySem.strKind prog w) led).setOf (Heap.get?_push_of_some _ atS) (by unfold scanBound; omega)) (fun _ => rfl) rfl
        · obtain ⟨h', g', d', tk', os'⟩ := s'
          obtain rfl : g' = s.gens := m.gens
          obtain rfl : d' = s.drawn := m.drawn
          obtain rfl : os' = s.os := m.os
          show wpAny _ _ _ _ _ _
          refine wpAny_pure ?_
          show wpAny _ _ (ret Value.none) _ _ _
          refine wpAny_pure ⟨rfl, h', tk', rfl, last, fun b o hb e => m.heap b o ?_ (Heap.get?_push_of_some _ (Heap.get?_push_of_some _ e))⟩
          simp only [Heap.size_push, List.mem_cons, List.not_mem_nil, or_false, not_or]
          exact ⟨Nat.ne_of_lt hb, Nat.ne_of_lt (Nat.lt_succ_of_lt hb)⟩
      · cases r₂ with
        | error e => exact filled
        | ok fl₂ =>
          cases fl₂ with
          | next => exact filled.elim
          | brk => exact filled.elim
          | cont => exact filled.elim
          | ret r =>
            obtain ⟨rfl, h', tk, rfl, held, kept⟩ := filled
            repeat (any_goals (first | assumption | wp_step))
            exact fin _ _ held kept
end
section
variable {X : Cx} {a : Expr} {σ : L2.St} {H : Hp} {Q : VK} {p p2 q2 pos : Pos}
/-- len(set(a)), a a list of texts -/
theorem we_lenSet (hc : X.calm = true) (hg : Gl X "len") (hm : X.mg "len" = none) (hg2 : Gl X "set") (hm2 : X.mg "set" = none) (q : WE X a σ H fun x H1 => ∃ l, ∃ xs : List Str, x = .ref l ∧ SqL X.K H1 l (xs.map V.str) ∧ xs.length ≤ 1000 ∧ Q (.int (metS xs xs.length).length) H1)
    (na : starEach [a] X.env = (false, eval a X.env) :: starEach [] X.env := by rfl) : WE X (.Call (.Name "len" p) [.Call (.Name "set" p2) [a] [] q2] [] pos) σ H Q := by
  refine ⟨fun pins s I => ?_⟩
  refine Call_ (ld_blt I hg hm boot_len (PyProof.Rows.callWith_builtin1 (PyProof.Rows.args_cons ?_ rfl) rfl rfl))
  refine Call_ (ld_blt I hg2 hm2 boot_set (PyProof.Rows.callWith_type1 (PyProof.Rows.args_cons (thn (q.run pins s I) fun v s1 got => PyProof.Rows.args_nil ?_) na) na rfl))
  obtain ⟨x, H1, I1, rx, l, xs, rfl, isl, few, done⟩ := got
  cases rx
  obtain ⟨its, r, pl, _⟩ := I1.list isl
  refine set_of_texts (I1.ok.hd hc) pl.isList (by simpa using strsAre_of r) (by unfold scanBound; omega) fun h' tk held kept => PyProof.Rows.args_nil ?_
  obtain ⟨o, es, ep, t, ho, hex, hd, _, _, _, hf, hn⟩ := held
  have I2 : Inv X pins σ H1 { s1 with heap := h', toks := tk } := I1.kept fun b o e => kept b o (Heap.lt_size e) e
  have le := metS_le xs xs.length
  exact call_len_set ho hex hd hf (by rw [hn]; omega) ⟨.int (metS xs xs.length).length, H1, I2.tok _, ⟨_, by rw [hn]⟩, done⟩
end
end WP
end
section
set_option Elab.async false
set_option linter.all false
set_option maxRecDepth 100000
set_option maxHeartbeats 4000000
/-! A heap with places hidden; data whose tuples are known objects. -/
namespace WP
open PySem PySem.Spec PyProof.Rows L2
def hid (S : List Addr) (H : Hp) : Hp := fun b => if b ∈ S then none else H b
theorem hid_in {S : List Addr} {H : Hp} {b : Addr} (h : b ∈ S) : hid S H b = none := if_pos h
theorem hid_out {S : List Addr} {H : Hp} {b : Addr} (h : b ∉ S) : hid S H b = H b := if_neg h
theorem hid_upd_in {S : List Addr} {H : Hp} {a : Addr} {o : HO} (h : a ∈ S) : hid S (upd H a o) = hid S H := by
  funext b
  by_cases hb : b ∈ S
  · rw [hid_in hb, hid_in hb]
  · rw [hid_out hb, hid_out hb, upd_ne (fun z : b = a => hb (by rw [z]; exact h))]
theorem hid_upd_out {S : List Addr} {H : Hp} {a : Addr} {o : HO} (h : a ∉ S) : hid S (upd H a o) = upd (hid S H) a o := by
  funext b
  by_cases hb : b ∈ S
  · rw [hid_in hb, upd_ne (fun z : b = a => h (by rw [← z]; exact hb)), hid_in hb]
  · rw [hid_out hb]
    by_cases e : b = a
    · rw [e, upd_same, upd_same]
    · rw [upd_ne e, upd_ne e, hid_out hb]
theorem same_hid {S : List Addr} {H H' : Hp} (s : Same H H') : Same (hid S H) (hid S H') := fun b o e => by
  by_cases hb : b ∈ S
  · rw [hid_in hb] at e
    cases e
  · rw [hid_out hb] at e ⊢
    exact s b o e
theorem hid_same {S : List Addr} {H : Hp} : Same (hid S H) H := fun b o e => by
  by_cases hb : b ∈ S
  · rw [hid_in hb] at e
    cases e
  · rwa [hid_out hb] at e
theorem same_more {S T : List Addr} {H H' : Hp} (s : Same (hid S H) (hid S H')) (st : ∀ a ∈ S, a ∈ T) : Same (hid T H) (hid T H') := fun b o e => by
  by_cases hb : b ∈ T
  · rw [hid_in hb] at e
    cases e
  · have hs : b ∉ S := fun z => hb (st b z)
    rw [hid_out hb] at e ⊢
    have := s b o (by rw [hid_out hs]; exact e)
    rwa [hid_out hs] at this
theorem same_at {S : List Addr} {H H' : Hp} {b : Addr} {o : HO} (s : Same (hid S H) (hid S H')) (hb : b ∉ S) (e : H b = some o) : H' b = some o := by
  have := s b o (by rw [hid_out hb]; exact e)
  rwa [hid_out hb] at this
theorem hid_new {S : List Addr} {H : Hp} {a : Addr} {o : HO} (h : H a = none) : Same (hid S H) (hid S (upd H a o)) := same_hid (Same.new h)
theorem hid_put {S : List Addr} {H : Hp} {a : Addr} {o : HO} (h : a ∈ S) : Same (hid S H) (hid S (upd H a o)) := by
  rw [hid_upd_in h]
  exact Same.refl _
mutual
/-- a datum whose tuples are known objects without own dict -/
inductive Dz (H : Hp) : V → PyData → Prop
  | non : Dz H .non .none
  | bl (b : Bool) : Dz H (.bl b) (.bool b)
  | int (i : Int) : Dz H (.int i) (.int i)
  | str (x : Str) : Dz H (.str x) (.str x)
  | lst {a : Addr} {xs : List V} {ds : List PyData} : H a = some (.lst xs) → DzAll H xs ds → Dz H (.ref a) (.list ds)
  | tup {a : Addr} {o : Obj} {xs : List V} {ds : List PyData} : H a = some (.frz o (.tup xs)) → Pl o → DzAll H xs ds → Dz H (.ref a) (.tuple ds)
inductive DzAll (H : Hp) : List V → List PyData → Prop
  | nil : DzAll H [] []
  | cons {x : V} {d : PyData} {xs : List V} {ds : List PyData} : Dz H x d → DzAll H xs ds → DzAll H (x :: xs) (d :: ds)
end
mutual
theorem Dz.dp {K : PySem.W.Frag} {H : Hp} : ∀ {d : PyData} {v : V}, Dz H v d → Dp K H v d
  | _, _, .non => .non
  | _, _, .bl b => .bl b
  | _, _, .int i => .int i
  | _, _, .str x => .str x
  | _, _, .lst h g => .lst (SqL.of h) g.dp
  | _, _, .tup h _ g => .tup (sqT_frz h) g.dp
theorem DzAll.dp {K : PySem.W.Frag} {H : Hp} : ∀ {ds : List PyData} {vs : List V}, DzAll H vs ds → DpAll K H vs ds
  | _, _, .nil => .nil
  | _, _, .cons h g => .cons h.dp g.dp
end
mutual
theorem Dz.mono {H H' : Hp} (e : Same H H') : ∀ {d : PyData} {v : V}, Dz H v d → Dz H' v d
  | _, _, .non => .non
  | _, _, .bl b => .bl b
  | _, _, .int i => .int i
  | _, _, .str x => .str x
  | _, _, .lst h g => .lst (e _ _ h) (g.mono e)
  | _, _, .tup h p g => .tup (e _ _ h) p (g.mono e)
theorem DzAll.mono {H H' : Hp} (e : Same H H') : ∀ {ds : List PyData} {vs : List V}, DzAll H vs ds → DzAll H' vs ds
  | _, _, .nil => .nil
  | _, _, .cons h g => .cons (h.mono e) (g.mono e)
end
theorem DzAll.len {H : Hp} : ∀ {vs : List V} {ds : List PyData}, DzAll H vs ds → vs.length = ds.length
  | _, _, .nil => rfl
  | _, _, .cons _ g => by simp [g.len]
theorem DzAll.app {H : Hp} : ∀ {vs ws : List V} {ds es : List PyData}, DzAll H vs ds → DzAll H ws es → DzAll H (vs ++ ws) (ds ++ es)
  | _, _, _, _, .nil, h => h
  | _, _, _, _, .cons a b, h => .cons a (b.app h)
theorem DzAll.snoc {H : Hp} {vs : List V} {ds : List PyData} {v : V} {d : PyData} (g : DzAll H vs ds) (h : Dz H v d) : DzAll H (vs ++ [v]) (ds ++ [d]) := g.app (.cons h .nil)
theorem DzAll.take {H : Hp} : ∀ {vs : List V} {ds : List PyData} (n : Nat), DzAll H vs ds → DzAll H (vs.take n) (ds.take n)
  | _, _, 0, _ => .nil
  | _, _, _ + 1, .nil => .nil
  | _, _, n + 1, .cons a b => .cons a (b.take n)
theorem DzAll.drop {H : Hp} : ∀ {vs : List V} {ds : List PyData} (n : Nat), DzAll H vs ds → DzAll H (vs.drop n) (ds.drop n)
  | _, _, 0, h => h
  | _, _, _ + 1, .nil => .nil
  | _, _, n + 1, .cons a b => b.drop n
theorem DzAll.at {H : Hp} : ∀ {vs : List V} {ds : List PyData} {i : Nat} {v : V}, DzAll H vs ds → vs[i]? = some v → ∃ d, ds[i]? = some d ∧ Dz H v d
  | _, _, _, _, .nil, e => by simp at e
  | _, _, 0, _, .cons a b, e => by
    simp at e
    subst e
    exact ⟨_, rfl, a⟩
  | _, _, i + 1, _, .cons a b, e => by simpa using b.at (i := i) (by simpa using e)
theorem hid_le {S T : List Addr} {H : Hp} (st : ∀ a ∈ S, a ∈ T) : Same (hid T H) (hid S H) := fun b o e => by
  by_cases hb : b ∈ T
  · rw [hid_in hb] at e
    cases e
  · rw [hid_out fun z => hb (st b z)]
    rwa [hid_out hb] at e
mutual
/-- a datum without lists does not stand on a list -/
theorem Dz.off {S : List Addr} {H : Hp} {D : Addr} {ys : List V} (e : H D = some (.lst ys)) : ∀ {d : PyData} {v : V}, nolist d = true → Dz (hid S H) v d → Dz (hid (S ++ [D]) H) v d
  | _, _, _, .non => .non
  | _, _, _, .bl b => .bl b
  | _, _, _, .int i => .int i
  | _, _, _, .str x => .str x
  | _, _, n, .lst h g => by simp [nolist] at n
  | _, _, n, .tup (a := a) h p g => by
    have hs : a ∉ S := fun z => by rw [hid_in z] at h; cases h
    have hD : a ≠ D := fun z => by rw [hid_out hs, z, e] at h; cases h
    refine .tup ?_ p (g.off e (by simpa [nolist] using n))
    rw [hid_out (by simp [hs, hD])]
    rwa [hid_out hs] at h
theorem DzAll.off {S : List Addr} {H : Hp} {D : Addr} {ys : List V} (e : H D = some (.lst ys)) : ∀ {ds : List PyData} {vs : List V}, nolists ds = true → DzAll (hid S H) vs ds → DzAll (hid (S ++ [D]) H) vs ds
  | _, _, _, .nil => .nil
  | _, _, n, .cons h g => by
    simp only [nolists, Bool.and_eq_true] at n
    exact .cons (h.off e n.1) (g.off e n.2)
end
end WP
end
section
set_option Elab.async false
set_option linter.all false
set_option maxRecDepth 100000
set_option maxHeartbeats 4000000
/-! A lambda handed to a def that catches what it raises, by name; l.count(flag), l.index(flag). -/
namespace WP
open PySem PySem.Spec PyProof.Rows L2 LamX
section
variable {X : Cx} {K : PySem.W.Frag} {o e : Expr} {es : List Expr} {σ : L2.St} {H : Hp} {Q : VK} {pos apos cpos p : Pos}
/-- [b].count(True) -/
def rCntB (K : PySem.W.Frag) : V → List V → Hp → VK → Prop := fun x xs H Q => ∃ (a : Addr) (b c : Bool), x = .ref a ∧ xs = [.bl c] ∧ SqL K H a [.bl b] ∧ Q (.int (if b = c then 1 else 0)) H
theorem mt_bcount (hu : X.A.units + 65 < cLine) : MtR X "list.count" (rCntB X.K) := by
  intro pins s σ H x xs v us Q I rx rxs h
  obtain ⟨a, b, c, rfl, rfl, ht, q⟩ := h
  cases rx
  obtain ⟨uy, rfl, ry⟩ := rxs.one
  obtain ⟨bs, r1⟩ := Dp.reads I (.bool c) (.bl c) uy (.bl c) ry
  obtain ⟨its, rv, hit, _⟩ := I.list ht
  obtain ⟨as, h4⟩ := Dp.readsAll I [.bool b] [.bl b] its (.cons (.bl b) .nil) rv
  have e : ((([PyData.bool b] : List PyData).countP fun z => PyData.eqv z (.bool c) : Nat) : Int) = if b = c then 1 else 0 := by
    cases b <;> cases c <;> decide +kernel
  refine PySem.SeqAt.count_list_data (vs := its.toArray) hit.isList (show ReadsAll s.heap its.toArray.toList [PyData.bool b] as from h4) r1 rfl rfl (by simp [PyData.depth, PyData.depthAll]; omega) ?_
  rw [e]
  exact ⟨.int _, H, I.tok _, ⟨s.toks, rfl⟩, q⟩
/-- x(lambda: body), told by what the body does -/
def tLamB (X : Cx) (k : Nat) (scope : Scope) (body : Expr) : XK → TE := fun E σ H Q => ∀ (A : Around) (outer : List Env) (s : Shared) (H0 : Hp) (f c' : Addr), Room k (A.deeper (lamEnv X scope s.heap.objs.size f c')) → WE (lamCx X A outer s H0 E scope f c') body σ H Q
theorem tLamB_pe {k : Nat} {scope : Scope} {body : Expr} (A : Around) (outer : List Env) (s : Shared) (H : Hp) (E : XK) (f c' : Addr) (r : Room k (A.deeper (lamEnv X scope s.heap.objs.size f c'))) : PE (lamCx X A outer s H E scope f c') body (tLamB X k scope body E) :=
  ⟨fun pins s' σ H' Q I q => (q A outer s H f c' r).run pins s' I⟩
/-- what except .. as gives: the suite, the error at a -/
def tsS (X : Cx) (sts : List Stmt) : Addr → Value → Option Addr → TS := fun a cls d D σ H => ∀ (oe : Obj) (pn : List (Addr × Obj)), Zc cls d oe → (∃ vs, oe.data = .fields vs) → WB (X.suite a ((a, oe) :: pn)) sts D σ H
end
end WP
end
section
set_option Elab.async false
set_option linter.all false
set_option maxRecDepth 100000
set_option maxHeartbeats 4000000
/-! Displays of constants and known names: what they lay down. -/
namespace WP
open PySem PySem.Spec PyProof.Rows L2
mutual
/-- the datum that a display tells; names are read by ρ (the slot, the datum) -/
def litE (ρ : Str → Option (Nat × PyData)) : Nat → Expr → Option PyData
  | 0, _ => none
  | _ + 1, .Constant (.str s) _ _ => some (.str s)
  | _ + 1, .Constant (.int i) _ _ => some (.int i)
  | _ + 1, .Constant (.bool b) _ _ => some (.bool b)
  | _ + 1, .Constant .none _ _ => some .none
  | _ + 1, .Name x _ => (ρ x).map (·.2)
  | n + 1, .Tuple es _ _ => if es.length ≤ 1000 then (litEs ρ n es).map .tuple else none
  | n + 1, .List es _ => if es.length ≤ 1000 then (litEs ρ n es).map .list else none
  | _ + 1, _ => none
def litEs (ρ : Str → Option (Nat × PyData)) : Nat → List Expr → Option (List PyData)
  | _, [] => some []
  | 0, _ => none
  | n + 1, e :: es => match litE ρ n e, litEs ρ n es with
    | some d, some ds => some (d :: ds)
    | _, _ => none
end
theorem litEs_len (ρ : Str → Option (Nat × PyData)) : ∀ (n : Nat) (es : List Expr) (ds : List PyData), litEs ρ n es = some ds → ds.length = es.length
  | n, [], ds, h => by cases n <;> (simp [litEs] at h; subst h; rfl)
  | 0, e :: es, ds, h => by simp [litEs] at h
  | n + 1, e :: es, ds, h => by
    simp only [litEs] at h
    cases h1 : litE ρ n e with
    | none => simp [h1] at h
    | some d => cases h2 : litEs ρ n es with
      | none => simp [h1, h2] at h
      | some ds' =>
        simp [h1, h2] at h
        subst h
        simp [litEs_len ρ n es ds' h2]
/-- the names of ρ stand so in the slots -/
structure NamesAt (X : Cx) (S : List Addr) (ρ : Str → Option (Nat × PyData)) (σ : L2.St) (H : Hp) : Prop where
  at_ : ∀ x i d, ρ x = some (i, d) → X.N[i]? = some x ∧ Vis X.env.scope x ∧ (x == ("__debug__" : Str)) = false ∧ (x == ("__classdict__" : Str)) = false ∧ ∃ v, σ[i]? = some (some v) ∧ Dz (hid S H) v d
theorem NamesAt.same {X : Cx} {S : List Addr} {ρ : Str → Option (Nat × PyData)} {σ : L2.St} {H H' : Hp} (h : NamesAt X S ρ σ H) (s : Same H H') : NamesAt X S ρ σ H' :=
  ⟨fun x i d e => by
    obtain ⟨h1, h2, h3, h4, v, h5, h6⟩ := h.at_ x i d e
    exact ⟨h1, h2, h3, h4, v, h5, h6.mono (same_hid s)⟩⟩
section
variable {X : Cx} {S : List Addr} {ρ : Str → Option (Nat × PyData)} {σ : L2.St}
/-- what is laid new does not stand on hidden places -/
def Off (S : List Addr) (H : Hp) : Prop := ∀ a ∈ S, H a ≠ none
theorem Off.same {H H' : Hp} (h : Off S H) (s : Same H H') : Off S H' := fun a ha z => by
  cases e : H a with
  | none => exact h a ha e
  | some o =>
    rw [s _ _ e] at z
    cases z
theorem Off.out {H : Hp} {p : Addr} (h : Off S H) (hp : H p = none) : p ∉ S := fun z => h p z hp
def LitOk (X : Cx) (S : List Addr) (ρ : Str → Option (Nat × PyData)) (σ : L2.St) (n : Nat) : Prop := ∀ (e : Expr) (d : PyData) (H : Hp) (Q : VK), litE ρ n e = some d → NamesAt X S ρ σ H → Off S H → (∀ v H', Same H H' → Dz (hid S H') v d → Q v H') → WE X e σ H Q
def LitsOk' (X : Cx) (S : List Addr) (ρ : Str → Option (Nat × PyData)) (σ : L2.St) (n : Nat) : Prop := ∀ (es : List Expr) (ds : List PyData) (H : Hp) (Q : List V → Hp → Prop), litEs ρ n es = some ds → NamesAt X S ρ σ H → Off S H → (∀ vs H', Same H H' → DzAll (hid S H') vs ds → Q vs H') → WA X es σ H Q
theorem lit_star {n : Nat} {e : Expr} {d : PyData} (es : List Expr) (h : litE ρ n e = some d) : starEach (e :: es) X.env = (false, eval e X.env) :: starEach es X.env := by
  cases n with
  | zero => simp [litE] at h
  | succ n => cases e <;> first | rfl | (simp [litE] at h; done)
theorem lits_ok {n : Nat} (ih : ∀ m, m ≤ n → LitOk X S ρ σ m) : ∀ k, k ≤ n → LitsOk' X S ρ σ k := by
  intro k
  induction k with
  | zero =>
    intro hk es ds H Q h hN hO q
    cases es with
    | nil =>
      simp [litEs] at h
      subst h
      exact wa_nil (q [] H (Same.refl _) .nil)
    | cons e es => simp [litEs] at h
  | succ k IH =>
    intro hk es ds H Q h hN hO q
    cases es with
    | nil =>
      simp [litEs] at h
      subst h
      exact wa_nil (q [] H (Same.refl _) .nil)
    | cons e es =>
      simp only [litEs] at h
      cases h1 : litE ρ k e with
      | none => simp [h1] at h
      | some d => cases h2 : litEs ρ k es with
        | none => simp [h1, h2] at h
        | some ds' =>
          simp [h1, h2] at h
          subst h
          refine wa_cons (ih k (by omega) e d H _ h1 hN hO fun v H1 s1 g1 => ?_) (lit_star es h1)
          exact IH (by omega) es ds' H1 _ h2 (hN.same s1) (hO.same s1) fun vs H2 s2 g2 => q _ _ (s1.trans s2) (.cons (g1.mono (same_hid s2)) g2)
theorem lit_ok : ∀ n, LitOk X S ρ σ n := by
  intro n
  induction n using Nat.strongRecOn with
  | _ n IH =>
    intro e d H Q h hN hO q
    cases n with
    | zero => simp [litE] at h
    | succ n =>
      have more := lits_ok (n := n) (fun m hm => IH m (by omega)) n (Nat.le_refl _)
      cases e with
      | Constant c j p =>
        cases c with
        | str s => simp [litE] at h; subst h; exact we_str (q _ _ (Same.refl _) (.str s))
        | int i => simp [litE] at h; subst h; exact we_int (q _ _ (Same.refl _) (.int i))
        | bool b => simp [litE] at h; subst h; exact we_bl (q _ _ (Same.refl _) (.bl b))
        | none => simp [litE] at h; subst h; exact we_non (q _ _ (Same.refl _) .non)
        | _ => simp [litE] at h
      | Name x p =>
        simp only [litE, Option.map_eq_some_iff] at h
        obtain ⟨⟨i, d'⟩, h1, rfl⟩ := h
        obtain ⟨a1, a2, a3, a4, v, a5, a6⟩ := hN.at_ x i d' h1
        exact we_var i a1 a2 a5 (q _ _ (Same.refl _) a6) a3 a4
      | Tuple es j p =>
        simp only [litE] at h
        split at h
        · rename_i hl
          cases h2 : litEs ρ n es with
          | none => simp [h2] at h
          | some ds =>
            simp [h2] at h
            subst h
            have hlen := litEs_len ρ n es ds h2
            refine we_tupZ (more es ds H _ h2 hN hO fun vs H1 s1 g1 => ?_)
            have gl := g1.len
            refine ⟨by simp only [sizeLine]; omega, fun p o hp pl => ?_⟩
            have off := (hO.same s1).out hp
            refine q _ _ (s1.trans (Same.new hp)) (.tup ?_ pl (g1.mono (hid_new hp)))
            rw [hid_out off]
            exact upd_same
        · cases h
      | List es p =>
        simp only [litE] at h
        split at h
        · rename_i hl
          cases h2 : litEs ρ n es with
          | none => simp [h2] at h
          | some ds =>
            simp [h2] at h
            subst h
            have hlen := litEs_len ρ n es ds h2
            refine we_lst (more es ds H _ h2 hN hO fun vs H1 s1 g1 => ?_)
            have gl := g1.len
            refine ⟨by simp only [sizeLine]; omega, fun p hp => ?_⟩
            have off := (hO.same s1).out hp
            refine q _ _ (s1.trans (Same.new hp)) (.lst ?_ (g1.mono (hid_new hp)))
            rw [hid_out off]
            exact upd_same
        · cases h
      | _ => simp [litE] at h
/-- a display -/
theorem we_lit (n : Nat) (ρ : Str → Option (Nat × PyData)) (S : List Addr) {e : Expr} {d : PyData} {H : Hp} {Q : VK} (h : litE ρ n e = some d) (hN : NamesAt X S ρ σ H) (hO : Off S H) (q : ∀ v H', Same H H' → Dz (hid S H') v d → Q v H') : WE X e σ H Q :=
  lit_ok n e d H Q h hN hO q
theorem namesAt_none {H : Hp} : NamesAt X S (fun _ => none) σ H := ⟨fun x i d e => nomatch e⟩
end
end WP
end
section
set_option Elab.async false
set_option linter.all false
set_option maxRecDepth 100000
set_option maxHeartbeats 4000000
set_option pp.maxSteps 700
open PySem PySem.Spec PyProof.Rows L2 WP
/-! tactics of this text (parameterless words of the library, taken over locally) -/
/- k_places: Same; k_subL: data at a heap -/
local macro_rules | `(tactic| k_places) => `(tactic| first
  | assumption
  | exact Same.refl _
  | exact Same.new (by assumption)
  | (refine Same.trans ?_ (by assumption); k_places)
  | (refine Same.trans ?_ (Same.new (by assumption)); k_places))
local macro_rules | `(tactic| k_subL) => `(tactic| first
  | assumption
  | exact Dp.int _
  | exact Dp.str _
  | exact Dp.bl _
  | exact Dp.non
  | exact WP.dp_mono (by k_places) (by assumption))
/- k_clsL: how a name is seen -/
local macro_rules | `(tactic| k_clsL) => `(tactic| first
  | exact Or.inl rfl
  | exact Or.inr (Or.inl rfl)
  | exact Or.inr (Or.inr rfl) | exact Or.inr rfl)
/- l_intsC: a name of the def read; k_memK: a target; k_offL: a name stored; k_upd: a name counted up -/
local macro_rules | `(tactic| l_intsC) => `(tactic| first
  | refine WP.we_var 0 (by rfl) (by k_clsL) (by rfl) ?_
  | refine WP.we_var 1 (by rfl) (by k_clsL) (by rfl) ?_
  | refine WP.we_var 2 (by rfl) (by k_clsL) (by rfl) ?_
  | refine WP.we_var 3 (by rfl) (by k_clsL) (by rfl) ?_
  | refine WP.we_var 4 (by rfl) (by k_clsL) (by rfl) ?_
  | refine WP.we_var 5 (by rfl) (by k_clsL) (by rfl) ?_
  | refine WP.we_var 6 (by rfl) (by k_clsL) (by rfl) ?_
  | refine WP.we_var 7 (by rfl) (by k_clsL) (by rfl) ?_
  | refine WP.we_var 8 (by rfl) (by k_clsL) (by rfl) ?_
  | refine WP.we_var 9 (by rfl) (by k_clsL) (by rfl) ?_
  | refine WP.we_var 10 (by rfl) (by k_clsL) (by rfl) ?_
  | refine WP.we_var 11 (by rfl) (by k_clsL) (by rfl) ?_
  | refine WP.we_var 12 (by rfl) (by k_clsL) (by rfl) ?_
  | refine WP.we_var 13 (by rfl) (by k_clsL) (by rfl) ?_
  | refine WP.we_var 14 (by rfl) (by k_clsL) (by rfl) ?_
  | refine WP.we_var 15 (by rfl) (by k_clsL) (by rfl) ?_)
local macro_rules | `(tactic| k_memK) => `(tactic| first
  | exact pg_name (i := 0) (by assumption) (by rfl) (by k_clsL)
  | exact pg_name (i := 1) (by assumption) (by rfl) (by k_clsL)
  | exact pg_name (i := 2) (by assumption) (by rfl) (by k_clsL)
  | exact pg_name (i := 3) (by assumption) (by rfl) (by k_clsL)
  | exact pg_name (i := 4) (by assumption) (by rfl) (by k_clsL)
  | exact pg_name (i := 5) (by assumption) (by rfl) (by k_clsL)
  | exact pg_name (i := 6) (by assumption) (by rfl) (by k_clsL)
  | exact pg_name (i := 7) (by assumption) (by rfl) (by k_clsL)
  | exact pg_name (i := 8) (by assumption) (by rfl) (by k_clsL)
  | exact pg_name (i := 9) (by assumption) (by rfl) (by k_clsL)
  | exact pg_name (i := 10) (by assumption) (by rfl) (by k_clsL)
  | exact pg_name (i := 11) (by assumption) (by rfl) (by k_clsL)
  | exact pg_name (i := 12) (by assumption) (by rfl) (by k_clsL)
  | exact pg_name (i := 13) (by assumption) (by rfl) (by k_clsL)
  | exact pg_name (i := 14) (by assumption) (by rfl) (by k_clsL)
  | exact pg_name (i := 15) (by assumption) (by rfl) (by k_clsL)
  | (show PG _ (Expr.Tuple [_, _] _ _) _; exact pg_tup rfl (pgs_cons (by k_memK) (pgs_cons (by k_memK) pgs_nil)))
  | (show PG _ (Expr.Tuple [_, _, _] _ _) _; exact pg_tup rfl (pgs_cons (by k_memK) (pgs_cons (by k_memK) (pgs_cons (by k_memK) pgs_nil))))
  | (show PG _ (Expr.Tuple [_, _, _, _] _ _) _; exact pg_tup rfl (pgs_cons (by k_memK) (pgs_cons (by k_memK) (pgs_cons (by k_memK) (pgs_cons (by k_memK) pgs_nil))))))
local macro_rules | `(tactic| k_offL) => `(tactic| first
  | refine WP.ws_set 0 (by assumption) (by rfl) (by k_clsL) ?_
  | refine WP.ws_set 1 (by assumption) (by rfl) (by k_clsL) ?_
  | refine WP.ws_set 2 (by assumption) (by rfl) (by k_clsL) ?_
  | refine WP.ws_set 3 (by assumption) (by rfl) (by k_clsL) ?_
  | refine WP.ws_set 4 (by assumption) (by rfl) (by k_clsL) ?_
  | refine WP.ws_set 5 (by assumption) (by rfl) (by k_clsL) ?_
  | refine WP.ws_set 6 (by assumption) (by rfl) (by k_clsL) ?_
  | refine WP.ws_set 7 (by assumption) (by rfl) (by k_clsL) ?_
  | refine WP.ws_set 8 (by assumption) (by rfl) (by k_clsL) ?_
  | refine WP.ws_set 9 (by assumption) (by rfl) (by k_clsL) ?_
  | refine WP.ws_set 10 (by assumption) (by rfl) (by k_clsL) ?_
  | refine WP.ws_set 11 (by assumption) (by rfl) (by k_clsL) ?_
  | refine WP.ws_set 12 (by assumption) (by rfl) (by k_clsL) ?_
  | refine WP.ws_set 13 (by assumption) (by rfl) (by k_clsL) ?_
  | refine WP.ws_set 14 (by assumption) (by rfl) (by k_clsL) ?_
  | refine WP.ws_set 15 (by assumption) (by rfl) (by k_clsL) ?_)
local macro_rules | `(tactic| k_upd) => `(tactic| first
  | refine WP.ws_aug 0 (by assumption) (by rfl) (by k_clsL) ip_add (by rfl) ?_
  | refine WP.ws_aug 1 (by assumption) (by rfl) (by k_clsL) ip_add (by rfl) ?_
  | refine WP.ws_aug 2 (by assumption) (by rfl) (by k_clsL) ip_add (by rfl) ?_
  | refine WP.ws_aug 3 (by assumption) (by rfl) (by k_clsL) ip_add (by rfl) ?_
  | refine WP.ws_aug 4 (by assumption) (by rfl) (by k_clsL) ip_add (by rfl) ?_
  | refine WP.ws_aug 5 (by assumption) (by rfl) (by k_clsL) ip_add (by rfl) ?_
  | refine WP.ws_aug 6 (by assumption) (by rfl) (by k_clsL) ip_add (by rfl) ?_
  | refine WP.ws_aug 7 (by assumption) (by rfl) (by k_clsL) ip_add (by rfl) ?_
  | refine WP.ws_aug 8 (by assumption) (by rfl) (by k_clsL) ip_add (by rfl) ?_
  | refine WP.ws_aug 9 (by assumption) (by rfl) (by k_clsL) ip_add (by rfl) ?_
  | refine WP.ws_aug 10 (by assumption) (by rfl) (by k_clsL) ip_add (by rfl) ?_
  | refine WP.ws_aug 11 (by assumption) (by rfl) (by k_clsL) ip_add (by rfl) ?_
  | refine WP.ws_aug 12 (by assumption) (by rfl) (by k_clsL) ip_add (by rfl) ?_
  | refine WP.ws_aug 13 (by assumption) (by rfl) (by k_clsL) ip_add (by rfl) ?_
  | refine WP.ws_aug 14 (by assumption) (by rfl) (by k_clsL) ip_add (by rfl) ?_
  | refine WP.ws_aug 15 (by assumption) (by rfl) (by k_clsL) ip_add (by rfl) ?_)
/- k_all: steps and branches -/
local macro_rules | `(tactic| k_all) => `(tactic| repeat' first | keq_rows | refine WP.i_ite (fun _ => ?_) (fun _ => ?_))
/- keq_rows: one step; keq_hits: as many as go -/
local macro_rules | `(tactic| keq_rows) => `(tactic| (fail_if_success (with_reducible refine WP.i_ite (fun _ => ?_) (fun _ => ?_))); first
  | (show WP.WE _ (Expr.Name _ _) _ _ _; first | l_intsC | refine WP.we_gstr (by assumption) (by rfl) ?_ | refine WP.we_gint (by assumption) (by rfl) ?_ | refine WP.we_bty (by assumption) (by rfl) ?_)
  | refine WP.we_int ?_ | refine WP.we_str ?_ | refine WP.we_non ?_ | refine WP.we_bl ?_
  | refine WP.wa_cons ?_ | refine WP.wa_nil ?_
  | (show WP.WE _ (Expr.Call _ _ _ _) _ _ _; first
    | (show WP.WE _ (Expr.Call (Expr.Name _ _) _ _ _) _ _ _; first
      | refine WP.we_callB (WP.call_isiD) (by rfl) (by assumption) boot_isinstance ?_
      | refine WP.we_callB (WP.call_ln) (by rfl) (by assumption) PySem.boot_len ?_
      | refine WP.we_call' (by assumption) (Room.mono (by assumption) (by omega)) (by first | exact WP.pas_blk | exact WP.pas_of (by assumption) | exact WP.pas_no) (by rfl) ?_)
    | refine WP.we_append ?_ | refine WP.we_extend ?_ | refine WP.we_pop ?_
    | refine WP.we_meth (by assumption) (by assumption) (Room.mono (by assumption) (by omega)) (by first | exact WP.pas_blk | exact WP.pas_of (by assumption) | exact WP.pas_no) ?_)
  | refine WP.we_tup ?_ | refine WP.we_lst ?_ | refine WP.we_if ?_
  | refine WP.we_and ?_ | refine WP.we_or ?_ | refine WP.we_one ?_ | refine WP.we_not ?_
  | (show WP.WE _ (Expr.Compare _ _ _ _) _ _ _; first
    | (show WP.WE _ (Expr.Compare _ [CmpOp.LtE, CmpOp.LtE] _ _) _ _ _; refine WP.we_chain op_le op_le ?_)
    | (show WP.WE _ (Expr.Compare _ [CmpOp.Lt] _ _) _ _ _; refine WP.we_cmp op_lt (by rfl) ?_) | (show WP.WE _ (Expr.Compare _ [CmpOp.LtE] _ _) _ _ _; refine WP.we_cmp op_le (by rfl) ?_) | (show WP.WE _ (Expr.Compare _ [CmpOp.Gt] _ _) _ _ _; refine WP.we_cmp op_gt (by rfl) ?_) | (show WP.WE _ (Expr.Compare _ [CmpOp.GtE] _ _) _ _ _; refine WP.we_cmp op_ge (by rfl) ?_)
    | (show WP.WE _ (Expr.Compare _ [CmpOp.Is] _ _) _ _ _; refine WP.we_cmp WP.op_isNA (by rfl) ?_) | (show WP.WE _ (Expr.Compare _ [CmpOp.IsNot] _ _) _ _ _; refine WP.we_cmp WP.op_notNA (by rfl) ?_))
  | refine WP.wb_cons ?_ | refine WP.wb_one ?_ | refine WP.wb_nil ?_
  | (show WP.WS _ _ _ _ _; first
    | refine WP.ws_ret ?_ | refine WP.ws_if ?_ | refine WP.ws_expr ?_
    | k_offL | k_upd | (show WP.WS _ (Stmt.Assign [Expr.Tuple _ _ _] _ _) _ _ _; refine WP.ws_asg (by k_memK) ?_))
  | refine WP.wt_not ?_ | refine WP.wt_ww ?_ | refine WP.ww_and ?_ | refine WP.ww_or ?_ | refine WP.ww_and1 ?_ | refine WP.ww_or1 ?_
  | (show WP.rIsiD _ _ _ _; refine WP.i_isi (by k_subL) (by rfl) ?_) | with_reducible refine WP.i_bl ?_ | with_reducible refine WP.i_I0 ?_
  | (show WP.rLn _ _ _ _; refine WP.i_lenD (by k_subL) ?_)
  | with_reducible refine WP.i_isN ?_ | with_reducible refine WP.i_notN ?_
  | refine WP.i_ins (by assumption) (by exact rfl) ?_
  | (show ipI _ _ _ _ _; refine ⟨_, _, rfl, rfl, ?_⟩)
  | (show rU _ _ _ _; refine ⟨_, rfl, ?_⟩)
  | (show WP.WE _ (Expr.UnaryOp .USub _ _) _ _ _; refine WP.we_un un_neg ?_)
  | (show WP.WE _ (Expr.BinOp _ .Sub _ _) _ _ _; refine WP.we_op op_sub ?_)
  | (show WP.WT _ (Expr.Compare _ _ _ _) _ _ _; first
    | (show WP.WT _ (Expr.Compare _ [CmpOp.Lt] _ _) _ _ _; refine WP.wt_cmp op_lt (by rfl) ?_) | (show WP.WT _ (Expr.Compare _ [CmpOp.LtE] _ _) _ _ _; refine WP.wt_cmp op_le (by rfl) ?_) | (show WP.WT _ (Expr.Compare _ [CmpOp.Gt] _ _) _ _ _; refine WP.wt_cmp op_gt (by rfl) ?_) | (show WP.WT _ (Expr.Compare _ [CmpOp.GtE] _ _) _ _ _; refine WP.wt_cmp op_ge (by rfl) ?_)
    | (show WP.WT _ (Expr.Compare _ [CmpOp.Is] _ _) _ _ _; refine WP.wt_cmp WP.op_isNA (by rfl) ?_) | (show WP.WT _ (Expr.Compare _ [CmpOp.IsNot] _ _) _ _ _; refine WP.wt_cmp WP.op_notNA (by rfl) ?_))
  | (show WP.WT _ (Expr.Call _ _ _ _) _ _ _; refine WP.wt_val ?_)
  | (show WP.WT _ (Expr.Name _ _) _ _ _; refine WP.wt_val ?_))
local macro_rules | `(tactic| keq_hits) => `(tactic| repeat' keq_rows)
namespace K3
section
/-! ### the mirror: words, forms -/
def signs : Str := "abcdefghijklmnopqrstuvwxyz?*+-<=>!"
def nameS (s : Str) : Bool := decide (1 ≤ s.length) && decide (s.length ≤ 12) && s.cps.toList.all fun c => decide (c ∈ signs.cps.toList)
def wordS (s : Str) : Bool := nameS s || decide (s = "...") || decide (s = "_")
def isInteger : PyData → Bool
  | .int _ => true
  | _ => false
def isWithin (lo hi : Int) : PyData → Bool
  | .int i => decide (lo ≤ i) && decide (i ≤ hi)
  | _ => false
def isTuple (n : Int) : PyData → Bool
  | .tuple ds => decide ((ds.length : Int) = n)
  | _ => false
def isSized (lo hi : Int) : PyData → Bool
  | .tuple ds => decide (lo ≤ (ds.length : Int)) && decide ((ds.length : Int) ≤ hi)
  | _ => false
def isName : PyData → Bool
  | .str s => nameS s
  | _ => false
def isWord : PyData → Bool
  | .str s => wordS s
  | _ => false
theorem str_beq (a b : Str) : (a == b) = decide (b = a) := by
  by_cases h : b = a
  · subst h
    simp
  · have h' : ¬ a = b := fun z => h z.symm
    simp [h, h']
theorem nameS_eq (z : Str) : nameS z = (decide ((1 : Int) ≤ (z.length : Int)) && decide ((z.length : Int) ≤ 12) && z.cps.toList.all fun c => decide (c ∈ signs.cps.toList)) := by
  have e1 : decide ((1 : Int) ≤ (z.length : Int)) = decide (1 ≤ z.length) := decide_eq_decide.mpr (by omega)
  have e2 : decide ((z.length : Int) ≤ 12) = decide (z.length ≤ 12) := decide_eq_decide.mpr (by omega)
  rw [nameS, e1, e2]
mutual
def formB : PyData → Bool
  | .int i => decide (-1000000000 ≤ i) && decide (i ≤ 1000000000)
  | .str s => wordS s
  | .tuple ds => formBs ds
  | _ => false
def formBs : List PyData → Bool
  | [] => true
  | d :: ds => formB d && formBs ds
end
mutual
def dsize : PyData → Nat
  | .tuple ds => dsizes ds + 1
  | _ => 1
def dsizes : List PyData → Nat
  | [] => 0
  | d :: ds => dsize d + dsizes ds
end
mutual
def ddep : PyData → Nat
  | .tuple ds => ddeps ds + 1
  | _ => 1
def ddeps : List PyData → Nat
  | [] => 0
  | d :: ds => max (ddep d) (ddeps ds)
end
/-! texts are of ordinary length -/
mutual
def smallD : PyData → Bool
  | .str s => decide (s.length ≤ 1000)
  | .tuple ds => smallDs ds
  | .list ds => smallDs ds
  | _ => true
def smallDs : List PyData → Bool
  | [] => true
  | d :: ds => smallD d && smallDs ds
end
theorem formBs_append (a b : List PyData) : formBs (a ++ b) = (formBs a && formBs b) := by
  induction a with
  | nil => simp [formBs]
  | cons x a ih => simp [formBs, ih, Bool.and_assoc]
theorem dsizes_append (a b : List PyData) : dsizes (a ++ b) = dsizes a + dsizes b := by
  induction a with
  | nil => simp [dsizes]
  | cons x a ih => simp [dsizes, ih]; omega
theorem dsize_pos : ∀ d, 1 ≤ dsize d := fun d => by cases d <;> simp [dsize]
theorem ddep_pos : ∀ d, 1 ≤ ddep d := fun d => by cases d <;> simp [ddep]
theorem ddeps_le {ds : List PyData} {d : PyData} (h : d ∈ ds) : ddep d ≤ ddeps ds := by
  induction ds with
  | nil => cases h
  | cons x ds ih =>
    simp only [ddeps]
    rcases List.mem_cons.mp h with rfl | h
    · exact Nat.le_max_left _ _
    · exact Nat.le_trans (ih h) (Nat.le_max_right _ _)
theorem smallDs_mem {ds : List PyData} {d : PyData} (h : smallDs ds = true) (hd : d ∈ ds) : smallD d = true := by
  induction ds with
  | nil => cases hd
  | cons x ds ih =>
    simp only [smallDs, Bool.and_eq_true] at h
    rcases List.mem_cons.mp hd with rfl | hd
    · exact h.1
    · exact ih h.2 hd
end
section
def top (i : Nat) : Stmt := PySem.Challenge.pw_owntexts_k03_whole_patterns.main.body.getD i (.Pass ⟨0, 0, 0, 0⟩)
abbrev FnP (K : PySem.W.Frag) (x : Str) (i : Nat) (f : Addr) (fd : FuncData) : Prop := FunD K x x (defArgs (top i)) (defBody (top i)) (defScope (top i)) [] [] f fd
section
variable {P : Program} {w : World} {K : PySem.W.Frag} {mg : Str → Option Value} {base : Heap} {f : Addr} {fd : FuncData}
def sp_is_integer (K : PySem.W.Frag) : Sp := fun vs H Q _ => ∃ v d, vs = [v] ∧ Dp K H v d ∧ ∀ H', Same H H' → Q (.bl (isInteger d)) H'
theorem sc13 : FnScope ["thing"] ["thing"] (defScope (top 13)) := ⟨rfl, rfl, rfl, by decide +kernel, rfl, by decide +kernel, by decide +kernel⟩
theorem ok_is_integer (F : FnP K "is_integer" 13 f fd) (hm : mg "is_integer" = some (.ref f)) (mi : mg "isinstance" = none) (mint : BTy mg "int" "int") (mb : BTy mg "bool" "bool") : Def P w K mg base 1 "is_integer" (sp_is_integer K) := by
  refine Def.mk' F hm sc13 (fun vs H Q E h => ?_) (fun _ _ _ _ _ _ us hl => match us, hl with | [_], _ => rfl) (fun cdv A outer s H vs Q E hr tk h => ?_)
  · obtain ⟨v, d, rfl, _⟩ := h
    rfl
  · obtain ⟨v, d, rfl, hd, q⟩ := h
    have nd := sc13.nd
    keq_hits
    refine i_ite (fun e => ?_) (fun e => ?_)
    · keq_hits
      exact fin_bl (q _ (Same.refl _)) (by cases d <;> simp_all [isInteger, dInt, dBool])
    · exact fin_bl (q _ (Same.refl _)) (by cases d <;> simp_all [isInteger, dInt, dBool])
def sp_is_within (K : PySem.W.Frag) : Sp := fun vs H Q _ => ∃ v d lo hi, vs = [v, .int lo, .int hi] ∧ Dp K H v d ∧ ∀ H', Same H H' → Q (.bl (isWithin lo hi d)) H'
theorem sc14 : FnScope ["thing", "least", "most"] ["thing", "least", "most"] (defScope (top 14)) := ⟨rfl, rfl, rfl, by decide +kernel, rfl, by decide +kernel, by decide +kernel⟩
theorem ok_is_within (F : FnP K "is_within" 14 f fd) (hm : mg "is_within" = some (.ref f)) (D : Def P w K mg base 1 "is_integer" (sp_is_integer K)) : Def P w K mg base 2 "is_within" (sp_is_within K) := by
  refine Def.mk' F hm sc14 (fun vs H Q E h => ?_) (fun _ _ _ _ _ _ us hl => match us, hl with | [_, _, _], _ => rfl) (fun cdv A outer s H vs Q E hr tk h => ?_)
  · obtain ⟨v, d, lo, hi, rfl, _⟩ := h
    rfl
  · obtain ⟨v, d, lo, hi, rfl, hd, q⟩ := h
    have nd := sc14.nd
    keq_hits
    refine ⟨v, d, rfl, hd, fun H1 s1 => ?_⟩
    keq_hits
    refine i_ite (fun e => ?_) (fun e => ?_)
    · obtain ⟨i, rfl⟩ : ∃ i, d = .int i := by cases d <;> first | exact ⟨_, rfl⟩ | cases e
      cases dp_int hd
      keq_hits
      refine i_ite (fun e => ?_) (fun e => ?_)
      · keq_hits
        exact fin_bl (q _ s1) (by simp only [isWithin, e, Bool.true_and])
      · exact fin_bl (q _ s1) (by simp only [isWithin, e, Bool.false_and])
    · exact fin_bl (q _ s1) (by cases d <;> simp_all [isWithin, isInteger])
def sp_is_name (K : PySem.W.Frag) : Sp := fun vs H Q _ => ∃ v d, vs = [v] ∧ Dp K H v d ∧ smallD d = true ∧ ∀ H', Same H H' → Q (.bl (isName d)) H'
theorem sc17 : FnScope ["thing", "sign"] ["thing"] (defScope (top 17)) := ⟨rfl, rfl, rfl, by decide +kernel, rfl, by decide +kernel, by decide +kernel⟩
theorem ok_is_name (F : FnP K "is_name" 17 f fd) (hm : mg "is_name" = some (.ref f)) (mi : mg "isinstance" = none) (ml : mg "len" = none) (ma : mg "all" = none) (mS : ∃ t, mg "SIGNS" = some (.str signs t)) (mint : BTy mg "str" "str") : Def P w K mg base 1 "is_name" (sp_is_name K) := by
  refine Def.mk' F hm sc17 (fun vs H Q E h => ?_) (fun _ _ _ _ _ _ us hl => match us, hl with | [_], _ => rfl) (fun cdv A outer s H vs Q E hr tk h => ?_)
  · obtain ⟨v, d, rfl, _⟩ := h
    rfl
  · obtain ⟨v, d, rfl, hd, hz, q⟩ := h
    have nd := sc17.nd
    keq_hits
    refine i_ite (fun e => ?_) (fun e => ?_)
    · obtain ⟨z, rfl⟩ := dStr_of e
      cases dp_str hd
      have hz' : z.length ≤ 1000 := by simpa [smallD] using hz
      keq_hits
      refine i_lenS (Nat.le_trans hz' (by decide)) ?_
      keq_hits
      refine i_ite (fun e1 => ?_) (fun e1 => ?_)
      · keq_hits
        refine i_ite (fun e2 => ?_) (fun e2 => ?_)
        · keq_hits
          refine we_callB (cr_all rfl) (by rfl) (by assumption) boot_all ?_
          keq_hits
          refine we_lc rfl rfl tk rfl nd (pi_str pe) (blkOk_by (N := ["thing", "sign"]) (sc := defScope (top 17)) (own := [("sign", 1)]) (by decide +kernel)) (fun _ _ _ _ _ => by k_memK) ?_
          show WP.WE _ _ _ _ _
          keq_hits
          have hzl : z.cps.size ≤ 1000 := hz'
          refine ⟨z, rfl, fun D hD => lc_R (fun i _ v => v = .bl ((z.cps[i]?.map fun c => decide (c ∈ signs.cps.toList)).getD false)) stay_val walk_str (Nat.lt_of_le_of_lt hzl (by decide)) hD (fun _ _ => trivial) ?_ teW_mono gName_mono fun H1 acc s1 hl ha hR => ?_⟩
          · rintro i x H1 H2 hi s1 ⟨rfl, c, hc, rfl⟩
            refine ⟨rfl, fun s0 H0 C cl fp => ?_⟩
            refine we_cmp op_in_sign rfl ?_
            keq_hits
            exact ⟨c, signs, rfl, rfl, Same.refl _, by rw [hc]; rfl⟩
          · keq_hits
            have ea : acc = (z.cps.toList.map fun c => decide (c ∈ signs.cps.toList)).map V.bl := by
              apply List.ext_getElem?
              intro i
              by_cases hi : i < acc.length
              · rw [List.getElem?_eq_getElem hi, hR i _ (List.getElem?_eq_getElem hi)]
                have hi' : i < z.cps.size := by omega
                simp [hi']
              · rw [List.getElem?_eq_none (by omega), List.getElem?_eq_none (by simp; omega)]
            refine ⟨D, z.cps.toList.map fun c => decide (c ∈ signs.cps.toList), rfl, SqL.of (by rw [hl, ea]), ?_⟩
            refine fin_bl (q _ s1) ?_
            simp only [isName, nameS_eq, e1, e2, Bool.true_and, List.all_map]
            rfl
        · keq_hits
          exact fin_bl (q _ (Same.refl _)) (by simp only [isName, nameS_eq, e1, e2, Bool.true_and, Bool.false_and])
      · keq_hits
        refine i_iff rfl ?_
        exact fin_bl (q _ (Same.refl _)) (by simp only [isName, nameS_eq, e1, Bool.false_and])
    · exact fin_bl (q _ (Same.refl _)) (by cases d <;> simp_all [isName, dStr])
def sp_is_tuple (K : PySem.W.Frag) : Sp := fun vs H Q _ => ∃ v d n, vs = [v, .int n] ∧ Dp K H v d ∧ ∀ H', Same H H' → Q (.bl (isTuple n d)) H'
theorem sc15 : FnScope ["thing", "many"] ["thing", "many"] (defScope (top 15)) := ⟨rfl, rfl, rfl, by decide +kernel, rfl, by decide +kernel, by decide +kernel⟩
theorem ok_is_tuple (F : FnP K "is_tuple" 15 f fd) (hm : mg "is_tuple" = some (.ref f)) (mi : mg "isinstance" = none) (ml : mg "len" = none) (mt : BTy mg "tuple" "tuple") : Def P w K mg base 1 "is_tuple" (sp_is_tuple K) := by
  refine Def.mk' F hm sc15 (fun vs H Q E h => ?_) (fun _ _ _ _ _ _ us hl => match us, hl with | [_, _], _ => rfl) (fun cdv A outer s H vs Q E hr tk h => ?_)
  · obtain ⟨v, d, n, rfl, _⟩ := h
    rfl
  · obtain ⟨v, d, n, rfl, hd, q⟩ := h
    have nd := sc15.nd
    keq_hits
    refine i_ite (fun e => ?_) (fun e => ?_)
    · obtain ⟨ds, rfl⟩ := dTup_of e
      keq_hits
      refine we_cmp op_eq rfl ?_
      keq_hits
      refine ⟨rfl, fin_bl (q _ (Same.refl _)) ?_⟩
      simp only [isTuple, V.int.injEq]
    · exact fin_bl (q _ (Same.refl _)) (by cases d <;> simp_all [isTuple, dTup])
def sp_is_sized (K : PySem.W.Frag) : Sp := fun vs H Q _ => ∃ v d lo hi, vs = [v, .int lo, .int hi] ∧ Dp K H v d ∧ ∀ H', Same H H' → Q (.bl (isSized lo hi d)) H'
theorem sc16 : FnScope ["thing", "least", "most"] ["thing", "least", "most"] (defScope (top 16)) := ⟨rfl, rfl, rfl, by decide +kernel, rfl, by decide +kernel, by decide +kernel⟩
theorem ok_is_sized (F : FnP K "is_sized" 16 f fd) (hm : mg "is_sized" = some (.ref f)) (mi : mg "isinstance" = none) (ml : mg "len" = none) (mt : BTy mg "tuple" "tuple") : Def P w K mg base 1 "is_sized" (sp_is_sized K) := by
  refine Def.mk' F hm sc16 (fun vs H Q E h => ?_) (fun _ _ _ _ _ _ us hl => match us, hl with | [_, _, _], _ => rfl) (fun cdv A outer s H vs Q E hr tk h => ?_)
  · obtain ⟨v, d, lo, hi, rfl, _⟩ := h
    rfl
  · obtain ⟨v, d, lo, hi, rfl, hd, q⟩ := h
    have nd := sc16.nd
    keq_hits
    refine i_ite (fun e => ?_) (fun e => ?_)
    · obtain ⟨ds, rfl⟩ := dTup_of e
      keq_hits
      refine i_ite (fun e1 => ?_) (fun e1 => ?_)
      · keq_hits
        exact fin_bl (q _ (Same.refl _)) (by simp only [isSized, e1, Bool.true_and])
      · exact fin_bl (q _ (Same.refl _)) (by simp only [isSized, e1, Bool.false_and])
    · exact fin_bl (q _ (Same.refl _)) (by cases d <;> simp_all [isSized, dTup])
def sp_is_word (K : PySem.W.Frag) : Sp := fun vs H Q _ => ∃ v d, vs = [v] ∧ Dp K H v d ∧ smallD d = true ∧ ∀ H', Same H H' → Q (.bl (isWord d)) H'
theorem sc18 : FnScope ["thing"] ["thing"] (defScope (top 18)) := ⟨rfl, rfl, rfl, by decide +kernel, rfl, by decide +kernel, by decide +kernel⟩
theorem ok_is_word (F : FnP K "is_word" 18 f fd) (hm : mg "is_word" = some (.ref f)) (mi : mg "isinstance" = none) (mint : BTy mg "str" "str") (mR : ∃ t, mg "REPEAT" = some (.str "..." t)) (mA : ∃ t, mg "ANY" = some (.str "_" t)) (D : Def P w K mg base 1 "is_name" (sp_is_name K)) : Def P w K mg base 2 "is_word" (sp_is_word K) := by
  refine Def.mk' F hm sc18 (fun vs H Q E h => ?_) (fun _ _ _ _ _ _ us hl => match us, hl with | [_], _ => rfl) (fun cdv A outer s H vs Q E hr tk h => ?_)
  · obtain ⟨v, d, rfl, _⟩ := h
    rfl
  · obtain ⟨v, d, rfl, hd, hz, q⟩ := h
    have nd := sc18.nd
    keq_hits
    refine ⟨v, d, rfl, hd, hz, fun H1 s1 => ?_⟩
    keq_hits
    refine i_ite (fun e => ?_) (fun e => ?_)
    · exact fin_bl (q _ s1) (by cases d <;> simp_all [isWord, isName, wordS])
    · keq_hits
      refine i_ite (fun e1 => ?_) (fun e1 => ?_)
      · obtain ⟨z, rfl⟩ := dStr_of e1
        cases dp_str hd
        keq_hits
        refine we_cmp op_in_seq rfl ?_
        keq_hits
        refine ⟨by decide, fun p hp => ⟨p, _, rfl, .inr (SqT.of upd_same), rfl, rfl, fin_bl (q _ (s1.trans (Same.new hp))) ?_⟩⟩
        simp only [isName] at e
        simp only [isWord, wordS, e, Bool.false_or, inV, List.any_cons, List.any_nil, Bool.or_false, eqV]
        rw [if_neg Bool.false_ne_true, str_beq, str_beq]
      · exact fin_bl (q _ s1) (by cases d <;> simp_all [isWord, dStr])
end
end
section
section
variable {P : Program} {w : World} {K : PySem.W.Frag} {mg : Str → Option Value} {base : Heap} {f : Addr} {fd : FuncData}
/-- what waits: the pair at a, of the thing v (d) and its depth k -/
structure En where
  a : Addr
  v : V
  d : PyData
  k : Nat
structure EnOk (K : PySem.W.Frag) (H H' : Hp) (e : En) : Prop where
  tu : H' e.a = some (.tup [e.v, .int (e.k : Int)])
  dp : Dp K H e.v e.d
def EnIn (e : En) : Prop := smallD e.d = true ∧ e.k + ddep e.d ≤ 41
def esz (es : List En) : Nat := (es.map fun e => dsize e.d).sum
def many2 (σ : L2.St) : Nat := match σ[2]? with
  | some (some (V.int i)) => (3001 - i).toNat
  | _ => 0
def sp_is_form (K : PySem.W.Frag) : Sp := fun vs H Q _ => ∃ v d, vs = [v] ∧ Dp K H v d ∧ smallD d = true ∧ dsize d ≤ 3000 ∧ ddep d ≤ 40 ∧ ∀ H', Same H H' → Q (.bl (formB d)) H'
theorem sc19 : FnScope ["thing", "waiting", "many", "here", "deep", "part"] ["thing"] (defScope (top 19)) := ⟨rfl, rfl, rfl, by decide +kernel, rfl, by decide +kernel, by decide +kernel⟩
theorem enOk_upd {H H' : Hp} {l : Addr} {xs ys : List V} {e : En} (h : EnOk K H H' e) (hl : H' l = some (.lst xs)) : EnOk K H (upd H' l (.lst ys)) e :=
  ⟨by rw [upd_ne (ne_of h.tu hl (fun z => nomatch z))]; exact h.tu, h.dp⟩
theorem enOk_same {H H' H2 : Hp} {e : En} (h : EnOk K H H' e) (s : Same H' H2) : EnOk K H H2 e := ⟨s _ _ h.tu, h.dp⟩
theorem esz_append (a b : List En) : esz (a ++ b) = esz a + esz b := by simp [esz]
theorem ens_of {H H' : Hp} {k : Nat} : ∀ {xs : List V} {ds : List PyData}, DpAll K H xs ds → ∀ acc : List V, acc.length = xs.length → (∀ i v, acc[i]? = some v → ∃ p, v = .ref p ∧ H' p = some (.tup [xs.getD i .non, .int (k : Int)])) →
    ∃ es : List En, (es.map fun e => V.ref e.a) = acc ∧ (∀ e ∈ es, EnOk K H H' e ∧ e.k = k ∧ e.d ∈ ds) ∧ es.map (·.d) = ds
  | [], [], .nil, acc, hl, _ => ⟨[], by rw [List.length_eq_zero_iff.mp hl]; rfl, (fun _ z => absurd z (by simp)), rfl⟩
  | x :: xs, d :: ds, .cons hx h, [], hl, _ => nomatch hl
  | x :: xs, d :: ds, .cons hx h, y :: acc, hl, hR => by
    obtain ⟨p, rfl, hp⟩ := hR 0 y rfl
    obtain ⟨es, e1, e2, e3⟩ := ens_of h acc (by simpa using hl) fun i v e => hR (i + 1) v (by simpa using e)
    refine ⟨⟨p, x, d, k⟩ :: es, by simp [e1], fun e he => ?_, by simp [e3]⟩
    rcases List.mem_cons.mp he with rfl | he
    · exact ⟨⟨hp, hx⟩, rfl, by simp⟩
    · obtain ⟨a, b, c⟩ := e2 e he
      exact ⟨a, b, List.mem_cons_of_mem _ c⟩
theorem esz_map {es : List En} {ds : List PyData} (h : es.map (·.d) = ds) : esz es = dsizes ds := by
  subst h
  induction es with
  | nil => rfl
  | cons e es ih => simpa [esz, dsizes] using ih
theorem all_map {es : List En} {ds : List PyData} (h : es.map (·.d) = ds) : (es.all fun e => formB e.d) = formBs ds := by
  subst h
  induction es with
  | nil => rfl
  | cons e es ih => simp [formBs, ih]
theorem dsizes_len : ∀ ds : List PyData, ds.length ≤ dsizes ds
  | [] => Nat.le_refl _
  | d :: ds => by
    have h1 := dsizes_len ds
    have h2 := dsize_pos d
    simp only [List.length_cons, dsizes]
    omega
theorem esz_len : ∀ es : List En, es.length ≤ esz es
  | [] => Nat.le_refl _
  | e :: es => by
    have h1 := esz_len es
    have h2 := dsize_pos e.d
    have : esz (e :: es) = dsize e.d + esz es := rfl
    simp only [List.length_cons]
    omega
theorem formB_leaf {d : PyData} (h : dTup d = false) : formB d = (isWord d || isWithin (-1000000000) 1000000000 d) := by
  cases d <;> simp_all [formB, isWord, isWithin, dTup]
theorem ok_is_form (F : FnP K "is_form" 19 f fd) (hm : mg "is_form" = some (.ref f)) (mi : mg "isinstance" = none) (ml : mg "len" = none) (mt : BTy mg "tuple" "tuple")
    (mP : ∃ t, mg "MOST_PARTS" = some (.int 3000 t)) (mD : ∃ t, mg "MOST_DEEP" = some (.int 40 t)) (mI : ∃ t, mg "MOST_INT" = some (.int 1000000000 t))
    (DW : Def P w K mg base 2 "is_word" (sp_is_word K)) (DI : Def P w K mg base 2 "is_within" (sp_is_within K)) : Def P w K mg base 3 "is_form" (sp_is_form K) := by
  refine Def.mk' F hm sc19 (fun vs H Q E h => ?_) (fun _ _ _ _ _ _ us hl => match us, hl with | [_], _ => rfl) (fun cdv A outer s H vs Q E hr tk h => ?_)
  · obtain ⟨v, d, rfl, _⟩ := h
    rfl
  · obtain ⟨v, d, rfl, hd, hz, hsz, hdp, q⟩ := h
    have nd := sc19.nd
    -- waiting, many = [(thing, 1)], 0
    refine wb_cons (ws_par 1 2 rfl nd rfl rfl (by decide) rfl rfl (by rfl) ?_)
    keq_hits
    refine ⟨by show 2 ≤ sizeLine; decide, fun p hp => ?_⟩
    keq_hits
    refine ⟨by show 1 ≤ sizeLine; decide, fun l hl => ?_⟩
    keq_hits
    have hp0 : H p = none := hp
    have hl0 : H l = none := by
      by_cases z : l = p
      · rw [z]; exact hp
      · rwa [upd_ne z] at hl
    have lp : l ≠ p := fun z => by rw [z, upd_same] at hl; cases hl
    -- while len(waiting) > 0
    refine ws_whileI passes_bx (fun σ H' => ∃ (es : List En) (m : Nat) (hv dv pv : Option V), σ = [some v, some (.ref l), some (.int (m : Int)), hv, dv, pv] ∧ Same H H' ∧ H' l = some (.lst (es.map fun e => V.ref e.a)) ∧
      (∀ e ∈ es, EnOk K H H' e ∧ EnIn e) ∧ m + esz es ≤ 3000 ∧ formB d = es.all fun e => formB e.d) (fun σ _ => many2 σ) ?_ ?_
    · refine ⟨[⟨p, v, d, 1⟩], 0, none, none, none, rfl, (Same.new hp).trans (Same.new hl), upd_same, ?_, ?_, ?_⟩
      · intro e he
        rw [List.mem_singleton.mp he]
        exact ⟨⟨by rw [upd_ne (Ne.symm lp), upd_same]; rfl, hd⟩, hz, by show 1 + ddep d ≤ 41; omega⟩
      · show 0 + (dsize d + 0) ≤ 3000
        omega
      · simp
    · rintro σ H1 ⟨es, m, hv, dv, pv, rfl, s1, hl1, hes, hm1, hf⟩
      keq_hits
      refine i_lenLt hl1 ?_
      keq_hits
      refine i_ite (fun e => ?_) (fun e => ?_)
      · obtain ⟨es', en, rfl⟩ : ∃ es' en, es = es' ++ [en] := by
          rcases List.eq_nil_or_concat es with rfl | ⟨es', en, h⟩
          · simp at e
          · exact ⟨es', en, by simpa using h⟩
        have hen := hes en (by simp)
        -- here, deep = waiting.pop()
        keq_hits
        have hl2 : H1 l = some (.lst ((es'.map fun e => V.ref e.a) ++ [V.ref en.a])) := by rw [hl1]; simp
        refine i_lstT hl1 (i_pop hl2 ?_)
        have s2 : Same H (upd H1 l (.lst (es'.map fun e => V.ref e.a))) := s1.mut hl0
        have hl3 : upd H1 l (.lst (es'.map fun e => V.ref e.a)) l = some (.lst (es'.map fun e => V.ref e.a)) := upd_same
        have hes3 : ∀ e ∈ es', EnOk K H (upd H1 l (.lst (es'.map fun e => V.ref e.a))) e ∧ EnIn e := fun e he => ⟨enOk_upd (hes e (by simp [he])).1 hl1, (hes e (by simp [he])).2⟩
        have ten := (enOk_upd (ys := es'.map fun e => V.ref e.a) hen.1 hl1).tu
        have dp0 := hen.1.dp
        obtain ⟨sz0, de0⟩ := hen.2
        rw [esz_append] at hm1
        have hm1 : m + (esz es' + (dsize en.d + 0)) ≤ 3000 := hm1
        have dpos := dsize_pos en.d
        have kpos := ddep_pos en.d
        generalize upd H1 l (.lst (es'.map fun e => V.ref e.a)) = H3 at s2 hl3 hes3 ten ⊢
        refine i_two (SqT.of ten) ?_
        keq_hits
        have e30 : decide ((3000 : Int) < (m : Int) + 1) = false := decide_eq_false (by omega)
        have e40 : decide ((40 : Int) < (en.k : Int)) = false := decide_eq_false (by omega)
        refine i_iff e30 ?_
        keq_hits
        refine i_iff e40 ?_
        keq_hits
        refine i_ite (fun e1 => ?_) (fun e1 => ?_)
        · obtain ⟨ds, hds⟩ := dTup_of e1
          obtain ⟨a, xs, ea, hx, hxs⟩ := dp_tup (hds ▸ dp0)
          rw [ea]
          keq_hits
          have hx3 : SqT K H3 a xs := Same.tup s2 hx
          have dsz : dsize en.d = dsizes ds + 1 := by rw [hds]; rfl
          have ddp : ddep en.d = ddeps ds + 1 := by rw [hds]; rfl
          have hsm : smallDs ds = true := by rw [hds] at sz0; exact sz0
          have hlen := dpAll_len hxs
          have hl1s := dsizes_len ds
          have hl2s := esz_len es'
          refine i_lstT hl3 ?_
          keq_hits
          refine we_lc rfl rfl tk rfl nd (pi_tup pe) (blkOk_by (N := ["thing", "waiting", "many", "here", "deep", "part"]) (sc := defScope (top 19)) (own := [("part", 5)]) (by decide +kernel)) (fun _ _ _ _ _ => by k_memK) ?_
          show WP.WE _ _ _ _ _
          keq_hits
          refine ⟨a, rfl, ⟨xs, hx3⟩, fun D hD => lc_R (fun i H v => ∃ p, v = .ref p ∧ H p = some (.tup [xs.getD i .non, .int ((en.k + 1 : Nat) : Int)])) stay_tup walk_tup (by show xs.length < 16777216; omega) hD (fun H s => s.tup hx3) ?_ teW_mono gName_mono fun H4 acc s4 hl ha hR => ?_⟩
          · rintro i x H5 H6 hi s5 ⟨rfl, hxi⟩
            refine ⟨rfl, fun s0 H0 C cl fp => ?_⟩
            refine we_tup (wa_cons ?_)
            keq_hits
            refine we_op op_add ?_
            keq_hits
            refine ⟨by show 2 ≤ sizeLine; decide, fun p hp => ⟨Same.new hp, p, rfl, ?_⟩⟩
            rw [upd_same, List.getD_eq_getElem?_getD, hxi]
            rfl
          · keq_hits
            obtain ⟨es2, e2a, e2b, e2c⟩ := ens_of hxs acc (by omega) hR
            have hl4 := s4 _ _ hl3
            refine i_extend hl4 hl (by show _ ≤ 16777216; simp; omega) ?_
            keq_hits
            have hzs := esz_map e2c
            refine ⟨⟨es' ++ es2, m + 1, _, _, _, rfl, (s2.trans s4).mut hl0, by rw [upd_same, ← e2a, List.map_append], fun e he => ?_, by rw [esz_append, hzs]; omega, ?_⟩, ?_⟩
            · rcases List.mem_append.mp he with he | he
              · exact ⟨enOk_upd (enOk_same (hes3 e he).1 s4) hl4, (hes3 e he).2⟩
              · obtain ⟨o1, o2, o3⟩ := e2b e he
                have := ddeps_le o3
                exact ⟨enOk_upd o1 hl4, smallDs_mem hsm o3, by rw [o2]; omega⟩
            · rw [hf, List.all_append, List.all_append, all_map e2c]
              simp [hds, formB]
            · show (3001 - ((m : Int) + 1)).toNat < (3001 - (m : Int)).toNat
              omega
        · keq_hits
          have fl := formB_leaf e1
          have dp3 := WP.dp_mono s2 dp0
          refine ⟨_, _, rfl, dp3, sz0, fun H4 s4 => ?_⟩
          keq_hits
          have nxt : ∀ H5, Same H3 H5 → formB en.d = true → ∃ (es : List En) (m' : Nat) (hv' dv' pv' : Option V), [some v, some (.ref l), some (.int ((m : Int) + 1)), some en.v, some (.int (en.k : Int)), pv] = [some v, some (.ref l), some (.int (m' : Int)), hv', dv', pv'] ∧ Same H H5 ∧ H5 l = some (.lst (es.map fun e => V.ref e.a)) ∧
              (∀ e ∈ es, EnOk K H H5 e ∧ EnIn e) ∧ m' + esz es ≤ 3000 ∧ formB d = es.all fun e => formB e.d := fun H5 s5 ht =>
            ⟨es', m + 1, _, _, _, rfl, s2.trans s5, s5 _ _ hl3, fun e he => ⟨enOk_same (hes3 e he).1 s5, (hes3 e he).2⟩, by omega, by rw [hf]; simp [ht]⟩
          have lt : (3001 - ((m : Int) + 1)).toNat < (3001 - (m : Int)).toNat := by omega
          refine i_ite (fun e2 => ?_) (fun e2 => ?_)
          · keq_hits
            refine ⟨_, _, _, _, rfl, WP.dp_mono s4 dp3, fun H5 s5 => ?_⟩
            keq_hits
            refine i_ite (fun e3 => ?_) (fun e3 => ?_)
            · keq_hits
              refine fin_bl (q _ (s2.trans (s4.trans s5))) ?_
              have ff : formB en.d = false := by rw [fl]; simp_all
              rw [hf, List.all_append]
              simp [ff]
            · keq_hits
              exact ⟨nxt _ (s4.trans s5) (by rw [fl]; simp_all), lt⟩
          · keq_hits
            refine i_iff rfl ?_
            keq_hits
            exact ⟨nxt _ s4 (by rw [fl]; simp_all), lt⟩
      · have : es = [] := by
          cases es with
          | nil => rfl
          | cons x r => simp at e
        subst this
        keq_hits
        exact fin_bl (q _ s1) (by rw [hf]; rfl)
def sp_check_form (K : PySem.W.Frag) : Sp := fun vs H Q _ => ∃ v d, vs = [v] ∧ Dp K H v d ∧ smallD d = true ∧ dsize d ≤ 3000 ∧ ddep d ≤ 40 ∧ formB d = true ∧ ∀ H', Same H H' → Q .non H'
theorem sc20 : FnScope ["thing"] ["thing"] (defScope (top 20)) := ⟨rfl, rfl, rfl, by decide +kernel, rfl, by decide +kernel, by decide +kernel⟩
theorem ok_check_form (F : FnP K "check_form" 20 f fd) (hm : mg "check_form" = some (.ref f)) (D : Def P w K mg base 3 "is_form" (sp_is_form K)) : Def P w K mg base 4 "check_form" (sp_check_form K) := by
  refine Def.mk' F hm sc20 (fun vs H Q E h => ?_) (fun _ _ _ _ _ _ us hl => match us, hl with | [_], _ => rfl) (fun cdv A outer s H vs Q E hr tk h => ?_)
  · obtain ⟨v, d, rfl, _⟩ := h
    rfl
  · obtain ⟨v, d, rfl, hd, hz, h1, h2, hf, q⟩ := h
    have nd := sc20.nd
    keq_hits
    refine ⟨_, _, rfl, hd, hz, h1, h2, fun H1 s1 => ?_⟩
    keq_hits
    refine i_iff (by rw [hf]; rfl) ?_
    keq_hits
    exact q _ s1
end
end
section
def inCls : Stmt → List Stmt
  | .ClassDef (body := b) .. => b
  | _ => []
def mth (i j : Nat) : Stmt := (inCls (top i)).getD j (.Pass ⟨0, 0, 0, 0⟩)
abbrev FnM (K : PySem.W.Frag) (q x : Str) (i j : Nat) (f : Addr) (fd : FuncData) : Prop := FunD K x q (defArgs (mth i j)) (defBody (mth i j)) (defScope (mth i j)) [] [] f fd
section
variable {P : Program} {w : World} {K : PySem.W.Frag} {mg : Str → Option Value} {base : Heap} {f : Addr} {fd : FuncData} {C : Addr}
def sp_key : Sp := fun vs H Q _ => ∃ a v, vs = [a, v] ∧ Q v H
theorem scP3 : FnScope ["self", "node"] ["self", "node"] (defScope (mth 23 3)) := ⟨rfl, rfl, rfl, by decide +kernel, rfl, by decide +kernel, by decide +kernel⟩
theorem ok_key (F : FnM K "Plain.key" "key" 23 3 f fd) (hm : Meth K C "key" f) : MDef P w K mg base 1 C "key" sp_key := by
  refine MDef.mk' F hm scP3 (fun vs H Q E h => ?_) (fun _ _ _ _ _ _ us hl => match us, hl with | [_, _], _ => rfl) (fun cdv A outer s H vs Q E hr tk h => ?_)
  · obtain ⟨a, v, rfl, _⟩ := h
    rfl
  · obtain ⟨a, v, rfl, q⟩ := h
    have nd := scP3.nd
    keq_hits
    exact q
def tupOr (d : PyData) (v : V) : V := if dTup d = true then v else .non
def sp_list_parts (K : PySem.W.Frag) : Sp := fun vs H Q _ => ∃ a v d, vs = [a, v] ∧ Dp K H v d ∧ Q (tupOr d v) H
theorem scP0 : FnScope ["self", "node"] ["self", "node"] (defScope (mth 23 0)) := ⟨rfl, rfl, rfl, by decide +kernel, rfl, by decide +kernel, by decide +kernel⟩
theorem ok_list_parts (F : FnM K "Plain.list_parts" "list_parts" 23 0 f fd) (hm : Meth K C "list_parts" f) (mi : mg "isinstance" = none) (mt : BTy mg "tuple" "tuple") : MDef P w K mg base 1 C "list_parts" (sp_list_parts K) := by
  refine MDef.mk' F hm scP0 (fun vs H Q E h => ?_) (fun _ _ _ _ _ _ us hl => match us, hl with | [_, _], _ => rfl) (fun cdv A outer s H vs Q E hr tk h => ?_)
  · obtain ⟨a, v, d, rfl, _⟩ := h
    rfl
  · obtain ⟨a, v, d, rfl, hd, q⟩ := h
    have nd := scP0.nd
    keq_hits
    refine i_ite (fun e => ?_) (fun e => ?_)
    · keq_hits
      rwa [tupOr, if_pos e] at q
    · keq_hits
      rwa [tupOr, if_neg (by simp [e])] at q
def strOr (d : PyData) (v : V) : V := if dStr d = true then v else .non
def sp_word_in (K : PySem.W.Frag) : Sp := fun vs H Q _ => ∃ a v d, vs = [a, v] ∧ Dp K H v d ∧ Q (strOr d v) H
theorem scP2 : FnScope ["self", "node"] ["self", "node"] (defScope (mth 23 2)) := ⟨rfl, rfl, rfl, by decide +kernel, rfl, by decide +kernel, by decide +kernel⟩
theorem ok_word_in (F : FnM K "Plain.word_in" "word_in" 23 2 f fd) (hm : Meth K C "word_in" f) (mi : mg "isinstance" = none) (mt : BTy mg "str" "str") : MDef P w K mg base 1 C "word_in" (sp_word_in K) := by
  refine MDef.mk' F hm scP2 (fun vs H Q E h => ?_) (fun _ _ _ _ _ _ us hl => match us, hl with | [_, _], _ => rfl) (fun cdv A outer s H vs Q E hr tk h => ?_)
  · obtain ⟨a, v, d, rfl, _⟩ := h
    rfl
  · obtain ⟨a, v, d, rfl, hd, q⟩ := h
    have nd := scP2.nd
    keq_hits
    refine i_ite (fun e => ?_) (fun e => ?_)
    · keq_hits
      rwa [strOr, if_pos e] at q
    · keq_hits
      rwa [strOr, if_neg (by simp [e])] at q
def intOr (d : PyData) (v : V) : V := if isInteger d = true then v else .non
def sp_integer (K : PySem.W.Frag) : Sp := fun vs H Q _ => ∃ a v d, vs = [a, v] ∧ Dp K H v d ∧ ∀ H', Same H H' → Q (intOr d v) H'
theorem scP1 : FnScope ["self", "node"] ["self", "node"] (defScope (mth 23 1)) := ⟨rfl, rfl, rfl, by decide +kernel, rfl, by decide +kernel, by decide +kernel⟩
theorem ok_integer (F : FnM K "Plain.integer" "integer" 23 1 f fd) (hm : Meth K C "integer" f) (D : Def P w K mg base 1 "is_integer" (sp_is_integer K)) : MDef P w K mg base 2 C "integer" (sp_integer K) := by
  refine MDef.mk' F hm scP1 (fun vs H Q E h => ?_) (fun _ _ _ _ _ _ us hl => match us, hl with | [_, _], _ => rfl) (fun cdv A outer s H vs Q E hr tk h => ?_)
  · obtain ⟨a, v, d, rfl, _⟩ := h
    rfl
  · obtain ⟨a, v, d, rfl, hd, q⟩ := h
    have nd := scP1.nd
    keq_hits
    refine ⟨v, d, rfl, hd, fun H1 s1 => ?_⟩
    keq_hits
    have q1 := q _ s1
    refine i_ite (fun e => ?_) (fun e => ?_)
    · keq_hits
      rwa [intOr, if_pos e] at q1
    · keq_hits
      rwa [intOr, if_neg (by simp [e])] at q1
def sp_is_like : Sp := fun vs H Q _ => ∃ a x y, vs = [a, .str x, .str y] ∧ Q (.bl (decide (x = y))) H
theorem scP4 : FnScope ["self", "literal", "node"] ["self", "literal", "node"] (defScope (mth 23 4)) := ⟨rfl, rfl, rfl, by decide +kernel, rfl, by decide +kernel, by decide +kernel⟩
theorem ok_is_like (F : FnM K "Plain.is_like" "is_like" 23 4 f fd) (hm : Meth K C "is_like" f) : MDef P w K mg base 1 C "is_like" sp_is_like := by
  refine MDef.mk' F hm scP4 (fun vs H Q E h => ?_) (fun _ _ _ _ _ _ us hl => match us, hl with | [_, _, _], _ => rfl) (fun cdv A outer s H vs Q E hr tk h => ?_)
  · obtain ⟨a, x, y, rfl, _⟩ := h
    rfl
  · obtain ⟨a, x, y, rfl, q⟩ := h
    have nd := scP4.nd
    keq_hits
    refine we_cmp op_eq rfl ?_
    keq_hits
    exact ⟨rfl, fin_bl q (by simp)⟩
end
end
section
/-! ### the mirror: shapes -/
inductive Sh where
  | any
  | lit (s : Str)
  | nm (s : Str)
  | num (i : Int)
  | lis (a : List Sh)
  | rep (a : List Sh) (r : Sh) (b : List Sh)
mutual
def enc : Sh → PyData
  | .any => .tuple [.str "any"]
  | .lit s => .tuple [.str "literal", .str s]
  | .nm s => .tuple [.str "name", .str s]
  | .num i => .tuple [.str "integer", .int i]
  | .lis a => .tuple [.str "list", .tuple (encs a), .none, .tuple []]
  | .rep a r b => .tuple [.str "list", .tuple (encs a), enc r, .tuple (encs b)]
def encs : List Sh → List PyData
  | [] => []
  | x :: xs => enc x :: encs xs
end
theorem encs_map : ∀ xs, encs xs = xs.map enc
  | [] => rfl
  | x :: xs => by rw [encs, encs_map xs]; rfl
mutual
theorem nolist_enc : ∀ x, nolist (enc x) = true
  | .any => rfl
  | .lit s => rfl
  | .nm s => rfl
  | .num i => rfl
  | .lis a => by simp [enc, nolist, nolists, nolist_encs a]
  | .rep a r b => by simp [enc, nolist, nolists, nolist_encs a, nolist_enc r, nolist_encs b]
theorem nolist_encs : ∀ xs, nolists (encs xs) = true
  | [] => rfl
  | x :: xs => by simp [encs, nolists, nolist_enc x, nolist_encs xs]
end
def isRep : PyData → Bool
  | .str s => decide (s = "...")
  | _ => false
def repAt (ds : List PyData) (i : Nat) : Bool := (ds[i]?.map isRep).getD false
def spots (ds : List PyData) : List Nat := (List.range ds.length).filter (repAt ds)
def seqO {α : Type} : List (Option α) → Option (List α)
  | [] => some []
  | none :: _ => none
  | some x :: r => (seqO r).map (x :: ·)
def joinS (ds : List PyData) (os : List (Option Sh)) : Option Sh :=
  match spots ds with
  | [] => (seqO os).map .lis
  | [i] => if i = 0 then none else
    match seqO (os.take (i - 1)), seqO (os.drop (i + 1)), os[i - 1]? with
    | some a, some b, some (some r) => some (.rep a r b)
    | _, _, _ => none
  | _ => none
mutual
def shapeS (L : List Str) : PyData → Option Sh
  | .str s => if s = "..." then none else if s = "_" then some .any else if s ∈ L then some (.lit s) else some (.nm s)
  | .int i => some (.num i)
  | .tuple ds => joinS ds (shapesS L ds)
  | _ => none
def shapesS (L : List Str) : List PyData → List (Option Sh)
  | [] => []
  | d :: ds => shapeS L d :: shapesS L ds
end
theorem shapesS_map (L : List Str) : ∀ ds, shapesS L ds = ds.map (shapeS L)
  | [] => rfl
  | d :: ds => by rw [shapesS, shapesS_map L ds]; rfl
theorem seqO_some {α : Type} : ∀ {os : List (Option α)} {xs : List α}, seqO os = some xs → os = xs.map some
  | [], xs, h => by cases h; rfl
  | none :: r, xs, h => nomatch h
  | some x :: r, xs, h => by
    cases e : seqO r with
    | none => simp [seqO, e] at h
    | some ys =>
      simp [seqO, e] at h
      subst h
      simp [seqO_some e]
theorem seqO_none {α : Type} : ∀ {os : List (Option α)} {i : Nat}, os[i]? = some none → seqO os = none
  | [], i, h => by simp at h
  | none :: r, i, h => rfl
  | some x :: r, 0, h => by simp at h
  | some x :: r, i + 1, h => by simp [seqO, seqO_none (os := r) (i := i) (by simpa using h)]
def gE (os : List (Option Sh)) (i : Nat) : Option PyData := os[i]?.bind fun (o : Option Sh) => o.map enc
theorem gE_nolist {os : List (Option Sh)} : ∀ i d, gE os i = some d → nolist d = true := by
  intro i d h
  unfold gE at h
  cases e : os[i]? with
  | none => simp [e] at h
  | some o => cases o with
    | none => simp [e] at h
    | some x =>
      simp [e] at h
      rw [← h]
      exact nolist_enc x
section
variable {K : PySem.W.Frag} {H : Hp}
theorem dps_of : ∀ (os : List (Option Sh)) (acc : List V), acc.length = os.length → (∀ i v, acc[i]? = some v → ∃ d, gE os i = some d ∧ Dp K H v d) → ∃ xs, seqO os = some xs ∧ DpAll K H acc (encs xs)
  | [], [], _, _ => ⟨[], rfl, .nil⟩
  | [], _ :: _, h, _ => nomatch h
  | _ :: _, [], h, _ => nomatch h
  | o :: os, v :: acc, h, g => by
    obtain ⟨d, e, hd⟩ := g 0 v rfl
    obtain ⟨xs, ex, hxs⟩ := dps_of os acc (by simpa using h) fun i v e => by simpa [gE] using g (i + 1) v (by simpa using e)
    cases o with
    | none => simp [gE] at e
    | some x =>
      simp [gE] at e
      subst e
      exact ⟨x :: xs, by simp [seqO, ex], .cons hd hxs⟩
end
end
section
section
variable {P : Program} {w : World} {K : PySem.W.Frag} {mg : Str → Option Value} {base : Heap} {f : Addr} {fd : FuncData} {C CB : Addr} {L : List Str}
/-- what the class Plain is -/
structure PlainOk (P : Program) (w : World) (K : PySem.W.Frag) (mg : Str → Option Value) (base : Heap) (C : Addr) : Prop where
  cl : Cls K C
  mz : Mk0 K C
  g : mg "Plain" = some (.ref C)
  lp : MDef P w K mg base 1 C "list_parts" (sp_list_parts K)
  it : MDef P w K mg base 2 C "integer" (sp_integer K)
  wi : MDef P w K mg base 1 C "word_in" (sp_word_in K)
  ke : MDef P w K mg base 1 C "key" sp_key
  il : MDef P w K mg base 1 C "is_like" sp_is_like
def sp_shape (K : PySem.W.Frag) (C CB : Addr) (L : List Str) (n : Nat) : Sp := fun vs H Q E => ∃ kk dx v lv d, vs = [.ref kk, v, lv] ∧ H kk = some (.ins C dx []) ∧ Dp K H v d ∧ Dp K H lv (.tuple (L.map .str)) ∧ formB d = true ∧ smallD d = true ∧ dsize d ≤ 3000 ∧ ddep d ≤ n ∧
  (∀ sh, shapeS L d = some sh → ∀ v' H', Same H H' → Dp K H' v' (enc sh) → Q v' H') ∧ (shapeS L d = none → ∀ H', Same H H' → E (.ref CB) none H')
def sp_list_shape (K : PySem.W.Frag) (C CB : Addr) (L : List Str) (n : Nat) : Sp := fun vs H Q E => ∃ kk dx v lv ds, vs = [.ref kk, v, lv] ∧ H kk = some (.ins C dx []) ∧ Dp K H v (.tuple ds) ∧ Dp K H lv (.tuple (L.map .str)) ∧ formBs ds = true ∧ smallDs ds = true ∧ dsizes ds ≤ 3000 ∧ ddeps ds ≤ n ∧
  (∀ sh, joinS ds (shapesS L ds) = some sh → ∀ v' H', Same H H' → Dp K H' v' (enc sh) → Q v' H') ∧ (joinS ds (shapesS L ds) = none → ∀ H', Same H H' → E (.ref CB) none H')
theorem sc24 : FnScope ["kind", "node", "literals", "word"] ["kind", "node", "literals"] (defScope (top 24)) := ⟨rfl, rfl, rfl, by decide +kernel, rfl, by decide +kernel, by decide +kernel⟩
theorem dps_strs {H : Hp} : ∀ {xs : List V} {L : List Str}, DpAll K H xs (L.map .str) → xs = L.map V.str
  | [], [], _ => rfl
  | x :: xs, s :: L, h => by
    cases h with
    | cons a b => rw [WP.dp_str a, dps_strs b]; rfl
theorem inV_strs {s : Str} {L : List Str} : inV (.str s) (L.map V.str) = decide (s ∈ L) := by
  unfold inV
  induction L with
  | nil => rfl
  | cons x L ih =>
    rw [List.map_cons, List.any_cons, ih]
    by_cases h : x = s
    · subst h; simp [eqV]
    · have h' : ¬ s = x := fun z => h z.symm
      simp [eqV, h, h']
theorem flat_strs (L : List Str) : (L.map V.str).all flatV = true := by
  induction L with
  | nil => rfl
  | cons x L ih => rw [List.map_cons, List.all_cons, ih]; rfl
theorem ok_shape {n k : Nat} (F : FnP K "shape" 24 f fd) (hm : mg "shape" = some (.ref f)) (hn : 2 ≤ k) (O : PlainOk P w K mg base C) (Er : ErrC P w K mg base 1 "BadPattern" CB) (mR : ∃ t, mg "REPEAT" = some (.str "..." t)) (mA : ∃ t, mg "ANY" = some (.str "_" t))
    (D : Def P w K mg base k "list_shape" (sp_list_shape K C CB L n)) : Def P w K mg base (k + 1) "shape" (sp_shape K C CB L (n + 1)) := by
  refine Def.mk' F hm sc24 (fun vs H Q E h => ?_) (fun _ _ _ _ _ _ us hl => match us, hl with | [_, _, _], _ => rfl) (fun cdv A outer s H vs Q E hr tk h => ?_)
  · obtain ⟨kk, dx, v, lv, d, rfl, _⟩ := h
    rfl
  · obtain ⟨kk, dx, v, lv, d, rfl, hk, hd, hL, hf, hz, hsz, hdp, q, qe⟩ := h
    obtain ⟨cl, mz, gP, lp, it, wi, ke, il⟩ := O
    have nd := sc24.nd
    obtain ⟨la, lxs, rfl, hl1, hl2⟩ := dp_tup hL
    cases dps_strs hl2
    have nw : ∀ {H1 : Hp} {vs : List V} {ds : List PyData} {sh : Sh} (p : Addr), Same H H1 → H1 p = none → shapeS L d = some sh → enc sh = .tuple ds → DpAll K H1 vs ds → Q (.ref p) (upd H1 p (.tup vs)) := fun p s1 hp e es hv =>
      q _ e _ _ (s1.trans (Same.new hp)) (es ▸ Dp.tup (SqT.of upd_same) (dpAll_mono (Same.new hp) hv))
    keq_hits
    refine ⟨_, _, _, rfl, hd, ?_⟩
    keq_hits
    cases d with
    | none => simp [formB] at hf
    | bool b => simp [formB] at hf
    | list b => simp [formB] at hf
    | dict b => simp [formB] at hf
    | int i =>
      cases dp_int hd
      refine i_iff rfl ?_
      keq_hits
      have hk1 : ∀ {H1 : Hp}, Same H H1 → H1 kk = some (.ins C dx []) := fun s1 => s1 _ _ hk
      refine ⟨_, _, _, rfl, hd, fun H1 s1 => ?_⟩
      keq_hits
      refine i_ift rfl ?_
      have hk2 := hk1 s1
      keq_hits
      refine ⟨_, _, _, rfl, WP.dp_mono s1 hd, fun H2 s2 => ?_⟩
      keq_hits
      refine ⟨by show 2 ≤ sizeLine; decide, fun p hp => ?_⟩
      exact nw p (s1.trans s2) hp rfl rfl (.cons (.str _) (.cons (.int _) .nil))
    | tuple ds =>
      refine i_iff rfl ?_
      keq_hits
      refine ⟨_, _, _, rfl, hd, fun H1 s1 => ?_⟩
      keq_hits
      refine i_iff rfl ?_
      have hk2 := s1 _ _ hk
      keq_hits
      have hd1 := WP.dp_mono s1 hd
      refine ⟨_, _, _, rfl, hd1, ?_⟩
      keq_hits
      refine ⟨_, _, _, _, ds, rfl, hk2, hd1, WP.dp_mono s1 hL, hf, hz, ?_, ?_, fun sh e v' H' s' dp => q _ e _ _ (s1.trans s') dp, fun e H' s' => qe e _ (s1.trans s')⟩
      · simp [dsize] at hsz; omega
      · simp [ddep] at hdp; omega
    | str z =>
      cases dp_str hd
      refine i_ift rfl ?_
      keq_hits
      refine wt_cmp op_eq rfl ?_
      keq_hits
      refine ⟨rfl, i_bl ?_⟩
      refine i_ite (fun e => ?_) (fun e => ?_)
      · have e : z = "..." := by simpa [strOr, dStr] using e
        keq_hits
        refine ws_raise Er (Room.mono hr (by omega)) rfl tk rfl ?_
        exact qe (by simp [shapeS, e]) _ (Same.refl _)
      · have e : ¬ z = "..." := by simpa [strOr, dStr] using e
        keq_hits
        refine wt_cmp op_eq rfl ?_
        keq_hits
        refine ⟨rfl, i_bl ?_⟩
        refine i_ite (fun e1 => ?_) (fun e1 => ?_)
        · have e1 : z = "_" := by simpa [strOr, dStr] using e1
          keq_hits
          refine ⟨by show 1 ≤ sizeLine; decide, fun p hp => ?_⟩
          exact nw (sh := .any) p (Same.refl _) hp (by simp only [shapeS, if_neg e, if_pos e1]) rfl (.cons (.str _) .nil)
        · have e1 : ¬ z = "_" := by simpa [strOr, dStr] using e1
          keq_hits
          refine wt_cmp op_in_seq rfl ?_
          keq_hits
          refine ⟨_, _, rfl, ?_⟩
          keq_hits
          refine ⟨la, _, rfl, .inr hl1, rfl, flat_strs L, i_bl ?_⟩
          refine i_ite (fun e2 => ?_) (fun e2 => ?_)
          · have e2 : z ∈ L := by rw [if_neg Bool.false_ne_true, inV_strs] at e2; simpa using e2
            keq_hits
            refine ⟨by show 2 ≤ sizeLine; decide, fun p hp => ?_⟩
            exact nw (sh := .lit z) p (Same.refl _) hp (by simp only [shapeS, if_neg e, if_neg e1, if_pos e2]) rfl (.cons (.str _) (.cons (.str _) .nil))
          · have e2 : ¬ z ∈ L := by rw [if_neg Bool.false_ne_true, inV_strs] at e2; simpa using e2
            keq_hits
            refine ⟨_, _, rfl, ?_⟩
            keq_hits
            refine ⟨by show 2 ≤ sizeLine; decide, fun p hp => ?_⟩
            exact nw (sh := .nm z) p (Same.refl _) hp (by simp only [shapeS, if_neg e, if_neg e1, if_neg e2]) rfl (.cons (.str _) (.cons (.str _) .nil))
end
end
section
section
variable {P : Program} {w : World} {K : PySem.W.Frag} {mg : Str → Option Value} {base : Heap} {f : Addr} {fd : FuncData} {C CB : Addr} {L : List Str}
theorem sc25 : FnScope ["kind", "parts", "literals", "spots", "at", "part", "ahead", "behind"] ["kind", "parts", "literals"] (defScope (top 25)) := ⟨rfl, rfl, rfl, by decide +kernel, rfl, by decide +kernel, by decide +kernel⟩
theorem formBs_mem {ds : List PyData} {d : PyData} (h : formBs ds = true) (hd : d ∈ ds) : formB d = true := by
  induction ds with
  | nil => cases hd
  | cons x ds ih =>
    simp only [formBs, Bool.and_eq_true] at h
    rcases List.mem_cons.mp hd with rfl | hd
    · exact h.1
    · exact ih h.2 hd
theorem dsizes_mem {ds : List PyData} {d : PyData} (hd : d ∈ ds) : dsize d ≤ dsizes ds := by
  induction ds with
  | nil => cases hd
  | cons x ds ih =>
    simp only [dsizes]
    rcases List.mem_cons.mp hd with rfl | hd
    · omega
    · have := ih hd
      omega
theorem shape_at {kk dx : Addr} {v lv : V} {d : PyData} {ds : List PyData} {n : Nat} {H : Hp} {Q : VK} {E : XK} (hk : H kk = some (.ins C dx [])) (h : Dp K H v d) (hL : Dp K H lv (.tuple (L.map .str))) (hm : d ∈ ds) (hf : formBs ds = true) (hz : smallDs ds = true) (hsz : dsizes ds ≤ 3000) (hdp : ddeps ds ≤ n)
    (q : ∀ sh, shapeS L d = some sh → ∀ v' H', Same H H' → Dp K H' v' (enc sh) → Q v' H') (qe : shapeS L d = none → ∀ H', Same H H' → E (.ref CB) none H') : sp_shape K C CB L n [.ref kk, v, lv] H Q E :=
  ⟨kk, dx, v, lv, d, rfl, hk, h, hL, formBs_mem hf hm, smallDs_mem hz hm, Nat.le_trans (dsizes_mem hm) hsz, Nat.le_trans (ddeps_le hm) hdp, q, qe⟩
theorem scal_rep {H : Hp} {y : V} {d : PyData} (h : Dp K H y d) : scal (strOr d y) (.str "...") = true := by
  cases h <;> rfl
theorem dec_rep {H : Hp} {y : V} {d : PyData} (h : Dp K H y d) : decide (strOr d y = .str "...") = isRep d := by
  cases h <;> simp [strOr, dStr, isRep]
theorem shapesS_take (L : List Str) (ds : List PyData) (n : Nat) : (shapesS L ds).take n = shapesS L (ds.take n) := by rw [shapesS_map, shapesS_map, List.map_take]
theorem shapesS_drop (L : List Str) (ds : List PyData) (n : Nat) : (shapesS L ds).drop n = shapesS L (ds.drop n) := by rw [shapesS_map, shapesS_map, List.map_drop]
theorem shapesS_len (L : List Str) (ds : List PyData) : (shapesS L ds).length = ds.length := by rw [shapesS_map, List.length_map]
theorem sIx_hi (n k : Nat) : HT.sIx n n (some (k : Int)) = min k n := HT.sIx_nat n n k
theorem cutV_take (xs : List V) (k : Nat) : cutV xs none (some (k : Int)) = xs.take k := by
  unfold cutV
  rw [HT.sIx_none, HT.sIx_nat]
  simp only [List.drop_zero, Nat.sub_zero]
  by_cases h : k ≤ xs.length
  · rw [Nat.min_eq_left h]
  · rw [Nat.min_eq_right (by omega), List.take_length, List.take_of_length_le (by omega)]
theorem cutV_drop (xs : List V) (k : Nat) : cutV xs (some (k : Int)) none = xs.drop k := by
  unfold cutV
  rw [HT.sIx_none, HT.sIx_nat]
  by_cases h : k ≤ xs.length
  · rw [Nat.min_eq_left h]
    apply List.take_of_length_le
    simp
  · rw [Nat.min_eq_right (by omega)]
    simp
    omega
theorem ok_list_shape {n k : Nat} (F : FnP K "list_shape" 25 f fd) (hm : mg "list_shape" = some (.ref f)) (hn : 2 ≤ k) (O : PlainOk P w K mg base C) (Er : ErrC P w K mg base 1 "BadPattern" CB) (mR : ∃ t, mg "REPEAT" = some (.str "..." t))
    (ml : mg "len" = none) (me : mg "enumerate" = none) (mt : mg "tuple" = none) (D : Def P w K mg base k "shape" (sp_shape K C CB L n)) : Def P w K mg base (k + 1) "list_shape" (sp_list_shape K C CB L n) := by
  refine Def.mk' F hm sc25 (fun vs H Q E h => ?_) (fun _ _ _ _ _ _ us hl => match us, hl with | [_, _, _], _ => rfl) (fun cdv A outer s H vs Q E hr tk h => ?_)
  · obtain ⟨kk, dx, v, lv, ds, rfl, _⟩ := h
    rfl
  · obtain ⟨kk, dx, v, lv, ds, rfl, hk, hd, hL, hf, hz, hsz, hdp, q, qe⟩ := h
    obtain ⟨cl, mz, gP, lp, it, wi, ke, il⟩ := O
    have nd := sc25.nd
    obtain ⟨a, xs, rfl, hx, hxs⟩ := dp_tup hd
    have hlen := dpAll_len hxs
    have hl1s := dsizes_len ds
    keq_hits
    refine ws_lcI (g := gTup K 2 (gCons (gName 4) (gCons (gName 5) gNil))) 3 [("at", 4), ("part", 5)] rfl nd rfl rfl rfl rfl rfl (pi_enumT (by rfl) me pa) (blkOk_by (N := ["kind", "parts", "literals", "spots", "at", "part", "ahead", "behind"]) (sc := defScope (top 25)) (own := [("at", 4), ("part", 5)]) (by decide +kernel)) (fun _ _ _ _ _ => pg_two 4 5 rfl nd rfl rfl rfl rfl) ?_
    show WP.WA _ _ _ _ _
    keq_hits
    refine ⟨a, xs, rfl, hx, fun D1 hD1 => lc_F (repAt ds) (fun i => .int (i : Nat)) walk_enumT (by show xs.length < 16777216; omega) hD1 (fun H s => s.tup hx) ?_ teC_mono ttC_mono gTup2_mono fun H4 s4 hl4 => ?_⟩
    · rintro i x H5 H6 hi s5 ⟨T, y, rfl, hT, rfl, hy⟩
      refine i_two (SqT.of upd_same) ⟨rfl, fun s0 H0 C0 cl0 fp => ?_⟩
      obtain ⟨d, hd1, hd2⟩ := dpAll_atv hxs hy
      have s56 : Same H5 (upd H5 T (.tup [.int (i : Nat), y])) := Same.new hT
      have s6 := s5.trans s56
      generalize upd H5 T (.tup [.int (i : Nat), y]) = H6 at s6 s56
      have hk6 := s6 _ _ hk
      refine wt_cmp op_eq rfl ?_
      keq_hits
      refine ⟨_, _, d, rfl, WP.dp_mono s6 hd2, ?_⟩
      keq_hits
      refine ⟨scal_rep hd2, i_bl ⟨s56, ?_, fun _ s0 H0 C0 cl0 fp => ?_⟩⟩
      · rw [dec_rep hd2, repAt, hd1]
        rfl
      · keq_hits
        exact ⟨s56, rfl⟩
    · have hl4 : H4 D1 = some (.lst ((spots ds).map fun i => V.int (i : Nat))) := by rw [hl4, hlen]; rfl
      have hx4 := s4.tup hx
      refine wb_cons ?_
      keq_hits
      refine wt_cmp op_eq rfl ?_
      keq_hits
      refine i_lenLt hl4 ?_
      keq_hits
      refine ⟨rfl, i_bl ?_⟩
      have e0 : spots ds = spots ds := rfl
      rcases hsp : spots ds with _ | ⟨i0, _ | ⟨i1, r⟩⟩
      · have hj : joinS ds (shapesS L ds) = (seqO (shapesS L ds)).map .lis := by unfold joinS; rw [hsp]
        refine i_ift rfl ?_
        keq_hits
        refine we_callTy call_tup (by rfl) mt boot_tuple ?_
        refine wa_cons ?_
        refine we_lc rfl rfl tk rfl nd (pi_tup pe) (blkOk_by (N := ["kind", "parts", "literals", "spots", "at", "part", "ahead", "behind"]) (sc := defScope (top 25)) (own := [("part", 5)]) (by decide +kernel)) (fun _ _ _ _ _ => by k_memK) ?_
        show WP.WE _ _ _ _ _
        keq_hits
        refine ⟨a, rfl, ⟨xs, hx4⟩, fun D2 hD => lc_R (fun i H v => ∃ d, gE (shapesS L (ds)) i = some d ∧ Dp K H v d) (stay_dpo gE_nolist) walk_tup (by have := dpAll_len hxs; have := hl1s; show _ < 16777216; omega) hD (fun H s => s.tup hx4) ?_ teW_mono gName_mono fun H5 acc s5 hl5 ha5 hR5 => ?_⟩
        · rintro i x H6 H7 hi s6 ⟨rfl, hxi⟩
          refine ⟨rfl, fun s0 H0 C0 cl0 fp => ?_⟩
          obtain ⟨d, hd1, hd2⟩ := dpAll_atv hxs hxi
          have s7 := (s4).trans s6
          have hk7 := s7 _ _ hk
          have hos : (shapesS L (ds))[i]? = some (shapeS L d) := by rw [shapesS_map, List.getElem?_map, hd1]; rfl
          keq_hits
          exact shape_at hk7 (WP.dp_mono s7 hd2) (WP.dp_mono s7 hL) (by have := List.mem_of_getElem? hd1; first | exact this | exact List.mem_of_mem_take this | exact List.mem_of_mem_drop this) hf hz hsz hdp (fun sh e v' H' s' dp => ⟨s', enc sh, by simp [gE, hos, e], dp⟩) fun e H' s' => qe (by rw [hj, seqO_none (i := i) (by rw [hos, e])]; rfl) _ (s7.trans s')
        · keq_hits
          refine i_tupL hl5 fun p2 hp2 => ?_
          keq_hits
          refine ⟨by show 0 ≤ sizeLine; decide, fun p3 hp3 => ?_⟩
          keq_hits
          refine ⟨by show 4 ≤ sizeLine; decide, fun p4 hp4 => ?_⟩
          obtain ⟨shs, es, hds⟩ := dps_of (shapesS L ds) acc (by rw [ha5, shapesS_len, hlen]) hR5
          have t3 := Same.new (o := .tup ([] : List V)) hp3
          have t4 := Same.new (o := .tup [.str "list", .ref p2, .non, .ref p3]) hp4
          refine q (.lis shs) (by rw [hj, es]; rfl) _ _ (s4.trans (s5.trans ((Same.new hp2).trans (t3.trans t4)))) ?_
          refine Dp.tup (SqT.of upd_same) (.cons (.str _) (.cons ?_ (.cons .non (.cons ?_ .nil))))
          · exact WP.dp_mono (t3.trans t4) (Dp.tup (SqT.of upd_same) (dpAll_mono (Same.new hp2) hds))
          · exact WP.dp_mono t4 (Dp.tup (SqT.of upd_same) .nil)
      · have hi0 : i0 < ds.length := by
          have : i0 ∈ spots ds := by rw [hsp]; simp
          simpa [spots] using (List.mem_filter.mp this).1
        refine i_iff rfl ?_
        keq_hits
        refine i_lenLt hl4 ?_
        keq_hits
        rw [hsp] at hl4 ⊢
        refine i_iff rfl ?_
        keq_hits
        refine wt_cmp op_eq rfl ?_
        refine we_ix ix_list plainIx_int ?_
        keq_hits
        refine i_ixL (v := .int (i0 : Nat)) (SqL.of hl4) rfl ?_
        keq_hits
        refine ⟨rfl, i_bl ?_⟩
        refine i_ite (fun e1 => ?_) (fun e1 => ?_)
        · have e1 : i0 = 0 := by simpa using e1
          keq_hits
          refine ws_raise Er (Room.mono hr (by omega)) rfl tk rfl ?_
          exact qe (by unfold joinS; rw [hsp]; exact if_pos e1) _ s4
        · have e1 : i0 ≠ 0 := by simpa using e1
          have hj : joinS ds (shapesS L ds) = match seqO (shapesS L (ds.take (i0 - 1))), seqO (shapesS L (ds.drop (i0 + 1))), (shapesS L ds)[i0 - 1]? with
              | some a, some b, some (some r) => some (.rep a r b)
              | _, _, _ => none := by
            unfold joinS
            rw [hsp, ← shapesS_take, ← shapesS_drop]
            exact if_neg e1
          have g1 : ((i0 : Int) - 1) = ((i0 - 1 : Nat) : Int) := by omega
          have g2 : ((i0 : Int) + 1) = ((i0 + 1 : Nat) : Int) := by omega
          have ht1 := dpAll_take (i0 - 1) hxs
          have ht2 := dpAll_drop (i0 + 1) hxs
          keq_hits
          refine we_ix ix_list plainIx_int ?_
          keq_hits
          refine i_ixL (v := .int (i0 : Nat)) (SqL.of hl4) rfl ?_
          keq_hits
          refine we_callTy call_tup (by rfl) mt boot_tuple ?_
          refine wa_cons ?_
          refine we_lc rfl rfl tk rfl nd (pi_tup pe) (blkOk_by (N := ["kind", "parts", "literals", "spots", "at", "part", "ahead", "behind"]) (sc := defScope (top 25)) (own := [("part", 5)]) (by decide +kernel)) (fun _ _ _ _ _ => by k_memK) ?_
          show WP.WE _ _ _ _ _
          refine we_slH sl_tupA ?_
          keq_hits
          refine ⟨_, rfl, i_sl hx4 fun b1 Hb1 sb1 hb1 => ?_⟩
          rw [g1, cutV_take] at hb1
          have s41 := s4.trans sb1
          refine ⟨b1, rfl, ⟨xs.take (i0 - 1), hb1⟩, fun D2 hD => lc_R (fun i H v => ∃ d, gE (shapesS L (ds.take (i0 - 1))) i = some d ∧ Dp K H v d) (stay_dpo gE_nolist) walk_tup (by have := dpAll_len ht1; have := (List.length_take_le (i0 - 1) ds); show _ < 16777216; omega) hD (fun H s => s.tup hb1) ?_ teW_mono gName_mono fun H5 acc s5 hl5 ha5 hR5 => ?_⟩
          · rintro i x H6 H7 hi s6 ⟨rfl, hxi⟩
            refine ⟨rfl, fun s0 H0 C0 cl0 fp => ?_⟩
            obtain ⟨d, hd1, hd2⟩ := dpAll_atv ht1 hxi
            have s7 := (s41).trans s6
            have hk7 := s7 _ _ hk
            have hos : (shapesS L (ds.take (i0 - 1)))[i]? = some (shapeS L d) := by rw [shapesS_map, List.getElem?_map, hd1]; rfl
            keq_hits
            exact shape_at hk7 (WP.dp_mono s7 hd2) (WP.dp_mono s7 hL) (by have := List.mem_of_getElem? hd1; first | exact this | exact List.mem_of_mem_take this | exact List.mem_of_mem_drop this) hf hz hsz hdp (fun sh e v' H' s' dp => ⟨s', enc sh, by simp [gE, hos, e], dp⟩) fun e H' s' => qe (by rw [hj, seqO_none (i := i) (by rw [hos, e])]) _ (s7.trans s')
          · keq_hits
            refine i_tupL hl5 fun p2 hp2 => ?_
            have s42 := s41.trans (s5.trans (Same.new (o := .tup acc) hp2))
            have hq2 : upd H5 p2 (.tup acc) p2 = some (.tup acc) := upd_same
            obtain ⟨shs, es, hds⟩ := dps_of (shapesS L (ds.take (i0 - 1))) acc (by rw [ha5, shapesS_len]; exact dpAll_len ht1) hR5
            have hds2 : Dp K (upd H5 p2 (.tup acc)) (.ref p2) (.tuple (encs shs)) := Dp.tup (SqT.of upd_same) (dpAll_mono (Same.new hp2) hds)
            generalize upd H5 p2 (.tup acc) = H6 at s42 hq2 hds2 ⊢
            have hx6 := s42.tup hx
            keq_hits
            refine we_callTy call_tup (by rfl) mt boot_tuple ?_
            refine wa_cons ?_
            refine we_lc rfl rfl tk rfl nd (pi_tup pe) (blkOk_by (N := ["kind", "parts", "literals", "spots", "at", "part", "ahead", "behind"]) (sc := defScope (top 25)) (own := [("part", 5)]) (by decide +kernel)) (fun _ _ _ _ _ => by k_memK) ?_
            show WP.WE _ _ _ _ _
            refine we_slL sl_tupA ?_
            keq_hits
            refine we_op op_add ?_
            keq_hits
            refine ⟨_, rfl, i_sl hx6 fun b2 Hb2 sb2 hb2 => ?_⟩
            rw [g2, cutV_drop] at hb2
            have s43 := s42.trans sb2
            refine ⟨b2, rfl, ⟨xs.drop (i0 + 1), hb2⟩, fun D3 hD => lc_R (fun i H v => ∃ d, gE (shapesS L (ds.drop (i0 + 1))) i = some d ∧ Dp K H v d) (stay_dpo gE_nolist) walk_tup (by have := dpAll_len ht2; have := (show (ds.drop (i0 + 1)).length ≤ ds.length by simp); show _ < 16777216; omega) hD (fun H s => s.tup hb2) ?_ teW_mono gName_mono fun H7 acc2 s7 hl7 ha7 hR7 => ?_⟩
            · rintro i x H6 H7 hi s6 ⟨rfl, hxi⟩
              refine ⟨rfl, fun s0 H0 C0 cl0 fp => ?_⟩
              obtain ⟨d, hd1, hd2⟩ := dpAll_atv ht2 hxi
              have s7 := (s43).trans s6
              have hk7 := s7 _ _ hk
              have hos : (shapesS L (ds.drop (i0 + 1)))[i]? = some (shapeS L d) := by rw [shapesS_map, List.getElem?_map, hd1]; rfl
              keq_hits
              exact shape_at hk7 (WP.dp_mono s7 hd2) (WP.dp_mono s7 hL) (by have := List.mem_of_getElem? hd1; first | exact this | exact List.mem_of_mem_take this | exact List.mem_of_mem_drop this) hf hz hsz hdp (fun sh e v' H' s' dp => ⟨s', enc sh, by simp [gE, hos, e], dp⟩) fun e H' s' => qe (by rw [hj, seqO_none (os := shapesS L (ds.drop (i0 + 1))) (i := i) (by rw [hos, e])]; cases seqO (shapesS L (ds.take (i0 - 1))) <;> rfl) _ (s7.trans s')
            · keq_hits
              refine i_tupL hl7 fun p3 hp3 => ?_
              have s23 := sb2.trans (s7.trans (Same.new (o := .tup acc2) hp3))
              have s44 := s42.trans s23
              obtain ⟨shs2, es2, hdt⟩ := dps_of (shapesS L (ds.drop (i0 + 1))) acc2 (by rw [ha7, shapesS_len]; exact dpAll_len ht2) hR7
              have hdt2 : Dp K (upd H7 p3 (.tup acc2)) (.ref p3) (.tuple (encs shs2)) := Dp.tup (SqT.of upd_same) (dpAll_mono (Same.new hp3) hdt)
              have hds3 := WP.dp_mono s23 hds2
              generalize upd H7 p3 (.tup acc2) = H8 at s44 hdt2 hds3 ⊢
              have hx8 := s44.tup hx
              have hk8 := s44 _ _ hk
              have hi1 : i0 - 1 < xs.length := by omega
              obtain ⟨d, hd1, hd2⟩ := dpAll_atv hxs (List.getElem?_eq_getElem hi1)
              have hos : (shapesS L ds)[i0 - 1]? = some (shapeS L d) := by rw [shapesS_map, List.getElem?_map, hd1]; rfl
              keq_hits
              refine we_ix ix_tup (plainIx_op) ?_
              keq_hits
              refine i_ixT (v := xs[i0 - 1]) hx8 (by rw [g1, atI_nat hi1]; exact List.getElem?_eq_getElem hi1) ?_
              keq_hits
              refine shape_at hk8 (WP.dp_mono s44 hd2) (WP.dp_mono s44 hL) (List.mem_of_getElem? hd1) hf hz hsz hdp (fun sh e v' H9 s9 dp => ?_) fun e H' s' => qe (by rw [hj, hos, e]; cases seqO (shapesS L (ds.take (i0 - 1))) <;> cases seqO (shapesS L (ds.drop (i0 + 1))) <;> rfl) _ (s44.trans s')
              keq_hits
              refine ⟨by show 4 ≤ sizeLine; decide, fun p4 hp4 => ?_⟩
              have t4 := Same.new (o := .tup [.str "list", .ref p2, v', .ref p3]) hp4
              refine q (.rep shs sh shs2) (by rw [hj, es, es2, hos, e]) _ _ (s44.trans (s9.trans t4)) ?_
              exact Dp.tup (SqT.of upd_same) (.cons (.str _) (.cons (WP.dp_mono (s9.trans t4) hds3) (.cons (WP.dp_mono t4 dp) (.cons (WP.dp_mono (s9.trans t4) hdt2) .nil))))
      · refine i_iff (by simp; omega) ?_
        keq_hits
        refine i_lenLt hl4 ?_
        keq_hits
        rw [hsp]
        refine i_ift (by simp; omega) ?_
        keq_hits
        refine i_ift rfl ?_
        keq_hits
        refine ws_raise Er (Room.mono hr (by omega)) rfl tk rfl ?_
        exact qe (by unfold joinS; rw [hsp]) _ s4
end
end
section
/-! ### depths -/
mutual
def ssize : Sh → Nat
  | .lis a => ssizes a + 1
  | .rep a r b => ssizes a + ssize r + ssizes b + 1
  | _ => 1
def ssizes : List Sh → Nat
  | [] => 0
  | x :: xs => ssize x + ssizes xs
end
mutual
def namesS : Sh → Nat → List (Str × Nat)
  | .nm s, n => [(s, n)]
  | .lis a, n => namesSs a n
  | .rep a r b, n => namesSs a n ++ namesS r (n + 1) ++ namesSs b n
  | _, _ => []
def namesSs : List Sh → Nat → List (Str × Nat)
  | [], _ => []
  | x :: xs, n => namesS x n ++ namesSs xs n
end
mutual
def deepS : Sh → Nat → Bool
  | .lis a, n => decide (n ≤ 3) && deepSs a n
  | .rep a r b, n => decide (n ≤ 3) && (deepSs a n && deepS r (n + 1) && deepSs b n)
  | _, n => decide (n ≤ 3)
def deepSs : List Sh → Nat → Bool
  | [], _ => true
  | x :: xs, n => deepS x n && deepSs xs n
end
def goodS (x : Sh) : Bool := decide ((namesS x 0).map (·.1)).Nodup && deepS x 0
theorem ssize_pos (x : Sh) : 1 ≤ ssize x := by cases x <;> simp [ssize]
theorem ssizes_append (a b : List Sh) : ssizes (a ++ b) = ssizes a + ssizes b := by
  induction a with
  | nil => simp [ssizes]
  | cons x a ih => simp [ssizes, ih]; omega
theorem ssizes_len : ∀ xs : List Sh, xs.length ≤ ssizes xs
  | [] => Nat.le_refl _
  | x :: xs => by
    have h1 := ssizes_len xs
    have h2 := ssize_pos x
    simp only [List.length_cons, ssizes]
    omega
theorem namesSs_append (a b : List Sh) (n : Nat) : namesSs (a ++ b) n = namesSs a n ++ namesSs b n := by
  induction a with
  | nil => simp [namesSs]
  | cons x a ih => simp [namesSs, ih]
theorem deepSs_append (a b : List Sh) (n : Nat) : deepSs (a ++ b) n = (deepSs a n && deepSs b n) := by
  induction a with
  | nil => simp [deepSs]
  | cons x a ih => simp [deepSs, ih, Bool.and_assoc]
mutual
theorem names_len : ∀ (x : Sh) (n : Nat), (namesS x n).length ≤ ssize x
  | .any, n => by simp [namesS]
  | .lit s, n => by simp [namesS]
  | .nm s, n => by simp [namesS, ssize]
  | .num i, n => by simp [namesS]
  | .lis a, n => by
    have := names_lens a n
    simp only [namesS, ssize]
    omega
  | .rep a r b, n => by
    have h1 := names_lens a n
    have h2 := names_len r (n + 1)
    have h3 := names_lens b n
    simp only [namesS, ssize, List.length_append]
    omega
theorem names_lens : ∀ (x : List Sh) (n : Nat), (namesSs x n).length ≤ ssizes x
  | [], n => by simp [namesSs]
  | x :: xs, n => by
    have h1 := names_len x n
    have h2 := names_lens xs n
    simp only [namesSs, ssizes, List.length_append]
    omega
end
theorem deep_le {x : Sh} {n : Nat} (h : ¬ n ≤ 3) : deepS x n = false := by
  cases x <;> simp [deepS, h]
section
variable {P : Program} {w : World} {K : PySem.W.Frag} {mg : Str → Option Value} {base : Heap} {f : Addr} {fd : FuncData} {C CB : Addr} {L : List Str}
/-! a shape's data -/
theorem enc_other {H : Hp} {v : V} : ∀ {x : Sh}, Dp K H v (enc x) → (x matches .any | .lit _ | .num _) → ∃ a tag rest, v = .ref a ∧ SqT K H a (.str tag :: rest) ∧ tag ≠ "name" ∧ tag ≠ "list" := by
  intro x h hx
  cases x with
  | any | lit s | num i =>
    obtain ⟨a, xs, rfl, hs, hd⟩ := dp_tup h
    cases hd with
    | cons a1 r =>
      cases dp_str a1
      exact ⟨a, _, _, rfl, hs, by decide, by decide⟩
  | nm s => simp at hx
  | lis a => simp at hx
  | rep a r b => simp at hx
theorem enc_nm {H : Hp} {v : V} {s : Str} (h : Dp K H v (enc (.nm s))) : ∃ a, v = .ref a ∧ SqT K H a [.str "name", .str s] := by
  obtain ⟨a, xs, rfl, hs, hd⟩ := dp_tup h
  cases hd with
  | cons a1 r =>
    cases dp_str a1
    cases r with
    | cons a2 r2 =>
      cases dp_str a2
      cases r2
      exact ⟨a, rfl, hs⟩
theorem enc_lis {H : Hp} {v : V} {x : List Sh} (h : Dp K H v (enc (.lis x))) : ∃ a ea eb, v = .ref a ∧ SqT K H a [.str "list", ea, .non, eb] ∧ Dp K H ea (.tuple (encs x)) ∧ Dp K H eb (.tuple []) := by
  obtain ⟨a, xs, rfl, hs, hd⟩ := dp_tup h
  cases hd with
  | cons a1 r =>
    cases dp_str a1
    cases r with
    | cons a2 r2 =>
      cases r2 with
      | cons a3 r3 =>
        cases dp_non a3
        cases r3 with
        | cons a4 r4 =>
          cases r4
          exact ⟨a, _, _, rfl, hs, a2, a4⟩
theorem enc_rep {H : Hp} {v : V} {x y : List Sh} {r : Sh} (h : Dp K H v (enc (.rep x r y))) : ∃ a ea er eb, v = .ref a ∧ SqT K H a [.str "list", ea, er, eb] ∧ Dp K H ea (.tuple (encs x)) ∧ Dp K H er (enc r) ∧ Dp K H eb (.tuple (encs y)) := by
  obtain ⟨a, xs, rfl, hs, hd⟩ := dp_tup h
  cases hd with
  | cons a1 r =>
    cases dp_str a1
    cases r with
    | cons a2 r2 =>
      cases r2 with
      | cons a3 r3 =>
        cases r3 with
        | cons a4 r4 =>
          cases r4
          exact ⟨a, _, _, _, rfl, hs, a2, a3, a4⟩
theorem enc_ref {H : Hp} {v : V} {x : Sh} (h : Dp K H v (enc x)) : ∃ a, v = .ref a := by
  cases x <;> exact let ⟨a, _, e, _⟩ := dp_tup h; ⟨a, e⟩
/-- what waits -/
structure Es where
  a : Addr
  v : V
  x : Sh
  k : Nat
structure EsOk (K : PySem.W.Frag) (H H' : Hp) (e : Es) : Prop where
  tu : H' e.a = some (.tup [e.v, .int (e.k : Int)])
  dp : Dp K H e.v (enc e.x)
def zEs (es : List Es) : Nat := (es.map fun e => ssize e.x).sum
def nEs (es : List Es) : List (Str × Nat) := es.flatMap fun e => namesS e.x e.k
def dEs (es : List Es) : Bool := es.all fun e => deepS e.x e.k
theorem esOk_upd {H H' : Hp} {l : Addr} {o o' : HO} {e : Es} (h : EsOk K H H' e) (hl : H' l = some o) (ho : ∀ xs, o ≠ .tup xs) : EsOk K H (upd H' l o') e :=
  ⟨by rw [upd_ne (ne_of h.tu hl (fun z => ho _ z.symm))]; exact h.tu, h.dp⟩
theorem esOk_same {H H' H2 : Hp} {e : Es} (h : EsOk K H H' e) (s : Same H' H2) : EsOk K H H2 e := ⟨s _ _ h.tu, h.dp⟩
theorem ess_of {H H' : Hp} {k : Nat} : ∀ {xs : List V} {ds : List Sh}, DpAll K H xs (encs ds) → ∀ acc : List V, acc.length = xs.length → (∀ i v, acc[i]? = some v → ∃ p, v = .ref p ∧ H' p = some (.tup [xs.getD i .non, .int (k : Int)])) →
    ∃ es : List Es, (es.map fun e => V.ref e.a) = acc ∧ (∀ e ∈ es, EsOk K H H' e) ∧ zEs es = ssizes ds ∧ nEs es = namesSs ds k ∧ dEs es = deepSs ds k
  | [], [], .nil, acc, hl, _ => ⟨[], by rw [List.length_eq_zero_iff.mp hl]; rfl, (fun _ z => absurd z (by simp)), rfl, rfl, rfl⟩
  | x :: xs, d :: ds, .cons hx h, [], hl, _ => nomatch hl
  | x :: xs, d :: ds, .cons hx h, y :: acc, hl, hR => by
    obtain ⟨p, rfl, hp⟩ := hR 0 y rfl
    obtain ⟨es, e1, e2, e3, e4, e5⟩ := ess_of h acc (by simpa using hl) fun i v e => hR (i + 1) v (by simpa using e)
    refine ⟨⟨p, x, d, k⟩ :: es, by simp [e1], fun e he => ?_, ?_, ?_, ?_⟩
    · rcases List.mem_cons.mp he with rfl | he
      · exact ⟨hp, hx⟩
      · exact e2 e he
    · show ssize d + zEs es = _
      rw [e3]
      rfl
    · show namesS d k ++ nEs es = _
      rw [e4]
      rfl
    · show (deepS d k && dEs es) = _
      rw [e5]
      rfl
def kvN (l : List (Str × Nat)) : List (Key × V) := l.map fun p => (.inr p.1, .int (p.2 : Int))
theorem valV_kvN {l : List (Str × Nat)} {s : Str} : (valV (kvN l) (.inr s)).isSome = decide (s ∈ l.map (·.1)) := by
  rw [← valV_any]
  induction l with
  | nil => rfl
  | cons p l ih =>
    simp only [kvN, List.map_cons, List.any_cons] at ih ⊢
    rw [ih]
    by_cases h : p.1 = s
    · simp [h]
    · have h' : ¬ s = p.1 := fun z => h z.symm
      simp [h, h']
theorem putK_kvN {l : List (Str × Nat)} {s : Str} {k : Nat} (h : s ∉ l.map (·.1)) : putK (kvN l) (.inr s) (.int (k : Int)) = kvN (l ++ [(s, k)]) := by
  have e : valV (kvN l) (.inr s) = none := by
    have z := valV_kvN (l := l) (s := s)
    rw [decide_eq_false h] at z
    cases q : valV (kvN l) (.inr s) with
    | none => rfl
    | some v => rw [q] at z; cases z
  rw [putK_new _ e]
  simp [kvN]
end
end
section
section
variable {P : Program} {w : World} {K : PySem.W.Frag} {mg : Str → Option Value} {base : Heap} {f : Addr} {fd : FuncData} {C CB : Addr} {L : List Str}
def sp_depths (K : PySem.W.Frag) (CB : Addr) : Sp := fun vs H Q E => ∃ v x, vs = [v] ∧ Dp K H v (enc x) ∧ ssize x ≤ 3000 ∧
  (goodS x = true → ∀ l p H', l.Perm (namesS x 0) → H p = none → Same H H' → H' p = some (.dK (kvN l)) → Q (.ref p) H') ∧ (goodS x = false → ∀ H', Same H H' → E (.ref CB) none H')
theorem sc26 : FnScope ["told", "found", "waiting", "here", "deep", "part"] ["told"] (defScope (top 26)) := ⟨rfl, rfl, rfl, by decide +kernel, rfl, by decide +kernel, by decide +kernel⟩
theorem nodup_mid {α : Type} {a b : List α} {x : α} (h : (a ++ x :: b).Nodup) : x ∉ a := fun hx => by
  rw [List.nodup_append] at h
  exact h.2.2 x hx x (by simp) rfl
theorem good_dup {x : Sh} {fl r : List (Str × Nat)} {s : Str} {k : Nat} (hp : (namesS x 0).Perm (fl ++ (s, k) :: r)) (hs : s ∈ fl.map (·.1)) : goodS x = false := by
  have : ¬ ((namesS x 0).map (·.1)).Nodup := fun h => by
    have h2 := (hp.map (·.1)).nodup_iff.mp h
    rw [List.map_append, List.map_cons] at h2
    exact nodup_mid h2 hs
  simp [goodS, this]
theorem zEs_len : ∀ es : List Es, es.length ≤ zEs es
  | [] => Nat.le_refl _
  | e :: r => by
    have h1 := ssize_pos e.x
    have h2 := zEs_len r
    have h3 : zEs (e :: r) = ssize e.x + zEs r := rfl
    simp only [List.length_cons]
    omega
theorem encs_append (a b : List Sh) : encs (a ++ b) = encs a ++ encs b := by rw [encs_map, encs_map, encs_map, List.map_append]
theorem zEs_append (a b : List Es) : zEs (a ++ b) = zEs a + zEs b := by simp [zEs]
theorem nEs_append (a b : List Es) : nEs (a ++ b) = nEs a ++ nEs b := by simp [nEs]
theorem dEs_append (a b : List Es) : dEs (a ++ b) = (dEs a && dEs b) := by simp [dEs]
theorem enc_list {H : Hp} {v : V} {x : Sh} (h : Dp K H v (enc x)) (k : Nat) (hk : k ≤ 3) :
    (∃ a tag rest, v = .ref a ∧ SqT K H a (.str tag :: rest) ∧ tag ≠ "name" ∧ tag ≠ "list" ∧ namesS x k = [] ∧ deepS x k = true) ∨
    (∃ a s, v = .ref a ∧ SqT K H a [.str "name", .str s] ∧ namesS x k = [(s, k)] ∧ deepS x k = true) ∨
    (∃ a e1 e2 e3 A B R, v = .ref a ∧ SqT K H a [.str "list", e1, e2, e3] ∧ Dp K H e1 (.tuple (encs A)) ∧ Dp K H e3 (.tuple (encs B)) ∧ ((e2 = .non ∧ R = []) ∨ ∃ b r, e2 = .ref b ∧ R = [r] ∧ Dp K H e2 (enc r)) ∧
      ssize x = ssizes A + ssizes R + ssizes B + 1 ∧ namesS x k = namesSs A k ++ namesSs R (k + 1) ++ namesSs B k ∧ deepS x k = (deepSs A k && deepSs R (k + 1) && deepSs B k)) := by
  cases x with
  | any | lit s | num i =>
    obtain ⟨a, tag, rest, e1, e2, e3, e4⟩ := enc_other h rfl
    exact .inl ⟨a, tag, rest, e1, e2, e3, e4, rfl, by simp [deepS, hk]⟩
  | nm s =>
    obtain ⟨a, e1, e2⟩ := enc_nm h
    exact .inr (.inl ⟨a, s, e1, e2, rfl, by simp [deepS, hk]⟩)
  | lis A =>
    obtain ⟨a, ea, eb, e1, e2, e3, e4⟩ := enc_lis h
    exact .inr (.inr ⟨a, ea, .non, eb, A, [], [], e1, e2, e3, e4, .inl ⟨rfl, rfl⟩, by simp [ssize, ssizes], by simp [namesS, namesSs], by simp [deepS, deepSs, hk]⟩)
  | rep A r B =>
    obtain ⟨a, ea, er, eb, e1, e2, e3, e4, e5⟩ := enc_rep h
    obtain ⟨b, rfl⟩ := enc_ref e4
    exact .inr (.inr ⟨a, ea, _, eb, A, B, [r], e1, e2, e3, e5, .inr ⟨b, r, rfl, rfl, e4⟩, by simp [ssize, ssizes], by simp [namesS, namesSs], by simp [deepS, deepSs, hk]⟩)
theorem ok_depths (F : FnP K "depths" 26 f fd) (hm : mg "depths" = some (.ref f)) (Er : ErrC P w K mg base 1 "BadPattern" CB) (mM : ∃ t, mg "MOST_REPEATS" = some (.int 3 t)) (ml : mg "len" = none) : Def P w K mg base 3 "depths" (sp_depths K CB) := by
  refine Def.mk' F hm sc26 (fun vs H Q E h => ?_) (fun _ _ _ _ _ _ us hl => match us, hl with | [_], _ => rfl) (fun cdv A outer s H vs Q E hr tk h => ?_)
  · obtain ⟨v, x, rfl, _⟩ := h
    rfl
  · obtain ⟨v, x, rfl, hd, hz, q, qe⟩ := h
    have nd := sc26.nd
    refine wb_cons (ws_par 1 2 rfl nd rfl rfl (by decide) rfl rfl (by rfl) ?_)
    refine we_dnew fun p hp => ?_
    keq_hits
    refine ⟨by show 2 ≤ sizeLine; decide, fun p1 hp1 => ?_⟩
    keq_hits
    refine ⟨by show 1 ≤ sizeLine; decide, fun l hl => ?_⟩
    have s0 : Same H (upd H p (.dK [])) := Same.new hp
    have sA : Same H (upd (upd (upd H p (.dK [])) p1 (.tup [v, .int 0])) l (.lst [.ref p1])) := s0.trans ((Same.new hp1).trans (Same.new hl))
    have hpA : upd (upd (upd H p (.dK [])) p1 (.tup [v, .int 0])) l (.lst [.ref p1]) p = some (.dK (kvN [])) := Same.new hl _ _ (Same.new hp1 _ _ upd_same)
    have htA : upd (upd (upd H p (.dK [])) p1 (.tup [v, .int 0])) l (.lst [.ref p1]) p1 = some (.tup [v, .int ((0 : Nat) : Int)]) := Same.new hl _ _ upd_same
    have hlA : upd (upd (upd H p (.dK [])) p1 (.tup [v, .int 0])) l (.lst [.ref p1]) l = some (.lst [.ref p1]) := upd_same
    have hl0 : H l = none := by
      cases z : H l with
      | none => rfl
      | some o =>
        have := (s0.trans (Same.new (o := .tup [v, .int 0]) hp1)) _ _ z
        rw [hl] at this
        cases this
    have lp : l ≠ p := fun z => by rw [z, (Same.new (o := .tup [v, .int 0]) hp1) _ _ (upd_same (o := .dK []))] at hl; cases hl
    generalize upd (upd (upd H p (.dK [])) p1 (.tup [v, .int 0])) l (.lst [.ref p1]) = HA at sA hpA htA hlA ⊢
    keq_hits
    refine ws_whileW passes_bx (fun m σ H' => ∃ (es : List Es) (fl : List (Str × Nat)) (hv dv pv : Option V), σ = [some v, some (.ref p), some (.ref l), hv, dv, pv] ∧ Same H H' ∧ H' l = some (.lst (es.map fun e => V.ref e.a)) ∧ H' p = some (.dK (kvN fl)) ∧
      (∀ e ∈ es, EsOk K H H' e) ∧ zEs es ≤ 3000 ∧ m = zEs es ∧ (namesS x 0).Perm (fl ++ nEs es) ∧ deepS x 0 = dEs es ∧ (fl.map (·.1)).Nodup) ?_ ?_
    · refine ⟨_, [⟨p1, v, x, 0⟩], [], none, none, none, rfl, sA, hlA, hpA, ?_, ?_, rfl, ?_, ?_, List.nodup_nil⟩
      · intro e he
        rw [List.mem_singleton.mp he]
        exact ⟨htA, hd⟩
      · show ssize x + 0 ≤ 3000
        omega
      · simp [nEs]
      · simp [dEs]
    · rintro m σ H1 ⟨es, fl, hv, dv, pv, rfl, s1, hl1, hp1, hes, hz1, rfl, hn, hdd, hnd⟩
      keq_hits
      refine i_lenLt hl1 ?_
      keq_hits
      refine i_ite (fun e => ?_) (fun e => ?_)
      · obtain ⟨es', en, rfl⟩ : ∃ es' en, es = es' ++ [en] := by
          rcases List.eq_nil_or_concat es with rfl | ⟨es', en, h⟩
          · simp at e
          · exact ⟨es', en, by simpa using h⟩
        have hen := hes en (by simp)
        keq_hits
        have hl2 : H1 l = some (.lst ((es'.map fun e => V.ref e.a) ++ [V.ref en.a])) := by rw [hl1]; simp
        refine i_lstT hl1 (i_pop hl2 ?_)
        have s2 : Same H (upd H1 l (.lst (es'.map fun e => V.ref e.a))) := s1.mut hl0
        have hl3 : upd H1 l (.lst (es'.map fun e => V.ref e.a)) l = some (.lst (es'.map fun e => V.ref e.a)) := upd_same
        have hp3 : upd H1 l (.lst (es'.map fun e => V.ref e.a)) p = some (.dK (kvN fl)) := by rw [upd_ne (Ne.symm lp)]; exact hp1
        have hes3 : ∀ e ∈ es', EsOk K H (upd H1 l (.lst (es'.map fun e => V.ref e.a))) e := fun e he => esOk_upd (hes e (by simp [he])) hl1 (fun _ z => nomatch z)
        have ten := (esOk_upd (o' := .lst (es'.map fun e => V.ref e.a)) hen hl1 (fun _ z => nomatch z)).tu
        have dp0 := hen.dp
        have hz2 : zEs es' + ssize en.x ≤ 3000 := by have : zEs (es' ++ [en]) = zEs es' + (ssize en.x + 0) := by simp [zEs]
                                                     omega
        have hz3 : zEs (es' ++ [en]) = zEs es' + ssize en.x := by simp [zEs]
        have hn2 : (namesS x 0).Perm (fl ++ (nEs es' ++ namesS en.x en.k)) := by simpa [nEs] using hn
        have hd2 : deepS x 0 = (dEs es' && deepS en.x en.k) := by simpa [dEs] using hdd
        have hfl : fl.length ≤ 3000 := by
          have h1 := hn2.length_eq
          have h2 := names_len x 0
          rw [List.length_append] at h1
          omega
        generalize upd H1 l (.lst (es'.map fun e => V.ref e.a)) = H3 at s2 hl3 hp3 hes3 ten ⊢
        clear hes hen hl1 hl2 hn hdd hz1
        refine i_two (SqT.of ten) ?_
        keq_hits
        refine i_ite (fun e1 => ?_) (fun e1 => ?_)
        · keq_hits
          refine ws_raise Er hr rfl tk rfl ?_
          exact qe (by rw [goodS, hd2, deep_le (by have := of_decide_eq_true e1; omega)]; simp) _ s2
        · have hk3 : en.k ≤ 3 := by have := of_decide_eq_false e1; omega
          keq_hits
          refine wt_cmp op_eq rfl ?_
          refine we_ix ix_tup plainIx_int ?_
          keq_hits
          rcases enc_list dp0 en.k hk3 with ⟨a, tag, rest, ev, hT, t1, t2, hnx, hdx⟩ | ⟨a, nm, ev, hT, hnx, hdx⟩ | ⟨a, v1, v2, v3, A1, B1, R1, ev, hT, d1, d3, h2, hsx, hnx, hdx⟩
          · rw [ev]
            replace hT := s2.tup hT
            refine i_ixT hT atI0 ?_
            keq_hits
            refine ⟨rfl, i_bl (i_iff (by simpa using t1) ?_)⟩
            keq_hits
            refine wt_cmp op_eq rfl ?_
            refine we_ix ix_tup plainIx_int ?_
            keq_hits
            refine i_ixT hT atI0 ?_
            keq_hits
            refine ⟨rfl, i_bl (i_iff (by simpa using t2) ?_)⟩
            keq_hits
            have := ssize_pos en.x
            exact ⟨zEs es', by omega, es', fl, _, _, _, rfl, s2, hl3, hp3, hes3, by omega, rfl, by rw [hnx] at hn2; simpa using hn2, by rw [hd2, hdx, Bool.and_true], hnd⟩
          · rw [ev]
            replace hT := s2.tup hT
            refine i_ixT hT atI0 ?_
            keq_hits
            refine ⟨rfl, i_bl (i_ift rfl ?_)⟩
            keq_hits
            refine wt_din hr rfl ?_
            refine we_ix ix_tup plainIx_int ?_
            keq_hits
            refine i_ixT hT atI1 ?_
            keq_hits
            refine i_dget (key := .inr nm) hp3 ?_
            rw [valV_kvN]
            rw [hnx] at hn2
            refine i_ite (fun e2 => ?_) (fun e2 => ?_)
            · keq_hits
              refine ws_raise Er hr rfl tk rfl ?_
              refine qe (good_dup (fl := fl) (r := nEs es') (s := nm) (k := en.k) (hn2.trans ?_) (by simpa using e2)) _ s2
              exact List.Perm.append_left fl (List.perm_append_comm (l₁ := nEs es') (l₂ := [(nm, en.k)]))
            · have e2 : nm ∉ fl.map (·.1) := of_decide_eq_false e2
              keq_hits
              refine ws_dput hr ?_
              keq_hits
              refine we_ix ix_tup plainIx_int ?_
              keq_hits
              refine i_ixT hT atI1 ?_
              refine i_dput (key := .inr nm) hp3 (by show _ < 16777216; simp [kvN]; omega) ?_
              rw [putK_kvN e2]
              keq_hits
              have := ssize_pos en.x
              refine ⟨zEs es', by omega, es', fl ++ [(nm, en.k)], _, _, _, rfl, s2.mut hp, by rw [upd_ne lp]; exact hl3, upd_same, fun e he => esOk_upd (hes3 e he) hp3 (fun _ z => nomatch z), by omega, rfl, hn2.trans ?_, by rw [hd2, hdx, Bool.and_true], ?_⟩
              · rw [List.append_assoc]
                exact List.Perm.append_left fl (List.perm_append_comm (l₁ := nEs es') (l₂ := [(nm, en.k)]))
              · rw [List.map_append]
                refine List.nodup_append.mpr ⟨hnd, by simp, fun y hy z hz => ?_⟩
                intro e
                simp at hz
                rw [e, hz] at hy
                exact e2 hy
          · obtain ⟨a1, xs1, rfl, hx1, hxs1⟩ := dp_tup d1
            obtain ⟨a3, xs3, rfl, hx3, hxs3⟩ := dp_tup d3
            have ln1 := dpAll_len hxs1
            have ln3 := dpAll_len hxs3
            have lm1 := ssizes_len A1
            have lm3 := ssizes_len B1
            rw [encs_map, List.length_map] at ln1 ln3
            have lz := zEs_len es'
            have hy1 := s2.tup hx1
            have hy3 := s2.tup hx3
            have hTH := hT
            replace hT := s2.tup hT
            rw [ev]
            refine i_ixT hT atI0 ?_
            keq_hits
            refine ⟨rfl, i_bl (i_iff rfl ?_)⟩
            keq_hits
            refine wt_cmp op_eq rfl ?_
            refine we_ix ix_tup plainIx_int ?_
            keq_hits
            refine i_ixT hT atI0 ?_
            keq_hits
            refine ⟨rfl, i_bl (i_ift rfl ?_)⟩
            keq_hits
            refine i_lstT hl3 ?_
            refine wa_cons ?_
            refine we_lc rfl rfl tk rfl nd (pi_tup pe) (blkOk_by (N := ["told", "found", "waiting", "here", "deep", "part"]) (sc := defScope (top 26)) (own := [("part", 5)]) (by decide +kernel)) (fun _ _ _ _ _ => by k_memK) ?_
            show WP.WE _ _ _ _ _
            refine we_op op_catA ?_
            refine we_ix ix_tup plainIx_int ?_
            keq_hits
            refine i_ixT hT atI1 ?_
            refine we_ix ix_tup plainIx_int ?_
            keq_hits
            refine i_ixT hT rfl ?_
            refine i_cat hy1 hy3 (by show _ ≤ 16777216; omega) fun b Hb sb hb => ?_
            refine ⟨b, rfl, ⟨_, hb⟩, fun D hD => lc_R (fun i H v => ∃ p, v = .ref p ∧ H p = some (.tup [(xs1 ++ xs3).getD i .non, .int ((en.k : Nat) : Int)])) stay_tup walk_tup (by rw [List.length_append]; show _ < 16777216; omega) hD (fun H s => s.tup hb) ?_ teW_mono gName_mono fun H4 acc s4 hl ha hR => ?_⟩
            · rintro i y H5 H6 hi s5 ⟨rfl, hxi⟩
              refine ⟨rfl, fun s0 H0 C cl fp => ?_⟩
              refine we_tup (wa_cons ?_)
              keq_hits
              refine ⟨by show 2 ≤ sizeLine; decide, fun p hp => ⟨Same.new hp, p, rfl, ?_⟩⟩
              rw [upd_same, List.getD_eq_getElem?_getD, hxi]
              rfl
            · keq_hits
              have s34 := sb.trans s4
              have hl4 := s34 _ _ hl3
              have hp4 := s34 _ _ hp3
              obtain ⟨es2, e2a, e2b, e2c, e2d, e2e⟩ := ess_of (ds := A1 ++ B1) (by rw [encs_append]; exact dpAll_app hxs1 hxs3) acc ha hR
              have hz1 : acc.length = xs1.length + xs3.length := by rw [ha, List.length_append]
              refine i_extend hl4 hl (by show _ ≤ 16777216; rw [List.length_map]; omega) ?_
              have s5 := (s2.trans s34).mut (o := .lst ((es'.map fun e => V.ref e.a) ++ acc)) hl0
              have hl5 : upd H4 l (.lst ((es'.map fun e => V.ref e.a) ++ acc)) l = some (.lst ((es' ++ es2).map fun e => V.ref e.a)) := by rw [upd_same, ← e2a, List.map_append]
              have hp5 : upd H4 l (.lst ((es'.map fun e => V.ref e.a) ++ acc)) p = some (.dK (kvN fl)) := by rw [upd_ne (Ne.symm lp)]; exact hp4
              have hes5 : ∀ e ∈ es' ++ es2, EsOk K H (upd H4 l (.lst ((es'.map fun e => V.ref e.a) ++ acc))) e := fun e he => by
                rcases List.mem_append.mp he with he | he
                · exact esOk_upd (esOk_same (hes3 e he) s34) hl4 (fun _ z => nomatch z)
                · exact esOk_upd (e2b e he) hl4 (fun _ z => nomatch z)
              have hz5 : zEs (es' ++ es2) = zEs es' + (ssizes A1 + ssizes B1) := by rw [zEs_append, e2c, ssizes_append]
              have hn5 : nEs (es' ++ es2) = nEs es' ++ (namesSs A1 en.k ++ namesSs B1 en.k) := by rw [nEs_append, e2d, namesSs_append]
              have hd5 : dEs (es' ++ es2) = (dEs es' && (deepSs A1 en.k && deepSs B1 en.k)) := by rw [dEs_append, e2e, deepSs_append]
              have lz5 := zEs_len (es' ++ es2)
              generalize upd H4 l (.lst ((es'.map fun e => V.ref e.a) ++ acc)) = H5 at s5 hl5 hp5 hes5 ⊢
              generalize es' ++ es2 = es3 at hl5 hes5 hz5 hn5 hd5 lz5
              have hT5 := s5.tup hTH
              keq_hits
              refine i_lstT hl5 ?_
              keq_hits
              refine we_ix ix_tup plainIx_int ?_
              keq_hits
              refine i_ixT hT5 rfl ?_
              keq_hits
              rcases h2 with ⟨rfl, rfl⟩ | ⟨b2, r2, rfl, rfl, dr⟩
              · refine i_iff rfl ?_
                keq_hits
                refine ⟨by show 0 ≤ sizeLine; decide, fun l2 hl2 => ?_⟩
                keq_hits
                have nl : l ≠ l2 := fun z => by rw [← z, hl5] at hl2; cases hl2
                have s6 := Same.new (o := .lst ([] : List V)) hl2
                refine i_extend (s6 _ _ hl5) upd_same (by show _ ≤ 16777216; rw [List.length_map]; simp; omega) ?_
                keq_hits
                refine ⟨zEs es3, by simp [ssizes] at hsx; omega, es3, fl, _, _, _, rfl, (s5.trans s6).mut hl0, by rw [upd_same, List.append_nil], by rw [upd_ne (Ne.symm lp)]; exact s6 _ _ hp5, fun e he => esOk_upd (esOk_same (hes5 e he) s6) (s6 _ _ hl5) (fun _ z => nomatch z), by simp [ssizes] at hsx; omega, rfl, ?_, ?_, hnd⟩
                · rw [hnx] at hn2
                  rw [hn5]
                  simpa [namesSs] using hn2
                · rw [hd2, hdx, hd5]
                  simp [deepSs]
              · refine i_ift rfl ?_
                keq_hits
                refine we_ix ix_tup plainIx_int ?_
                keq_hits
                refine i_ixT hT5 rfl ?_
                keq_hits
                refine we_op op_add ?_
                keq_hits
                refine ⟨by show 2 ≤ sizeLine; decide, fun p5 hp5' => ?_⟩
                keq_hits
                refine ⟨by show 1 ≤ sizeLine; decide, fun l2 hl2 => ?_⟩
                keq_hits
                have s6 := (Same.new (o := .tup [V.ref b2, .int ((en.k : Int) + 1)]) hp5').trans (Same.new (o := .lst [V.ref p5]) hl2)
                have t6 : upd (upd H5 p5 (.tup [V.ref b2, .int ((en.k : Int) + 1)])) l2 (.lst [V.ref p5]) p5 = some (.tup [V.ref b2, .int ((en.k + 1 : Nat) : Int)]) := Same.new (o := .lst [V.ref p5]) hl2 _ _ upd_same
                have l6 : upd (upd H5 p5 (.tup [V.ref b2, .int ((en.k : Int) + 1)])) l2 (.lst [V.ref p5]) l2 = some (.lst [V.ref p5]) := upd_same
                generalize upd (upd H5 p5 (.tup [V.ref b2, .int ((en.k : Int) + 1)])) l2 (.lst [V.ref p5]) = H6 at s6 t6 l6 ⊢
                have hl6 := s6 _ _ hl5
                refine i_extend hl6 l6 (by show _ ≤ 16777216; rw [List.length_map]; simp; omega) ?_
                keq_hits
                have zz : zEs (es3 ++ [⟨p5, .ref b2, r2, en.k + 1⟩]) = zEs es3 + ssize r2 := by rw [zEs_append]; simp [zEs]
                refine ⟨zEs (es3 ++ [⟨p5, .ref b2, r2, en.k + 1⟩]), by rw [zz]; simp [ssizes] at hsx; omega, es3 ++ [⟨p5, .ref b2, r2, en.k + 1⟩], fl, _, _, _, rfl, (s5.trans s6).mut hl0, by rw [upd_same, List.map_append]; rfl, by rw [upd_ne (Ne.symm lp)]; exact s6 _ _ hp5, fun e he => ?_, by rw [zz]; simp [ssizes] at hsx; omega, rfl, ?_, ?_, hnd⟩
                · refine esOk_upd ?_ hl6 (fun _ z => nomatch z)
                  rcases List.mem_append.mp he with he | he
                  · exact esOk_same (hes5 e he) s6
                  · rw [List.mem_singleton.mp he]
                    exact ⟨t6, dr⟩
                · rw [hnx] at hn2
                  rw [nEs_append, hn5]
                  refine hn2.trans (List.Perm.append_left fl ?_)
                  simp only [nEs, namesSs, List.flatMap_cons, List.flatMap_nil, List.append_nil, List.append_assoc]
                  refine List.Perm.append_left _ (List.Perm.append_left _ ?_)
                  exact List.perm_append_comm
                · rw [hd2, hdx, dEs_append, hd5]
                  simp only [dEs, deepSs, List.all_cons, List.all_nil, Bool.and_true]
                  generalize (es'.all fun e => deepS e.x e.k) = b0
                  cases b0 <;> cases deepSs A1 en.k <;> cases deepSs B1 en.k <;> cases deepS r2 (en.k + 1) <;> rfl
      · have : es = [] := by
          cases es with
          | nil => rfl
          | cons x r => simp at e
        subst this
        keq_hits
        have hn3 : (namesS x 0).Perm fl := by simpa [nEs] using hn
        refine q ?_ fl p _ hn3.symm hp s1 hp1
        have h1 := (hn3.map (·.1)).nodup_iff.mpr hnd
        simp [goodS, h1, hdd, dEs]
end
end
section
section
variable {P : Program} {w : World} {K : PySem.W.Frag} {mg : Str → Option Value} {base : Heap} {f f2 : Addr} {fd fd2 : FuncData} {C CB : Addr} {L : List Str}
theorem ok_shape0 (F : FnP K "shape" 24 f fd) (hm : mg "shape" = some (.ref f)) : Def P w K mg base 4 "shape" (sp_shape K C CB L 0) := by
  refine Def.mk' F hm sc24 (fun vs H Q E h => ?_) (fun _ _ _ _ _ _ us hl => match us, hl with | [_, _, _], _ => rfl) (fun cdv A outer s H vs Q E hr tk h => ?_)
  · obtain ⟨kk, dx, v, lv, d, rfl, _⟩ := h
    rfl
  · obtain ⟨kk, dx, v, lv, d, rfl, hk, hd, hL, hf, hz, hsz, hdp, q, qe⟩ := h
    have := ddep_pos d
    omega
theorem ok_shapes (F : FnP K "shape" 24 f fd) (hm : mg "shape" = some (.ref f)) (F2 : FnP K "list_shape" 25 f2 fd2) (hm2 : mg "list_shape" = some (.ref f2)) (O : PlainOk P w K mg base C) (Er : ErrC P w K mg base 1 "BadPattern" CB) (mR : ∃ t, mg "REPEAT" = some (.str "..." t)) (mA : ∃ t, mg "ANY" = some (.str "_" t))
    (ml : mg "len" = none) (me : mg "enumerate" = none) (mt : mg "tuple" = none) : ∀ n, Def P w K mg base (2 * n + 4) "shape" (sp_shape K C CB L n)
  | 0 => ok_shape0 F hm
  | n + 1 => ok_shape F hm (by omega) O Er mR mA (ok_list_shape F2 hm2 (by omega) O Er mR ml me mt (ok_shapes F hm F2 hm2 O Er mR mA ml me mt n))
/-- a shape is not larger than its form -/
def osz : Option Sh → Nat
  | some x => ssize x
  | none => 0
def oszs : List (Option Sh) → Nat
  | [] => 0
  | o :: os => osz o + oszs os
theorem oszs_some : ∀ xs : List Sh, oszs (xs.map some) = ssizes xs
  | [] => rfl
  | x :: xs => by simp [oszs, osz, ssizes, oszs_some xs]
theorem oszs_append (a b : List (Option Sh)) : oszs (a ++ b) = oszs a + oszs b := by
  induction a with
  | nil => simp [oszs]
  | cons x a ih => simp [oszs, ih]; omega
theorem oszs_drop (n : Nat) (a : List (Option Sh)) : oszs (a.drop n) ≤ oszs a := by
  have h := oszs_append (a.take n) (a.drop n)
  rw [List.take_append_drop] at h
  omega
theorem oszs_cut {os : List (Option Sh)} {i : Nat} {r : Sh} (h0 : i ≠ 0) (h : os[i - 1]? = some (some r)) : oszs (os.take (i - 1)) + ssize r + oszs (os.drop (i + 1)) ≤ oszs os := by
  have hl := (List.getElem?_eq_some_iff.mp h).1
  have e : os = os.take (i - 1) ++ (some r :: os.drop i) := by
    have e1 := (List.take_append_drop (i - 1) os).symm
    rw [List.drop_eq_getElem_cons hl] at e1
    have e2 : os[i - 1] = some r := by
      rw [List.getElem?_eq_getElem hl] at h
      exact Option.some.inj h
    rw [e2] at e1
    have e3 : i - 1 + 1 = i := by omega
    rw [e3] at e1
    exact e1
  have e4 := congrArg oszs e
  rw [oszs_append] at e4
  simp only [oszs, osz] at e4
  have h5 := oszs_drop 1 (os.drop i)
  rw [List.drop_drop] at h5
  omega
theorem joinS_size {ds : List PyData} {os : List (Option Sh)} {x : Sh} (h : joinS ds os = some x) : ssize x ≤ oszs os + 1 := by
  unfold joinS at h
  split at h
  · cases e : seqO os with
    | none => rw [e] at h; cases h
    | some a =>
      rw [e] at h
      cases h
      rw [seqO_some e, oszs_some]
      exact Nat.le_refl _
  · rename_i i hs
    by_cases h0 : i = 0
    · rw [if_pos h0] at h; cases h
    · rw [if_neg h0] at h
      split at h
      · rename_i a b r e1 e2 e3
        cases h
        have := oszs_cut h0 e3
        rw [seqO_some e1, seqO_some e2, oszs_some, oszs_some] at this
        simp only [ssize]
        omega
      · cases h
  · cases h
mutual
theorem shape_size (L : List Str) : ∀ (d : PyData) (x : Sh), shapeS L d = some x → ssize x ≤ dsize d
  | .none, x, h => by simp [shapeS] at h
  | .bool b, x, h => by simp [shapeS] at h
  | .int i, x, h => by
    simp [shapeS] at h
    subst h
    exact Nat.le_refl _
  | .str s, x, h => by
    simp only [shapeS] at h
    split at h
    · cases h
    · split at h
      · cases h
        exact Nat.le_refl _
      · split at h <;> cases h <;> exact Nat.le_refl _
  | .list ds, x, h => by simp [shapeS] at h
  | .dict ds, x, h => by simp [shapeS] at h
  | .tuple ds, x, h => by
    have h1 := joinS_size (show joinS ds (shapesS L ds) = some x from h)
    have h2 := shape_sizes L ds
    simp only [dsize]
    omega
theorem shape_sizes (L : List Str) : ∀ ds : List PyData, oszs (shapesS L ds) ≤ dsizes ds
  | [] => Nat.le_refl _
  | d :: ds => by
    have h2 := shape_sizes L ds
    have h1 : osz (shapeS L d) ≤ dsize d := by
      cases e : shapeS L d with
      | none => exact Nat.zero_le _
      | some x => exact shape_size L d x e
    simp only [shapesS, oszs, dsizes]
    omega
end
def goodD (L : List Str) (d : PyData) : Bool := match shapeS L d with
  | some x => goodS x
  | none => false
/-- what a form of the law's is -/
structure FormOk (d : PyData) : Prop where
  sm : smallD d = true
  sz : dsize d ≤ 3000
  dp : ddep d ≤ 20
def sp_is_good (K : PySem.W.Frag) (L : List Str) : Sp := fun vs H Q _ => ∃ lv v d, vs = [lv, v] ∧ Dp K H lv (.tuple (L.map .str)) ∧ Dp K H v d ∧ formB d = true ∧ FormOk d ∧ ∀ H', Same H H' → Q (.bl (goodD L d)) H'
theorem sc32 : FnScope ["literals", "form"] ["literals", "form"] (defScope (top 32)) := ⟨rfl, rfl, rfl, by decide +kernel, rfl, by decide +kernel, by decide +kernel⟩
theorem ok_is_good (F : FnP K "is_good" 32 f fd) (hm : mg "is_good" = some (.ref f)) (O : PlainOk P w K mg base C) (Er : ErrC P w K mg base 1 "BadPattern" CB) (hx : PySem.W.exmOne K (.ref CB) (.ref CB) = some true)
    (DS : Def P w K mg base 44 "shape" (sp_shape K C CB L 20)) (DD : Def P w K mg base 3 "depths" (sp_depths K CB)) : Def P w K mg base 45 "is_good" (sp_is_good K L) := by
  refine Def.mk' F hm sc32 (fun vs H Q E h => ?_) (fun _ _ _ _ _ _ us hl => match us, hl with | [_, _], _ => rfl) (fun cdv A outer s H vs Q E hr tk h => ?_)
  · obtain ⟨lv, v, d, rfl, _⟩ := h
    rfl
  · obtain ⟨lv, v, d, rfl, hL, hd, hf, ⟨hz, hsz, hdp⟩, q⟩ := h
    obtain ⟨cl, mz, gP, lp, it, wi, ke, il⟩ := O
    have nd := sc32.nd
    refine wb_cons ?_
    refine ws_try rfl rfl ⟨rfl, by decide, .inl Er.gC⟩ tk fun pn xe tk' => ?_
    refine wb_one (ws_expr ?_)
    refine we_call' DD (Room.mono hr (by omega)) (pas_of tk') (by rfl) ?_
    refine wa_cons ?_
    refine we_call' DS (Room.mono hr (by omega)) (pas_of tk') (by rfl) ?_
    refine wa_cons ?_
    refine we_make0 mz (by rfl) gP fun y dx hy hdx hne => ?_
    have sI : Same H (upd (upd H dx (.own y)) y (.ins C dx [])) := (Same.new hdx).trans (Same.new (by rw [upd_ne hne.symm]; exact hy))
    have hI : upd (upd H dx (.own y)) y (.ins C dx []) y = some (.ins C dx []) := upd_same
    generalize upd (upd H dx (.own y)) y (.ins C dx []) = H1 at sI hI ⊢
    have bad : goodD L d = false → ∀ H', Same H H' → wOnly K (.ref CB) (tsB (bx P w K mg base ["literals", "form"] "is_good" (defScope (top 32)) f cdv A outer s H E) [.Return (some (.Constant (.bool false) 0 ⟨152, 15, 152, 20⟩)) ⟨152, 8, 152, 20⟩]) (fun cls d _ H => E cls d H) { nx := WB (bx P w K mg base ["literals", "form"] "is_good" (defScope (top 32)) f cdv A outer s H E) [.Return (some (.Constant (.bool true) 0 ⟨153, 11, 153, 15⟩)) ⟨153, 4, 153, 15⟩] { nx := fun _ H' => Q .non H', rt := Q }, rt := Q } (.ref CB) none (L2.start ["literals", "form"] [lv, v]) H' := by
      intro e H' s'
      refine i_caught hx fun a ha oe pn' hz hd => ?_
      refine wb_one (ws_ret (we_bl ?_))
      exact fin_bl (q _ s') e.symm
    refine wa_cons ?_
    keq_hits
    refine ⟨y, dx, v, lv, d, rfl, hI, WP.dp_mono sI hd, WP.dp_mono sI hL, hf, hz, hsz, hdp, fun x ex v' H2 s2 dp => ?_, fun e H' s' => ?_⟩
    · keq_hits
      refine ⟨v', x, rfl, dp, Nat.le_trans (shape_size L d x ex) hsz, fun g l p H3 hp h3 s3 hk3 => ?_, fun g H' s' => ?_⟩
      · keq_hits
        exact fin_bl (q _ (sI.trans (s2.trans s3))) (by simp [goodD, ex, g])
      · exact bad (by simp [goodD, ex, g]) _ (sI.trans (s2.trans s'))
    · exact bad (by simp [goodD, e]) _ (sI.trans s')
end
end
section
section
variable {P : Program} {w : World} {K : PySem.W.Frag} {mg : Str → Option Value} {base : Heap} {f : Addr} {fd : FuncData} {C CB : Addr} {L : List Str}
structure LitsOk (L : List Str) : Prop where
  len : L.length ≤ 12
  nm : ∀ s ∈ L, nameS s = true
  nd : L.Nodup
def sp_check_literals (K : PySem.W.Frag) (L : List Str) : Sp := fun vs H Q _ => ∃ v, vs = [v] ∧ Dp K H v (.tuple (L.map .str)) ∧ ∀ H', Same H H' → Q .non H'
theorem sc30 : FnScope ["thing", "name"] ["thing"] (defScope (top 30)) := ⟨rfl, rfl, rfl, by decide +kernel, rfl, by decide +kernel, by decide +kernel⟩
theorem nameS_small {s : Str} (h : nameS s = true) : s.length ≤ 12 := by
  simp only [nameS, Bool.and_eq_true, decide_eq_true_eq] at h
  exact h.1.2
theorem ok_check_literals (F : FnP K "check_literals" 30 f fd) (hm : mg "check_literals" = some (.ref f)) (LO : LitsOk L) (ml : mg "len" = none) (ma : mg "all" = none) (DZ : Def P w K mg base 1 "is_sized" (sp_is_sized K)) (DN : Def P w K mg base 1 "is_name" (sp_is_name K)) : Def P w K mg base 3 "check_literals" (sp_check_literals K L) := by
  refine Def.mk' F hm sc30 (fun vs H Q E h => ?_) (fun _ _ _ _ _ _ us hl => match us, hl with | [_], _ => rfl) (fun cdv A outer s H vs Q E hr tk h => ?_)
  · obtain ⟨v, rfl, _⟩ := h
    rfl
  · obtain ⟨v, rfl, hd, q⟩ := h
    have nd := sc30.nd
    have hln := LO.len
    obtain ⟨a, xs, rfl, hx, hxs⟩ := dp_tup hd
    cases dps_strs hxs
    keq_hits
    refine ⟨_, _, _, _, rfl, hd, fun H1 s1 => ?_⟩
    have eS : isSized 0 12 (.tuple (L.map .str)) = true := by
      simp only [isSized, List.length_map, Bool.and_eq_true, decide_eq_true_eq]
      omega
    keq_hits
    refine i_iff (by rw [eS]; rfl) ?_
    keq_hits
    refine we_callB (cr_all rfl) (by rfl) (by assumption) boot_all ?_
    refine wa_cons ?_
    refine we_lc rfl rfl tk rfl nd (pi_tup pe) (blkOk_by (N := ["thing", "name"]) (sc := defScope (top 30)) (own := [("name", 1)]) (by decide +kernel)) (fun _ _ _ _ _ => by k_memK) ?_
    show WP.WE _ _ _ _ _
    keq_hits
    have hx1 := s1.tup hx
    refine ⟨a, rfl, ⟨_, hx1⟩, fun D hD => lc_R (fun i _ v => v = .bl true) stay_val walk_tup (by rw [List.length_map]; show _ < 16777216; omega) hD (fun H s => s.tup hx1) ?_ teW_mono gName_mono fun H2 acc s2 hl ha hR => ?_⟩
    · rintro i x H3 H4 hi s3 ⟨rfl, hxi⟩
      refine ⟨rfl, fun s0 H0 C cl fp => ?_⟩
      rw [List.getElem?_map] at hxi
      cases e : L[i]? with
      | none => rw [e] at hxi; cases hxi
      | some z =>
        rw [e] at hxi
        cases hxi
        have hz := LO.nm z (List.mem_of_getElem? e)
        keq_hits
        exact ⟨_, .str z, rfl, .str z, by have := nameS_small hz; simp [smallD]; omega, fun H5 s5 => ⟨s5, by simp [isName, hz]⟩⟩
    · keq_hits
      have ea : acc = (List.replicate acc.length true).map V.bl := by
        apply List.ext_getElem?
        intro i
        by_cases hi : i < acc.length
        · rw [List.getElem?_eq_getElem hi, hR i _ (List.getElem?_eq_getElem hi)]
          simp [hi]
        · rw [List.getElem?_eq_none (by omega), List.getElem?_eq_none (by simp; omega)]
      refine ⟨D, List.replicate acc.length true, rfl, SqL.of (by rw [hl, ← ea]), ?_⟩
      refine i_bl ?_
      refine i_iff (by simp) ?_
      keq_hits
      refine we_dc rfl nd (pi_tup pe) (blkOk_by (N := ["thing", "name"]) (sc := defScope (top 30)) (own := [("name", 1)]) (by decide +kernel)) (fun _ _ _ _ _ => by k_memK) ?_
      show WP.WE _ _ _ _ _
      keq_hits
      have s12 := s1.trans s2
      have hx2 := s12.tup hx
      refine ⟨a, rfl, ⟨_, hx2⟩, fun D2 hD2 => dc_it walk_tup (fun i H => Same H2 H ∧ H D2 = some (.dK ((L.take i).map fun s => (.inr s, .bl true)))) ⟨Same.new hD2, upd_same⟩ (fun i H _ h => h.1.tup hx2) ?_ fun H3 h3 => ?_⟩
      · rintro i x H3 H4 hi ⟨s3, h3⟩ ⟨rfl, hxi⟩
        refine ⟨rfl, ?_⟩
        unfold tYes
        refine i_ift rfl ?_
        rw [List.getElem?_map] at hxi
        cases e : L[i]? with
        | none => rw [e] at hxi; cases hxi
        | some z =>
          rw [e] at hxi
          cases hxi
          intro s0 H0 C0 cl fp
          keq_hits
          intro s0 H0 C0 cl fp
          keq_hits
          refine ⟨_, .inr z, rfl, h3, by rw [List.length_map, List.length_take]; show _ < 16777216; omega, s3.mut hD2, ?_⟩
          have hz : z ∉ L.take i := fun hz => by
            have hn := LO.nd
            have hi' := (List.getElem?_eq_some_iff.mp e).1
            rw [← List.take_append_drop i L, List.drop_eq_getElem_cons hi'] at hn
            have e2 : L[i] = z := (List.getElem?_eq_some_iff.mp e).2
            rw [e2] at hn
            exact nodup_mid hn hz
          have en : valV ((L.take i).map fun s => ((.inr s : Key), V.bl true)) (.inr z) = none := by
            cases q : valV ((L.take i).map fun s => ((.inr s : Key), V.bl true)) (.inr z) with
            | none => rfl
            | some v =>
              have := valV_any (.inr z) ((L.take i).map fun s => ((.inr s : Key), V.bl true))
              rw [q] at this
              simp only [List.any_map, Option.isSome_some] at this
              obtain ⟨y, hy, e3⟩ := List.any_eq_true.mp this
              have e3 : y = z := by simpa using e3
              exact absurd (e3 ▸ hy) hz
          rw [putK_new _ en, upd_same]
          have hi' := (List.getElem?_eq_some_iff.mp e)
          rw [List.take_succ, e]
          simp
      · obtain ⟨s3, h3⟩ := h3
        keq_hits
        refine i_lenK h3 ?_
        keq_hits
        have hx3 := s3.tup hx2
        refine i_lenT hx3 ?_
        keq_hits
        refine i_iff (by simp) ?_
        keq_hits
        exact q _ (s12.trans s3)
def sp_is_pattern (K : PySem.W.Frag) (L : List Str) : Sp := fun vs H Q _ => ∃ lv v d, vs = [lv, v] ∧ Dp K H lv (.tuple (L.map .str)) ∧ Dp K H v d ∧ FormOk d ∧ ∀ H', Same H H' → Q (.bl (formB d && goodD L d)) H'
theorem sc31 : FnScope ["literals", "thing"] ["literals", "thing"] (defScope (top 31)) := ⟨rfl, rfl, rfl, by decide +kernel, rfl, by decide +kernel, by decide +kernel⟩
theorem ok_is_pattern (F : FnP K "is_pattern" 31 f fd) (hm : mg "is_pattern" = some (.ref f)) (DL : Def P w K mg base 3 "check_literals" (sp_check_literals K L)) (DF : Def P w K mg base 3 "is_form" (sp_is_form K)) (DG : Def P w K mg base 45 "is_good" (sp_is_good K L)) : Def P w K mg base 46 "is_pattern" (sp_is_pattern K L) := by
  refine Def.mk' F hm sc31 (fun vs H Q E h => ?_) (fun _ _ _ _ _ _ us hl => match us, hl with | [_, _], _ => rfl) (fun cdv A outer s H vs Q E hr tk h => ?_)
  · obtain ⟨lv, v, d, rfl, _⟩ := h
    rfl
  · obtain ⟨lv, v, d, rfl, hL, hd, ⟨hz, hsz, hdp⟩, q⟩ := h
    have nd := sc31.nd
    keq_hits
    refine ⟨_, rfl, hL, fun H1 s1 => ?_⟩
    keq_hits
    refine ⟨_, _, rfl, WP.dp_mono s1 hd, hz, hsz, by omega, fun H2 s2 => ?_⟩
    keq_hits
    have s12 := s1.trans s2
    refine i_ite (fun e => ?_) (fun e => ?_)
    · keq_hits
      refine ⟨_, _, _, rfl, WP.dp_mono s12 hL, WP.dp_mono s12 hd, e, ⟨hz, hsz, hdp⟩, fun H3 s3 => ?_⟩
      keq_hits
      exact fin_bl (q _ (s12.trans s3)) (by rw [e]; rfl)
    · exact fin_bl (q _ s12) (by rw [e]; rfl)
def sp_check_pattern (K : PySem.W.Frag) (CB : Addr) (L : List Str) : Sp := fun vs H Q E => ∃ lv v d, vs = [lv, v] ∧ Dp K H lv (.tuple (L.map .str)) ∧ Dp K H v d ∧ FormOk d ∧
  ((formB d && goodD L d) = true → ∀ H', Same H H' → Q .non H') ∧ ((formB d && goodD L d) = false → ∀ H', Same H H' → E (.ref CB) none H')
theorem sc33 : FnScope ["literals", "thing"] ["literals", "thing"] (defScope (top 33)) := ⟨rfl, rfl, rfl, by decide +kernel, rfl, by decide +kernel, by decide +kernel⟩
theorem ok_check_pattern (F : FnP K "check_pattern" 33 f fd) (hm : mg "check_pattern" = some (.ref f)) (Er : ErrC P w K mg base 1 "BadPattern" CB) (D : Def P w K mg base 46 "is_pattern" (sp_is_pattern K L)) : Def P w K mg base 47 "check_pattern" (sp_check_pattern K CB L) := by
  refine Def.mk' F hm sc33 (fun vs H Q E h => ?_) (fun _ _ _ _ _ _ us hl => match us, hl with | [_, _], _ => rfl) (fun cdv A outer s H vs Q E hr tk h => ?_)
  · obtain ⟨lv, v, d, rfl, _⟩ := h
    rfl
  · obtain ⟨lv, v, d, rfl, hL, hd, hf, q, qe⟩ := h
    have nd := sc33.nd
    keq_hits
    refine ⟨_, _, _, rfl, hL, hd, hf, fun H1 s1 => ?_⟩
    keq_hits
    refine i_ite (fun e => ?_) (fun e => ?_)
    · keq_hits
      refine ws_raise Er (Room.mono hr (by omega)) rfl tk rfl ?_
      exact qe (by revert e; cases (formB d && goodD L d) <;> simp) _ s1
    · keq_hits
      exact q (by revert e; cases (formB d && goodD L d) <;> simp) _ s1
end
end
section
section
variable {P : Program} {w : World} {K : PySem.W.Frag} {mg : Str → Option Value} {base : Heap} {f : Addr} {fd : FuncData} {C CB : Addr} {L : List Str}
def fN (p : Str × Nat) : Str × V := (p.1, .int (p.2 : Int))
def gN (p : Str × V) : Str × Nat := (p.1, match p.2 with | .int i => i.toNat | _ => 0)
theorem gN_fN (p : Str × Nat) : gN (fN p) = p := by simp [gN, fN]
theorem kvN_fN (l : List (Str × Nat)) : kvN l = (l.map fN).map entS := by simp [kvN, fN, entS]
def sp_names_of (K : PySem.W.Frag) (CB : Addr) (L : List Str) : Sp := fun vs H Q E => ∃ lv v d, vs = [lv, v] ∧ Dp K H lv (.tuple (L.map .str)) ∧ Dp K H v d ∧ FormOk d ∧
  (∀ x, formB d = true → shapeS L d = some x → goodS x = true → ∀ (H' : Hp) (l : Addr) (ps : List (Addr × Str × Nat)), Same H H' → H l = none → (ps.map (·.2)).Perm (namesS x 0) → (ps.map (·.2)).Pairwise (fun e f => txtLt f.1 e.1 = false) →
    H' l = some (.lst (ps.map fun z => V.ref z.1)) → (∀ z ∈ ps, H' z.1 = some (.tup [.str z.2.1, .int (z.2.2 : Int)])) → Q (.ref l) H') ∧ ((formB d && goodD L d) = false → ∀ H', Same H H' → E (.ref CB) none H')
theorem sc34 : FnScope ["literals", "pattern"] ["literals", "pattern"] (defScope (top 34)) := ⟨rfl, rfl, rfl, by decide +kernel, rfl, by decide +kernel, by decide +kernel⟩
theorem ok_names_of (F : FnP K "names_of" 34 f fd) (hm : mg "names_of" = some (.ref f)) (O : PlainOk P w K mg base C) (ms : mg "sorted" = none) (DC : Def P w K mg base 47 "check_pattern" (sp_check_pattern K CB L))
    (DS : Def P w K mg base 44 "shape" (sp_shape K C CB L 20)) (DD : Def P w K mg base 3 "depths" (sp_depths K CB)) : Def P w K mg base 48 "names_of" (sp_names_of K CB L) := by
  refine Def.mk' F hm sc34 (fun vs H Q E h => ?_) (fun _ _ _ _ _ _ us hl => match us, hl with | [_, _], _ => rfl) (fun cdv A outer s H vs Q E hr tk h => ?_)
  · obtain ⟨lv, v, d, rfl, _⟩ := h
    rfl
  · obtain ⟨lv, v, d, rfl, hL, hd, hf, q, qe⟩ := h
    obtain ⟨cl, mz, gP, lp, it, wi, ke, il⟩ := O
    have nd := sc34.nd
    keq_hits
    refine ⟨_, _, _, rfl, hL, hd, hf, fun g H1 s1 => ?_, qe⟩
    obtain ⟨g1, g2⟩ := Bool.and_eq_true_iff.mp g
    obtain ⟨x, ex, gx⟩ : ∃ x, shapeS L d = some x ∧ goodS x = true := by
      unfold goodD at g2
      split at g2
      · rename_i x ex
        exact ⟨x, ex, g2⟩
      · cases g2
    obtain ⟨hz, hsz, hdp⟩ := hf
    keq_hits
    refine we_callB (cr_sortedK rfl) (by rfl) ms boot_sorted ?_
    refine wa_cons (we_items ?_)
    refine we_call' DD (Room.mono hr (by omega)) (pas_of tk) (by rfl) ?_
    refine wa_cons ?_
    refine we_call' DS (Room.mono hr (by omega)) (pas_of tk) (by rfl) ?_
    refine wa_cons ?_
    refine we_make0 mz (by rfl) gP fun y dx hy hdx hne => ?_
    have sI : Same H1 (upd (upd H1 dx (.own y)) y (.ins C dx [])) := (Same.new hdx).trans (Same.new (by rw [upd_ne hne.symm]; exact hy))
    have hI : upd (upd H1 dx (.own y)) y (.ins C dx []) y = some (.ins C dx []) := upd_same
    generalize upd (upd H1 dx (.own y)) y (.ins C dx []) = H2 at sI hI ⊢
    have s2 := s1.trans sI
    keq_hits
    refine ⟨y, dx, v, lv, d, rfl, hI, WP.dp_mono s2 hd, WP.dp_mono s2 hL, g1, hz, hsz, hdp, fun x' ex' v' H3 s3 dp => ?_, fun e H' s' => by rw [ex] at e; cases e⟩
    rw [ex] at ex'
    cases ex'
    have s23 := s2.trans s3
    keq_hits
    refine ⟨v', x, rfl, dp, Nat.le_trans (shape_size L d x ex) hsz, fun _ l p H4 hp h4 s4 hk4 => ?_, fun g H' s' => by rw [gx] at g; cases g⟩
    refine i_items hk4 fun p2 hp2 => ?_
    have s5 := s23.trans (s4.trans (Same.new (o := L2.DX.itemsO p2 p) hp2))
    have nx : (namesS x 0).length ≤ 3000 := Nat.le_trans (names_len x 0) (Nat.le_trans (shape_size L d x ex) hsz)
    have hll := hp.length_eq
    keq_hits
    refine ⟨p2, p, l.map fN, rfl, upd_same, by rw [← kvN_fN]; exact Same.new hp2 _ _ hk4, ?_, by rw [List.length_map]; show _ < 16777216; omega, fun H6 l6 ps s6 hl6 hpm hso h6 h7 => ?_⟩
    · have hnd : ((namesS x 0).map (·.1)).Nodup := by
        have := gx
        simp only [goodS, Bool.and_eq_true, decide_eq_true_eq] at this
        exact this.1
      rw [List.map_map]
      exact (hp.map (·.1)).nodup_iff.mpr hnd
    · have back : ∀ z ∈ ps, z.2 = fN (gN z.2) := fun z hz => by
        have : z.2 ∈ l.map fN := hpm.mem_iff.mp (List.mem_map_of_mem hz)
        obtain ⟨y, _, e⟩ := List.mem_map.mp this
        rw [← e, gN_fN]
      have hl0 : H l6 = none := by
        cases z : H l6 with
        | none => rfl
        | some o => rw [s5 _ _ z] at hl6; cases hl6
      refine q x g1 ex gx H6 l6 (ps.map fun z => (z.1, gN z.2)) (s5.trans s6) hl0 ?_ ?_ (by rw [h6, List.map_map]; rfl) fun z hz => ?_
      · have e1 := (hpm.map gN).trans (show ((l.map fN).map gN).Perm (namesS x 0) by rw [List.map_map, show gN ∘ fN = id from funext gN_fN, List.map_id]; exact hp)
        rw [List.map_map] at e1 ⊢
        exact e1
      · rw [List.map_map]
        rw [List.pairwise_map] at hso ⊢
        exact hso
      · obtain ⟨z0, hz0, rfl⟩ := List.mem_map.mp hz
        have h8 := h7 z0 hz0
        have b := back z0 hz0
        rw [h8]
        have b2 : z0.2.2 = (fN (gN z0.2)).2 := congrArg Prod.snd b
        rw [b2]
        rfl
end
end
section
/-! ### data that == takes -/
theorem signs_ok : ∀ c ∈ signs.cps.toList, c < 1114112 ∧ c < 55296 := by decide +kernel
theorem nameS_mem {s : Str} (h : nameS s = true) : ∀ c ∈ s.cps.toList, c ∈ signs.cps.toList := by
  simp only [nameS, Bool.and_eq_true, decide_eq_true_eq, List.all_eq_true] at h
  exact h.2
theorem strOk_word {s : Str} (h : wordS s = true) : PyData.strOk s = true := by
  simp only [wordS, Bool.or_eq_true, decide_eq_true_eq] at h
  rcases h with (h | h) | h
  · have g := nameS_mem h
    unfold PyData.strOk
    rw [← Array.all_toList, List.all_eq_true]
    intro c hc
    have := (signs_ok c (g c hc)).1
    simp only [decide_eq_true_eq]
    omega
  · rw [h]
    decide +kernel
  · rw [h]
    decide +kernel
mutual
theorem canLay_form : ∀ d, formB d = true → d.canLay0 = true
  | .none, h => rfl
  | .bool b, h => rfl
  | .int i, h => rfl
  | .str s, h => strOk_word (show wordS s = true from h)
  | .list ds, h => by simp [formB] at h
  | .dict ds, h => by simp [formB] at h
  | .tuple ds, h => canLay_forms ds (show formBs ds = true from h)
theorem canLay_forms : ∀ ds, formBs ds = true → PyData.canLayAll0 ds = true
  | [], _ => rfl
  | d :: ds, h => by
    simp only [formBs, Bool.and_eq_true] at h
    simp only [PyData.canLayAll0, Bool.and_eq_true]
    exact ⟨canLay_form d h.1, canLay_forms ds h.2⟩
end
mutual
theorem depth_form : ∀ d, formB d = true → d.depth ≤ ddep d
  | .none, h => by simp [formB] at h
  | .bool b, h => by simp [formB] at h
  | .int i, h => by simp [PyData.depth, ddep]
  | .str s, h => by simp [PyData.depth, ddep]
  | .list ds, h => by simp [formB] at h
  | .dict ds, h => by simp [formB] at h
  | .tuple ds, h => by
    have := depth_forms ds (show formBs ds = true from h)
    simp only [PyData.depth, ddep]
    omega
theorem depth_forms : ∀ ds, formBs ds = true → PyData.depthAll ds ≤ ddeps ds
  | [], _ => Nat.le_refl _
  | d :: ds, h => by
    simp only [formBs, Bool.and_eq_true] at h
    have h1 := depth_form d h.1
    have h2 := depth_forms ds h.2
    simp only [PyData.depthAll, ddeps]
    omega
end
theorem shaped_form {d : PyData} (h : formB d = true) (hd : ddep d ≤ 60) : SeqAt.shaped d = true := by
  unfold SeqAt.shaped
  have := depth_form d h
  simp only [Bool.and_eq_true, decide_eq_true_eq]
  exact ⟨canLay_form d h, by omega⟩
theorem eqv_rep {d : PyData} : PyData.eqv d (.str "...") = isRep d := by
  cases d with
  | str s => rw [PyData.eqv, isRep, Bool.eq_iff_iff]; simp
  | _ => simp [PyData.eqv, isRep]
theorem shaped_rep : SeqAt.shaped (.str "...") = true := by decide +kernel
end
section
mutual
def leastD (L : List Str) (z : Str) : PyData → PyData
  | .str s => if s ∈ L then .str s else .str z
  | .tuple ds => .tuple (match spots ds with
    | [] => leastDs L z ds
    | i :: _ => (leastDs L z ds).take (i - 1) ++ (leastDs L z ds).drop (i + 1))
  | d => d
def leastDs (L : List Str) (z : Str) : List PyData → List PyData
  | [] => []
  | d :: ds => leastD L z d :: leastDs L z ds
end
theorem leastDs_map (L : List Str) (z : Str) : ∀ ds, leastDs L z ds = ds.map (leastD L z)
  | [] => rfl
  | d :: ds => by rw [leastDs, leastDs_map L z ds]; rfl
section
variable {P : Program} {w : World} {K : PySem.W.Frag} {mg : Str → Option Value} {base : Heap} {f : Addr} {fd : FuncData} {C CB : Addr} {L : List Str}
def sp_least_of (K : PySem.W.Frag) (L : List Str) (n : Nat) : Sp := fun vs H Q _ => ∃ v lv z d, vs = [v, lv, .str z] ∧ Dp K H v d ∧ Dp K H lv (.tuple (L.map .str)) ∧ formB d = true ∧ dsize d ≤ 3000 ∧ ddep d ≤ n ∧ n ≤ 60 ∧ (shapeS L d).isSome = true ∧
  ∀ v' H', Same H H' → Dp K H' v' (leastD L z d) → Q v' H'
theorem sc38 : FnScope ["pattern", "literals", "name", "spots", "at", "part", "parts"] ["pattern", "literals", "name"] (defScope (top 38)) := ⟨rfl, rfl, rfl, by decide +kernel, rfl, by decide +kernel, by decide +kernel⟩
theorem dps_build {H : Hp} : ∀ (ds : List PyData) (acc : List V), acc.length = ds.length → (∀ (i : Nat) (v : V), acc[i]? = some v → ∃ d, ds[i]? = some d ∧ Dp K H v d) → DpAll K H acc ds
  | [], [], _, _ => .nil
  | [], _ :: _, h, _ => nomatch h
  | _ :: _, [], h, _ => nomatch h
  | d :: ds, v :: acc, h, g => by
    obtain ⟨d', e, hd⟩ := g 0 v rfl
    simp at e
    subst e
    exact .cons hd (dps_build ds acc (by simpa using h) fun i v e => by simpa using g (i + 1) v (by simpa using e))
/-! no lists in a form -/
mutual
theorem nolist_form : ∀ d, formB d = true → nolist d = true
  | .none, h => rfl
  | .bool b, h => rfl
  | .int i, h => rfl
  | .str s, h => rfl
  | .list ds, h => by simp [formB] at h
  | .dict ds, h => by simp [formB] at h
  | .tuple ds, h => nolist_forms ds (show formBs ds = true from h)
theorem nolist_forms : ∀ ds, formBs ds = true → nolists ds = true
  | [], _ => rfl
  | d :: ds, h => by
    simp only [formBs, Bool.and_eq_true] at h
    simp only [nolists, Bool.and_eq_true]
    exact ⟨nolist_form d h.1, nolist_forms ds h.2⟩
end
theorem nolists_mem : ∀ {ds : List PyData} {d : PyData}, nolists ds = true → d ∈ ds → nolist d = true
  | [], d, _, h => nomatch h
  | x :: ds, d, h, hm => by
    simp only [nolists, Bool.and_eq_true] at h
    rcases List.mem_cons.mp hm with rfl | hm
    · exact h.1
    · exact nolists_mem h.2 hm
theorem nolists_all : ∀ {ds : List PyData}, (∀ d ∈ ds, nolist d = true) → nolists ds = true
  | [], _ => rfl
  | x :: ds, h => by
    simp only [nolists, Bool.and_eq_true]
    exact ⟨h x (by simp), nolists_all fun d hd => h d (List.mem_cons_of_mem _ hd)⟩
mutual
theorem nolist_least (L : List Str) (z : Str) : ∀ d, nolist d = true → nolist (leastD L z d) = true
  | .none, h => rfl
  | .bool b, h => rfl
  | .int i, h => rfl
  | .str s, h => by simp only [leastD]; split <;> rfl
  | .list ds, h => by simp [nolist] at h
  | .dict ds, h => h
  | .tuple ds, h => by
    have hm := nolist_leasts L z ds (show nolists ds = true from h)
    show nolists _ = true
    split
    · exact hm
    · refine nolists_all fun d hd => ?_
      rcases List.mem_append.mp hd with hd | hd
      · exact nolists_mem hm (List.mem_of_mem_take hd)
      · exact nolists_mem hm (List.mem_of_mem_drop hd)
theorem nolist_leasts (L : List Str) (z : Str) : ∀ ds, nolists ds = true → nolists (leastDs L z ds) = true
  | [], _ => rfl
  | d :: ds, h => by
    simp only [nolists, Bool.and_eq_true] at h
    simp only [leastDs, nolists, Bool.and_eq_true]
    exact ⟨nolist_least L z d h.1, nolist_leasts L z ds h.2⟩
end
/-- which parts have a shape -/
theorem join_parts {L : List Str} {ds : List PyData} (h : (joinS ds (shapesS L ds)).isSome = true) :
    (spots ds = [] ∧ ∀ d ∈ ds, (shapeS L d).isSome = true) ∨ (∃ i, spots ds = [i] ∧ i ≠ 0 ∧ i < ds.length ∧ (∀ d ∈ ds.take (i - 1) ++ ds.drop (i + 1), (shapeS L d).isSome = true) ∧ ∃ d, ds[i - 1]? = some d ∧ (shapeS L d).isSome = true) := by
  have go : ∀ {es : List PyData} {xs : List Sh}, seqO (shapesS L es) = some xs → ∀ d ∈ es, (shapeS L d).isSome = true := fun {es xs} e d hd => by
    have := seqO_some e
    rw [shapesS_map] at this
    have h1 : shapeS L d ∈ es.map (shapeS L) := List.mem_map_of_mem hd
    rw [this] at h1
    obtain ⟨x, _, e2⟩ := List.mem_map.mp h1
    rw [← e2]
    rfl
  unfold joinS at h
  split at h
  · rename_i hs
    left
    cases e : seqO (shapesS L ds) with
    | none => rw [e] at h; cases h
    | some a => exact ⟨hs, go e⟩
  · rename_i i hs
    right
    by_cases h0 : i = 0
    · rw [if_pos h0] at h; cases h
    · rw [if_neg h0] at h
      split at h
      · rename_i a b r e1 e2 e3
        rw [shapesS_take] at e1
        rw [shapesS_drop] at e2
        have hi : i < ds.length := by
          have : i ∈ spots ds := by rw [hs]; simp
          simpa [spots] using (List.mem_filter.mp this).1
        refine ⟨i, hs, h0, hi, fun d hd => ?_, ?_⟩
        · rcases List.mem_append.mp hd with hd | hd
          · exact go e1 d hd
          · exact go e2 d hd
        · rw [shapesS_map, List.getElem?_map] at e3
          cases e4 : ds[i - 1]? with
          | none => rw [e4] at e3; cases e3
          | some d =>
            rw [e4] at e3
            refine ⟨d, rfl, ?_⟩
            have : shapeS L d = some r := Option.some.inj e3
            rw [this]
            rfl
      · cases h
  · cases h
theorem ok_least0 (F : FnP K "least_of" 38 f fd) (hm : mg "least_of" = some (.ref f)) : Def P w K mg base 1 "least_of" (sp_least_of K L 0) := by
  refine Def.mk' F hm sc38 (fun vs H Q E h => ?_) (fun _ _ _ _ _ _ us hl => match us, hl with | [_, _, _], _ => rfl) (fun cdv A outer s H vs Q E hr tk h => ?_)
  · obtain ⟨v, lv, z, d, rfl, _⟩ := h
    rfl
  · obtain ⟨v, lv, z, d, rfl, hd, hL, hf, hsz, hdp, _⟩ := h
    have := ddep_pos d
    omega
theorem ok_least {n k : Nat} (F : FnP K "least_of" 38 f fd) (hm : mg "least_of" = some (.ref f)) (mi : mg "isinstance" = none) (ml : mg "len" = none) (me : mg "enumerate" = none) (mtu : BTy mg "tuple" "tuple") (mst : BTy mg "str" "str") (mR : ∃ t, mg "REPEAT" = some (.str "..." t))
    (D : Def P w K mg base k "least_of" (sp_least_of K L n)) : Def P w K mg base (k + 1) "least_of" (sp_least_of K L (n + 1)) := by
  refine Def.mk' F hm sc38 (fun vs H Q E h => ?_) (fun _ _ _ _ _ _ us hl => match us, hl with | [_, _, _], _ => rfl) (fun cdv A outer s H vs Q E hr tk h => ?_)
  · obtain ⟨v, lv, z, d, rfl, _⟩ := h
    rfl
  · obtain ⟨v, lv, z, d, rfl, hd, hL, hf, hsz, hdp, hn, hsh, q⟩ := h
    have nd := sc38.nd
    obtain ⟨la, lxs, rfl, hl1, hl2⟩ := dp_tup hL
    cases dps_strs hl2
    keq_hits
    cases d with
    | none => simp [formB] at hf
    | bool b => simp [formB] at hf
    | list b => simp [formB] at hf
    | dict b => simp [formB] at hf
    | str x =>
      cases dp_str hd
      refine i_ift rfl ?_
      keq_hits
      refine wt_cmp op_in_seq rfl ?_
      keq_hits
      refine ⟨la, _, rfl, .inr hl1, rfl, flat_strs L, i_bl ?_⟩
      rw [if_neg Bool.false_ne_true, inV_strs]
      refine i_ite (fun e => ?_) (fun e => ?_)
      · keq_hits
        exact q _ _ (Same.refl _) (by rw [leastD, if_pos (of_decide_eq_true e)]; exact .str _)
      · keq_hits
        exact q _ _ (Same.refl _) (by rw [leastD, if_neg (of_decide_eq_false e)]; exact .str _)
    | int i =>
      cases dp_int hd
      refine i_iff rfl ?_
      keq_hits
      refine i_ift rfl ?_
      keq_hits
      exact q _ _ (Same.refl _) (.int _)
    | tuple ds =>
      have hfs : formBs ds = true := hf
      have hsz : dsizes ds + 1 ≤ 3000 := hsz
      have hdp : ddeps ds + 1 ≤ n + 1 := hdp
      have hl1s := dsizes_len ds
      obtain ⟨a, xs, rfl, hx, hxs⟩ := dp_tup hd
      have hlen := dpAll_len hxs
      refine i_iff rfl ?_
      keq_hits
      refine i_iff rfl ?_
      keq_hits
      refine ws_lcI (g := gTup K 2 (gCons (gName 4) (gCons (gName 5) gNil))) 3 [("at", 4), ("part", 5)] rfl nd rfl rfl rfl rfl rfl (pi_enumT (by rfl) me pa) (blkOk_by (N := ["pattern", "literals", "name", "spots", "at", "part", "parts"]) (sc := defScope (top 38)) (own := [("at", 4), ("part", 5)]) (by decide +kernel)) (fun _ _ _ _ _ => pg_two 4 5 rfl nd rfl rfl rfl rfl) ?_
      show WP.WA _ _ _ _ _
      keq_hits
      refine ⟨a, xs, rfl, hx, fun D1 hD1 => lc_F (repAt ds) (fun i => .int (i : Nat)) walk_enumT (by show xs.length < 16777216; omega) hD1 (fun H s => s.tup hx) ?_ teC_mono ttC_mono gTup2_mono fun H4 s4 hl4 => ?_⟩
      · rintro i x H5 H6 hi s5 ⟨T, y, rfl, hT, rfl, hy⟩
        refine i_two (SqT.of upd_same) ⟨rfl, fun s0 H0 C0 cl0 fp => ?_⟩
        obtain ⟨d, hd1, hd2⟩ := dpAll_atv hxs hy
        have s56 : Same H5 (upd H5 T (.tup [.int (i : Nat), y])) := Same.new hT
        have s6 := s5.trans s56
        generalize upd H5 T (.tup [.int (i : Nat), y]) = H6 at s6 s56
        refine wt_cmp (op_eqD hr.units) rfl ?_
        keq_hits
        have dm := List.mem_of_getElem? hd1
        refine ⟨d, .str "...", WP.dp_mono s6 hd2, .str _, shaped_form (formBs_mem hfs dm) (by have := ddeps_le dm; omega), shaped_rep, i_bl ⟨s56, ?_, fun _ s0 H0 C0 cl0 fp => ?_⟩⟩
        · rw [eqv_rep, repAt, hd1]
          rfl
        · keq_hits
          exact ⟨s56, rfl⟩
      · have hl4 : H4 D1 = some (.lst ((spots ds).map fun i => V.int (i : Nat))) := by rw [hl4, hlen]; rfl
        have hx4 := s4.tup hx
        have loop : ∀ (es : List PyData) (b : Addr) (ys : List V) (Hb : Hp) (σ' : L2.St) (bb cc : Option V), Same H4 Hb → SqT K Hb b ys → DpAll K H ys es → (∀ d ∈ es, d ∈ ds ∧ (shapeS L d).isSome = true) → es.length ≤ 3000 → leastD L z (.tuple ds) = .tuple (leastDs L z es) →
            σ' = [some (.ref a), some (.ref la), some (.str z), some (.ref D1), bb, cc, some (.ref b)] → WB (bx P w K mg base ["pattern", "literals", "name", "spots", "at", "part", "parts"] "least_of" (defScope (top 38)) f cdv A outer s H E) ((defBody (top 38)).drop 4) { nx := fun _ H' => Q .non H', rt := Q } σ' Hb := by
          rintro es b ys Hb σ' bb cc sb hb hys hes hez hle rfl
          have sH := s4.trans sb
          refine wb_one (ws_ret ?_)
          refine we_callTy call_tup (by rfl) mtu.1 boot_tuple ?_
          refine wa_cons ?_
          refine we_lc rfl rfl tk rfl nd (pi_tup pe) (blkOk_by (N := ["pattern", "literals", "name", "spots", "at", "part", "parts"]) (sc := defScope (top 38)) (own := [("part", 5)]) (by decide +kernel)) (fun _ _ _ _ _ => by k_memK) ?_
          show WP.WE _ _ _ _ _
          keq_hits
          refine ⟨b, rfl, ⟨ys, hb⟩, fun D2 hD2 => lc_R (fun i H v => ∃ d, (leastDs L z es)[i]? = some d ∧ Dp K H v d) (stay_dpo fun i d e => ?_) walk_tup (by have := dpAll_len hys; show _ < 16777216; omega) hD2 (fun H s => s.tup hb) ?_ teW_mono gName_mono fun H5 acc s5 hl5 ha5 hR5 => ?_⟩
          · rw [leastDs_map, List.getElem?_map] at e
            cases e2 : es[i]? with
            | none => rw [e2] at e; cases e
            | some d0 =>
              rw [e2] at e
              cases e
              exact nolist_least L z d0 (nolist_form d0 (formBs_mem hfs (hes d0 (List.mem_of_getElem? e2)).1))
          · rintro i x H6 H7 hi s6 ⟨rfl, hxi⟩
            refine ⟨rfl, fun s0 H0 C0 cl0 fp => ?_⟩
            obtain ⟨d, hd1, hd2⟩ := dpAll_atv hys hxi
            have s7 := sH.trans s6
            have dm := hes d (List.mem_of_getElem? hd1)
            keq_hits
            refine ⟨x, _, z, d, rfl, WP.dp_mono s7 hd2, WP.dp_mono s7 hL, formBs_mem hfs dm.1, by have := dsizes_mem dm.1; omega, by have := ddeps_le dm.1; omega, by omega, dm.2, fun v' H' s' dp => ⟨s', _, ?_, dp⟩⟩
            rw [leastDs_map, List.getElem?_map, hd1]
            rfl
          · keq_hits
            refine i_tupL hl5 fun p2 hp2 => ?_
            have hds := dps_build (leastDs L z es) acc (by rw [leastDs_map, List.length_map, ha5]; exact dpAll_len hys) hR5
            refine q _ _ (sH.trans (s5.trans (Same.new hp2))) ?_
            rw [hle]
            exact Dp.tup (SqT.of upd_same) (dpAll_mono (Same.new hp2) hds)
        rw [show shapeS L (.tuple ds) = joinS ds (shapesS L ds) from rfl] at hsh
        keq_hits
        refine wt_cmp op_eq rfl ?_
        keq_hits
        refine i_lenLt hl4 ?_
        keq_hits
        refine ⟨rfl, i_bl ?_⟩
        rcases join_parts hsh with ⟨hsp, hpa⟩ | ⟨i0, hsp, h0, hi, hpa, _⟩
        · rw [hsp]
          refine i_ift rfl ?_
          l_intsC
          exact loop ds a xs H4 _ _ _ (Same.refl _) hx4 hxs (fun d hd => ⟨hd, hpa d hd⟩) (by omega) (by rw [leastD, hsp]) rfl
        · rw [hsp] at hl4 ⊢
          have g1 : ((i0 : Int) - 1) = ((i0 - 1 : Nat) : Int) := by omega
          have g2 : ((i0 : Int) + 1) = ((i0 + 1 : Nat) : Int) := by omega
          refine i_iff rfl ?_
          refine we_op op_catA ?_
          refine we_slH sl_tupA ?_
          keq_hits
          refine we_ix ix_list plainIx_int ?_
          keq_hits
          refine i_ixL (v := .int (i0 : Nat)) (SqL.of hl4) rfl ?_
          keq_hits
          refine ⟨_, rfl, i_sl hx4 fun b1 H5 s5 hb1 => ?_⟩
          rw [g1, cutV_take] at hb1
          refine we_slL sl_tupA ?_
          keq_hits
          refine we_op op_add ?_
          refine we_ix ix_list plainIx_int ?_
          keq_hits
          refine i_ixL (v := .int (i0 : Nat)) (SqL.of (s5 _ _ hl4)) rfl ?_
          keq_hits
          refine ⟨_, rfl, i_sl (s5.tup hx4) fun b2 H6 s6 hb2 => ?_⟩
          rw [g2, cutV_drop] at hb2
          refine i_cat (s6.tup hb1) hb2 (by rw [List.length_take, List.length_drop]; show _ ≤ 16777216; omega) fun b3 H7 s7 hb3 => ?_
          exact loop (ds.take (i0 - 1) ++ ds.drop (i0 + 1)) b3 _ H7 _ _ _ (s5.trans (s6.trans s7)) hb3 (dpAll_app (dpAll_take _ hxs) (dpAll_drop _ hxs)) (fun d hd => ⟨by
            rcases List.mem_append.mp hd with hd | hd
            · exact List.mem_of_mem_take hd
            · exact List.mem_of_mem_drop hd, hpa d hd⟩) (by rw [List.length_append, List.length_take, List.length_drop]; omega) (by
            rw [leastD, hsp]
            simp only [leastDs_map, List.map_append, List.map_take, List.map_drop]) rfl
theorem ok_leasts (F : FnP K "least_of" 38 f fd) (hm : mg "least_of" = some (.ref f)) (mi : mg "isinstance" = none) (ml : mg "len" = none) (me : mg "enumerate" = none) (mtu : BTy mg "tuple" "tuple") (mst : BTy mg "str" "str") (mR : ∃ t, mg "REPEAT" = some (.str "..." t)) : ∀ n, Def P w K mg base (n + 1) "least_of" (sp_least_of K L n)
  | 0 => ok_least0 F hm
  | n + 1 => ok_least F hm mi ml me mtu mst mR (ok_leasts F hm mi ml me mtu mst mR n)
end
end
section
section
variable {P : Program} {w : World} {K : PySem.W.Frag} {mg : Str → Option Value} {base : Heap} {f : Addr} {fd : FuncData} {C CB : Addr} {L : List Str}
theorem good_shape {d : PyData} (g : goodD L d = true) : ∃ x, shapeS L d = some x ∧ goodS x = true := by
  unfold goodD at g
  split at g
  · rename_i x ex
    exact ⟨x, ex, g⟩
  · cases g
def sp_least_use (K : PySem.W.Frag) (CB : Addr) (L : List Str) : Sp := fun vs H Q E => ∃ lv v nv d dn, vs = [lv, v, nv] ∧ Dp K H lv (.tuple (L.map .str)) ∧ Dp K H v d ∧ FormOk d ∧ Dp K H nv dn ∧ smallD dn = true ∧
  ((formB d && goodD L d) = true → ∀ z, dn = .str z → isName dn = true → ∀ v' H', Same H H' → Dp K H' v' (leastD L z d) → Q v' H') ∧ ((formB d && goodD L d && isName dn) = false → ∀ H', Same H H' → E (.ref CB) none H')
theorem sc37 : FnScope ["literals", "pattern", "name"] ["literals", "pattern", "name"] (defScope (top 37)) := ⟨rfl, rfl, rfl, by decide +kernel, rfl, by decide +kernel, by decide +kernel⟩
theorem ok_least_use (F : FnP K "least_use" 37 f fd) (hm : mg "least_use" = some (.ref f)) (Er : ErrC P w K mg base 1 "BadPattern" CB) (DC : Def P w K mg base 47 "check_pattern" (sp_check_pattern K CB L)) (DN : Def P w K mg base 1 "is_name" (sp_is_name K))
    (DL : Def P w K mg base 21 "least_of" (sp_least_of K L 20)) : Def P w K mg base 48 "least_use" (sp_least_use K CB L) := by
  refine Def.mk' F hm sc37 (fun vs H Q E h => ?_) (fun _ _ _ _ _ _ us hl => match us, hl with | [_, _, _], _ => rfl) (fun cdv A outer s H vs Q E hr tk h => ?_)
  · obtain ⟨lv, v, nv, d, dn, rfl, _⟩ := h
    rfl
  · obtain ⟨lv, v, nv, d, dn, rfl, hL, hd, hf, hn, hns, q, qe⟩ := h
    have nd := sc37.nd
    keq_hits
    refine ⟨_, _, _, rfl, hL, hd, hf, fun g H1 s1 => ?_, fun g H' s' => qe (by rw [g]; rfl) _ s'⟩
    obtain ⟨g1, g2⟩ := Bool.and_eq_true_iff.mp g
    obtain ⟨x, ex, gx⟩ := good_shape g2
    obtain ⟨hz, hsz, hdp⟩ := hf
    keq_hits
    refine ⟨nv, dn, rfl, WP.dp_mono s1 hn, hns, fun H2 s2 => ?_⟩
    have s12 := s1.trans s2
    keq_hits
    refine i_ite (fun e => ?_) (fun e => ?_)
    · keq_hits
      refine ws_raise Er (Room.mono hr (by omega)) rfl tk rfl ?_
      exact qe (by rw [g]; revert e; cases isName dn <;> simp) _ s12
    · have e : isName dn = true := by revert e; cases isName dn <;> simp
      obtain ⟨z, rfl⟩ : ∃ z, dn = .str z := by
        cases dn <;> first | exact ⟨_, rfl⟩ | cases e
      cases dp_str hn
      keq_hits
      exact ⟨v, lv, z, d, rfl, WP.dp_mono s12 hd, WP.dp_mono s12 hL, g1, hsz, hdp, by omega, by rw [ex]; rfl, fun v' H' s' dp => q g z rfl e v' H' (s12.trans s') dp⟩
/-! ### matching -/
/-- what stands where a name of the shape stands; none: not asked here -/
def fitsI (n : Nat) : Sh → Nat → Bool
  | .lis a, m => decide (m = a.length)
  | .rep a _ b, m => decide (a.length + b.length ≤ m)
  | _, _ => false
def sp_fits (K : PySem.W.Frag) : Sp := fun vs H Q _ => ∃ v x m, vs = [v, .int (m : Nat)] ∧ Dp K H v (enc x) ∧ ((∃ a, x = .lis a ∧ Q (.bl (decide (m = a.length))) H) ∨ (∃ a r b, x = .rep a r b ∧ Q (.bl (decide (a.length + b.length ≤ m))) H))
theorem sc28 : FnScope ["told", "many", "least"] ["told", "many"] (defScope (top 28)) := ⟨rfl, rfl, rfl, by decide +kernel, rfl, by decide +kernel, by decide +kernel⟩
theorem ok_fits (F : FnP K "fits" 28 f fd) (hm : mg "fits" = some (.ref f)) (ml : mg "len" = none) : Def P w K mg base 1 "fits" (sp_fits K) := by
  refine Def.mk' F hm sc28 (fun vs H Q E h => ?_) (fun _ _ _ _ _ _ us hl => match us, hl with | [_, _], _ => rfl) (fun cdv A outer s H vs Q E hr tk h => ?_)
  · obtain ⟨v, x, m, rfl, _⟩ := h
    rfl
  · obtain ⟨v, x, m, rfl, hd, q⟩ := h
    have nd := sc28.nd
    obtain ⟨a0, v1, v2, v3, A1, B1, ev, hT, d1, d3, q⟩ : ∃ a v1 v2 v3 A B, v = .ref a ∧ SqT K H a [.str "list", v1, v2, v3] ∧ Dp K H v1 (.tuple (encs A)) ∧ Dp K H v3 (.tuple (encs B)) ∧
        ((v2 = .non ∧ B = [] ∧ Q (.bl (decide (m = A.length))) H) ∨ ((∃ b, v2 = .ref b) ∧ Q (.bl (decide (A.length + B.length ≤ m))) H)) := by
      rcases q with ⟨A, rfl, q⟩ | ⟨A, r, B, rfl, q⟩
      · obtain ⟨a, ea, eb, e1, e2, e3, e4⟩ := enc_lis hd
        exact ⟨a, ea, .non, eb, A, [], e1, e2, e3, e4, .inl ⟨rfl, rfl, q⟩⟩
      · obtain ⟨a, ea, er, eb, e1, e2, e3, e4, e5⟩ := enc_rep hd
        exact ⟨a, ea, er, eb, A, B, e1, e2, e3, e5, .inr ⟨enc_ref e4, q⟩⟩
    subst ev
    have lA : (encs A1).length = A1.length := by rw [encs_map, List.length_map]
    have lB : (encs B1).length = B1.length := by rw [encs_map, List.length_map]
    keq_hits
    refine we_op op_add ?_
    refine we_callB (WP.call_ln) (by rfl) (by assumption) PySem.boot_len ?_
    refine wa_cons ?_
    refine we_ix ix_tup plainIx_int ?_
    keq_hits
    refine i_ixT hT atI1 ?_
    keq_hits
    refine we_ix ix_tup plainIx_int ?_
    keq_hits
    refine i_ixT hT rfl ?_
    keq_hits
    try rw [lA, lB]
    refine we_ix ix_tup plainIx_int ?_
    keq_hits
    refine i_ixT hT rfl ?_
    keq_hits
    rcases q with ⟨rfl, rfl, q⟩ | ⟨⟨b, rfl⟩, q⟩
    · refine i_ift rfl ?_
      refine we_cmp op_eq rfl ?_
      keq_hits
      refine ⟨rfl, fin_bl q ?_⟩
      refine decide_eq_decide.mpr ?_
      simp
      omega
    · refine i_iff rfl ?_
      keq_hits
      refine fin_bl q ?_
      refine decide_eq_decide.mpr ?_
      omega
end
end
section
/-! ### the mirror: matching (a repeated part met no time) -/
inductive MR where
  | bad (path : List Nat)
  | ok (bs : List (Str × PyData))
mutual
def matchR : Sh → PyData → Option MR
  | .any, _ => some (.ok [])
  | .nm s, d => some (.ok [(s, d)])
  | .num i, .int j => some (if j = i then .ok [] else .bad [])
  | .lit s, .str z => some (if s = z then .ok [] else .bad [])
  | .lis a, .tuple ds => if ds.length = a.length then matchRs 0 a ds else none
  | .rep a r b, .tuple ds => if ds.length = a.length + b.length then
      match matchRs 0 a (ds.take a.length) with
      | some (.ok bs) => (match matchRs (a.length + 2) b (ds.drop a.length) with
        | some (.ok cs) => some (.ok (bs ++ (namesS r 0).map (fun p => (p.1, .tuple [])) ++ cs))
        | m => m)
      | m => m
    else none
  | _, _ => none
def matchRs : Nat → List Sh → List PyData → Option MR
  | _, [], _ => some (.ok [])
  | k, x :: xs, d :: ds => (match matchR x d with
    | some (.ok bs) => (match matchRs (k + 1) xs ds with
      | some (.ok cs) => some (.ok (bs ++ cs))
      | m => m)
    | some (.bad p) => some (.bad (k :: p))
    | none => none)
  | _, _ :: _, [] => none
end
def keysM : Option MR → List Str
  | some (.ok bs) => bs.map (·.1)
  | _ => []
mutual
theorem match_keys : ∀ (x : Sh) (d : PyData) (bs : List (Str × PyData)) (k : Nat), matchR x d = some (.ok bs) → bs.map (·.1) = (namesS x k).map (·.1)
  | .any, d, bs, k, h => by
    simp [matchR] at h
    subst h
    rfl
  | .nm s, d, bs, k, h => by
    simp [matchR] at h
    subst h
    rfl
  | .num i, d, bs, k, h => by
    cases d <;> simp [matchR] at h
    split at h <;> cases h
    rfl
  | .lit s, d, bs, k, h => by
    cases d <;> simp [matchR] at h
    split at h <;> cases h
    rfl
  | .lis a, d, bs, k, h => by
    cases d <;> simp [matchR] at h
    exact match_keyss a 0 _ bs k h.2
  | .rep a r b, d, bs, k, h => by
    cases d with
    | tuple ds =>
      simp only [matchR] at h
      split at h
      · cases e1 : matchRs 0 a (ds.take a.length) with
        | none => rw [e1] at h; cases h
        | some m =>
          cases m with
          | bad p => rw [e1] at h; cases h
          | ok b1 =>
            rw [e1] at h
            simp only at h
            cases e2 : matchRs (a.length + 2) b (ds.drop a.length) with
            | none => rw [e2] at h; cases h
            | some m2 =>
              cases m2 with
              | bad p => rw [e2] at h; cases h
              | ok b2 =>
                rw [e2] at h
                cases h
                have h1 := match_keyss a 0 _ b1 k e1
                have h2 := match_keyss b _ _ b2 k e2
                have h3 : ∀ n m : Nat, (namesS r n).map (·.1) = (namesS r m).map (·.1) := fun n m => names_any r n m
                simp only [List.map_append, namesS, h1, h2, List.map_map]
                rw [h3 (k + 1) 0]
                rfl
      · cases h
    | _ => simp [matchR] at h
theorem match_keyss : ∀ (xs : List Sh) (j : Nat) (ds : List PyData) (bs : List (Str × PyData)) (k : Nat), matchRs j xs ds = some (.ok bs) → bs.map (·.1) = (namesSs xs k).map (·.1)
  | [], j, ds, bs, k, h => by
    simp [matchRs] at h
    subst h
    rfl
  | x :: xs, j, [], bs, k, h => by simp [matchRs] at h
  | x :: xs, j, d :: ds, bs, k, h => by
    simp only [matchRs] at h
    cases e1 : matchR x d with
    | none => rw [e1] at h; cases h
    | some m =>
      cases m with
      | bad p => rw [e1] at h; cases h
      | ok b1 =>
        rw [e1] at h
        simp only at h
        cases e2 : matchRs (j + 1) xs ds with
        | none => rw [e2] at h; cases h
        | some m2 =>
          cases m2 with
          | bad p => rw [e2] at h; cases h
          | ok b2 =>
            rw [e2] at h
            cases h
            rw [List.map_append, namesSs, List.map_append, match_keys x d b1 k e1, match_keyss xs _ ds b2 k e2]
theorem names_any : ∀ (x : Sh) (n m : Nat), (namesS x n).map (·.1) = (namesS x m).map (·.1)
  | .any, n, m => rfl
  | .nm s, n, m => rfl
  | .num i, n, m => rfl
  | .lit s, n, m => rfl
  | .lis a, n, m => names_anys a n m
  | .rep a r b, n, m => by simp only [namesS, List.map_append, names_anys a n m, names_any r (n + 1) (m + 1), names_anys b n m]
theorem names_anys : ∀ (xs : List Sh) (n m : Nat), (namesSs xs n).map (·.1) = (namesSs xs m).map (·.1)
  | [], n, m => rfl
  | x :: xs, n, m => by simp only [namesSs, List.map_append, names_any x n m, names_anys xs n m]
end
section
variable {K : PySem.W.Frag} {H : Hp}
/-- a dict of bindings -/
inductive KvB (K : PySem.W.Frag) (H : Hp) : List (Key × V) → List (Str × PyData) → Prop
  | nil : KvB K H [] []
  | cons {s : Str} {v : V} {d : PyData} {kvs : List (Key × V)} {bs : List (Str × PyData)} : Dp K H v d → KvB K H kvs bs → KvB K H ((.inr s, v) :: kvs) ((s, d) :: bs)
theorem KvB.mono {H' : Hp} (s : Same H H') {kvs : List (Key × V)} {bs : List (Str × PyData)} (h : KvB K H kvs bs) : KvB K H' kvs bs := by
  induction h with
  | nil => exact .nil
  | cons h _ ih => exact .cons (WP.dp_mono s h) ih
theorem KvB.app {kvs kvs' : List (Key × V)} {bs bs' : List (Str × PyData)} (h : KvB K H kvs bs) (h' : KvB K H kvs' bs') : KvB K H (kvs ++ kvs') (bs ++ bs') := by
  induction h with
  | nil => exact h'
  | cons h _ ih => exact .cons h ih
theorem KvB.keys {kvs : List (Key × V)} {bs : List (Str × PyData)} (h : KvB K H kvs bs) : kvs.map (·.1) = bs.map fun b => (.inr b.1 : Key) := by
  induction h with
  | nil => rfl
  | cons h _ ih => simp [ih]
theorem KvB.len {kvs : List (Key × V)} {bs : List (Str × PyData)} (h : KvB K H kvs bs) : kvs.length = bs.length := by
  induction h with
  | nil => rfl
  | cons h _ ih => simp [ih]
end
end
section
def combM (bs : List (Str × PyData)) : Option MR → Option MR
  | some (.ok cs) => some (.ok (bs ++ cs))
  | m => m
theorem combM_nil (r : Option MR) : combM [] r = r := by
  cases r with
  | none => rfl
  | some m => cases m <;> rfl
theorem combM_comb (a b : List (Str × PyData)) (r : Option MR) : combM a (combM b r) = combM (a ++ b) r := by
  cases r with
  | none => rfl
  | some m => cases m <;> simp [combM]
theorem matchRs_cons (k : Nat) (x : Sh) (xs : List Sh) (d : PyData) (ds : List PyData) : matchRs k (x :: xs) (d :: ds) = match matchR x d with
    | some (.ok bs) => combM bs (matchRs (k + 1) xs ds)
    | some (.bad p) => some (.bad (k :: p))
    | none => none := by
  simp only [matchRs]
  cases matchR x d with
  | none => rfl
  | some m =>
    cases m with
    | bad p => rfl
    | ok bs =>
      simp only [combM]
      all_goals (cases matchRs (k + 1) xs ds with
        | none => rfl
        | some m => cases m <;> rfl)
theorem matchRs_len : ∀ {k : Nat} {xs : List Sh} {ds : List PyData} {bs : List (Str × PyData)}, matchRs k xs ds = some (.ok bs) → xs.length ≤ ds.length
  | _, [], _, _, _ => Nat.zero_le _
  | _, _ :: _, [], _, h => by simp [matchRs] at h
  | k, x :: xs, d :: ds, bs, h => by
    rw [matchRs_cons] at h
    cases e : matchR x d with
    | none => rw [e] at h; cases h
    | some m =>
      cases m with
      | bad p => rw [e] at h; cases h
      | ok b =>
        rw [e] at h
        simp only at h
        cases e2 : matchRs (k + 1) xs ds with
        | none => rw [e2] at h; cases h
        | some m2 =>
          have : xs.length ≤ ds.length := by
            cases m2 with
            | bad p => rw [e2] at h; cases h
            | ok c => exact matchRs_len e2
          simp only [List.length_cons]
          omega
mutual
theorem deep_down : ∀ (x : Sh) (n m : Nat), m ≤ n → deepS x n = true → deepS x m = true
  | .any, n, m, h, g => by simp [deepS] at g ⊢; omega
  | .lit s, n, m, h, g => by simp [deepS] at g ⊢; omega
  | .nm s, n, m, h, g => by simp [deepS] at g ⊢; omega
  | .num i, n, m, h, g => by simp [deepS] at g ⊢; omega
  | .lis a, n, m, h, g => by
    simp only [deepS, Bool.and_eq_true, decide_eq_true_eq] at g ⊢
    exact ⟨by omega, deep_downs a n m h g.2⟩
  | .rep a r b, n, m, h, g => by
    simp only [deepS, Bool.and_eq_true, decide_eq_true_eq] at g ⊢
    exact ⟨by omega, ⟨deep_downs a n m h g.2.1.1, deep_down r (n + 1) (m + 1) (by omega) g.2.1.2⟩, deep_downs b n m h g.2.2⟩
theorem deep_downs : ∀ (xs : List Sh) (n m : Nat), m ≤ n → deepSs xs n = true → deepSs xs m = true
  | [], n, m, h, g => rfl
  | x :: xs, n, m, h, g => by
    simp only [deepSs, Bool.and_eq_true] at g ⊢
    exact ⟨deep_down x n m h g.1, deep_downs xs n m h g.2⟩
end
theorem deepSs_mem : ∀ {xs : List Sh} {x : Sh} {n : Nat}, deepSs xs n = true → x ∈ xs → deepS x n = true
  | [], x, n, _, h => nomatch h
  | y :: xs, x, n, g, h => by
    simp only [deepSs, Bool.and_eq_true] at g
    rcases List.mem_cons.mp h with rfl | h
    · exact g.1
    · exact deepSs_mem g.2 h
theorem ssizes_mem : ∀ {xs : List Sh} {x : Sh}, x ∈ xs → ssize x ≤ ssizes xs
  | [], x, h => nomatch h
  | y :: xs, x, h => by
    simp only [ssizes]
    rcases List.mem_cons.mp h with rfl | h
    · omega
    · have := ssizes_mem h
      omega
def keyP (l : List (Str × Nat)) : List Key := l.map fun p => .inr p.1
theorem keyP_app (a b : List (Str × Nat)) : keyP (a ++ b) = keyP a ++ keyP b := by simp [keyP]
theorem namesSs_take {xs : List Sh} {i : Nat} {x : Sh} (k : Nat) (h : xs[i]? = some x) : namesSs (xs.take (i + 1)) k = namesSs (xs.take i) k ++ namesS x k := by
  rw [List.take_succ, h]
  simp [namesSs_append, namesSs]
/-- the keys of one turn are new -/
theorem turn_nodup {pre : List (Str × Nat)} {xs : List Sh} {i : Nat} {x : Sh} {kvs more : List (Key × V)} (hx : xs[i]? = some x) (hn : (keyP (pre ++ namesSs xs 0)).Nodup) (hk : (kvs.map (·.1)).Perm (keyP (pre ++ namesSs (xs.take i) 0))) (hm : (more.map (·.1)).Perm (keyP (namesS x 0))) :
    ((kvs ++ more).map (·.1)).Nodup ∧ ((kvs ++ more).map (·.1)).Perm (keyP (pre ++ namesSs (xs.take (i + 1)) 0)) := by
  have hp : ((kvs ++ more).map (·.1)).Perm (keyP (pre ++ namesSs (xs.take (i + 1)) 0)) := by
    rw [namesSs_take 0 hx, ← List.append_assoc, keyP_app, List.map_append]
    exact hk.append hm
  refine ⟨hp.nodup_iff.mpr ?_, hp⟩
  have e : namesSs xs 0 = namesSs (xs.take (i + 1)) 0 ++ namesSs (xs.drop (i + 1)) 0 := by rw [← namesSs_append, List.take_append_drop]
  rw [e, ← List.append_assoc, keyP_app] at hn
  exact (List.nodup_append.mp hn).1
mutual
theorem match_path : ∀ (x : Sh) (d : PyData) (p : List Nat), matchR x d = some (.bad p) → p.length < ddep d
  | .any, d, p, h => by simp [matchR] at h
  | .nm s, d, p, h => by simp [matchR] at h
  | .num i, d, p, h => by
    cases d <;> simp [matchR] at h
    split at h <;> cases h
    simp [ddep]
  | .lit s, d, p, h => by
    cases d <;> simp [matchR] at h
    split at h <;> cases h
    simp [ddep]
  | .lis a, d, p, h => by
    cases d with
    | tuple ds =>
      simp only [matchR] at h
      split at h
      · have := match_paths a 0 ds p h
        simp only [ddep]
        omega
      · cases h
    | _ => simp [matchR] at h
  | .rep a r b, d, p, h => by
    cases d with
    | tuple ds =>
      have hm : ∀ (es : List PyData), (∀ e ∈ es, e ∈ ds) → ddeps es ≤ ddeps ds := fun es => by
        induction es with
        | nil => intro _; exact Nat.zero_le _
        | cons e es ih =>
          intro g
          have h1 := ddeps_le (g e (by simp))
          have h2 := ih fun x hx => g x (List.mem_cons_of_mem _ hx)
          simp only [ddeps]
          omega
      simp only [matchR] at h
      split at h
      · cases e1 : matchRs 0 a (ds.take a.length) with
        | none => rw [e1] at h; cases h
        | some m =>
          rw [e1] at h
          cases m with
          | bad q =>
            cases h
            have h1 := match_paths a 0 _ p e1
            have h2 := hm (ds.take a.length) fun x hx => List.mem_of_mem_take hx
            simp only [ddep]
            omega
          | ok bs =>
            simp only at h
            cases e2 : matchRs (a.length + 2) b (ds.drop a.length) with
            | none => rw [e2] at h; cases h
            | some m2 =>
              rw [e2] at h
              cases m2 with
              | ok cs => cases h
              | bad q =>
                cases h
                have h1 := match_paths b _ _ p e2
                have h2 := hm (ds.drop a.length) fun x hx => List.mem_of_mem_drop hx
                simp only [ddep]
                omega
      · cases h
    | _ => simp [matchR] at h
theorem match_paths : ∀ (xs : List Sh) (k : Nat) (ds : List PyData) (p : List Nat), matchRs k xs ds = some (.bad p) → p.length ≤ ddeps ds
  | [], k, ds, p, h => by simp [matchRs] at h
  | x :: xs, k, [], p, h => by simp [matchRs] at h
  | x :: xs, k, d :: ds, p, h => by
    rw [matchRs_cons] at h
    simp only [ddeps]
    cases e1 : matchR x d with
    | none => rw [e1] at h; cases h
    | some m =>
      rw [e1] at h
      cases m with
      | bad q =>
        cases h
        have := match_path x d q e1
        simp only [List.length_cons]
        omega
      | ok b =>
        simp only at h
        cases e2 : matchRs (k + 1) xs ds with
        | none => rw [e2] at h; cases h
        | some m2 =>
          rw [e2] at h
          cases m2 with
          | ok c => cases h
          | bad q =>
            cases h
            have := match_paths xs (k + 1) ds p e2
            omega
end
section
variable {P : Program} {w : World} {K : PySem.W.Frag} {mg : Str → Option Value} {base : Heap} {f : Addr} {fd : FuncData} {C CB : Addr} {L : List Str}
/-- what comes back of a match -/
def MQ (K : PySem.W.Frag) (H : Hp) (Q : VK) : MR → Prop
  | .ok bs => ∀ (q p : Addr) (kvs : List (Key × V)) (bs' : List (Str × PyData)) (H' : Hp), Same H H' → H p = none → H' p = some (.dK kvs) → H' q = some (.tup [.ref p, .non]) → KvB K H' kvs bs' → bs'.Perm bs → Q (.ref q) H'
  | .bad path => ∀ (q p : Addr) (H' : Hp), Same H H' → H' q = some (.tup [.non, .ref p]) → SqT K H' p (path.map fun (i : Nat) => V.int (i : Int)) → Q (.ref q) H'
def sp_matched (K : PySem.W.Frag) (C : Addr) (n : Nat) : Sp := fun vs H Q _ => ∃ kk dx v nv x d m k, vs = [.ref kk, v, nv] ∧ H kk = some (.ins C dx []) ∧ Dp K H v (enc x) ∧ Dp K H nv d ∧ matchR x d = some m ∧ (keyP (namesS x 0)).Nodup ∧ ssize x ≤ 3000 ∧ deepS x k = true ∧ ddep d ≤ n ∧ dsize d ≤ 3000 ∧ MQ K H Q m
def sp_matched_parts (K : PySem.W.Frag) (C : Addr) (n : Nat) : Sp := fun vs H Q _ => ∃ kk dx v nv x ds m k, vs = [.ref kk, v, nv] ∧ H kk = some (.ins C dx []) ∧ Dp K H v (enc x) ∧ Dp K H nv (.tuple ds) ∧ matchR x (.tuple ds) = some m ∧ ((∃ a, x = .lis a) ∨ ∃ a r b, x = .rep a r b) ∧ (keyP (namesS x 0)).Nodup ∧ ssize x ≤ 3000 ∧ deepS x k = true ∧ ddeps ds ≤ n ∧ dsizes ds ≤ 3000 ∧ MQ K H Q m
theorem sc29 : FnScope ["kind", "told", "parts", "name", "ahead", "repeated", "behind", "found", "middle", "at", "part", "bound", "path", "rows", "row", "key"] ["kind", "told", "parts"] (defScope (top 29)) := ⟨rfl, rfl, rfl, by decide +kernel, rfl, by decide +kernel, by decide +kernel⟩
theorem elem_nodup {pre : List (Str × Nat)} {xs : List Sh} {i : Nat} {x : Sh} (hx : xs[i]? = some x) (hn : (keyP (pre ++ namesSs xs 0)).Nodup) : (keyP (namesS x 0)).Nodup := by
  have e : namesSs xs 0 = namesSs (xs.take i) 0 ++ (namesS x 0 ++ namesSs (xs.drop (i + 1)) 0) := by
    have h1 : xs = xs.take i ++ x :: xs.drop (i + 1) := by
      have hi := (List.getElem?_eq_some_iff.mp hx).1
      have e1 := (List.take_append_drop i xs).symm
      rw [List.drop_eq_getElem_cons hi, (List.getElem?_eq_some_iff.mp hx).2] at e1
      exact e1
    have h2 := congrArg (fun l => namesSs l 0) h1
    simp only [namesSs_append, namesSs] at h2
    exact h2
  rw [e, keyP_app, keyP_app, keyP_app] at hn
  exact (List.nodup_append.mp (List.nodup_append.mp (List.nodup_append.mp hn).2.1).2.1).1
theorem keys_perm {H : Hp} {kvs : List (Key × V)} {bs b : List (Str × PyData)} {x : Sh} {d : PyData} (h : KvB K H kvs bs) (hp : bs.Perm b) (hm : matchR x d = some (.ok b)) : (kvs.map (·.1)).Perm (keyP (namesS x 0)) := by
  rw [h.keys]
  have e1 := match_keys x d b 0 hm
  have e2 : keyP (namesS x 0) = b.map fun p => (.inr p.1 : Key) := by
    have := congrArg (List.map fun s : Str => (.inr s : Key)) e1
    rw [List.map_map, List.map_map] at this
    exact this.symm
  rw [e2]
  exact hp.map _
theorem take_len (A : List Sh) (i : Nat) : (namesSs (A.take i) 0).length ≤ ssizes A := by
  have h1 := names_lens A 0
  have h2 : namesSs A 0 = namesSs (A.take i) 0 ++ namesSs (A.drop i) 0 := by rw [← namesSs_append, List.take_append_drop]
  rw [h2, List.length_append] at h1
  omega
theorem kvB_updK {H : Hp} {p : Addr} {kvs0 kvs0' kvs : List (Key × V)} {bs : List (Str × PyData)} (e : H p = some (.dK kvs0)) (h : KvB K H kvs bs) : KvB K (upd H p (.dK kvs0')) kvs bs := by
  induction h with
  | nil => exact .nil
  | cons h _ ih => exact .cons (dp_updK e h) ih
theorem kvB_put {H : Hp} {kvs : List (Key × V)} {bs : List (Str × PyData)} {s : Str} {v : V} (h : KvB K H kvs bs) (hn : s ∉ bs.map (·.1)) : putK kvs (.inr s) v = kvs ++ [(.inr s, v)] := by
  refine putK_new _ ?_
  cases q : valV kvs (.inr s) with
  | none => rfl
  | some u =>
    have z := valV_any (.inr s) kvs
    rw [q] at z
    obtain ⟨y, hy, e⟩ := List.any_eq_true.mp z
    have e : y.1 = .inr s := by simpa using e
    have h1 : (.inr s : Key) ∈ kvs.map (·.1) := by rw [← e]; exact List.mem_map_of_mem hy
    rw [h.keys] at h1
    obtain ⟨b, hb, e2⟩ := List.mem_map.mp h1
    cases e2
    exact absurd (List.mem_map_of_mem hb) hn
def emptyB (R : List (Str × Nat)) : List (Str × PyData) := R.map fun p => (p.1, .tuple [])
/-- both kinds of lists -/
theorem enc_two {H : Hp} {v : V} {x : Sh} {ds : List PyData} {m : MR} {k : Nat} (h : Dp K H v (enc x)) (hm : matchR x (.tuple ds) = some m) (hx : (∃ a, x = .lis a) ∨ ∃ a r b, x = .rep a r b) (hz : ssize x ≤ 3000) (hk : deepS x k = true) (hnd : (keyP (namesS x 0)).Nodup) :
    ∃ a v1 v2 v3 A B R, v = .ref a ∧ SqT K H a [.str "list", v1, v2, v3] ∧ Dp K H v1 (.tuple (encs A)) ∧ Dp K H v3 (.tuple (encs B)) ∧ ds.length = A.length + B.length ∧ ssizes A + ssizes B ≤ 3000 ∧ deepSs A k = true ∧ deepSs B k = true ∧
      ((v2 = .non ∧ B = [] ∧ R = []) ∨ (∃ b r, v2 = .ref b ∧ R = namesS r 0 ∧ Dp K H v2 (enc r) ∧ goodS r = true ∧ ssize r ≤ 3000)) ∧ (keyP (namesSs A 0 ++ R ++ namesSs B 0)).Nodup ∧
        (match matchRs 0 A (ds.take A.length) with
          | some (.ok bs) => combM (bs ++ emptyB R) (matchRs (A.length + 2) B (ds.drop A.length))
          | m => m) = some m := by
  rcases hx with ⟨A, rfl⟩ | ⟨A, r, B, rfl⟩
  · obtain ⟨a, ea, eb, e1, e2, e3, e4⟩ := enc_lis h
    simp only [matchR] at hm
    split at hm
    · rename_i hl
      simp only [ssize] at hz
      simp only [deepS, Bool.and_eq_true] at hk
      refine ⟨a, ea, .non, eb, A, [], [], e1, e2, e3, e4, by simpa using hl, by simp [ssizes]; omega, hk.2, rfl, .inl ⟨rfl, rfl, rfl⟩, by simpa [namesS, namesSs] using hnd, ?_⟩
      rw [List.take_of_length_le (by omega), hm]
      cases m <;> simp [matchRs, combM, emptyB]
    · cases hm
  · obtain ⟨a, ea, er, eb, e1, e2, e3, e4, e5⟩ := enc_rep h
    obtain ⟨b, rfl⟩ := enc_ref e4
    simp only [matchR] at hm
    have hr : keyP (namesS r (0 + 1)) = keyP (namesS r 0) := by
      have := congrArg (List.map fun s : Str => (.inr s : Key)) (names_any r (0 + 1) 0)
      rw [List.map_map, List.map_map] at this
      exact this
    have hnd2 : (keyP (namesSs A 0 ++ namesS r 0 ++ namesSs B 0)).Nodup := by
      have : keyP (namesS (.rep A r B) 0) = keyP (namesSs A 0 ++ namesS r 0 ++ namesSs B 0) := by
        simp only [namesS, keyP_app, hr]
      rw [← this]
      exact hnd
    split at hm
    · rename_i hl
      simp only [ssize] at hz
      simp only [deepS, Bool.and_eq_true] at hk
      have hg : goodS r = true := by
        rw [keyP_app, keyP_app] at hnd2
        have h1 := (List.nodup_append.mp (List.nodup_append.mp hnd2).1).2.1
        have h2 : ((namesS r 0).map (·.1)).Nodup := by
          have e : keyP (namesS r 0) = ((namesS r 0).map (·.1)).map (fun s => (.inr s : Key)) := by simp [keyP, List.map_map]
          rw [e] at h1
          exact (List.pairwise_map.mp h1).imp fun h e => h (by rw [e])
        simp [goodS, h2, deep_down r (k + 1) 0 (by omega) hk.2.1.2]
      refine ⟨a, ea, _, eb, A, B, _, e1, e2, e3, e5, hl, by omega, hk.2.1.1, hk.2.2, .inr ⟨b, r, rfl, rfl, e4, hg, by omega⟩, hnd2, ?_⟩
      rw [← hm]
      cases matchRs 0 A (ds.take A.length) with
      | none => rfl
      | some m1 =>
        cases m1 with
        | bad p => rfl
        | ok bs =>
          simp only
          cases matchRs (A.length + 2) B (ds.drop A.length) with
          | none => rfl
          | some m2 => cases m2 <;> rfl
    · cases hm
end
end
section
section
variable {P : Program} {w : World} {K : PySem.W.Frag} {mg : Str → Option Value} {base : Heap} {f : Addr} {fd : FuncData} {C CB : Addr} {L : List Str}
theorem ok_matched_parts {n k0 : Nat} (F : FnP K "matched_parts" 29 f fd) (hm : mg "matched_parts" = some (.ref f)) (hk0 : 3 ≤ k0) (hn60 : n ≤ 60) (ml : mg "len" = none) (me : mg "enumerate" = none) (mt : mg "tuple" = none) (mi : mg "int" = none) (DM : Def P w K mg base k0 "matched" (sp_matched K C n)) (DD : Def P w K mg base 3 "depths" (sp_depths K CB)) : Def P w K mg base (k0 + 1) "matched_parts" (sp_matched_parts K C n) := by
  refine Def.mk' F hm sc29 (fun vs H Q E h => ?_) (fun _ _ _ _ _ _ us hl => match us, hl with | [_, _, _], _ => rfl) (fun cdv Ar outer s H vs Q E hr tk h => ?_)
  · obtain ⟨kk, dx, v, nv, x, ds, m, k, rfl, _⟩ := h
    rfl
  · obtain ⟨kk, dx, v, nv, x, ds, m, k, rfl, hk, hd, hnv, hmm, hx, hnd, hz, hde, hdp, hsz, q⟩ := h
    have nd := sc29.nd
    obtain ⟨ta, v1, v2, v3, A, B, R, rfl, hT, d1, d3, hlen, hzAB, hdA, hdB, hv2, hndk, hcont⟩ := enc_two hd hmm hx hz hde hnd
    obtain ⟨a1, xs1, rfl, hx1, hxs1⟩ := dp_tup d1
    obtain ⟨a3, xs3, rfl, hx3, hxs3⟩ := dp_tup d3
    obtain ⟨pA, yv, rfl, hy, hys⟩ := dp_tup hnv
    have ln1 := dpAll_len hxs1
    have ln3 := dpAll_len hxs3
    have lny := dpAll_len hys
    rw [encs_map, List.length_map] at ln1 ln3
    have lm1 := ssizes_len A
    have lm3 := ssizes_len B
    have lds := dsizes_len ds
    keq_hits
    refine i_four hT ?_
    refine wb_cons (ws_par 7 8 rfl nd rfl rfl (by decide) rfl rfl (by rfl) ?_)
    refine we_dnew fun p hp => ?_
    have s0 : Same H (upd H p (.dK [])) := Same.new hp
    have hp0 : upd H p (.dK []) p = some (.dK []) := upd_same
    generalize upd H p (.dK []) = H0 at s0 hp0 ⊢
    refine we_slB sl_tupA ?_
    keq_hits
    refine ⟨_, rfl, ?_⟩
    keq_hits
    refine ⟨_, rfl, i_sl (s0.tup hy) fun mb H1 s1 hmb => ?_⟩
    rw [show ((ds.length : Int) - ((encs B).length : Int)) = ((encs A).length : Int) by rw [encs_map, encs_map, List.length_map, List.length_map]; omega, cutV_mid] at hmb
    have s01 := s0.trans s1
    have hp1 := s1 _ _ hp0
    refine wb_cons ?_
    refine ws_forI (g := gTup K 2 (gCons (gName 9) (gCons (gName 10) gNil))) (walk_enumT (K := K) (a := a1) (xs := xs1)) passes_bx rfl (pi_enumT (by rfl) me pa) (pg_two 9 10 rfl nd rfl rfl rfl rfl) ?_ iEnumT_mono
    show WP.WA _ _ _ _ _
    keq_hits
    refine ⟨a1, xs1, rfl, s01.tup hx1, rfl, fun i σ H' => ∃ (kvs : List (Key × V)) (bs bs' : List (Str × PyData)) (s9 s10 s11 s12 s13 s14 s15 : Option V), σ = [some (.ref kk), some (.ref ta), some (.ref pA), some (.str "list"), some (.ref a1), some v2, some (.ref a3), some (.ref p), some (.ref mb), s9, s10, s11, s12, s13, s14, s15] ∧ Same H H' ∧ SqT K H' mb [] ∧
      H' p = some (.dK kvs) ∧ KvB K H' kvs bs' ∧ bs'.Perm (([] : List (Str × PyData)) ++ bs) ∧ (kvs.map (·.1)).Perm (keyP (([] : List (Str × Nat)) ++ namesSs (A.take i) 0)) ∧ matchRs 0 A (ds.take A.length) = combM bs (matchRs (0 + i) (A.drop i) ((ds.take A.length).drop i)), ?_, ?_, ?_, ?_⟩
    · exact ⟨[], [], [], _, _, _, _, _, _, _, rfl, s01, hmb, hp1, .nil, .refl _, by simp [namesSs, keyP], by rw [combM_nil]; rfl⟩
    · rintro i σ H2 hi ⟨kvs, bs, bs', s9, s10, s11, s12, s13, s14, s15, rfl, s2, _⟩
      exact s2.tup hx1
    · rintro i x' σ H2 H3 hi ⟨kvs, bs, bs', s9, s10, s11, s12, s13, s14, s15, rfl, s2, hmb2, hp2, hkv, hpm, hkp, hmr⟩ ⟨T, y, rfl, hT, rfl, hyi⟩
      refine i_two (SqT.of upd_same) ?_
      have t3 := Same.new (o := .tup [.int (i : Nat), y]) hT
      have s3 := s2.trans t3
      have hp3 := t3 _ _ hp2
      have hkv3 := hkv.mono t3
      have hmb3 := t3.tup hmb2
      generalize upd H2 T (.tup [.int (i : Nat), y]) = H3 at s3 hp3 hkv3 hmb3 ⊢
      obtain ⟨dx', hdx1, hdx2⟩ := dpAll_atv hxs1 hyi
      obtain ⟨xi, hAi, rfl⟩ : ∃ xi, A[i]? = some xi ∧ dx' = enc xi := by
        rw [encs_map, List.getElem?_map] at hdx1
        cases e : A[i]? with
        | none => rw [e] at hdx1; cases hdx1
        | some xi => rw [e] at hdx1; exact ⟨xi, rfl, (Option.some.inj hdx1).symm⟩
      have hiA : i < A.length := (List.getElem?_eq_some_iff.mp hAi).1
      obtain ⟨di, hdi⟩ : ∃ di, ds[i]? = some di := ⟨ds[i]'(by omega), List.getElem?_eq_getElem (by omega)⟩
      have eD : (ds.take A.length).drop i = di :: (ds.take A.length).drop (i + 1) := by
        have hl : i < (ds.take A.length).length := by rw [List.length_take]; omega
        rw [List.drop_eq_getElem_cons hl]
        congr 1
        rw [List.getElem_take]
        exact (List.getElem?_eq_some_iff.mp hdi).2
      obtain ⟨yi, hyi2, hdyi⟩ := dpAll_at hys hdi
      have eA : A.drop i = xi :: A.drop (i + 1) := by rw [List.drop_eq_getElem_cons hiA, (List.getElem?_eq_some_iff.mp hAi).2]
      rw [eA, eD, matchRs_cons] at hmr
      obtain ⟨m1, hm1⟩ : ∃ m1, matchR xi di = some m1 := by
        cases e : matchR xi di with
        | some m1 => exact ⟨m1, rfl⟩
        | none =>
          rw [e] at hmr
          rw [hmr] at hcont
          simp [combM] at hcont
      rw [hm1] at hmr
      have hk3 := s3 _ _ hk
      have memA := List.mem_of_getElem? hAi
      have szi := ssizes_mem memA
      have dmem := List.mem_of_getElem? hdi
      have dle := ddeps_le dmem
      have dsl := dsizes_mem dmem
      have ndp : (keyP (([] : List (Str × Nat)) ++ namesSs A 0)).Nodup := by rw [keyP_app, keyP_app] at hndk; simpa using (List.nodup_append.mp (List.nodup_append.mp hndk).1).1
      keq_hits
      refine we_ix ix_tup plainIx_name ?_
      keq_hits
      refine i_ixT (v := yi) (s3.tup hy) (by rw [WP.atI_nat (by omega)]; exact hyi2) ?_
      keq_hits
      refine ⟨kk, dx, y, yi, xi, di, m1, k, rfl, hk3, WP.dp_mono s3 hdx2, WP.dp_mono s3 hdyi, hm1, elem_nodup hAi ndp, by omega, deepSs_mem hdA memA, by omega, by omega, ?_⟩
      cases m1 with
      | bad path =>
        intro q2 p2 H4 s4 hq2 hpt
        have hpl := match_path xi di path hm1
        have em : m = .bad ((0 + i) :: path) := by
          rw [hmr] at hcont
          exact (Option.some.inj hcont).symm
        refine i_two (SqT.of hq2) ?_
        keq_hits
        refine i_ift rfl ?_
        keq_hits
        refine we_op op_catA ?_
        keq_hits
        refine ⟨by show 1 ≤ sizeLine; decide, fun p3 hp3 => ?_⟩
        keq_hits
        refine i_cat (xs := [.int (i : Nat)]) (SqT.of upd_same) ((Same.new hp3).tup hpt) (by rw [List.length_map]; show _ ≤ 16777216; simp; omega) fun p4 H5 s5 h5 => ?_
        keq_hits
        refine ⟨by show 2 ≤ sizeLine; decide, fun q3 hq3 => ?_⟩
        rw [em] at q
        exact q q3 p4 _ (s3.trans (s4.trans ((Same.new hp3).trans (s5.trans (Same.new hq3))))) upd_same ((Same.new hq3).tup (by have h6 : SqT K H5 p4 ([.int (i : Nat)] ++ path.map fun (i : Nat) => V.int (i : Int)) := h5; simpa using h6))
      | ok b1 =>
        intro q2 p2 kvs1 bs1 H4 s4 hp2n hp24 hq2 hkv1 hpm1
        have hp4 := s4 _ _ hp3
        have hpp : p ≠ p2 := fun e => by rw [e, hp2n] at hp3; cases hp3
        have kp1 := keys_perm hkv1 hpm1 hm1
        obtain ⟨tn1, tn2⟩ := turn_nodup (pre := ([] : List (Str × Nat))) hAi ndp hkp kp1
        have tnl := tn2.length_eq
        have tl := take_len A (i + 1)
        have ll : (keyP (([] : List (Str × Nat)) ++ namesSs (A.take (i + 1)) 0)).length ≤ 6000 := by simp [keyP]; omega
        rw [List.length_map, List.length_append] at tnl
        refine i_two (SqT.of hq2) ?_
        keq_hits
        refine i_iff rfl ?_
        keq_hits
        refine we_update ?_
        keq_hits
        refine i_dct hp4 ?_
        keq_hits
        refine i_update hpp hp4 hp24 (by show _ ≤ 16777216; omega) ?_
        rw [mergeK_app tn1]
        keq_hits
        refine ⟨kvs ++ kvs1, bs ++ b1, bs' ++ bs1, _, _, _, _, _, _, _, rfl, (s3.trans s4).mut hp, sqT_updK hp4 (s4.tup hmb3), upd_same, kvB_updK hp4 ((hkv3.mono s4).app hkv1), ?_, tn2, ?_⟩
        · rw [← List.append_assoc]
          exact hpm.append hpm1
        · rw [hmr, combM_comb]
          rfl
    · rintro σ H2 ⟨kvs, bsA, bsA', s9, s10, s11, s12, s13, s14, s15, rfl, s2, hmb2, hp2, hkv, hpm, hkp, hmr⟩
      have hA : matchRs 0 A (ds.take A.length) = some (.ok bsA) := by
        rw [hmr, ln1, List.drop_length]
        simp [matchRs, combM]
      rw [hA] at hcont
      have hcB : combM (bsA ++ emptyB R) (matchRs (A.length + 2) B (ds.drop A.length)) = some m := hcont
      have hkA : (kvs.map (·.1)).Perm (keyP (namesSs A 0)) := by
        rw [ln1, List.take_length] at hkp
        simpa using hkp
      have fin : ∀ (kvs3 : List (Key × V)) (bs3 : List (Str × PyData)) (s9 s10 s11 s12 s13 s14 s15 : Option V) (H3 : Hp) (σ' : L2.St), Same H H3 → SqT K H3 mb [] → H3 p = some (.dK kvs3) → KvB K H3 kvs3 bs3 → bs3.Perm (bsA ++ emptyB R) → (kvs3.map (·.1)).Perm (keyP (namesSs A 0 ++ R)) → R.length ≤ 3000 → σ' = [some (.ref kk), some (.ref ta), some (.ref pA), some (.str "list"), some (.ref a1), some v2, some (.ref a3), some (.ref p), some (.ref mb), s9, s10, s11, s12, s13, s14, s15] →
          WB (bx P w K mg base ["kind", "told", "parts", "name", "ahead", "repeated", "behind", "found", "middle", "at", "part", "bound", "path", "rows", "row", "key"] "matched_parts" (defScope (top 29)) f cdv Ar outer s H E) ((defBody (top 29)).drop 4) { nx := fun _ H' => Q .non H', rt := Q } σ' H3 := by
        rintro kvs3 bs3 s9 s10 s11 s12 s13 s14 s15 H3 σ' sH3 hmb3 hp3 hkv3 hpm3 hkp3 hR3 rfl
        refine wb_cons ?_
        refine ws_forI (g := gTup K 2 (gCons (gName 9) (gCons (gName 10) gNil))) (walk_enumT (K := K) (a := a3) (xs := xs3)) passes_bx rfl (pi_enumT (by rfl) me pa) (pg_two 9 10 rfl nd rfl rfl rfl rfl) ?_ iEnumT_mono
        show WP.WA _ _ _ _ _
        keq_hits
        refine ⟨a3, xs3, rfl, sH3.tup hx3, rfl, fun i σ H' => ∃ (kvs : List (Key × V)) (bs bs' : List (Str × PyData)) (s9 s10 s11 s12 s13 s14 s15 : Option V), σ = [some (.ref kk), some (.ref ta), some (.ref pA), some (.str "list"), some (.ref a1), some v2, some (.ref a3), some (.ref p), some (.ref mb), s9, s10, s11, s12, s13, s14, s15] ∧ Same H H' ∧ SqT K H' mb [] ∧
          H' p = some (.dK kvs) ∧ KvB K H' kvs bs' ∧ bs'.Perm ((bsA ++ emptyB R) ++ bs) ∧ (kvs.map (·.1)).Perm (keyP ((namesSs A 0 ++ R) ++ namesSs (B.take i) 0)) ∧ matchRs (A.length + 2) B (ds.drop A.length) = combM bs (matchRs ((A.length + 2) + i) (B.drop i) ((ds.drop A.length).drop i)), ?_, ?_, ?_, ?_⟩
        · exact ⟨kvs3, [], bs3, _, _, _, _, _, _, _, rfl, sH3, hmb3, hp3, hkv3, by simpa using hpm3, by simpa [namesSs] using hkp3, by rw [combM_nil]; rfl⟩
        · rintro i σ H2 hi ⟨kvs, bs, bs', s9, s10, s11, s12, s13, s14, s15, rfl, s2, _⟩
          exact s2.tup hx3
        · rintro i x' σ H2 H3 hi ⟨kvs, bs, bs', s9, s10, s11, s12, s13, s14, s15, rfl, s2, hmb2, hp2, hkv, hpm, hkp, hmr⟩ ⟨T, y, rfl, hT, rfl, hyi⟩
          refine i_two (SqT.of upd_same) ?_
          have t3 := Same.new (o := .tup [.int (i : Nat), y]) hT
          have s3 := s2.trans t3
          have hp3 := t3 _ _ hp2
          have hkv3 := hkv.mono t3
          have hmb3 := t3.tup hmb2
          generalize upd H2 T (.tup [.int (i : Nat), y]) = H3 at s3 hp3 hkv3 hmb3 ⊢
          obtain ⟨dx', hdx1, hdx2⟩ := dpAll_atv hxs3 hyi
          obtain ⟨xi, hAi, rfl⟩ : ∃ xi, B[i]? = some xi ∧ dx' = enc xi := by
            rw [encs_map, List.getElem?_map] at hdx1
            cases e : B[i]? with
            | none => rw [e] at hdx1; cases hdx1
            | some xi => rw [e] at hdx1; exact ⟨xi, rfl, (Option.some.inj hdx1).symm⟩
          have hiA : i < B.length := (List.getElem?_eq_some_iff.mp hAi).1
          obtain ⟨di, hdi⟩ : ∃ di, ds[A.length + i]? = some di := ⟨ds[A.length + i]'(by omega), List.getElem?_eq_getElem (by omega)⟩
          have eD : (ds.drop A.length).drop i = di :: (ds.drop A.length).drop (i + 1) := by
            have hl : i < (ds.drop A.length).length := by rw [List.length_drop]; omega
            rw [List.drop_eq_getElem_cons hl]
            congr 1
            rw [List.getElem_drop]
            exact (List.getElem?_eq_some_iff.mp hdi).2
          obtain ⟨yi, hyi2, hdyi⟩ := dpAll_at hys hdi
          have eA : B.drop i = xi :: B.drop (i + 1) := by rw [List.drop_eq_getElem_cons hiA, (List.getElem?_eq_some_iff.mp hAi).2]
          rw [eA, eD, matchRs_cons] at hmr
          obtain ⟨m1, hm1⟩ : ∃ m1, matchR xi di = some m1 := by
            cases e : matchR xi di with
            | some m1 => exact ⟨m1, rfl⟩
            | none =>
              rw [e] at hmr
              rw [hmr] at hcB
              simp [combM] at hcB
          rw [hm1] at hmr
          have hk3 := s3 _ _ hk
          have memA := List.mem_of_getElem? hAi
          have szi := ssizes_mem memA
          have dmem := List.mem_of_getElem? hdi
          have dle := ddeps_le dmem
          have dsl := dsizes_mem dmem
          have ndp : (keyP ((namesSs A 0 ++ R) ++ namesSs B 0)).Nodup := hndk
          keq_hits
          refine we_ix ix_tup plainIx_op ?_
          keq_hits
          refine we_op op_add ?_
          keq_hits
          refine i_ixT (v := yi) (s3.tup hy) (by
            rw [show ((ds.length : Int) - ((encs B).length : Int) + ((i : Nat) : Int)) = ((A.length + i : Nat) : Int) by rw [encs_map, List.length_map]; omega, WP.atI_nat (by omega)]
            exact hyi2) ?_
          keq_hits
          refine ⟨kk, dx, y, yi, xi, di, m1, k, rfl, hk3, WP.dp_mono s3 hdx2, WP.dp_mono s3 hdyi, hm1, elem_nodup hAi ndp, by omega, deepSs_mem hdB memA, by omega, by omega, ?_⟩
          cases m1 with
          | bad path =>
            intro q2 p2 H4 s4 hq2 hpt
            have hpl := match_path xi di path hm1
            have em : m = .bad (((A.length + 2) + i) :: path) := by
              rw [hmr] at hcB
              exact (Option.some.inj hcB).symm
            refine i_two (SqT.of hq2) ?_
            keq_hits
            refine i_ift rfl ?_
            obtain ⟨b0, hb0⟩ : ∃ b, v2 = .ref b := by
              rcases hv2 with ⟨_, e, _⟩ | ⟨b, r, e, _⟩
              · rw [e] at hiA; exact absurd hiA (Nat.not_lt_zero _)
              · exact ⟨b, e⟩
            keq_hits
            refine we_op op_catA ?_
            refine we_tup (wa_cons ?_)
            refine we_op op_add ?_
            refine we_op op_add ?_
            keq_hits
            refine i_lenT ((s3.trans s4).tup hx1) ?_
            keq_hits
            refine we_op op_mul ?_
            keq_hits
            refine we_callTy call_int1' (by rfl) mi boot_int ?_
            refine wa_cons ?_
            keq_hits
            refine .inr ⟨_, rfl, ?_⟩
            rw [hb0]
            refine i_I (.inl (by decide)) ?_
            keq_hits
            refine ⟨by show 1 ≤ sizeLine; decide, fun p3 hp3 => ?_⟩
            keq_hits
            refine i_cat (SqT.of upd_same) ((Same.new hp3).tup hpt) (by rw [List.length_map]; show _ ≤ 16777216; simp; omega) fun p4 H5 s5 h5 => ?_
            keq_hits
            refine ⟨by show 2 ≤ sizeLine; decide, fun q3 hq3 => ?_⟩
            rw [em] at q
            refine q q3 p4 _ (s3.trans (s4.trans ((Same.new hp3).trans (s5.trans (Same.new hq3))))) upd_same ((Same.new hq3).tup ?_)
            have e7 : V.int (((xs1.length : Int) + 2 * (if (!decide (V.ref b0 = V.non)) = true then 1 else 0)) + ((i : Nat) : Int)) = V.int ((A.length + 2 + i : Nat) : Int) := by
              rw [ln1]
              simp
            have h6 : SqT K H5 p4 ([V.int (((xs1.length : Int) + 2 * (if (!decide (V.ref b0 = V.non)) = true then 1 else 0)) + ((i : Nat) : Int))] ++ path.map fun (i : Nat) => V.int (i : Int)) := h5
            rw [e7] at h6
            simpa using h6
          | ok b1 =>
            intro q2 p2 kvs1 bs1 H4 s4 hp2n hp24 hq2 hkv1 hpm1
            have hp4 := s4 _ _ hp3
            have hpp : p ≠ p2 := fun e => by rw [e, hp2n] at hp3; cases hp3
            have kp1 := keys_perm hkv1 hpm1 hm1
            obtain ⟨tn1, tn2⟩ := turn_nodup (pre := (namesSs A 0 ++ R)) hAi ndp hkp kp1
            have tnl := tn2.length_eq
            have tl := take_len B (i + 1)
            have tl2 := take_len A A.length
            have ll : (keyP (namesSs A 0 ++ R ++ namesSs (B.take (i + 1)) 0)).length ≤ 9000 := by rw [List.take_length] at tl2; simp [keyP]; omega
            rw [List.length_map, List.length_append] at tnl
            refine i_two (SqT.of hq2) ?_
            keq_hits
            refine i_iff rfl ?_
            keq_hits
            refine we_update ?_
            keq_hits
            refine i_dct hp4 ?_
            keq_hits
            refine i_update hpp hp4 hp24 (by show _ ≤ 16777216; omega) ?_
            rw [mergeK_app tn1]
            keq_hits
            refine ⟨kvs ++ kvs1, bs ++ b1, bs' ++ bs1, _, _, _, _, _, _, _, rfl, (s3.trans s4).mut hp, sqT_updK hp4 (s4.tup hmb3), upd_same, kvB_updK hp4 ((hkv3.mono s4).app hkv1), ?_, tn2, ?_⟩
            · rw [← List.append_assoc]
              exact hpm.append hpm1
            · rw [hmr, combM_comb]
              rfl
        · rintro σ H2 ⟨kvs, bs, bs', s9, s10, s11, s12, s13, s14, s15, rfl, s2, hmb2, hp2, hkv, hpm, hkp, hmr⟩
          have hB : matchRs (A.length + 2) B (ds.drop A.length) = some (.ok bs) := by
            rw [hmr, ln3, List.drop_length]
            simp [matchRs, combM]
          have em : m = .ok (bsA ++ emptyB R ++ bs) := by
            rw [hB] at hcB
            exact (Option.some.inj hcB).symm
          keq_hits
          refine ⟨by show 2 ≤ sizeLine; decide, fun q3 hq3 => ?_⟩
          rw [em] at q
          exact q q3 p kvs bs' _ (s2.trans (Same.new hq3)) hp ((Same.new hq3) _ _ hp2) upd_same (hkv.mono (Same.new hq3)) hpm
      keq_hits
      rcases hv2 with ⟨rfl, rfl, rfl⟩ | ⟨b2, r, rfl, rfl, dr, gr, zr⟩
      · refine i_iff rfl ?_
        refine wb_nil ?_
        exact fin kvs bsA' _ _ _ _ _ _ _ H2 _ s2 hmb2 hp2 hkv (by simpa [emptyB] using hpm) (by simpa using hkA) (by simp) rfl
      · refine i_ift rfl ?_
        keq_hits
        refine ⟨by show 0 ≤ sizeLine; decide, fun rl hrl => ?_⟩
        have t3 := Same.new (o := .lst ([] : List V)) hrl
        have s3 := s2.trans t3
        have hr3 : upd H2 rl (.lst []) rl = some (.lst []) := upd_same
        have hmb3 := t3.tup hmb2
        have hp3 := t3 _ _ hp2
        have hkv3 := hkv.mono t3
        generalize upd H2 rl (.lst []) = H3 at s3 hr3 hmb3 hp3 hkv3 ⊢
        refine wb_cons ?_
        refine ws_forI (g := gName 10) (walk_tup (K := K) (a := mb) (xs := [])) passes_bx rfl (pi_tup pe) (by k_memK) ?_ iTup_mono
        show WP.WE _ _ _ _ _
        keq_hits
        refine ⟨mb, rfl, ⟨_, hmb3⟩, rfl, fun i σ' H' => _ = σ' ∧ H3 = H', ⟨rfl, rfl⟩, fun i σ' H' _ h => by rw [← h.2]; exact hmb3, fun i x' σ' H' H'' hi => absurd hi (Nat.not_lt_zero _), ?_⟩
        rintro σ' H' ⟨rfl, rfl⟩
        keq_hits
        refine we_update ?_
        keq_hits
        refine i_dct hp3 ?_
        refine wa_cons ?_
        refine we_dc rfl nd (pi_keys peL) (blkOk_by (N := ["kind", "told", "parts", "name", "ahead", "repeated", "behind", "found", "middle", "at", "part", "bound", "path", "rows", "row", "key"]) (sc := defScope (top 29)) (own := [("key", 15)]) (by decide +kernel)) (fun _ _ _ _ _ => by k_memK) ?_
        show WP.WE _ _ _ _ _
        keq_hits
        have dr3 := WP.dp_mono s3 dr
        refine ⟨_, r, rfl, dr3, zr, fun _ l d5 H5 hlp hd5 s5 hk5 => ?_, fun g H' s' => by rw [gr] at g; cases g⟩
        refine ⟨d5, _, rfl, hk5, True.intro, fun od => ⟨d5, od, rfl, .inl ⟨kvN l, upd_same, fun D6 hD6 => ?_⟩⟩⟩
        have hd3 : H3 d5 = none := hd5
        have t6 : Same H3 (upd H5 d5 (.frz od (.dK (kvN l)))) := s5.mut hd3
        have hd6 : upd H5 d5 (.frz od (.dK (kvN l))) d5 = some (.frz od (.dK (kvN l))) := upd_same
        generalize upd H5 d5 (.frz od (.dK (kvN l))) = H6 at t6 hd6 hD6 ⊢
        refine dc_it (walk_keys (d := d5) (o := od) (kvs := kvN l)) (fun i H' => ∃ kv', Same H6 H' ∧ H' D6 = some (.dK kv') ∧ KvB K H' kv' (emptyB (l.take i))) ⟨[], Same.new hD6, upd_same, .nil⟩ (fun i H' _ ⟨_, h, _⟩ => h _ _ hd6) ?_ fun H7 h7 => ?_
        · rintro i x' H7' H7 hi ⟨kv', s7, h7, hb7⟩ ⟨rfl, kx, vx, hkx, rfl⟩
          obtain ⟨pr, hpr, rfl⟩ : ∃ pr, l[i]? = some pr ∧ kx = .inr pr.1 := by
            unfold kvN at hkx
            rw [List.getElem?_map] at hkx
            cases e : l[i]? with
            | none => rw [e] at hkx; cases hkx
            | some pr => rw [e] at hkx; cases hkx; exact ⟨pr, rfl, rfl⟩
          refine ⟨rfl, ?_⟩
          unfold tYes
          refine i_ift rfl ?_
          intro s0 H0' C0 cl fp
          keq_hits
          intro s1' H1' C1 cl1 fp1
          refine we_callTy call_tup (by rfl) mt boot_tuple ?_
          refine wa_cons ?_
          have hr7 : H7 rl = some (.lst []) := s7 _ _ (t6 _ _ hr3)
          refine we_lcc rfl nd (pi_list pe) (blkOk_by (N := ["kind", "told", "parts", "name", "ahead", "repeated", "behind", "found", "middle", "at", "part", "bound", "path", "rows", "row", "key"]) (sc := { kind := .function, names := [(".0", .local), ("key", .cell), ("tuple", .globalImplicit), ("rows", .cell)], isGenerator := false, isCoroutine := false }) (own := [("row", 14)]) (by decide +kernel)) (fun _ _ _ _ _ => by k_memK) ?_
          show WP.WE _ _ _ _ _
          keq_hits
          refine ⟨rl, rfl, ⟨[], SqL.of hr7⟩, fun D8 hD8 => lc_R (fun i _ v => v = .non) (stay_val (f := fun _ => .non)) walk_list (by show 0 < 16777216; omega) hD8 (fun H s => SqL.of (s _ _ hr7)) (fun i x H H' hi => absurd hi (Nat.not_lt_zero _)) teC_mono gName_mono fun H9 acc s9' hl9 ha9 _ => ?_⟩
          cases List.length_eq_zero_iff.mp ha9
          keq_hits
          refine i_tupL hl9 fun p9 hp9 => ?_
          keq_hits
          have s8 := s9'.trans (Same.new (o := .tup ([] : List V)) hp9)
          have dp9 : Dp K (upd H9 p9 (.tup [])) (.ref p9) (.tuple []) := Dp.tup (SqT.of upd_same) .nil
          generalize upd H9 p9 (.tup []) = H8 at s8 dp9 ⊢
          have h8 := s8 _ _ h7
          have nin : pr.1 ∉ (emptyB (l.take i)).map (·.1) := by
            have hnl : (l.map (·.1)).Nodup := by
              have := gr
              simp only [goodS, Bool.and_eq_true, decide_eq_true_eq] at this
              exact (hlp.map (·.1)).nodup_iff.mpr this.1
            have hi' := (List.getElem?_eq_some_iff.mp hpr)
            have e1 : l = l.take i ++ pr :: l.drop (i + 1) := by
              have e1 := (List.take_append_drop i l).symm
              rw [List.drop_eq_getElem_cons hi'.1, hi'.2] at e1
              exact e1
            rw [e1, List.map_append, List.map_cons] at hnl
            have e9 : (emptyB (l.take i)).map (·.1) = (l.take i).map (·.1) := by
              unfold emptyB
              rw [List.map_map]
              rfl
            rw [e9]
            exact nodup_mid hnl
          have lk : kv'.length ≤ 3000 := by
            have h1 := hb7.len
            have h2 := hlp.length_eq
            have h3 := names_len r 0
            simp [emptyB] at h1
            omega
          refine ⟨kv', .inr pr.1, rfl, h8, by show _ < 16777216; omega, kv' ++ [(.inr pr.1, .ref p9)], (s7.trans s8).mut hD6, by rw [upd_same, kvB_put hb7 nin], ?_⟩
          rw [List.take_succ, hpr]
          have := kvB_updK (kvs0' := putK kv' (.inr pr.1) (.ref p9)) h8 ((hb7.mono s8).app (.cons dp9 .nil) (bs' := [(pr.1, .tuple [])]))
          simpa [emptyB] using this
        · obtain ⟨kv', s7, h7, hb7⟩ := h7
          have hb7 : KvB K H7 kv' (emptyB l) := by
            rw [show (kvN l).length = l.length by simp [kvN], List.take_length] at hb7
            exact hb7
          have hp7 : H7 p = some (.dK kvs) := s7 _ _ (t6 _ _ hp3)
          have hpD : p ≠ D6 := fun e => by
            have := t6 _ _ hp3
            rw [e, hD6] at this
            cases this
          have lA := names_lens A 0
          have lr := names_len r 0
          have lkv : kvs.length = (namesSs A 0).length := by have := hkA.length_eq; simpa [keyP] using this
          have lkv' : kv'.length = l.length := by have := hb7.len; simpa [emptyB] using this
          have llp := hlp.length_eq
          have kp' : (kv'.map (·.1)).Perm (keyP (namesS r 0)) := by
            rw [hb7.keys]
            have : ((emptyB l).map fun b => (.inr b.1 : Key)) = keyP l := by simp [emptyB, keyP, List.map_map]
            rw [this]
            exact hlp.map _
          have kpp : ((kvs ++ kv').map (·.1)).Perm (keyP (namesSs A 0 ++ namesS r 0)) := by
            rw [List.map_append, keyP_app]
            exact hkA.append kp'
          have ndd : ((kvs ++ kv').map (·.1)).Nodup := by
            refine kpp.nodup_iff.mpr ?_
            rw [keyP_app] at hndk
            exact (List.nodup_append.mp hndk).1
          keq_hits
          refine i_update hpD hp7 h7 (by show _ ≤ 16777216; omega) ?_
          rw [mergeK_app ndd]
          refine wb_nil ?_
          have s37 := t6.trans s7
          exact fin (kvs ++ kv') (bsA' ++ emptyB l) _ _ _ _ _ _ _ _ _ ((s3.trans s37).mut hp) (sqT_updK hp7 (s37.tup hmb3)) upd_same (kvB_updK hp7 ((hkv3.mono s37).app hb7)) ((show bsA'.Perm bsA by simpa using hpm).append (hlp.map _)) kpp (by omega) rfl
end
end
section
section
variable {P : Program} {w : World} {K : PySem.W.Frag} {mg : Str → Option Value} {base : Heap} {f f2 : Addr} {fd fd2 : FuncData} {C CB : Addr} {L : List Str}
theorem sc27 : FnScope ["kind", "told", "node", "is_same", "parts"] ["kind", "told", "node"] (defScope (top 27)) := ⟨rfl, rfl, rfl, by decide +kernel, rfl, by decide +kernel, by decide +kernel⟩
theorem new_of {H H' : Hp} {p : Addr} (s : Same H H') (h : H' p = none) : H p = none := by
  cases z : H p with
  | none => rfl
  | some o => rw [s _ _ z] at h; cases h
theorem ok_matched0 (F : FnP K "matched" 27 f fd) (hm : mg "matched" = some (.ref f)) : Def P w K mg base 4 "matched" (sp_matched K C 0) := by
  refine Def.mk' F hm sc27 (fun vs H Q E h => ?_) (fun _ _ _ _ _ _ us hl => match us, hl with | [_, _, _], _ => rfl) (fun cdv Ar outer s H vs Q E hr tk h => ?_)
  · obtain ⟨kk, dx, v, nv, x, d, m, k, rfl, _⟩ := h
    rfl
  · obtain ⟨kk, dx, v, nv, x, d, m, k, rfl, hk, hd, hnv, hmm, hnd, hz, hde, hdp, hsz, q⟩ := h
    have := ddep_pos d
    omega
theorem ok_matched {n k0 : Nat} (F : FnP K "matched" 27 f fd) (hm : mg "matched" = some (.ref f)) (hk0 : 3 ≤ k0) (O : PlainOk P w K mg base C) (ml : mg "len" = none) (DF : Def P w K mg base 1 "fits" (sp_fits K)) (DP : Def P w K mg base k0 "matched_parts" (sp_matched_parts K C n)) : Def P w K mg base (k0 + 1) "matched" (sp_matched K C (n + 1)) := by
  refine Def.mk' F hm sc27 (fun vs H Q E h => ?_) (fun _ _ _ _ _ _ us hl => match us, hl with | [_, _, _], _ => rfl) (fun cdv Ar outer s H vs Q E hr tk h => ?_)
  · obtain ⟨kk, dx, v, nv, x, d, m, k, rfl, _⟩ := h
    rfl
  · obtain ⟨kk, dx, v, nv, x, d, m, k, rfl, hk, hd, hnv, hmm, hnd, hz, hde, hdp, hsz, q⟩ := h
    obtain ⟨cl, mz, gP, lp, it, wi, ke, il⟩ := O
    have nd := sc27.nd
    cases x with
    | any =>
      obtain ⟨a, xs, rfl, hT, hds⟩ := dp_tup hd
      cases hds with
      | cons a1 r =>
        cases dp_str a1
        cases r
        simp [matchR] at hmm
        subst hmm
        keq_hits
        refine wt_cmp op_eq rfl ?_
        refine we_ix ix_tup plainIx_int ?_
        keq_hits
        refine i_ixT hT atI0 ?_
        keq_hits
        refine ⟨rfl, i_bl (i_ift rfl ?_)⟩
        keq_hits
        refine we_dnew fun p hp => ?_
        keq_hits
        refine ⟨by show 2 ≤ sizeLine; decide, fun q2 hq2 => ?_⟩
        exact q q2 p [] [] _ ((Same.refl H).trans ((Same.new hp).trans (Same.new hq2))) hp ((Same.new hq2) _ _ upd_same) upd_same .nil (.refl _)
    | nm z =>
      obtain ⟨a, rfl, hT⟩ := enc_nm hd
      simp [matchR] at hmm
      subst hmm
      keq_hits
      refine wt_cmp op_eq rfl ?_
      refine we_ix ix_tup plainIx_int ?_
      keq_hits
      refine i_ixT hT atI0 ?_
      keq_hits
      refine ⟨rfl, i_bl (i_iff rfl ?_)⟩
      keq_hits
      refine wt_cmp op_eq rfl ?_
      refine we_ix ix_tup plainIx_int ?_
      keq_hits
      refine i_ixT hT atI0 ?_
      keq_hits
      refine ⟨rfl, i_bl (i_ift rfl ?_)⟩
      keq_hits
      refine we_disp1 fun p hp => ?_
      have s1 : Same H (upd H p (.dK [])) := Same.new hp
      have h1 : upd H p (.dK []) p = some (.dK []) := upd_same
      generalize upd H p (.dK []) = H1 at s1 h1 ⊢
      refine we_ix ix_tup plainIx_int ?_
      keq_hits
      refine i_ixT (s1.tup hT) atI1 ?_
      keq_hits
      refine ⟨h1, .inr z, rfl, ?_⟩
      keq_hits
      refine ⟨by show 2 ≤ sizeLine; decide, fun q2 hq2 => ?_⟩
      have s2 : Same H (upd H1 p (.dK [(.inr z, nv)])) := s1.mut hp
      exact q q2 p _ _ _ (s2.trans (Same.new hq2)) hp ((Same.new hq2) _ _ upd_same) upd_same (.cons (WP.dp_mono (s2.trans (Same.new hq2)) hnv) .nil) (.refl _)
    | num i =>
      obtain ⟨a, xs, rfl, hT, hds⟩ := dp_tup hd
      cases hds with
      | cons a1 r =>
        cases dp_str a1
        cases r with
        | cons a2 r2 =>
          cases dp_int a2
          cases r2
          obtain ⟨j, rfl⟩ : ∃ j, d = .int j := by
            cases d <;> first | exact ⟨_, rfl⟩ | simp [matchR] at hmm
          cases dp_int hnv
          keq_hits
          refine wt_cmp op_eq rfl ?_
          refine we_ix ix_tup plainIx_int ?_
          keq_hits
          refine i_ixT hT atI0 ?_
          keq_hits
          refine ⟨rfl, i_bl (i_iff rfl ?_)⟩
          keq_hits
          refine wt_cmp op_eq rfl ?_
          refine we_ix ix_tup plainIx_int ?_
          keq_hits
          refine i_ixT hT atI0 ?_
          keq_hits
          refine ⟨rfl, i_bl (i_iff rfl ?_)⟩
          keq_hits
          refine wt_cmp op_eq rfl ?_
          refine we_ix ix_tup plainIx_int ?_
          keq_hits
          refine i_ixT hT atI0 ?_
          keq_hits
          refine ⟨rfl, i_bl (i_ift rfl ?_)⟩
          keq_hits
          refine wt_cmp op_eq rfl ?_
          keq_hits
          refine ⟨_, _, _, rfl, hnv, fun H1 s1 => ?_⟩
          refine we_ix ix_tup plainIx_int ?_
          keq_hits
          refine i_ixT (s1.tup hT) atI1 ?_
          refine ⟨rfl, i_bl ?_⟩
          simp only [matchR] at hmm
          refine i_ite (fun e => ?_) (fun e => ?_)
          · have e : j = i := by simpa [intOr, isInteger] using e
            rw [if_pos e] at hmm
            cases hmm
            keq_hits
            refine we_dnew fun p hp => ?_
            keq_hits
            refine ⟨by show 2 ≤ sizeLine; decide, fun q2 hq2 => ?_⟩
            exact q q2 p [] [] _ (s1.trans ((Same.new hp).trans (Same.new hq2))) (new_of s1 hp) ((Same.new hq2) _ _ upd_same) upd_same .nil (.refl _)
          · have e : ¬ j = i := by simpa [intOr, isInteger] using e
            rw [if_neg e] at hmm
            cases hmm
            keq_hits
            refine ⟨by show 0 ≤ sizeLine; decide, fun p2 hp2 => ?_⟩
            keq_hits
            refine ⟨by show 2 ≤ sizeLine; decide, fun q2 hq2 => ?_⟩
            exact q q2 p2 _ (s1.trans ((Same.new hp2).trans (Same.new hq2))) upd_same ((Same.new hq2).tup (SqT.of upd_same))
    | lit z =>
      obtain ⟨a, xs, rfl, hT, hds⟩ := dp_tup hd
      cases hds with
      | cons a1 r =>
        cases dp_str a1
        cases r with
        | cons a2 r2 =>
          cases dp_str a2
          cases r2
          obtain ⟨j, rfl⟩ : ∃ j, d = .str j := by
            cases d <;> first | exact ⟨_, rfl⟩ | simp [matchR] at hmm
          cases dp_str hnv
          keq_hits
          refine wt_cmp op_eq rfl ?_
          refine we_ix ix_tup plainIx_int ?_
          keq_hits
          refine i_ixT hT atI0 ?_
          keq_hits
          refine ⟨rfl, i_bl (i_iff rfl ?_)⟩
          keq_hits
          refine wt_cmp op_eq rfl ?_
          refine we_ix ix_tup plainIx_int ?_
          keq_hits
          refine i_ixT hT atI0 ?_
          keq_hits
          refine ⟨rfl, i_bl (i_iff rfl ?_)⟩
          keq_hits
          refine wt_cmp op_eq rfl ?_
          refine we_ix ix_tup plainIx_int ?_
          keq_hits
          refine i_ixT hT atI0 ?_
          keq_hits
          refine ⟨rfl, i_bl (i_iff rfl ?_)⟩
          keq_hits
          refine wt_cmp op_eq rfl ?_
          refine we_ix ix_tup plainIx_int ?_
          keq_hits
          refine i_ixT hT atI0 ?_
          keq_hits
          refine ⟨rfl, i_bl (i_ift rfl ?_)⟩
          keq_hits
          refine ⟨_, _, _, rfl, hnv, ?_⟩
          keq_hits
          refine i_ift rfl ?_
          keq_hits
          refine we_ix ix_tup plainIx_int ?_
          keq_hits
          refine i_ixT hT atI1 ?_
          keq_hits
          refine ⟨_, _, _, rfl, ?_⟩
          keq_hits
          simp only [matchR] at hmm
          refine i_ite (fun e => ?_) (fun e => ?_)
          · have e : z = j := of_decide_eq_true e
            rw [if_pos e] at hmm
            cases hmm
            keq_hits
            refine we_dnew fun p hp => ?_
            keq_hits
            refine ⟨by show 2 ≤ sizeLine; decide, fun q2 hq2 => ?_⟩
            exact q q2 p [] [] _ ((Same.refl H).trans ((Same.new hp).trans (Same.new hq2))) hp ((Same.new hq2) _ _ upd_same) upd_same .nil (.refl _)
          · have e : ¬ z = j := of_decide_eq_false e
            rw [if_neg e] at hmm
            cases hmm
            keq_hits
            refine ⟨by show 0 ≤ sizeLine; decide, fun p2 hp2 => ?_⟩
            keq_hits
            refine ⟨by show 2 ≤ sizeLine; decide, fun q2 hq2 => ?_⟩
            exact q q2 p2 _ ((Same.refl H).trans ((Same.new hp2).trans (Same.new hq2))) upd_same ((Same.new hq2).tup (SqT.of upd_same))
    | lis A =>
      obtain ⟨a, ea, eb, ev, hT, _, _⟩ := enc_lis hd
      rw [ev] at hd ⊢
      obtain ⟨ds, rfl⟩ : ∃ ds, d = .tuple ds := by
        cases d <;> first | exact ⟨_, rfl⟩ | simp [matchR] at hmm
      obtain ⟨pa0, yv, rfl, hy, hys⟩ := dp_tup hnv
      have hln : decide (ds.length = A.length) = true := by
        simp only [matchR] at hmm
        split at hmm
        · rename_i hl
          exact decide_eq_true hl
        · cases hmm
      keq_hits
      refine wt_cmp op_eq rfl ?_
      refine we_ix ix_tup plainIx_int ?_
      keq_hits
      refine i_ixT hT atI0 ?_
      keq_hits
      refine ⟨rfl, i_bl (i_iff rfl ?_)⟩
      keq_hits
      refine wt_cmp op_eq rfl ?_
      refine we_ix ix_tup plainIx_int ?_
      keq_hits
      refine i_ixT hT atI0 ?_
      keq_hits
      refine ⟨rfl, i_bl (i_iff rfl ?_)⟩
      keq_hits
      refine wt_cmp op_eq rfl ?_
      refine we_ix ix_tup plainIx_int ?_
      keq_hits
      refine i_ixT hT atI0 ?_
      keq_hits
      refine ⟨rfl, i_bl (i_iff rfl ?_)⟩
      keq_hits
      refine wt_cmp op_eq rfl ?_
      refine we_ix ix_tup plainIx_int ?_
      keq_hits
      refine i_ixT hT atI0 ?_
      keq_hits
      refine ⟨rfl, i_bl (i_iff rfl ?_)⟩
      keq_hits
      refine ⟨_, _, _, rfl, hnv, ?_⟩
      keq_hits
      refine i_iff rfl ?_
      keq_hits
      refine ⟨_, _, ds.length, rfl, hd, .inl ⟨A, rfl, ?_⟩⟩
      rw [hln]
      keq_hits
      refine i_iff rfl ?_
      keq_hits
      exact ⟨kk, dx, _, _, _, ds, m, k, rfl, hk, hd, hnv, hmm, .inl ⟨A, rfl⟩, hnd, hz, hde, by simp [ddep] at hdp; omega, by simp [dsize] at hsz; omega, q⟩
    | rep A r B =>
      obtain ⟨a, ea, er, eb, ev, hT, _, _, _⟩ := enc_rep hd
      rw [ev] at hd ⊢
      obtain ⟨ds, rfl⟩ : ∃ ds, d = .tuple ds := by
        cases d <;> first | exact ⟨_, rfl⟩ | simp [matchR] at hmm
      obtain ⟨pa0, yv, rfl, hy, hys⟩ := dp_tup hnv
      have hln : decide (A.length + B.length ≤ ds.length) = true := by
        simp only [matchR] at hmm
        split at hmm
        · rename_i hl
          exact decide_eq_true (by omega)
        · cases hmm
      keq_hits
      refine wt_cmp op_eq rfl ?_
      refine we_ix ix_tup plainIx_int ?_
      keq_hits
      refine i_ixT hT atI0 ?_
      keq_hits
      refine ⟨rfl, i_bl (i_iff rfl ?_)⟩
      keq_hits
      refine wt_cmp op_eq rfl ?_
      refine we_ix ix_tup plainIx_int ?_
      keq_hits
      refine i_ixT hT atI0 ?_
      keq_hits
      refine ⟨rfl, i_bl (i_iff rfl ?_)⟩
      keq_hits
      refine wt_cmp op_eq rfl ?_
      refine we_ix ix_tup plainIx_int ?_
      keq_hits
      refine i_ixT hT atI0 ?_
      keq_hits
      refine ⟨rfl, i_bl (i_iff rfl ?_)⟩
      keq_hits
      refine wt_cmp op_eq rfl ?_
      refine we_ix ix_tup plainIx_int ?_
      keq_hits
      refine i_ixT hT atI0 ?_
      keq_hits
      refine ⟨rfl, i_bl (i_iff rfl ?_)⟩
      keq_hits
      refine ⟨_, _, _, rfl, hnv, ?_⟩
      keq_hits
      refine i_iff rfl ?_
      keq_hits
      refine ⟨_, _, ds.length, rfl, hd, .inr ⟨A, r, B, rfl, ?_⟩⟩
      rw [hln]
      keq_hits
      refine i_iff rfl ?_
      keq_hits
      exact ⟨kk, dx, _, _, _, ds, m, k, rfl, hk, hd, hnv, hmm, .inr ⟨A, r, B, rfl⟩, hnd, hz, hde, by simp [ddep] at hdp; omega, by simp [dsize] at hsz; omega, q⟩
theorem ok_matcheds (F : FnP K "matched" 27 f fd) (hm : mg "matched" = some (.ref f)) (F2 : FnP K "matched_parts" 29 f2 fd2) (hm2 : mg "matched_parts" = some (.ref f2)) (O : PlainOk P w K mg base C) (ml : mg "len" = none) (me : mg "enumerate" = none) (mt : mg "tuple" = none) (mi : mg "int" = none)
    (DF : Def P w K mg base 1 "fits" (sp_fits K)) (DD : Def P w K mg base 3 "depths" (sp_depths K CB)) : ∀ n, n ≤ 60 → Def P w K mg base (2 * n + 4) "matched" (sp_matched K C n)
  | 0, _ => ok_matched0 F hm
  | n + 1, h => ok_matched F hm (by omega) O ml DF (ok_matched_parts F2 hm2 (by omega) (by omega) ml me mt mi (ok_matcheds F hm F2 hm2 O ml me mt mi DF DD n (by omega)) DD)
end
end
section
section
variable {P : Program} {w : World} {K : PySem.W.Frag} {mg : Str → Option Value} {base : Heap} {f f2 : Addr} {fd fd2 : FuncData} {C CB : Addr} {L : List Str}
theorem kvB_split {H : Hp} {kvs : List (Key × V)} {bs : List (Str × PyData)} (h : KvB K H kvs bs) : ∃ Z : List (Str × V × PyData), kvs = (Z.map fun z => (z.1, z.2.1)).map entS ∧ (Z.map fun z => (z.1, z.2.2)) = bs ∧ ∀ z ∈ Z, Dp K H z.2.1 z.2.2 := by
  induction h with
  | nil => exact ⟨[], rfl, rfl, fun _ z => nomatch z⟩
  | @cons s v d kvs bs hd _ ih =>
    obtain ⟨Z, e1, e2, e3⟩ := ih
    refine ⟨(s, v, d) :: Z, by rw [e1]; rfl, by rw [← e2]; rfl, fun z hz => ?_⟩
    rcases List.mem_cons.mp hz with rfl | hz
    · exact hd
    · exact e3 z hz
/-- what match_told gives -/
def MT (K : PySem.W.Frag) (H : Hp) (Q : VK) : MR → Prop
  | .ok bs => ∀ (q t : Addr) (o : Obj) (H' : Hp) (ps : List (Addr × Str × PyData)), Same H H' → H' q = some (.tup [.str "bound", .ref t]) → H' t = some (.frz o (.tup (ps.map fun z => V.ref z.1))) → Pl o → (∀ z ∈ ps, ∃ v, H' z.1 = some (.tup [.str z.2.1, v]) ∧ Dp K H' v z.2.2) → (ps.map (·.2)).Perm bs → Q (.ref q) H'
  | .bad path => ∀ (q p : Addr) (H' : Hp), Same H H' → H' q = some (.tup [.str "unlike", .ref p]) → SqT K H' p (path.map fun (i : Nat) => V.int (i : Int)) → Q (.ref q) H'
def sp_match_told (K : PySem.W.Frag) (L : List Str) : Sp := fun vs H Q _ => ∃ lv v nv d e x m, vs = [lv, v, nv] ∧ Dp K H lv (.tuple (L.map .str)) ∧ Dp K H v d ∧ Dp K H nv e ∧ FormOk d ∧ formB d = true ∧ FormOk e ∧ formB e = true ∧ shapeS L d = some x ∧ goodS x = true ∧ matchR x e = some m ∧ MT K H Q m
theorem sc35 : FnScope ["literals", "pattern", "form", "bound", "path"] ["literals", "pattern", "form"] (defScope (top 35)) := ⟨rfl, rfl, rfl, by decide +kernel, rfl, by decide +kernel, by decide +kernel⟩
theorem ok_match_told (F : FnP K "match_told" 35 f fd) (hm : mg "match_told" = some (.ref f)) (O : PlainOk P w K mg base C) (ms : mg "sorted" = none) (mt : mg "tuple" = none) (DC : Def P w K mg base 47 "check_pattern" (sp_check_pattern K CB L)) (DF : Def P w K mg base 4 "check_form" (sp_check_form K))
    (DS : Def P w K mg base 44 "shape" (sp_shape K C CB L 20)) (DM : Def P w K mg base 44 "matched" (sp_matched K C 20)) : Def P w K mg base 48 "match_told" (sp_match_told K L) := by
  refine Def.mk' F hm sc35 (fun vs H Q E h => ?_) (fun _ _ _ _ _ _ us hl => match us, hl with | [_, _, _], _ => rfl) (fun cdv A outer s H vs Q E hr tk h => ?_)
  · obtain ⟨lv, v, nv, d, e, x, m, rfl, _⟩ := h
    rfl
  · obtain ⟨lv, v, nv, d, e, x, m, rfl, hL, hd, hnv, hf, hfb, hg, hgb, ex, gx, hmm, q⟩ := h
    obtain ⟨cl, mz, gP, lp, it, wi, ke, il⟩ := O
    have nd := sc35.nd
    have gd : (formB d && goodD L d) = true := by rw [hfb]; simp [goodD, ex, gx]
    keq_hits
    refine ⟨_, _, _, rfl, hL, hd, hf, fun _ H1 s1 => ?_, fun g => by rw [gd] at g; cases g⟩
    obtain ⟨hz, hsz, hdp⟩ := hf
    obtain ⟨hz2, hsz2, hdp2⟩ := hg
    keq_hits
    refine ⟨_, _, rfl, WP.dp_mono s1 hnv, hz2, hsz2, by omega, hgb, fun H2 s2 => ?_⟩
    have s12 := s1.trans s2
    refine wb_cons (ws_asg (by k_memK) ?_)
    refine we_call' DM (Room.mono hr (by omega)) (pas_of tk) (by rfl) ?_
    refine wa_cons ?_
    refine we_make0 mz (by rfl) gP fun y dx hy hdx hne => ?_
    have sI : Same H2 (upd (upd H2 dx (.own y)) y (.ins C dx [])) := (Same.new hdx).trans (Same.new (by rw [upd_ne hne.symm]; exact hy))
    have hI : upd (upd H2 dx (.own y)) y (.ins C dx []) y = some (.ins C dx []) := upd_same
    generalize upd (upd H2 dx (.own y)) y (.ins C dx []) = H3 at sI hI ⊢
    have s3 := s12.trans sI
    refine wa_cons ?_
    refine we_call' DS (Room.mono hr (by omega)) (pas_of tk) (by rfl) ?_
    refine wa_cons ?_
    refine we_make0 mz (by rfl) gP fun y2 dx2 hy2 hdx2 hne2 => ?_
    have sI2 : Same H3 (upd (upd H3 dx2 (.own y2)) y2 (.ins C dx2 [])) := (Same.new hdx2).trans (Same.new (by rw [upd_ne hne2.symm]; exact hy2))
    have hI2 : upd (upd H3 dx2 (.own y2)) y2 (.ins C dx2 []) y2 = some (.ins C dx2 []) := upd_same
    generalize upd (upd H3 dx2 (.own y2)) y2 (.ins C dx2 []) = H4 at sI2 hI2 ⊢
    have s4 := s3.trans sI2
    keq_hits
    refine ⟨y2, dx2, v, lv, d, rfl, hI2, WP.dp_mono s4 hd, WP.dp_mono s4 hL, hfb, hz, hsz, hdp, fun x' ex' v' H5 s5 dp => ?_, fun g H' s' => by rw [ex] at g; cases g⟩
    rw [ex] at ex'
    cases ex'
    have s45 := s4.trans s5
    have hI5 := s5 _ _ (sI2 _ _ hI)
    keq_hits
    have gx' := gx
    simp only [goodS, Bool.and_eq_true, decide_eq_true_eq] at gx'
    have hnk : (keyP (namesS x 0)).Nodup := by
      have e1 : keyP (namesS x 0) = ((namesS x 0).map (·.1)).map (fun s => (.inr s : Key)) := by simp only [keyP, List.map_map]; rfl
      rw [e1]
      exact List.Pairwise.map _ (fun a b h e => h (by injection e)) gx'.1
    have szx := Nat.le_trans (shape_size L d x ex) hsz
    refine ⟨y, dx, v', nv, x, e, m, 0, rfl, hI5, dp, WP.dp_mono s45 hnv, hmm, hnk, szx, gx'.2, hdp2, hsz2, ?_⟩
    cases m with
    | bad path =>
      intro q2 p2 H6 s6 hq2 hpt
      refine i_two (SqT.of hq2) ?_
      keq_hits
      refine i_ift rfl ?_
      keq_hits
      refine ⟨by show 2 ≤ sizeLine; decide, fun q3 hq3 => ?_⟩
      exact q q3 p2 _ (s45.trans (s6.trans (Same.new hq3))) upd_same ((Same.new hq3).tup hpt)
    | ok bs =>
      intro q2 p2 kvs bs' H6 s6 hp2n hp26 hq2 hkv hpm
      obtain ⟨Z, e1, e2, e3⟩ := kvB_split hkv
      have hkp := keys_perm hkv hpm hmm
      have hzl : Z.length ≤ 3000 := by
        have h1 := hkp.length_eq
        have h2 := names_len x 0
        rw [e1] at h1
        simp [keyP] at h1
        omega
      refine i_two (SqT.of hq2) ?_
      keq_hits
      refine i_iff rfl ?_
      keq_hits
      refine we_callTy call_tupZ (by rfl) mt boot_tuple ?_
      refine wa_cons ?_
      refine we_callB (cr_sortedK rfl) (by rfl) ms boot_sorted ?_
      refine wa_cons (we_items ?_)
      keq_hits
      refine i_items hp26 fun p3 hp3 => ?_
      have t7 := Same.new (o := L2.DX.itemsO p3 p2) hp3
      keq_hits
      refine ⟨p3, p2, Z.map fun z => (z.1, z.2.1), rfl, upd_same, by rw [← e1]; exact t7 _ _ hp26, ?_, by rw [List.length_map]; show _ < 16777216; omega, fun H7 l7 ps s7 hl7 hpp hso h7 h8 => ?_⟩
      · have h9 := hkp.nodup_iff.mpr hnk
        rw [e1, List.map_map] at h9
        exact (List.pairwise_map.mp h9).map _ fun a b h e => h (by show (Sum.inr a.1 : Key) = .inr b.1; rw [e])
      · keq_hits
        refine i_tupZ h7 fun t8 o8 ht8 hpl8 => ?_
        keq_hits
        refine ⟨by show 2 ≤ sizeLine; decide, fun q9 hq9 => ?_⟩
        obtain ⟨Z', z1, z2⟩ := perm_lift (fun z : Str × V × PyData => (z.1, z.2.1)) hpp Z rfl
        have zl : Z'.length = ps.length := by have := congrArg List.length z2; simpa using this
        have s8 := Same.new (o := .frz o8 (.tup (ps.map fun z => V.ref z.1))) ht8
        have s9 := Same.new (o := .tup [.str "bound", .ref t8]) hq9
        have s89 := s8.trans s9
        have s69 := t7.trans (s7.trans s89)
        refine q q9 t8 o8 _ ((ps.map (·.1)).zip (Z'.map fun z => (z.1, z.2.2))) (s45.trans (s6.trans s69)) upd_same ?_ hpl8 ?_ ?_
        · rw [show (fun z : Addr × Str × PyData => V.ref z.1) = V.ref ∘ Prod.fst from rfl, ← List.map_map, List.map_fst_zip (by simp [zl]), List.map_map]
          exact s9 _ _ upd_same
        · intro z hz
          obtain ⟨j, hj⟩ := List.mem_iff_getElem?.mp hz
          obtain ⟨j1, j2⟩ := List.getElem?_zip_eq_some.mp hj
          rw [List.getElem?_map] at j1 j2
          cases hpj : ps[j]? with
          | none => rw [hpj] at j1; cases j1
          | some pj =>
            cases hzj : Z'[j]? with
            | none => rw [hzj] at j2; cases j2
            | some zj =>
              rw [hpj] at j1
              rw [hzj] at j2
              have j1 : pj.1 = z.1 := Option.some.inj j1
              have j2 : (zj.1, zj.2.2) = z.2 := Option.some.inj j2
              have h10 : (zj.1, zj.2.1) = pj.2 := by
                have := congrArg (fun l => l[j]?) z2
                simp only [List.getElem?_map, hpj, hzj] at this
                exact Option.some.inj this
              have h11 := h8 pj (List.mem_of_getElem? hpj)
              rw [← h10] at h11
              refine ⟨zj.2.1, ?_, ?_⟩
              · rw [← j1, ← j2]
                exact s89 _ _ h11
              · rw [← j2]
                exact WP.dp_mono s69 (e3 zj (z1.mem_iff.mp (List.mem_of_getElem? hzj)))
        · rw [List.map_snd_zip (by simp [zl])]
          have := z1.map (fun z : Str × V × PyData => (z.1, z.2.2))
          rw [e2] at this
          exact this.trans hpm
def sp_does_match (K : PySem.W.Frag) (L : List Str) : Sp := fun vs H Q _ => ∃ lv v nv d e x bs, vs = [lv, v, nv] ∧ Dp K H lv (.tuple (L.map .str)) ∧ Dp K H v d ∧ Dp K H nv e ∧ FormOk d ∧ formB d = true ∧ FormOk e ∧ formB e = true ∧ shapeS L d = some x ∧ goodS x = true ∧ matchR x e = some (.ok bs) ∧ ∀ H', Same H H' → Q (.bl true) H'
theorem sc36 : FnScope ["literals", "pattern", "form"] ["literals", "pattern", "form"] (defScope (top 36)) := ⟨rfl, rfl, rfl, by decide +kernel, rfl, by decide +kernel, by decide +kernel⟩
theorem ok_does_match (F : FnP K "does_match" 36 f fd) (hm : mg "does_match" = some (.ref f)) (DM : Def P w K mg base 48 "match_told" (sp_match_told K L)) : Def P w K mg base 49 "does_match" (sp_does_match K L) := by
  refine Def.mk' F hm sc36 (fun vs H Q E h => ?_) (fun _ _ _ _ _ _ us hl => match us, hl with | [_, _, _], _ => rfl) (fun cdv A outer s H vs Q E hr tk h => ?_)
  · obtain ⟨lv, v, nv, d, e, x, bs, rfl, _⟩ := h
    rfl
  · obtain ⟨lv, v, nv, d, e, x, bs, rfl, hL, hd, hnv, hf, hfb, hg, hgb, ex, gx, hmm, q⟩ := h
    have nd := sc36.nd
    refine wb_one (ws_ret ?_)
    refine we_cmp op_eq rfl ?_
    refine we_ix ix_tup plainIx_int ?_
    keq_hits
    refine ⟨lv, v, nv, d, e, x, .ok bs, rfl, hL, hd, hnv, hf, hfb, hg, hgb, ex, gx, hmm, fun q2 t o2 H' ps s1 h1 h2 h2' h3 h4 => ?_⟩
    keq_hits
    refine i_ixT (SqT.of h1) atI0 ?_
    keq_hits
    exact ⟨rfl, fin_bl (q _ s1) (by simp)⟩
end
end
section
/-! ### templates that are numbers -/
section
variable {P : Program} {w : World} {K : PySem.W.Frag} {mg : Str → Option Value} {base : Heap} {f f2 : Addr} {fd fd2 : FuncData} {C CB CM : Addr} {L : List Str}
/-- told is a dict; the node a number: nothing is looked at -/
def sp_check_shape (K : PySem.W.Frag) (C : Addr) : Sp := fun vs H Q _ => ∃ kk dx i tv deep, vs = [.ref kk, .int i, tv, .int deep] ∧ H kk = some (.ins C dx []) ∧ ∀ H', Same H H' → Q .non H'
theorem sc42 : FnScope ["kind", "node", "told", "deep", "waiting", "here", "level", "word", "parts", "key", "at", "part", "more"] ["kind", "node", "told", "deep"] (defScope (top 42)) := ⟨rfl, rfl, rfl, by decide +kernel, rfl, by decide +kernel, by decide +kernel⟩
theorem ok_check_shape (F : FnP K "check_shape" 42 f fd) (hm : mg "check_shape" = some (.ref f)) (O : PlainOk P w K mg base C) (ml : mg "len" = none) : Def P w K mg base 3 "check_shape" (sp_check_shape K C) := by
  refine Def.mk' F hm sc42 (fun vs H Q E h => ?_) (fun _ _ _ _ _ _ us hl => match us, hl with | [_, _, _, _], _ => rfl) (fun cdv A outer s H vs Q E hr tk h => ?_)
  · obtain ⟨kk, dx, i, tv, deep, rfl, _⟩ := h
    rfl
  · obtain ⟨kk, dx, i, tv, deep, rfl, hk, q⟩ := h
    obtain ⟨cl, mz, gP, lp, it, wi, ke, il⟩ := O
    have nd := sc42.nd
    keq_hits
    refine ⟨by show 2 ≤ sizeLine; decide, fun p hp => ?_⟩
    keq_hits
    refine ⟨by show 1 ≤ sizeLine; decide, fun l hl => ?_⟩
    keq_hits
    have s0 := (Same.new (o := .tup [.int i, .int deep]) hp).trans (Same.new (o := .lst [.ref p]) hl)
    have hpA : upd (upd H p (.tup [.int i, .int deep])) l (.lst [.ref p]) p = some (.tup [.int i, .int deep]) := Same.new (o := .lst [.ref p]) hl _ _ upd_same
    have hlA : upd (upd H p (.tup [.int i, .int deep])) l (.lst [.ref p]) l = some (.lst [.ref p]) := upd_same
    have hl0 : H l = none := new_of (Same.new (o := .tup [.int i, .int deep]) hp) hl
    generalize upd (upd H p (.tup [.int i, .int deep])) l (.lst [.ref p]) = HA at s0 hpA hlA ⊢
    refine ws_whileW passes_bx (fun m σ H' => Same H H' ∧ ∃ r, σ = [some (.ref kk), some (.int i), some tv, some (.int deep), some (.ref l)] ++ r ∧ r.length = 8 ∧ ((m = 1 ∧ H' p = some (.tup [.int i, .int deep]) ∧ H' l = some (.lst [.ref p])) ∨ (m = 0 ∧ H' l = some (.lst [])))) ?_ ?_
    · exact ⟨1, s0, _, rfl, rfl, .inl ⟨rfl, hpA, hlA⟩⟩
    · rintro m σ H1 ⟨s1, r, rfl, hr8, h⟩
      match r, hr8 with
      | [r0, r1, r2, r3, r4, r5, r6, r7], _ =>
      rcases h with ⟨rfl, hp1, hl1⟩ | ⟨rfl, hl1⟩
      · keq_hits
        refine i_lenLt hl1 ?_
        keq_hits
        refine i_ift rfl ?_
        keq_hits
        refine i_lstT hl1 (i_pop (xs := []) hl1 ?_)
        have hp2 : upd H1 l (.lst []) p = some (.tup [.int i, .int deep]) := by rw [upd_ne (ne_of hp1 hl1 (fun z => nomatch z))]; exact hp1
        have s2 : Same H (upd H1 l (.lst [])) := s1.mut hl0
        have hl2 : upd H1 l (.lst []) l = some (.lst []) := upd_same
        generalize upd H1 l (.lst []) = H2 at s2 hp2 hl2 ⊢
        refine i_two (SqT.of hp2) ?_
        refine wb_cons (ws_par 7 8 rfl nd rfl rfl (by decide) rfl rfl (by rfl) ?_)
        have hk2 := s2 _ _ hk
        keq_hits
        refine ⟨_, _, .int i, rfl, .int i, ?_⟩
        keq_hits
        refine ⟨_, _, .int i, rfl, .int i, ?_⟩
        keq_hits
        refine i_iff rfl ?_
        keq_hits
        refine i_iff rfl ?_
        keq_hits
        exact ⟨0, by decide, s2, _, rfl, rfl, .inr ⟨rfl, hl2⟩⟩
      · keq_hits
        refine i_lenLt hl1 ?_
        keq_hits
        refine i_iff rfl ?_
        refine wb_nil ?_
        exact q _ s1
def sp_is_fit (K : PySem.W.Frag) (L : List Str) : Sp := fun vs H Q _ => ∃ lv v d i, vs = [lv, v, .int i] ∧ Dp K H lv (.tuple (L.map .str)) ∧ Dp K H v d ∧ formB d = true ∧ FormOk d ∧ goodD L d = true ∧ ∀ H', Same H H' → Q (.bl true) H'
theorem sc47 : FnScope ["literals", "pattern", "form"] ["literals", "pattern", "form"] (defScope (top 47)) := ⟨rfl, rfl, rfl, by decide +kernel, rfl, by decide +kernel, by decide +kernel⟩
theorem ok_is_fit (F : FnP K "is_fit" 47 f fd) (hm : mg "is_fit" = some (.ref f)) (O : PlainOk P w K mg base C) (ErT : ErrC P w K mg base 1 "BadTemplate" CM) 
    (DS : Def P w K mg base 44 "shape" (sp_shape K C CB L 20)) (DD : Def P w K mg base 3 "depths" (sp_depths K CB)) (DC : Def P w K mg base 3 "check_shape" (sp_check_shape K C)) : Def P w K mg base 45 "is_fit" (sp_is_fit K L) := by
  refine Def.mk' F hm sc47 (fun vs H Q E h => ?_) (fun _ _ _ _ _ _ us hl => match us, hl with | [_, _, _], _ => rfl) (fun cdv A outer s H vs Q E hr tk h => ?_)
  · obtain ⟨lv, v, d, i, rfl, _⟩ := h
    rfl
  · obtain ⟨lv, v, d, i, rfl, hL, hd, hf, ⟨hz, hsz, hdp⟩, hg, q⟩ := h
    obtain ⟨cl, mz, gP, lp, it, wi, ke, il⟩ := O
    have nd := sc47.nd
    obtain ⟨x, ex, gx⟩ := good_shape hg
    refine wb_cons ?_
    refine ws_try rfl rfl ⟨rfl, by decide, .inl ErT.gC⟩ tk fun pn xe tk' => ?_
    refine wb_one (ws_expr ?_)
    refine we_call' DC (Room.mono hr (by omega)) (pas_of tk') (by rfl) ?_
    refine wa_cons ?_
    refine we_make0 mz (by rfl) gP fun y dx hy hdx hne => ?_
    have sI : Same H (upd (upd H dx (.own y)) y (.ins C dx [])) := (Same.new hdx).trans (Same.new (by rw [upd_ne hne.symm]; exact hy))
    have hI : upd (upd H dx (.own y)) y (.ins C dx []) y = some (.ins C dx []) := upd_same
    generalize upd (upd H dx (.own y)) y (.ins C dx []) = H1 at sI hI ⊢
    refine wa_cons ?_
    l_intsC
    refine wa_cons ?_
    refine we_call' DD (Room.mono hr (by omega)) (pas_of tk') (by rfl) ?_
    refine wa_cons ?_
    refine we_call' DS (Room.mono hr (by omega)) (pas_of tk') (by rfl) ?_
    refine wa_cons ?_
    refine we_make0 mz (by rfl) gP fun y2 dx2 hy2 hdx2 hne2 => ?_
    have sI2 : Same H1 (upd (upd H1 dx2 (.own y2)) y2 (.ins C dx2 [])) := (Same.new hdx2).trans (Same.new (by rw [upd_ne hne2.symm]; exact hy2))
    have hI2 : upd (upd H1 dx2 (.own y2)) y2 (.ins C dx2 []) y2 = some (.ins C dx2 []) := upd_same
    generalize upd (upd H1 dx2 (.own y2)) y2 (.ins C dx2 []) = H2 at sI2 hI2 ⊢
    have s2 := sI.trans sI2
    keq_hits
    refine ⟨y2, dx2, v, lv, d, rfl, hI2, WP.dp_mono s2 hd, WP.dp_mono s2 hL, hf, hz, hsz, hdp, fun x' ex' v' H3 s3 dp => ?_, fun e H' s' => by rw [ex] at e; cases e⟩
    rw [ex] at ex'
    cases ex'
    keq_hits
    refine ⟨v', x, rfl, dp, Nat.le_trans (shape_size L d x ex) hsz, fun _ l p H4 hp h4 s4 hk4 => ?_, fun g H' s' => by rw [gx] at g; cases g⟩
    have hI4 := s4 _ _ (s3 _ _ (sI2 _ _ hI))
    keq_hits
    refine ⟨y, dx, i, .ref p, 0, rfl, hI4, fun H5 s5 => ?_⟩
    keq_hits
    exact q _ (s2.trans (s3.trans (s4.trans s5)))
def sp_is_template (K : PySem.W.Frag) (L : List Str) : Sp := fun vs H Q _ => ∃ lv v d i, vs = [lv, v, .int i] ∧ Dp K H lv (.tuple (L.map .str)) ∧ Dp K H v d ∧ formB d = true ∧ FormOk d ∧ goodD L d = true ∧ formB (.int i) = true ∧ ∀ H', Same H H' → Q (.bl true) H'
theorem sc46 : FnScope ["literals", "pattern", "thing"] ["literals", "pattern", "thing"] (defScope (top 46)) := ⟨rfl, rfl, rfl, by decide +kernel, rfl, by decide +kernel, by decide +kernel⟩
theorem ok_is_template (F : FnP K "is_template" 46 f fd) (hm : mg "is_template" = some (.ref f)) (DC : Def P w K mg base 47 "check_pattern" (sp_check_pattern K CB L)) (DF : Def P w K mg base 3 "is_form" (sp_is_form K)) (DT : Def P w K mg base 45 "is_fit" (sp_is_fit K L)) : Def P w K mg base 48 "is_template" (sp_is_template K L) := by
  refine Def.mk' F hm sc46 (fun vs H Q E h => ?_) (fun _ _ _ _ _ _ us hl => match us, hl with | [_, _, _], _ => rfl) (fun cdv A outer s H vs Q E hr tk h => ?_)
  · obtain ⟨lv, v, d, i, rfl, _⟩ := h
    rfl
  · obtain ⟨lv, v, d, i, rfl, hL, hd, hf, hfo, hg, hi, q⟩ := h
    have nd := sc46.nd
    have gd : (formB d && goodD L d) = true := by rw [hf, hg]; rfl
    keq_hits
    refine ⟨_, _, _, rfl, hL, hd, hfo, fun _ H1 s1 => ?_, fun g => by rw [gd] at g; cases g⟩
    keq_hits
    refine ⟨_, .int i, rfl, .int i, rfl, by simp [dsize], by simp [ddep], fun H2 s2 => ?_⟩
    rw [hi]
    have s12 := s1.trans s2
    keq_hits
    refine i_ift rfl ?_
    keq_hits
    refine ⟨_, _, _, _, rfl, WP.dp_mono s12 hL, WP.dp_mono s12 hd, hf, hfo, hg, fun H3 s3 => ?_⟩
    keq_hits
    exact q _ (s12.trans s3)
end
end
section
section
variable {P : Program} {w : World} {K : PySem.W.Frag} {mg : Str → Option Value} {base : Heap} {f f2 : Addr} {fd fd2 : FuncData} {C CB CM : Addr} {L : List Str}
def ruleD (r : PyData × Int) : PyData := .tuple [.tuple [.str "_", r.1], .int r.2]
structure RuleOk (L : List Str) (r : PyData × Int) : Prop where
  fo : FormOk (.tuple [.str "_", r.1])
  fp : FormOk (.tuple [r.1])
  fb : formB r.1 = true
  gd : goodD L (.tuple [r.1]) = true
  fi : formB (.int r.2) = true
def rulesD (L : List Str) (rs : List (PyData × Int)) : PyData := .tuple [.tuple (L.map .str), .tuple (rs.map ruleD)]
theorem dp_two {H : Hp} {v : V} {d e : PyData} (h : Dp K H v (.tuple [d, e])) : ∃ a x y, v = .ref a ∧ SqT K H a [x, y] ∧ Dp K H x d ∧ Dp K H y e := by
  obtain ⟨a, xs, rfl, hs, hd⟩ := dp_tup h
  cases hd with
  | cons h1 r =>
    cases r with
    | cons h2 r2 =>
      cases r2
      exact ⟨a, _, _, rfl, hs, h1, h2⟩
def sp_are_rules (K : PySem.W.Frag) (L : List Str) : Sp := fun vs H Q _ => ∃ v rs, vs = [v] ∧ Dp K H v (rulesD L rs) ∧ 1 ≤ rs.length ∧ rs.length ≤ 20 ∧ (∀ r ∈ rs, RuleOk L r) ∧ ∀ H', Same H H' → Q (.bl true) H'
theorem sc48 : FnScope ["thing", "rule"] ["thing"] (defScope (top 48)) := ⟨rfl, rfl, rfl, by decide +kernel, rfl, by decide +kernel, by decide +kernel⟩
theorem ok_are_rules (F : FnP K "are_rules" 48 f fd) (hm : mg "are_rules" = some (.ref f)) (Er : ErrC P w K mg base 1 "BadPattern" CB) (mi : mg "isinstance" = none) (ml : mg "len" = none) (mtu : BTy mg "tuple" "tuple") (mst : BTy mg "str" "str") (mR : ∃ t, mg "REPEAT" = some (.str "..." t)) (mM : ∃ t, mg "MOST_RULES" = some (.int 20 t))
    (DT : Def P w K mg base 1 "is_tuple" (sp_is_tuple K)) (DZ : Def P w K mg base 1 "is_sized" (sp_is_sized K)) (DL : Def P w K mg base 3 "check_literals" (sp_check_literals K L)) (DP : Def P w K mg base 46 "is_pattern" (sp_is_pattern K L)) (DM : Def P w K mg base 48 "is_template" (sp_is_template K L)) (DF : Def P w K mg base 3 "is_form" (sp_is_form K)) :
    Def P w K mg base 49 "are_rules" (sp_are_rules K L) := by
  refine Def.mk' F hm sc48 (fun vs H Q E h => ?_) (fun _ _ _ _ _ _ us hl => match us, hl with | [_], _ => rfl) (fun cdv A outer s H vs Q E hr tk h => ?_)
  · obtain ⟨v, rs, rfl, _⟩ := h
    rfl
  · obtain ⟨v, rs, rfl, hd, hr1, hr20, hro, q⟩ := h
    have nd := sc48.nd
    have hd0 := hd
    obtain ⟨a, v0, v1, rfl, hT, d0, d1⟩ := dp_two hd
    keq_hits
    refine ⟨_, _, _, rfl, hd0, fun H1 s1 => ?_⟩
    keq_hits
    refine i_iff rfl ?_
    keq_hits
    refine we_ix ix_tup plainIx_int ?_
    keq_hits
    refine i_ixT (s1.tup hT) atI1 ?_
    keq_hits
    refine ⟨_, _, _, _, rfl, WP.dp_mono s1 d1, fun H2 s2 => ?_⟩
    have eS : isSized 1 20 (.tuple (rs.map ruleD)) = true := by
      simp only [isSized, List.length_map, Bool.and_eq_true, decide_eq_true_eq]
      omega
    keq_hits
    refine i_iff (by rw [eS]; rfl) ?_
    keq_hits
    have s12 := s1.trans s2
    refine ws_try rfl rfl ⟨rfl, by decide, .inl Er.gC⟩ tk fun pn xe tk' => ?_
    refine wb_one (ws_expr ?_)
    refine we_call' DL (Room.mono hr (by omega)) (pas_of tk') (by rfl) ?_
    refine wa_cons ?_
    refine we_ix ix_tup plainIx_int ?_
    l_intsC
    keq_hits
    refine i_ixT (s12.tup hT) atI0 ?_
    keq_hits
    refine ⟨_, rfl, WP.dp_mono s12 d0, fun H3 s3 => ?_⟩
    have s13 := s12.trans s3
    obtain ⟨b, xs, rfl, hb, hbs⟩ := dp_tup d1
    have hlb := dpAll_len hbs
    rw [List.length_map] at hlb
    refine wb_cons ?_
    refine ws_forI (g := gName 1) (walk_tup (K := K) (a := b) (xs := xs)) passes_bx rfl (pi_tup pe) (by k_memK) ?_ iTup_mono
    show WP.WE _ _ _ _ _
    refine we_ix ix_tup plainIx_int ?_
    keq_hits
    refine i_ixT (s13.tup hT) atI1 ?_
    refine ⟨b, rfl, ⟨_, s13.tup hb⟩, rfl, fun i σ H' => Same H H' ∧ ∃ o, σ = [some (.ref a), o], ⟨s13, _, rfl⟩, fun i σ H' _ h => h.1.tup hb, ?_, ?_⟩
    · rintro i x σ H4 H5 hi ⟨s4, o, rfl⟩ ⟨rfl, hx⟩
      obtain ⟨dr, hdr, hdx⟩ := dpAll_atv hbs hx
      rw [List.getElem?_map] at hdr
      cases e : rs[i]? with
      | none => rw [e] at hdr; cases hdr
      | some r =>
        rw [e] at hdr
        cases hdr
        obtain ⟨fo, fp, fb, gd, fi⟩ := hro r (List.mem_of_getElem? e)
        obtain ⟨ra, r0, r1, rfl, hR, dr0, dr1⟩ := dp_two hdx
        have dr00 := dr0
        obtain ⟨pa0, p0, p1, rfl, hP, dp0, dp1⟩ := dp_two dr0
        cases dp_str dp0
        cases dp_int dr1
        show WP.WB _ _ _ _ _
        keq_hits
        refine ⟨_, _, _, rfl, WP.dp_mono s4 hdx, fun H6 s6 => ?_⟩
        have s46 := s4.trans s6
        keq_hits
        refine i_iff rfl ?_
        keq_hits
        refine we_ix ix_tup plainIx_int ?_
        keq_hits
        refine i_ixT (s46.tup hR) atI0 ?_
        keq_hits
        refine i_iff rfl ?_
        keq_hits
        refine wt_cmp op_eq rfl ?_
        keq_hits
        refine we_ix ix_tup plainIx_int ?_
        keq_hits
        refine i_ixT (s46.tup hR) atI0 ?_
        keq_hits
        refine ⟨rfl, i_bl ?_⟩
        refine i_iff rfl ?_
        keq_hits
        -- not is_pattern(thing[0], rule[0][1:]) or not is_template(thing[0], rule[0][1:], rule[1])
        have sl1 : ∀ {H7 : Hp} {Q' : VK}, Same H H7 → (∀ d' H8, Same H7 H8 → Dp K H8 (.ref d') (.tuple [r.1]) → Q' (.ref d') H8) → rSlA K (.ref pa0) (some 1) none H7 Q' := fun {H7 Q'} s7 qq =>
          i_sl (s7.tup hP) fun d' H8 s8 h8 => qq d' H8 s8 (by
            have e1 : cutV [V.str "_", p1] (some 1) none = [p1] := by
              have := cutV_drop [V.str "_", p1] 1
              simpa using this
            rw [e1] at h8
            exact Dp.tup h8 (.cons (WP.dp_mono (s7.trans s8) dp1) .nil))
        refine we_ix ix_tup plainIx_int ?_
        keq_hits
        refine i_ixT (s46.tup hT) atI0 ?_
        keq_hits
        refine we_slL sl_tupA ?_
        refine we_ix ix_tup plainIx_int ?_
        keq_hits
        refine i_ixT (s46.tup hR) atI0 ?_
        keq_hits
        refine ⟨_, rfl, sl1 s46 fun d7 H7 s7 h7 => ?_⟩
        have s47 := s46.trans s7
        keq_hits
        refine ⟨_, _, _, rfl, WP.dp_mono s47 d0, h7, fp, fun H8 s8 => ?_⟩
        have s48 := s47.trans s8
        have ef : (formB (.tuple [r.1]) && goodD L (.tuple [r.1])) = true := by rw [gd]; simp [formB, formBs, fb]
        rw [ef]
        keq_hits
        refine i_iff rfl ?_
        keq_hits
        refine we_ix ix_tup plainIx_int ?_
        keq_hits
        refine i_ixT (s48.tup hT) atI0 ?_
        keq_hits
        refine we_slL sl_tupA ?_
        refine we_ix ix_tup plainIx_int ?_
        keq_hits
        refine i_ixT (s48.tup hR) atI0 ?_
        keq_hits
        refine ⟨_, rfl, sl1 s48 fun d9 H9 s9 h9 => ?_⟩
        have s49 := s48.trans s9
        keq_hits
        refine we_ix ix_tup plainIx_int ?_
        keq_hits
        refine i_ixT (s49.tup hR) atI1 ?_
        keq_hits
        refine ⟨_, _, _, _, rfl, WP.dp_mono s49 d0, h9, by simp [formB, formBs, fb], fp, gd, fi, fun H10 s10 => ?_⟩
        have s410 := s49.trans s10
        keq_hits
        refine i_iff rfl ?_
        keq_hits
        refine we_ix ix_tup plainIx_int ?_
        refine we_ix ix_tup plainIx_int ?_
        keq_hits
        refine i_ixT (s410.tup hR) atI0 ?_
        keq_hits
        refine i_ixT (s410.tup hP) atI0 ?_
        keq_hits
        refine i_iff rfl ?_
        keq_hits
        refine wt_cmp op_eq rfl ?_
        refine we_ix ix_tup plainIx_int ?_
        refine we_ix ix_tup plainIx_int ?_
        keq_hits
        refine i_ixT (s410.tup hR) atI0 ?_
        keq_hits
        refine i_ixT (s410.tup hP) atI0 ?_
        keq_hits
        refine ⟨rfl, i_bl (i_iff (by simp; decide +kernel) ?_)⟩
        keq_hits
        refine we_ix ix_tup plainIx_int ?_
        keq_hits
        refine i_ixT (s410.tup hR) atI0 ?_
        keq_hits
        refine ⟨_, _, rfl, WP.dp_mono s410 dr00, fo.sm, fo.sz, by have := fo.dp; omega, fun H11 s11 => ?_⟩
        have eg : formB (.tuple [.str "_", r.1]) = true := by
          have : wordS "_" = true := by decide +kernel
          simp [formB, formBs, fb, this]
        rw [eg]
        keq_hits
        refine i_iff rfl ?_
        keq_hits
        exact ⟨s410.trans s11, _, rfl⟩
    · rintro σ H4 ⟨s4, o, rfl⟩
      keq_hits
      exact q _ s4
def sp_check_rules (K : PySem.W.Frag) (L : List Str) : Sp := fun vs H Q _ => ∃ v rs, vs = [v] ∧ Dp K H v (rulesD L rs) ∧ 1 ≤ rs.length ∧ rs.length ≤ 20 ∧ (∀ r ∈ rs, RuleOk L r) ∧ ∀ H', Same H H' → Q .non H'
theorem sc49 : FnScope ["thing"] ["thing"] (defScope (top 49)) := ⟨rfl, rfl, rfl, by decide +kernel, rfl, by decide +kernel, by decide +kernel⟩
theorem ok_check_rules (F : FnP K "check_rules" 49 f fd) (hm : mg "check_rules" = some (.ref f)) (D : Def P w K mg base 49 "are_rules" (sp_are_rules K L)) : Def P w K mg base 50 "check_rules" (sp_check_rules K L) := by
  refine Def.mk' F hm sc49 (fun vs H Q E h => ?_) (fun _ _ _ _ _ _ us hl => match us, hl with | [_], _ => rfl) (fun cdv A outer s H vs Q E hr tk h => ?_)
  · obtain ⟨v, rs, rfl, _⟩ := h
    rfl
  · obtain ⟨v, rs, rfl, hd, h1, h2, h3, q⟩ := h
    have nd := sc49.nd
    keq_hits
    refine ⟨_, _, rfl, hd, h1, h2, h3, fun H1 s1 => ?_⟩
    keq_hits
    refine i_iff rfl ?_
    keq_hits
    exact q _ s1
/-- what the class PlainMaker is -/
structure MakerOk (P : Program) (w : World) (K : PySem.W.Frag) (mg : Str → Option Value) (base : Heap) (C : Addr) : Prop where
  cl : Cls K C
  mz : Mk0 K C
  g : mg "PlainMaker" = some (.ref C)
  lf : MDef P w K mg base 1 C "leaf" sp_key
theorem scM0 : FnScope ["self", "node"] ["self", "node"] (defScope (mth 41 0)) := ⟨rfl, rfl, rfl, by decide +kernel, rfl, by decide +kernel, by decide +kernel⟩
theorem ok_leaf (F : FnM K "PlainMaker.leaf" "leaf" 41 0 f fd) (hm : Meth K C "leaf" f) : MDef P w K mg base 1 C "leaf" sp_key := by
  refine MDef.mk' F hm scM0 (fun vs H Q E h => ?_) (fun _ _ _ _ _ _ us hl => match us, hl with | [_, _], _ => rfl) (fun cdv A outer s H vs Q E hr tk h => ?_)
  · obtain ⟨a, v, rfl, _⟩ := h
    rfl
  · obtain ⟨a, v, rfl, q⟩ := h
    have nd := scM0.nd
    keq_hits
    exact q
def sp_filled (C CM : Addr) : Sp := fun vs H Q _ => ∃ kk dx mm dm i bv tv lev, vs = [.ref kk, .ref mm, .int i, bv, tv, .int lev] ∧ H kk = some (.ins C dx []) ∧ H mm = some (.ins CM dm []) ∧ Q (.int i) H
theorem sc44 : FnScope ["kind", "maker", "node", "bound", "told", "level", "parts", "found", "at", "part"] ["kind", "maker", "node", "bound", "told", "level"] (defScope (top 44)) := ⟨rfl, rfl, rfl, by decide +kernel, rfl, by decide +kernel, by decide +kernel⟩
theorem ok_filled (F : FnP K "filled" 44 f fd) (hm : mg "filled" = some (.ref f)) (O : PlainOk P w K mg base C) (M : MakerOk P w K mg base CM) : Def P w K mg base 2 "filled" (sp_filled C CM) := by
  refine Def.mk' F hm sc44 (fun vs H Q E h => ?_) (fun _ _ _ _ _ _ us hl => match us, hl with | [_, _, _, _, _, _], _ => rfl) (fun cdv A outer s H vs Q E hr tk h => ?_)
  · obtain ⟨kk, dx, mm, dm, i, bv, tv, lev, rfl, _⟩ := h
    rfl
  · obtain ⟨kk, dx, mm, dm, i, bv, tv, lev, rfl, hk, hmk, q⟩ := h
    obtain ⟨cl, mz, gP, lp, it, wi, ke, il⟩ := O
    obtain ⟨cl2, mz2, gM, lf⟩ := M
    have nd := sc44.nd
    keq_hits
    refine ⟨_, _, .int i, rfl, .int i, ?_⟩
    keq_hits
    refine ⟨_, _, .int i, rfl, .int i, ?_⟩
    keq_hits
    refine i_iff rfl ?_
    keq_hits
    refine i_iff rfl ?_
    keq_hits
    refine i_ift rfl ?_
    keq_hits
    exact ⟨_, _, rfl, q⟩
end
end
section
section
variable {P : Program} {w : World} {K : PySem.W.Frag} {mg : Str → Option Value} {base : Heap} {f f2 : Addr} {fd fd2 : FuncData} {C CB CM : Addr} {L : List Str}
/-- the first rule is the one that is used -/
def sp_use_told (K : PySem.W.Frag) (L : List Str) : Sp := fun vs H Q _ => ∃ v nv r rs e x bs, vs = [v, nv] ∧ Dp K H v (rulesD L (r :: rs)) ∧ rs.length ≤ 19 ∧ (∀ r' ∈ r :: rs, RuleOk L r') ∧ Dp K H nv (.tuple [.str "mm", e]) ∧ FormOk (.tuple [.str "mm", e]) ∧ FormOk (.tuple [e]) ∧ formB e = true ∧
  shapeS L (.tuple [r.1]) = some x ∧ matchR x (.tuple [e]) = some (.ok bs) ∧ ∀ q H', Same H H' → H' q = some (.tup [.str "made", .int 0, .int r.2]) → Q (.ref q) H'
theorem sc50 : FnScope ["rules", "form", "number", "pattern", "template", "told", "deep"] ["rules", "form"] (defScope (top 50)) := ⟨rfl, rfl, rfl, by decide +kernel, rfl, by decide +kernel, by decide +kernel⟩
theorem pairs_for {H : Hp} : ∀ ps : List (Addr × Str × PyData), (∀ z ∈ ps, ∃ v, H z.1 = some (.tup [.str z.2.1, v]) ∧ Dp K H v z.2.2) → ∃ kvs : List (Key × V), Paired (fun p kv => SqT K H p [kV kv.1, kv.2]) (ps.map (·.1)) kvs
  | [], _ => ⟨[], .nil⟩
  | z :: ps, h => by
    obtain ⟨v, h1, _⟩ := h z (by simp)
    obtain ⟨kvs, h2⟩ := pairs_for ps fun y hy => h y (List.mem_cons_of_mem _ hy)
    exact ⟨(.inr z.2.1, v) :: kvs, .cons (SqT.of h1) h2⟩
theorem ok_use_told (F : FnP K "use_told" 50 f fd) (hm : mg "use_told" = some (.ref f)) (O : PlainOk P w K mg base C) (M : MakerOk P w K mg base CM) (mi : mg "isinstance" = none) (ml : mg "len" = none) (me : mg "enumerate" = none) (mdi : mg "dict" = none) (mtu : BTy mg "tuple" "tuple")
    (DR : Def P w K mg base 50 "check_rules" (sp_check_rules K L)) (DF : Def P w K mg base 4 "check_form" (sp_check_form K)) (DM : Def P w K mg base 48 "match_told" (sp_match_told K L)) (DS : Def P w K mg base 44 "shape" (sp_shape K C CB L 20)) (DD : Def P w K mg base 3 "depths" (sp_depths K CB)) (DFi : Def P w K mg base 2 "filled" (sp_filled C CM)) :
    Def P w K mg base 51 "use_told" (sp_use_told K L) := by
  refine Def.mk' F hm sc50 (fun vs H Q E h => ?_) (fun _ _ _ _ _ _ us hl => match us, hl with | [_, _], _ => rfl) (fun cdv A outer s H vs Q E hr tk h => ?_)
  · obtain ⟨v, nv, r, rs, e, x, bs, rfl, _⟩ := h
    rfl
  · obtain ⟨v, nv, r, rs, e, x, bs, rfl, hd, hrl, hro, hn, hnf, hef, heb, ex, hmm, q⟩ := h
    obtain ⟨cl, mz, gP, lp, it, wi, ke, il⟩ := O
    obtain ⟨cl2, mz2, gM, lf⟩ := M
    have nd := sc50.nd
    have hn0 := hn
    obtain ⟨na, n0, n1, rfl, hN, dn0, dn1⟩ := dp_two hn
    obtain ⟨a, v0, v1, rfl, hT, d0, d1⟩ := dp_two (show Dp K H v (.tuple [.tuple (L.map .str), .tuple ((r :: rs).map ruleD)]) from hd)
    obtain ⟨b, xs, rfl, hb, hbs⟩ := dp_tup d1
    have hlb := dpAll_len hbs
    simp only [List.length_map, List.length_cons] at hlb
    keq_hits
    refine ⟨_, _, rfl, hd, by simp, by simp; omega, hro, fun H1 s1 => ?_⟩
    keq_hits
    have emm : formB (.tuple [.str "mm", e]) = true := by
      have : wordS "mm" = true := by decide +kernel
      simp [formB, formBs, heb, this]
    refine ⟨_, _, rfl, WP.dp_mono s1 hn0, hnf.sm, hnf.sz, by have := hnf.dp; omega, emm, fun H2 s2 => ?_⟩
    have s12 := s1.trans s2
    keq_hits
    refine i_iff rfl ?_
    keq_hits
    refine wt_cmp op_eq rfl ?_
    keq_hits
    refine ⟨rfl, i_bl (i_iff rfl ?_)⟩
    keq_hits
    refine ws_forI (walk_enumT (K := K) (a := b) (xs := xs)) passes_bx rfl (pi_enumT (by rfl) me pa) (by k_memK) ?_ iEnumT_mono
    show WP.WA _ _ _ _ _
    refine wa_cons ?_
    refine we_ix ix_tup plainIx_int ?_
    keq_hits
    refine i_ixT (s12.tup hT) atI1 ?_
    keq_hits
    refine ⟨b, xs, rfl, s12.tup hb, rfl, fun i σ H' => Same H H' ∧ i = 0 ∧ ∃ r', σ = [some (.ref a), some (.ref na)] ++ r' ∧ r'.length = 5, ⟨s12, rfl, _, rfl, rfl⟩, fun i σ H' _ h => h.1.tup hb, ?_, ?_⟩
    · rintro i x' σ H3 H4 hi ⟨s3, rfl, r', rfl, hr'⟩ ⟨T, y, rfl, hT3, rfl, hy⟩
      match r', hr' with
      | [r0, r1, r2, r3, r4], _ =>
      obtain ⟨dr, hdr, hdx⟩ := dpAll_atv hbs hy
      cases hdr
      obtain ⟨fo, fp, fb, gd, fi⟩ := hro r (by simp)
      obtain ⟨ra, q0, q1, rfl, hR, dr0, dr1⟩ := dp_two (show Dp K H y (.tuple [.tuple [.str "_", r.1], .int r.2]) from hdx)
      cases dp_int dr1
      obtain ⟨pa0, p0, p1, rfl, hP, dp0, dp1⟩ := dp_two dr0
      have t3 := Same.new (o := .tup [.int ((0 : Nat) : Int), .ref ra]) hT3
      have s4 := s3.trans t3
      have hR4 := s4.tup hR
      refine ⟨T, _, rfl, SqT.of upd_same, rfl, _, _, rfl, _, _, rfl, ra, _, rfl, hR4, rfl, _, _, rfl, _, _, rfl, rfl, rfl, ?_⟩
      generalize upd H3 T (.tup [.int ((0 : Nat) : Int), .ref ra]) = H4 at s4 hR4 ⊢
      have cut2 : ∀ {x0 x1 : V}, cutV [x0, x1] (some 1) none = [x1] := fun {x0 x1} => by simpa using cutV_drop [x0, x1] 1
      have gx : goodS x = true := by
        have := gd
        simpa [goodD, ex] using this
      have eb1 : formB (.tuple [r.1]) = true := by simp [formB, formBs, fb]
      have eb2 : formB (.tuple [e]) = true := by simp [formB, formBs, heb]
      keq_hits
      refine we_ix ix_tup plainIx_int ?_
      keq_hits
      refine i_ixT (s4.tup hT) atI0 ?_
      keq_hits
      refine we_slL sl_tupA ?_
      keq_hits
      refine ⟨_, rfl, i_sl (s4.tup hP) fun c5 H5 s5 h5 => ?_⟩
      rw [cut2] at h5
      have s45 := s4.trans s5
      have dc5 : Dp K H5 (.ref c5) (.tuple [r.1]) := Dp.tup h5 (.cons (WP.dp_mono s45 dp1) .nil)
      keq_hits
      refine we_slL sl_tupA ?_
      keq_hits
      refine ⟨_, rfl, i_sl (s45.tup hN) fun c6 H6 s6 h6 => ?_⟩
      rw [cut2] at h6
      have s46 := s45.trans s6
      have dc6 : Dp K H6 (.ref c6) (.tuple [e]) := Dp.tup h6 (.cons (WP.dp_mono s46 dn1) .nil)
      keq_hits
      refine ⟨_, _, _, _, _, x, .ok bs, rfl, WP.dp_mono s46 d0, WP.dp_mono s6 dc5, dc6, fp, eb1, hef, eb2, ex, gx, hmm, fun q2 t o H7 ps s7 h1 h2 hpl h3 h4 => ?_⟩
      have s47 := s46.trans s7
      keq_hits
      refine wt_cmp op_eq rfl ?_
      refine we_ix ix_tup plainIx_int ?_
      keq_hits
      refine i_ixT (SqT.of h1) atI0 ?_
      keq_hits
      refine ⟨rfl, i_bl (i_ift rfl ?_)⟩
      keq_hits
      refine we_make0 mz (by rfl) gP fun y2 dx2 hy2 hdx2 hne2 => ?_
      have sI2 : Same H7 (upd (upd H7 dx2 (.own y2)) y2 (.ins C dx2 [])) := (Same.new hdx2).trans (Same.new (by rw [upd_ne hne2.symm]; exact hy2))
      have hI2 : upd (upd H7 dx2 (.own y2)) y2 (.ins C dx2 []) y2 = some (.ins C dx2 []) := upd_same
      generalize upd (upd H7 dx2 (.own y2)) y2 (.ins C dx2 []) = H8 at sI2 hI2 ⊢
      have s48 := s47.trans sI2
      refine wa_cons ?_
      refine we_slL sl_tupA ?_
      keq_hits
      refine ⟨_, rfl, i_sl (s48.tup hP) fun c9 H9 s9 h9 => ?_⟩
      rw [cut2] at h9
      have s49 := s48.trans s9
      have dc9 : Dp K H9 (.ref c9) (.tuple [r.1]) := Dp.tup h9 (.cons (WP.dp_mono s49 dp1) .nil)
      refine wa_cons ?_
      refine we_ix ix_tup plainIx_int ?_
      keq_hits
      refine i_ixT (s49.tup hT) atI0 ?_
      keq_hits
      refine ⟨y2, dx2, .ref c9, _, .tuple [r.1], rfl, s9 _ _ hI2, dc9, WP.dp_mono s49 d0, eb1, fp.sm, fp.sz, fp.dp, fun x' ex' v' H10 s10 dp => ?_, fun g H' s' => by rw [ex] at g; cases g⟩
      rw [ex] at ex'
      cases ex'
      keq_hits
      refine ⟨v', x, rfl, dp, Nat.le_trans (shape_size L _ x ex) fp.sz, fun _ l p H11 hp h11 s11 hk11 => ?_, fun g H' s' => by rw [gx] at g; cases g⟩
      have s4b := s49.trans (s10.trans s11)
      have s7b := sI2.trans (s9.trans (s10.trans s11))
      keq_hits
      refine we_make0 mz (by rfl) gP fun y3 dx3 hy3 hdx3 hne3 => ?_
      have sI3 : Same H11 (upd (upd H11 dx3 (.own y3)) y3 (.ins C dx3 [])) := (Same.new hdx3).trans (Same.new (by rw [upd_ne hne3.symm]; exact hy3))
      have hI3 : upd (upd H11 dx3 (.own y3)) y3 (.ins C dx3 []) y3 = some (.ins C dx3 []) := upd_same
      generalize upd (upd H11 dx3 (.own y3)) y3 (.ins C dx3 []) = H12 at sI3 hI3 ⊢
      refine wa_cons ?_
      refine we_make0 mz2 (by rfl) gM fun y4 dx4 hy4 hdx4 hne4 => ?_
      have sI4 : Same H12 (upd (upd H12 dx4 (.own y4)) y4 (.ins CM dx4 [])) := (Same.new hdx4).trans (Same.new (by rw [upd_ne hne4.symm]; exact hy4))
      have hI4 : upd (upd H12 dx4 (.own y4)) y4 (.ins CM dx4 []) y4 = some (.ins CM dx4 []) := upd_same
      generalize upd (upd H12 dx4 (.own y4)) y4 (.ins CM dx4 []) = H13 at sI4 hI4 ⊢
      have s7d := s7b.trans (sI3.trans sI4)
      keq_hits
      refine we_callTy (call_dictT rfl) (by rfl) mdi boot_dict ?_
      refine wa_cons ?_
      refine we_ix ix_tup plainIx_int ?_
      keq_hits
      refine i_ixT (s7d.tup (SqT.of h1)) atI1 ?_
      keq_hits
      obtain ⟨kvs, hkv⟩ := pairs_for (K := K) (H := H13) ps fun z hz => let ⟨v, h5, h6⟩ := h3 z hz; ⟨v, s7d _ _ h5, WP.dp_mono s7d h6⟩
      refine ⟨t, o, ps.map (fun z : Addr × Str × PyData => z.1), kvs, rfl, by rw [List.map_map]; exact s7d _ _ h2, hpl, hkv, fun p14 hp14 => ?_⟩
      have s14 := Same.new (o := .dK (mergeK [] kvs)) hp14
      have hI3' := s14 _ _ (sI4 _ _ hI3)
      have hI4' := s14 _ _ hI4
      keq_hits
      refine ⟨y3, dx3, y4, dx4, r.2, _, _, 0, rfl, hI3', hI4', ?_⟩
      keq_hits
      refine ⟨by show 3 ≤ sizeLine; decide, fun q5 hq5 => ?_⟩
      exact q q5 _ (s47.trans (s7d.trans (s14.trans (Same.new hq5)))) upd_same
    · rintro σ H4 ⟨s4, h0, _⟩
      rw [hlb] at h0
      exact absurd h0 (Nat.succ_ne_zero _)
end
end
end K3
/- l_ints: more rules by form (law texts); kst_all: readings of what stands there; kt_ors: all together -/
local macro_rules | `(tactic| l_ints) => `(tactic| first
  | (show WP.WE _ (Expr.Subscript _ (Expr.Constant (Const.int _) _ _) _) _ _ _; refine WP.we_ix ix_seq WP.plainIx_int ?_)
  | (show WP.WE _ (Expr.Subscript _ (Expr.Name _ _) _) _ _ _; refine WP.we_ix ix_seq WP.plainIx_name ?_)
  | (show WP.WE _ (Expr.Subscript _ (Expr.Subscript _ _ _) _) _ _ _; refine WP.we_ix ix_seq (fun _ _ => by with_unfolding_all rfl) ?_)
  | (show WP.WE _ (Expr.Subscript _ (Expr.Call _ _ _ _) _) _ _ _; refine WP.we_ix ix_seq (fun _ _ => by with_unfolding_all rfl) ?_)
  | (show WP.WE _ (Expr.BinOp _ .Mult _ _) _ _ _; refine WP.we_op op_mul ?_)
  | (show WP.WE _ (Expr.BinOp _ .Mod _ _) _ _ _; refine WP.we_op op_mod ?_)
  | (show WP.WE _ (Expr.BinOp _ .FloorDiv _ _) _ _ _; refine WP.we_op op_fdiv ?_)
  | (show WP.WE _ (Expr.BinOp _ .Pow _ _) _ _ _; refine WP.we_op op_pow ?_)
  | (show WP.WE _ (Expr.BinOp _ .Add _ _) _ _ _; refine WP.we_op op_add ?_)
  | (show WP.WE _ (Expr.Call (Expr.Name _ _) [_] [] _) _ _ _; refine WP.we_callTy call_int1 (by rfl) (WP.BTy.m (by assumption)) (WP.BTy.b (by assumption)) ?_)
  | (show WP.WS _ (Stmt.Assign [Expr.Subscript _ _ _] _ _) _ _ _; refine WP.ws_put ?_)
  | (show WP.WT _ (Expr.Compare _ [CmpOp.Eq] _ _) _ _ _; refine WP.wt_cmp op_eq (by rfl) ?_))
local macro_rules | `(tactic| kst_all) => `(tactic| first
  | (show rIx _ _ _ _ _; refine .inl ⟨_, _, _, _, rfl, rfl, SqL.of (by first | assumption | exact upd_same), by rfl, ?_⟩)
  | (show rSetL _ _ _ _ _; refine ⟨_, _, _, _, rfl, rfl, by first | assumption | exact upd_same, by rfl, ?_⟩)
  | (show rI _ _ _ _ _ _; refine WP.i_I (by first | decide | exact .inr (by decide) | exact .inl (by decide) | exact ⟨by decide, by decide⟩ | exact ⟨by decide, by decide, by decide⟩ | assumption | exact Or.inl ⟨by omega, by omega⟩ | exact ⟨by omega, by omega⟩ | omega) ?_)
  | (show WP.rLn _ _ _ _; refine WP.i_lenL (SqL.of (by assumption)) ?_)
  | (show (∃ i, _ = [V.int i] ∧ _) ∨ _; first | refine .inl ⟨_, rfl, ?_⟩ | refine .inr ⟨_, rfl, ?_⟩)
  | (show rEq _ _ _ _; first | refine ⟨by rfl, WP.i_bl ?_⟩ | refine ⟨by rfl, ?_⟩))
local macro_rules | `(tactic| kt_ors) => `(tactic| repeat' first | keq_rows | l_ints | kst_all)
namespace K3
section
/-! ### the law's hand: cells, and four numbers -/
/-- what stands in the hand's list at h -/
structure HandL (H : Hp) (h c : Addr) (vs : List V) : Prop where
  ex : ∃ (ns : List Int) (i1 i2 i3 i4 : Int), vs = [.ref c, .int i1, .int i2, .int i3, .int i4] ∧ H c = some (.lst (ns.map V.int)) ∧ c ≠ h ∧ 0 ≤ i1
def HandP (H : Hp) (h c : Addr) : Prop := ∃ vs, H h = some (.lst vs) ∧ HandL H h c vs
theorem HandL.put {H : Hp} {h c p : Addr} {o : HO} {vs : List V} (hl : HandL H h c vs) (hp : p ≠ c) : HandL (upd H p o) h c vs := by
  obtain ⟨ns, i1, i2, i3, i4, e, hc, n, p1⟩ := hl
  exact ⟨ns, i1, i2, i3, i4, e, by rw [upd_ne (Ne.symm hp)]; exact hc, n, p1⟩
theorem HandL.ne {H : Hp} {h c : Addr} {vs : List V} (hl : HandL H h c vs) : h ≠ c := by
  obtain ⟨ns, i1, i2, i3, i4, e, hc, n, p1⟩ := hl
  exact n.symm
theorem HandP.put {H : Hp} {h c : Addr} {vs : List V} (hl : HandL H h c vs) : HandP (upd H h (.lst vs)) h c := ⟨vs, upd_same, hl.put hl.ne⟩
theorem HandP.same {H H' : Hp} {h c : Addr} (hp : HandP H h c) (s : Same H H') : HandP H' h c := by
  obtain ⟨vs, e, ns, i1, i2, i3, i4, ev, hc, n, p1⟩ := hp
  exact ⟨vs, s _ _ e, ns, i1, i2, i3, i4, ev, s _ _ hc, n, p1⟩
theorem HandP.off {H : Hp} {h c p : Addr} {o : HO} (hp : HandP H h c) (n1 : p ≠ h) (n2 : p ≠ c) : HandP (upd H p o) h c := by
  obtain ⟨vs, e, hl⟩ := hp
  exact ⟨vs, by rw [upd_ne (Ne.symm n1)]; exact e, hl.put n2⟩
theorem HandP.fresh {H : Hp} {h c p : Addr} {o : HO} (hp : HandP H h c) (hn : H p = none) : HandP (upd H p o) h c := by
  obtain ⟨vs, e, hl⟩ := id hp
  obtain ⟨_, _, _, _, _, _, hc, _⟩ := hl
  exact hp.off (ne_of_none e hn).symm (ne_of_none hc hn).symm
theorem upd_id {H : Hp} {a : Addr} {o : HO} (h : H a = some o) : upd H a o = H := by
  funext b
  by_cases e : b = a
  · rw [e, upd_same, h]
  · rw [upd_ne e]
section
variable {P : Program} {w : World} {K : PySem.W.Frag} {mg : Str → Option Value} {base : Heap} {f : Addr} {fd : FuncData}
def sp_draw : Sp := fun vs H Q _ => ∃ h c many, vs = [.ref h, .int many] ∧ HandP H h c ∧ 0 < many ∧ many < 1000000 ∧ ∀ n ws, 0 ≤ n → n < many → HandL H h c ws → Q (.int n) (upd H h (.lst ws))
theorem sc53 : FnScope ["hand", "many", "cell", "digit", "number"] ["hand", "many"] (defScope (top 53)) := ⟨rfl, rfl, rfl, by decide +kernel, rfl, by decide +kernel, by decide +kernel⟩
theorem atI0' {α : Type} {a b c d e : α} : atI [a, b, c, d, e] 0 = some a := rfl
theorem ok_draw (F : FnP K "_law_draw" 53 f fd) (hm : mg "_law_draw" = some (.ref f)) (ml : mg "len" = none) (mint : BTy mg "int" "int") : Def P w K mg base 1 "_law_draw" sp_draw := by
  refine Def.mk' F hm sc53 (fun vs H Q E h => ?_) (fun _ _ _ _ _ _ us hl => match us, hl with | [_, _], _ => rfl) (fun cdv A outer s H vs Q E hr tk h => ?_)
  · obtain ⟨hh, c, many, rfl, _⟩ := h
    rfl
  · obtain ⟨hh, c, many, rfl, hp, m0, m1, q⟩ := h
    have nd := sc53.nd
    obtain ⟨vs, hv, ns, i1, i2, i3, i4, rfl, hc, nc, p1⟩ := hp
    refine wb_cut (fun σ' H' => ∃ r ws, σ' = [some (.ref hh), some (.int many)] ++ r ∧ r.length = 3 ∧ H' = upd H hh (.lst ws) ∧ HandL H hh c ws) ?_ ?_
    · refine ws_if ?_
      kt_ors
      have stay : upd H hh (.lst [.ref c, .int i1, .int i2, .int i3, .int i4]) = H := upd_id hv
      have L0 : HandL H hh c [.ref c, .int i1, .int i2, .int i3, .int i4] := ⟨ns, i1, i2, i3, i4, rfl, hc, nc, p1⟩
      refine i_ite (fun e1 => ?_) (fun _ => wb_nil ⟨[none, none, none], _, rfl, rfl, stay.symm, L0⟩)
      kt_ors
      refine i_ite (fun e2 => ?_) (fun _ => wb_nil ⟨[none, none, none], _, rfl, rfl, stay.symm, L0⟩)
      have e3 : i1 < ((ns.map V.int).length : Int) := of_decide_eq_true e2
      rw [List.length_map] at e3
      obtain ⟨j, rfl⟩ : ∃ j : Nat, i1 = j := ⟨i1.toNat, by omega⟩
      have hj : j < ns.length := by omega
      have at_ : atI (ns.map V.int) (j : Int) = some (.int ns[j]) := by
        rw [atI_nat (by simpa using hj)]
        simp [hj]
      kt_ors
      refine .inl ⟨_, _, _, _, rfl, rfl, SqL.of hc, at_, ?_⟩
      kt_ors
      refine i_ite (fun e4 => ?_) (fun _ => ?_)
      · kt_ors
        exact ⟨_, _, rfl, rfl, by rw [upd_upd, upd_upd] <;> rfl, ⟨ns, (j : Int) + 1, _, _, _, rfl, hc, nc, by omega⟩⟩
      · kt_ors
        exact ⟨_, _, rfl, rfl, by rw [upd_upd] <;> rfl, ⟨ns, (j : Int) + 1, _, _, _, rfl, hc, nc, by omega⟩⟩
    · rintro σ' H' ⟨r, ws, rfl, hr3, rfl, L⟩
      match r, hr3 with
      | [r2, r3, r4], _ =>
      obtain ⟨ns, i1, i2, i3, i4, rfl, hc, nc, p1⟩ := L
      kt_ors
      refine i_ite (fun e1 => ?_) (fun _ => ?_)
      · kt_ors
        have fin := q (i2 % many) [.ref c, .int i1, .int (i2 / many), .int i3, .int i4] (Int.emod_nonneg _ (by omega)) (Int.emod_lt_of_pos _ m0) ⟨ns, i1, _, _, _, rfl, hc, nc, p1⟩
        rw [upd_upd]
        exact fin
      · kt_ors
        rw [upd_upd]
        exact q _ [.ref c, .int i1, .int i2, .int i3, .int (i4 + 1)] (Int.emod_nonneg _ (by omega)) (Int.emod_lt_of_pos _ m0) ⟨ns, i1, _, _, _, rfl, hc, nc, p1⟩
/-- one of some things, drawn -/
def sp_any (K : PySem.W.Frag) : Sp := fun vs H Q _ => ∃ (h c l : Addr) (xs : List V), vs = [.ref h, .ref l] ∧ HandP H h c ∧ l ≠ h ∧ H l = some (.lst xs) ∧ 0 < xs.length ∧ xs.length < 1000000 ∧ ∀ (n : Nat) (ws : List V) (v : V), xs[n]? = some v → HandL H h c ws → Q v (upd H h (.lst ws))
theorem sc54 : FnScope ["hand", "some"] ["hand", "some"] (defScope (top 54)) := ⟨rfl, rfl, rfl, by decide +kernel, rfl, by decide +kernel, by decide +kernel⟩
theorem ok_any (F : FnP K "_law_any" 54 f fd) (hm : mg "_law_any" = some (.ref f)) (ml : mg "len" = none) (DD : Def P w K mg base 1 "_law_draw" sp_draw) : Def P w K mg base 2 "_law_any" (sp_any K) := by
  refine Def.mk' F hm sc54 (fun vs H Q E h => ?_) (fun _ _ _ _ _ _ us hl => match us, hl with | [_, _], _ => rfl) (fun cdv A outer s H vs Q E hr tk h => ?_)
  · obtain ⟨hh, c, l, xs, rfl, _⟩ := h
    rfl
  · obtain ⟨hh, c, l, xs, rfl, hp, nl, hs, h0, h1, q⟩ := h
    have nd := sc54.nd
    kt_ors
    refine ⟨hh, c, _, rfl, hp, by omega, by omega, fun n ws n0 n1 L => ?_⟩
    obtain ⟨j, rfl⟩ : ∃ j : Nat, n = j := ⟨n.toNat, by omega⟩
    have hj : j < xs.length := by omega
    refine .inl ⟨_, _, _, _, rfl, rfl, SqL.of (by rw [upd_ne nl]; exact hs), by rw [atI_nat hj, List.getElem?_eq_getElem hj], ?_⟩
    exact q j ws _ (List.getElem?_eq_getElem hj) L
def cutL (ns : List Int) : List Int := (ns.drop (HT.sIx ns.length 0 none)).take (HT.sIx ns.length ns.length (some 63) - HT.sIx ns.length 0 none)
theorem cutL_len (ns : List Int) : (cutL ns).length ≤ 63 := by
  have e : HT.sIx ns.length ns.length (some 63) = min 63 ns.length := HT.sIx_nat _ _ 63
  unfold cutL
  rw [e]
  simp only [HT.sIx_none, List.drop_zero, List.length_take]
  omega
theorem none_of_same {H H' : Hp} {a : Addr} (s : Same H H') (h : H' a = none) : H a = none := by
  cases e : H a with
  | none => rfl
  | some o =>
    rw [s _ _ e] at h
    cases h
/-- the hand of a script -/
def sp_hand (K : PySem.W.Frag) : Sp := fun vs H Q _ => ∃ (a : Addr) (ns : List Int), vs = [.ref a] ∧ SqL K H a (ns.map V.int) ∧ ∀ h c H', Same H H' → HandP H' h c → H h = none → Q (.ref h) H'
theorem sc52 : FnScope ["script", "cells", "cell"] ["script"] (defScope (top 52)) := ⟨rfl, rfl, rfl, by decide +kernel, rfl, by decide +kernel, by decide +kernel⟩
theorem ok_hand (F : FnP K "_law_hand" 52 f fd) (hm : mg "_law_hand" = some (.ref f)) (ml : mg "len" = none) (ma : mg "abs" = none) (mint : BTy mg "int" "int") : Def P w K mg base 1 "_law_hand" (sp_hand K) := by
  refine Def.mk' F hm sc52 (fun vs H Q E h => ?_) (fun _ _ _ _ _ _ us hl => match us, hl with | [_], _ => rfl) (fun cdv A outer s H vs Q E hr tk h => ?_)
  · obtain ⟨a, ns, rfl, _⟩ := h
    rfl
  · obtain ⟨a, ns, rfl, hs, q⟩ := h
    have nd := sc52.nd
    kt_ors
    refine ws_lc 1 [("cell", 2)] rfl nd rfl rfl rfl rfl rfl (pi_list pe) (blkOk_by (N := ["script", "cells", "cell"]) (sc := defScope (top 52)) (own := [("cell", 2)]) (by decide +kernel)) (fun _ _ _ _ _ => by k_memK) ?_
    refine we_slH sl_list ?_
    kt_ors
    refine ⟨_, rfl, a, _, rfl, hs, fun p hp => ?_⟩
    have ec : cutV (ns.map V.int) none (some 63) = (cutL ns).map V.int := by unfold cutL cutV; simp [List.map_drop, List.map_take]
    rw [ec]
    have hl : upd H p (.lst ((cutL ns).map V.int)) p = some (.lst ((cutL ns).map V.int)) := upd_same
    have s1 : Same H (upd H p (.lst ((cutL ns).map V.int))) := Same.new hp
    generalize upd H p (.lst ((cutL ns).map V.int)) = H1 at hl s1 ⊢
    refine ⟨p, rfl, ⟨_, SqL.of hl⟩, fun D hD => lc_R (fun _ _ v => ∃ z, v = V.int z) (stay_ex fun z => stay_val (f := fun _ => V.int z)) walk_list ?_ hD (fun H s => SqL.of (s _ _ hl)) ?_ teC_mono (fun x σ H Q Q' h q => h _ _ q) fun H4 acc s4 hl4 hz hR => ?_⟩
    · rw [List.length_map]
      have := cutL_len ns
      show _ < 16777216
      omega
    · rintro i x H5 H6 hi s5 ⟨rfl, ex⟩
      obtain ⟨z, rfl⟩ : ∃ z, x = .int z := by
        rw [List.getElem?_map] at ex
        cases e : (cutL ns)[i]? with
        | none => rw [e] at ex; cases ex
        | some z => rw [e] at ex; exact ⟨z, (Option.some.inj ex).symm⟩
      refine ⟨rfl, fun s0 H0 C0 cl0 fp => ?_⟩
      kt_ors
      refine we_callB call_abs (by rfl) (by assumption) boot_abs ?_
      kt_ors
      refine ⟨_, rfl, ?_⟩
      kt_ors
      exact ⟨Same.refl _, _, rfl⟩
    · obtain ⟨ms, rfl⟩ : ∃ ms : List Int, acc = ms.map V.int := by
        refine ⟨acc.map fun v => match v with | .int z => z | _ => 0, ?_⟩
        rw [List.map_map]
        refine List.ext_getElem? fun i => ?_
        rw [List.getElem?_map]
        cases e : acc[i]? with
        | none => rfl
        | some v =>
          obtain ⟨z, rfl⟩ := hR i v e
          rfl
      kt_ors
      refine ⟨by simp [sizeLine], fun h hh => ?_⟩
      refine q h D _ (s1.trans (s4.trans (Same.new hh))) ⟨_, upd_same, ms, 0, 0, _, 0, rfl, ?_, ?_, by omega⟩ ?_
      · rw [upd_ne (ne_of_none hl4 hh)]
        exact hl4
      · exact ne_of_none hl4 hh
      · exact none_of_same (s1.trans s4) hh
end
end
section
/-! ### patterns that the law draws -/
def letters : List Str := ["a", "b", "c", "d", "e"]
inductive Pat : Nat → PyData → Prop
  | nm (n : Nat) (s : Str) : s ∈ letters → Pat n (.str s)
  | any (n : Nat) : Pat n (.str "_")
  | lit (n : Nat) : Pat n (.str "lit")
  | num (n : Nat) (i : Int) : i = 5 ∨ i = 0 → Pat n (.int i)
  | tup (n : Nat) (xs : List PyData) : xs.length ≤ 3 → (∀ x ∈ xs, Pat n x) → Pat (n + 1) (.tuple xs)
  | rep (n : Nat) (xs : List PyData) (k : Nat) : xs.length ≤ 3 → 1 ≤ k → k ≤ xs.length → (∀ x ∈ xs, Pat n x) → Pat (n + 1) (.tuple (xs.take k ++ .str "..." :: xs.drop k))
mutual
def pnames : PyData → List Str
  | .str s => if s ∈ letters then [s] else []
  | .tuple ds => pnamess ds
  | _ => []
def pnamess : List PyData → List Str
  | [] => []
  | d :: ds => pnames d ++ pnamess ds
end
theorem pnamess_app : ∀ a b, pnamess (a ++ b) = pnamess a ++ pnamess b
  | [], b => rfl
  | d :: a, b => by simp [pnamess, pnamess_app a b]
theorem letters_ok : ∀ s ∈ letters, wordS s = true ∧ s ≠ "..." ∧ s ≠ "_" ∧ s ≠ "lit" ∧ s.length = 1 := by decide +kernel
mutual
theorem formBs_all : ∀ {ds : List PyData}, (∀ d ∈ ds, formB d = true) → formBs ds = true
  | [], _ => rfl
  | d :: ds, h => by simp [formBs, h d (by simp), formBs_all fun x hx => h x (List.mem_cons_of_mem _ hx)]
end
theorem word_dots : wordS "..." = true ∧ wordS "_" = true ∧ wordS "lit" = true := by decide +kernel
theorem Pat.form {n : Nat} {d : PyData} (h : Pat n d) : formB d = true := by
  induction h with
  | nm n s hs => exact (letters_ok s hs).1
  | any n => exact word_dots.2.1
  | lit n => exact word_dots.2.2
  | num n i hi => rcases hi with rfl | rfl <;> decide
  | tup n xs hl hx ih => exact formBs_all ih
  | rep n xs k hl h1 h2 hx ih =>
    show formBs _ = true
    rw [formBs_append]
    simp only [formBs, Bool.and_eq_true]
    exact ⟨formBs_all fun d hd => ih d (List.mem_of_mem_take hd), word_dots.1, formBs_all fun d hd => ih d (List.mem_of_mem_drop hd)⟩
theorem ddeps_all {m : Nat} : ∀ {ds : List PyData}, (∀ d ∈ ds, ddep d ≤ m) → ddeps ds ≤ m
  | [], _ => Nat.zero_le _
  | d :: ds, h => Nat.max_le.mpr ⟨h d (by simp), ddeps_all fun x hx => h x (List.mem_cons_of_mem _ hx)⟩
theorem Pat.dep {n : Nat} {d : PyData} (h : Pat n d) : ddep d ≤ n + 1 := by
  induction h with
  | nm n s hs => simp [ddep]
  | any n => simp [ddep]
  | lit n => simp [ddep]
  | num n i hi => simp [ddep]
  | tup n xs hl hx ih => simpa [ddep] using ddeps_all ih
  | rep n xs k hl h1 h2 hx ih =>
    have : ddeps (xs.take k ++ .str "..." :: xs.drop k) ≤ n + 1 := by
      refine ddeps_all fun d hd => ?_
      rcases List.mem_append.mp hd with hd | hd
      · exact ih d (List.mem_of_mem_take hd)
      · rcases List.mem_cons.mp hd with rfl | hd
        · simp [ddep]
        · exact ih d (List.mem_of_mem_drop hd)
    simpa [ddep] using this
theorem Pat.up {n : Nat} {d : PyData} (h : Pat n d) : Pat (n + 1) d := by
  induction h with
  | nm n s hs => exact .nm _ _ hs
  | any n => exact .any _
  | lit n => exact .lit _
  | num n i hi => exact .num _ _ hi
  | tup n xs hl hx ih => exact .tup _ _ hl ih
  | rep n xs k hl h1 h2 hx ih => exact .rep _ _ _ hl h1 h2 ih
theorem shaped_list {ds : List PyData} (hf : formBs ds = true) (hd : ddeps ds ≤ 60) : SeqAt.shaped (.list ds) = true := by
  have := depth_forms ds hf
  have e : (PyData.list ds).depth = PyData.depthAll ds + 1 := rfl
  unfold SeqAt.shaped
  rw [Bool.and_eq_true, decide_eq_true_eq, e]
  exact ⟨canLay_forms ds hf, by omega⟩
theorem shaped_strs {ns : List Str} (h : ∀ s ∈ ns, s ∈ letters) : SeqAt.shaped (.list (ns.map .str)) = true :=
  shaped_list (formBs_all fun d hd => by
    obtain ⟨s, hs, rfl⟩ := List.mem_map.mp hd
    exact (letters_ok s (h s hs)).1) (ddeps_all fun d hd => by
    obtain ⟨s, hs, rfl⟩ := List.mem_map.mp hd
    simp [ddep])
theorem eqv_nil (ds : List PyData) : PyData.eqv (.list ds) (.list []) = ds.isEmpty := by
  cases ds <;> simp [PyData.eqv, PyData.eqvAll]
theorem dpAll_strs {K : PySem.W.Frag} {H : Hp} : ∀ ns : List Str, DpAll K H (ns.map V.str) (ns.map PyData.str)
  | [] => .nil
  | s :: ns => .cons (.str s) (dpAll_strs ns)
theorem Pat.nol {n : Nat} {d : PyData} (h : Pat n d) : nolist d = true := nolist_form d (Pat.form h)
theorem pats_names {ns ns1 ns2 : List Str} {ds : List PyData} {d : PyData} (h : ns = ns1 ++ (pnamess ds).reverse) (g : ns1 = ns2 ++ (pnames d).reverse) : ns = ns2 ++ (pnamess (ds ++ [d])).reverse := by
  rw [pnamess_app, h, g]
  simp [pnamess]
theorem pnames_dots (ds es : List PyData) : pnamess (ds ++ .str "..." :: es) = pnamess (ds ++ es) := by
  have : pnames (.str "...") = [] := by decide +kernel
  simp [pnamess_app, pnamess, this]
section
variable {P : Program} {w : World} {K : PySem.W.Frag} {mg : Str → Option Value} {base : Heap} {f : Addr} {fd : FuncData}
structure Bk (H0 H : Hp) (hh c nl D : Addr) (ns : List Str) (acc : List V) (ds : List PyData) : Prop where
  hp : HandP H hh c
  sm : Same (hid [hh, nl] H0) (hid [hh, nl] H)
  nm : H nl = some (.lst (ns.map V.str))
  at_ : H D = some (.lst acc)
  dz : DzAll (hid [hh, nl] H) acc ds
theorem Bk.new {H0 H : Hp} {hh c nl D p : Addr} {ns : List Str} {acc : List V} {ds : List PyData} {o : HO} (b : Bk H0 H hh c nl D ns acc ds) (hp : H p = none) : Bk H0 (upd H p o) hh c nl D ns acc ds :=
  ⟨b.hp.fresh hp, b.sm.trans (hid_new hp), by rw [upd_ne (ne_of_none b.nm hp)]; exact b.nm, by rw [upd_ne (ne_of_none b.at_ hp)]; exact b.at_, b.dz.mono (hid_new hp)⟩
theorem Bk.draw {H0 H : Hp} {hh c nl D : Addr} {ns : List Str} {acc ws : List V} {ds : List PyData} (b : Bk H0 H hh c nl D ns acc ds) (n1 : nl ≠ hh) (n2 : D ≠ hh) (L : HandL H hh c ws) : Bk H0 (upd H hh (.lst ws)) hh c nl D ns acc ds :=
  ⟨HandP.put L, b.sm.trans (hid_put (by simp)), by rw [upd_ne n1]; exact b.nm, by rw [upd_ne n2]; exact b.at_, b.dz.mono (hid_put (by simp))⟩
def sp_pat (n : Nat) : Sp := fun vs H Q _ => ∃ (h c nl : Addr) (ns : List Str), vs = [.ref h, .ref nl, .int (n : Int), .int (n : Int)] ∧ HandP H h c ∧ H nl = some (.lst (ns.map V.str)) ∧ nl ≠ h ∧ nl ≠ c ∧ (∀ s ∈ ns, s ∈ letters) ∧
  ∀ v d H' ns', Same (hid [h, nl] H) (hid [h, nl] H') → HandP H' h c → H' nl = some (.lst (ns'.map V.str)) → Dz (hid [h, nl] H') v d → Pat n d → ns = ns' ++ (pnames d).reverse → Q v H'
theorem sc55 : FnScope ["hand", "names_left", "left_deep", "folds", "kind", "found", "at", "part"] ["hand", "names_left", "left_deep", "folds"] (defScope (top 55)) := ⟨rfl, rfl, rfl, by decide +kernel, rfl, by decide +kernel, by decide +kernel⟩
theorem ok_pat (F : FnP K "_law_pattern" 55 f fd) (hm : mg "_law_pattern" = some (.ref f)) (ml : mg "len" = none) (mr : mg "range" = none) (mt : mg "tuple" = none) (DD : Def P w K mg base 1 "_law_draw" sp_draw) (DA : Def P w K mg base 2 "_law_any" (sp_any K)) (n : Nat) (hn : n ≤ 3)
    (DP : ∀ m, m < n → Def P w K mg base (m + 3) "_law_pattern" (sp_pat m)) : Def P w K mg base (n + 3) "_law_pattern" (sp_pat n) := by
  refine Def.mk' F hm sc55 (fun vs H Q E h => ?_) (fun _ _ _ _ _ _ us hl => match us, hl with | [_, _, _, _], _ => rfl) (fun cdv A outer s H vs Q E hr tk h => ?_)
  · obtain ⟨hh, c, nl, ns, rfl, _⟩ := h
    rfl
  · obtain ⟨hh, c, nl, ns, rfl, hp, hnl, n1, n2, hns, q⟩ := h
    have nd := sc55.nd
    have in1 : hh ∈ [hh, nl] := by simp
    have in2 : nl ∈ [hh, nl] := by simp
    kt_ors
    refine ⟨hh, c, 7, rfl, hp, by decide, by decide, fun kd ws k0 k7 L => ?_⟩
    have hp1 := HandP.put L
    have s1 : Same (hid [hh, nl] H) (hid [hh, nl] (upd H hh (.lst ws))) := hid_put in1
    have hnl1 : upd H hh (.lst ws) nl = some (.lst (ns.map V.str)) := by rw [upd_ne n1]; exact hnl
    generalize upd H hh (.lst ws) = H1 at hp1 s1 hnl1 ⊢
    show WP.WB _ _ _ _ _
    refine wb_cut (fun σ' H' => σ' = [some (.ref hh), some (.ref nl), some (.int n), some (.int n), some (.int kd), none, none, none] ∧ H' = H1 ∧ 1 ≤ n) ?_ ?_
    · refine ws_if (wt_mono (QT := fun b H' => H' = H1 ∧ (b = false → 1 ≤ n)) ?_ ?_)
      · rintro b H' ⟨rfl, hb⟩
        cases b with
        | false => exact i_iff rfl (wb_nil ⟨rfl, rfl, hb rfl⟩)
        | true =>
          refine i_ift rfl ?_
          refine wb_cut (fun σ' H2 => σ' = [some (.ref hh), some (.ref nl), some (.int n), some (.int n), some (.int kd), none, none, none] ∧ HandP H2 hh c ∧ Same (hid [hh, nl] H) (hid [hh, nl] H2) ∧ H2 nl = some (.lst (ns.map V.str))) ?_ ?_
          · refine ws_if ?_
            kt_ors
            refine wt_cmp (op_neD hr.units) rfl ?_
            kt_ors
            refine ⟨by simp, fun p hp0 => ⟨.list (ns.map .str), .list [], .lst (SqL.of (by rw [upd_ne (ne_of_none hnl1 hp0)]; exact hnl1)) (dpAll_strs ns), .lst (SqL.of upd_same) .nil, shaped_strs hns, rfl, i_bl ?_⟩⟩
            rw [eqv_nil]
            have hp2 : HandP (upd H' p (.lst [])) hh c := hp1.fresh hp0
            have s2 := s1.trans (hid_new (S := [hh, nl]) (o := .lst []) hp0)
            have hnl2 : upd H' p (.lst []) nl = some (.lst (ns.map V.str)) := by rw [upd_ne (ne_of_none hnl1 hp0)]; exact hnl1
            generalize upd H' p (.lst []) = H2 at hp2 s2 hnl2 ⊢
            refine i_ite (fun e => ?_) (fun e => ?_)
            · kt_ors
              refine ⟨hh, c, 4, rfl, hp2, by decide, by decide, fun k4 ws4 k40 k44 L4 => ?_⟩
              have hp3 := HandP.put L4
              have s3 := s2.trans (hid_put (H := H2) (o := .lst ws4) in1)
              have hnl3 : upd H2 hh (.lst ws4) nl = some (.lst (ns.map V.str)) := by rw [upd_ne n1]; exact hnl2
              generalize upd H2 hh (.lst ws4) = H3 at hp3 s3 hnl3 ⊢
              kt_ors
              refine i_ite (fun e4 => ?_) (fun e4 => ?_)
              · kt_ors
                have ne : ns ≠ [] := fun z => by rw [z] at e; simp at e
                obtain ⟨ini, z, rfl⟩ : ∃ ini z, ns = ini ++ [z] := ⟨ns.dropLast, ns.getLast ne, (List.dropLast_concat_getLast ne).symm⟩
                rw [List.map_append] at hnl3
                refine i_lstT hnl3 (i_pop hnl3 ?_)
                have hz : z ∈ letters := hns z (by simp)
                exact q _ (.str z) _ ini (s3.trans (hid_put in2)) (hp3.off n1 n2) upd_same (.str z) (.nm n z hz) (by simp [pnames, hz])
              · exact wb_nil ⟨rfl, hp3, s3, hnl3⟩
            · exact wb_nil ⟨rfl, hp2, s2, hnl2⟩
          · rintro σ' H2 ⟨rfl, hp2, s2, hnl2⟩
            kt_ors
            refine ⟨by simp [sizeLine], fun p hp0 => ?_⟩
            kt_ors
            have hp3 : HandP (upd H2 p (.lst [.str "_", .int 5, .str "lit", .int 0])) hh c := hp2.fresh hp0
            obtain ⟨vs2, hh2, _⟩ := id hp2
            have ph : p ≠ hh := (ne_of_none hh2 hp0).symm
            refine ⟨hh, c, p, _, rfl, hp3, ph, upd_same, by simp, by simp, fun j ws v ev L => ?_⟩
            have s3 := (s2.trans (hid_new (o := .lst [.str "_", .int 5, .str "lit", .int 0]) hp0)).trans (hid_put (H := upd H2 p (.lst [.str "_", .int 5, .str "lit", .int 0])) (o := .lst ws) in1)
            have hnl3 : upd (upd H2 p (.lst [.str "_", .int 5, .str "lit", .int 0])) hh (.lst ws) nl = some (.lst (ns.map V.str)) := by
              rw [upd_ne n1, upd_ne (ne_of_none hnl2 hp0)]
              exact hnl2
            have fin : ∀ d : PyData, Dz (hid [hh, nl] (upd (upd H2 p (.lst [.str "_", .int 5, .str "lit", .int 0])) hh (.lst ws))) v d → Pat n d → pnames d = [] → Q v (upd (upd H2 p (.lst [.str "_", .int 5, .str "lit", .int 0])) hh (.lst ws)) := fun d hd hpd hn => q v d _ ns s3 (HandP.put L) hnl3 hd hpd (by simp [hn])
            match j, ev with
            | 0, ev => cases ev; exact fin _ (.str _) (.any n) (by decide +kernel)
            | 1, ev => cases ev; exact fin _ (.int _) (.num n _ (.inl rfl)) rfl
            | 2, ev => cases ev; exact fin _ (.str _) (.lit n) (by decide +kernel)
            | 3, ev => cases ev; exact fin _ (.int _) (.num n _ (.inr rfl)) rfl
            | j + 4, ev => simp at ev
      · kt_ors
        refine i_ite (fun e => ⟨rfl, fun z => nomatch z⟩) (fun e => ?_)
        kt_ors
        refine ⟨rfl, fun _ => ?_⟩
        have : ¬ ((n : Int) = 0) := fun z => by simp [z] at e
        omega
    · rintro σ' H2 ⟨rfl, rfl, n3⟩
      obtain ⟨m, rfl⟩ : ∃ m, n = m + 1 := ⟨n - 1, by omega⟩
      have D := DP m (by omega)
      refine wb_cons ?_
      refine ws_lc 5 [("part", 7)] rfl nd rfl rfl rfl rfl rfl (pi_range1 (by rfl) mr pa) (blkOk_by (N := ["hand", "names_left", "left_deep", "folds", "kind", "found", "at", "part"]) (sc := defScope (top 55)) (own := [("part", 7)]) (by decide +kernel)) (fun _ _ _ _ _ => by k_memK) ?_
      show WP.WA _ _ _ _ _
      kt_ors
      refine ⟨hh, c, 4, rfl, hp1, by decide, by decide, fun k4 ws4 k40 k44 L4 => ?_⟩
      have hp3 := HandP.put L4
      have s3 := s1.trans (hid_put (H := H2) (o := .lst ws4) in1)
      have hnl3 : upd H2 hh (.lst ws4) nl = some (.lst (ns.map V.str)) := by rw [upd_ne n1]; exact hnl1
      generalize upd H2 hh (.lst ws4) = H3 at hp3 s3 hnl3 ⊢
      kt_ors
      obtain ⟨j4, rfl⟩ : ∃ j : Nat, k4 = j := ⟨k4.toNat, by omega⟩
      refine ⟨_, rfl, by omega, by omega, fun D1 hD1 => ?_⟩
      rw [Int.toNat_natCast]
      obtain ⟨vs3, hh3, _⟩ := id hp3
      have Dh : D1 ≠ hh := (ne_of_none hh3 hD1).symm
      have Dn : D1 ≠ nl := (ne_of_none hnl3 hD1).symm
      have Dc : D1 ≠ c := by
        obtain ⟨_, _, ⟨_, _, _, _, _, _, hc3, _⟩⟩ := id hp3
        exact (ne_of_none hc3 hD1).symm
      have Dout : D1 ∉ [hh, nl] := by simp [Dh, Dn]
      refine lc_it walk_range (fun i H => ∃ acc ds ns', H D1 = some (.lst acc) ∧ acc.length = i ∧ Same (hid [hh, nl] H3) (hid [hh, nl] H) ∧ HandP H hh c ∧ H nl = some (.lst (ns'.map V.str)) ∧ DzAll (hid [hh, nl, D1] H) acc ds ∧ (∀ d ∈ ds, Pat m d) ∧ ns = ns' ++ (pnamess ds).reverse)
        ⟨[], [], ns, upd_same, rfl, hid_new hD1, hp3.fresh hD1, by rw [upd_ne Dn.symm]; exact hnl3, .nil, (by intro d h; cases h), by simp [pnamess]⟩ (fun _ _ _ _ => trivial) ?_ ?_
      · rintro i x H4 H5 hi ⟨acc, ds, ns', hD4, hz, s4, hp4, hnl4, hdz, hpt, hnm⟩ ⟨rfl, rfl⟩
        refine ⟨rfl, ?_⟩
        unfold tYes
        refine iteT fun s0 H0 C0 cl0 fp => ?_
        kt_ors
        have em : (((m + 1 : Nat) : Int) - 1) = (m : Int) := by omega
        rw [em]
        refine ⟨hh, c, nl, ns', rfl, hp4, hnl4, n1, n2, fun s hs => hns s (by rw [hnm]; exact List.mem_append_left _ hs), fun v d H6 ns2 s6 hp6 hnl6 dz6 hpd hnm6 => ?_⟩
        have hD6 : H6 D1 = some (.lst acc) := same_at s6 Dout hD4
        refine ⟨acc, hD6, by simp only [sizeLine]; omega, acc ++ [v], ds ++ [d], ns2, upd_same, by simp [hz], ?_, hp6.off Dh Dc, by rw [upd_ne Dn.symm]; exact hnl6, ?_, ?_, pats_names hnm hnm6⟩
        · rw [hid_upd_out Dout]
          exact Same.mut (s4.trans s6) (by rw [hid_out Dout]; exact hD1)
        · rw [hid_upd_in (by simp)]
          exact (hdz.mono (same_more s6 (by simp))).snoc (dz6.off hD6 hpd.nol)
        · intro x hx
          rcases List.mem_append.mp hx with hx | hx
          · exact hpt x hx
          · rw [List.mem_singleton.mp hx]
            exact hpd
      · rintro H4 ⟨acc, ds, ns', hD4, hz, s4, hp4, hnl4, hdz, hpt, hnm⟩
        show WP.WB _ _ _ _ _
        have lds := hdz.len
        have B : Bk H H4 hh c nl D1 ns' acc ds := ⟨hp4, s3.trans s4, hnl4, hD4, hdz.mono (hid_le (by simp))⟩
        have base : Pat (m + 1) (.tuple ds) := .tup _ _ (by omega) hpt
        have hfs : formBs ds = true := formBs_all fun d hd => (hpt d hd).form
        have hdd : ddeps ds ≤ 60 := ddeps_all fun d hd => by have := (hpt d hd).dep; omega
        refine wb_cut (fun σ' H' => ∃ r6 r7 D2 acc2 d2s, σ' = [some (.ref hh), some (.ref nl), some (.int (m + 1 : Nat)), some (.int (m + 1 : Nat)), some (.int kd), some (.ref D2), r6, r7] ∧ Bk H H' hh c nl D2 ns' acc2 d2s ∧ Pat (m + 1) (.tuple d2s) ∧ ns = ns' ++ (pnamess d2s).reverse) ?_ ?_
        · refine ws_if ?_
          kt_ors
          refine wt_cmp (op_neD hr.units) rfl ?_
          kt_ors
          refine ⟨by simp, fun p hp0 => ?_⟩
          have B2 := B.new (o := .lst []) hp0
          have hpe : upd H4 p (.lst []) p = some (.lst []) := upd_same
          generalize upd H4 p (.lst []) = H5 at B2 hpe ⊢
          refine ⟨.list ds, .list [], .lst (SqL.of B2.at_) (dpAll_mono hid_same B2.dz.dp), .lst (SqL.of hpe) .nil, shaped_list hfs hdd, rfl, i_bl ?_⟩
          rw [eqv_nil]
          refine i_ite (fun e => ?_) (fun e => wb_nil ⟨_, _, D1, acc, ds, rfl, B2, base, hnm⟩)
          have dne : ds ≠ [] := fun z => by rw [z] at e; simp at e
          have dpos : 0 < ds.length := List.length_pos_iff.mpr dne
          kt_ors
          refine i_ite (fun e => ?_) (fun e => wb_nil ⟨_, _, D1, acc, ds, rfl, B2, base, hnm⟩)
          kt_ors
          refine ⟨hh, c, 2, rfl, B2.hp, by decide, by decide, fun k2 ws2 k20 k22 L2' => ?_⟩
          have B3 := B2.draw n1 Dh L2'
          generalize upd H5 hh (.lst ws2) = H6 at B3 ⊢
          kt_ors
          refine i_ite (fun e => ?_) (fun e => wb_nil ⟨_, _, D1, acc, ds, rfl, B3, base, hnm⟩)
          have hD6 := B3.at_
          refine wb_cut (fun σ' H' => ∃ k : Nat, 1 ≤ k ∧ k ≤ ds.length ∧ σ' = [some (.ref hh), some (.ref nl), some (.int (m + 1 : Nat)), some (.int (m + 1 : Nat)), some (.int kd), some (.ref D1), some (.int (k : Int)), none] ∧ Bk H H' hh c nl D1 ns' acc ds) ?_ ?_
          · kt_ors
            refine ⟨hh, c, _, rfl, B3.hp, by omega, by omega, fun kk wsk kk0 kkl Lk => ?_⟩
            have B4 := B3.draw n1 Dh Lk
            generalize upd H6 hh (.lst wsk) = H7 at B4 ⊢
            kt_ors
            obtain ⟨j, rfl⟩ : ∃ j : Nat, kk = j := ⟨kk.toNat, by omega⟩
            refine ⟨j + 1, by omega, by omega, ?_, B4⟩
            have : (1 + (j : Int)) = ((j + 1 : Nat) : Int) := by omega
            rw [this]
            rfl
          · rintro σ' H7 ⟨k, k1, k2, rfl, B4⟩
            have hD7 := B4.at_
            refine wb_one (ws_set 5 nd rfl (.inl rfl) (we_op op_cat (we_op op_cat (we_slH sl_list ?_))))
            kt_ors
            refine ⟨_, rfl, D1, acc, rfl, SqL.of hD7, fun p1 hp1' => ?_⟩
            have B5 := B4.new (o := .lst (cutV acc none (some (k : Int)))) hp1'
            have e1 : upd H7 p1 (.lst (cutV acc none (some (k : Int)))) p1 = some (.lst (cutV acc none (some (k : Int)))) := upd_same
            generalize upd H7 p1 (.lst (cutV acc none (some (k : Int)))) = H8 at B5 e1 ⊢
            kt_ors
            refine ⟨by simp [sizeLine], fun p2 hp2 => ?_⟩
            have e1' : upd H8 p2 (.lst [.str "..."]) p1 = _ := (Same.new (o := .lst [.str "..."]) hp2) _ _ e1
            have e2 : upd H8 p2 (.lst [.str "..."]) p2 = some (.lst [.str "..."]) := upd_same
            have B6 := B5.new (o := .lst [.str "..."]) hp2
            generalize upd H8 p2 (.lst [.str "..."]) = H9 at B6 e1' e2 ⊢
            have lc1 : (cutV acc none (some (k : Int))).length ≤ 3 := by rw [cutV_take]; simp; omega
            refine ⟨p1, p2, _, _, rfl, rfl, e1', e2, by simp [sizeLine]; omega, fun p3 hp3' => ?_⟩
            have B7 := B6.new (o := .lst (cutV acc none (some (k : Int)) ++ [.str "..."])) hp3'
            have e3 : upd H9 p3 (.lst (cutV acc none (some (k : Int)) ++ [.str "..."])) p3 = some (.lst (cutV acc none (some (k : Int)) ++ [.str "..."])) := upd_same
            generalize upd H9 p3 (.lst (cutV acc none (some (k : Int)) ++ [.str "..."])) = H10 at B7 e3 ⊢
            have hD10 := B7.at_
            refine we_slL sl_list ?_
            kt_ors
            refine ⟨_, rfl, D1, acc, rfl, SqL.of hD10, fun p4 hp4' => ?_⟩
            have B8 := B7.new (o := .lst (cutV acc (some (k : Int)) none)) hp4'
            have e3' : upd H10 p4 (.lst (cutV acc (some (k : Int)) none)) p3 = _ := (Same.new (o := .lst (cutV acc (some (k : Int)) none)) hp4') _ _ e3
            have e4 : upd H10 p4 (.lst (cutV acc (some (k : Int)) none)) p4 = some (.lst (cutV acc (some (k : Int)) none)) := upd_same
            generalize upd H10 p4 (.lst (cutV acc (some (k : Int)) none)) = H11 at B8 e3' e4 ⊢
            have lc2 : (cutV acc (some (k : Int)) none).length ≤ 3 := by rw [cutV_drop]; simp; omega
            refine ⟨p3, p4, _, _, rfl, rfl, e3', e4, by simp [sizeLine]; omega, fun p5 hp5' => ?_⟩
            have B9 := B8.new (o := .lst (cutV acc none (some (k : Int)) ++ [.str "..."] ++ cutV acc (some (k : Int)) none)) hp5'
            refine ⟨_, _, p5, _, ds.take k ++ .str "..." :: ds.drop k, rfl, ⟨B9.hp, B9.sm, B9.nm, upd_same, ?_⟩, .rep _ _ _ (by omega) k1 k2 hpt, by rw [pnames_dots, List.take_append_drop]; exact hnm⟩
            have es : cutV acc none (some (k : Int)) ++ [.str "..."] ++ cutV acc (some (k : Int)) none = acc.take k ++ .str "..." :: acc.drop k := by
              rw [cutV_take, cutV_drop, List.append_assoc] <;> rfl
            have z := (B9.dz.take k).app (.cons (.str "...") (B9.dz.drop k))
            rwa [← es] at z
        · rintro σ' H5 ⟨r6, r7, D2, acc2, d2s, rfl, B5, hpd, hnm5⟩
          have hD5 := B5.at_
          refine wb_one (ws_ret ?_)
          refine we_callTy call_tupZ (by rfl) mt boot_tuple ?_
          kt_ors
          refine i_tupZ hD5 fun l o hl pl => ?_
          have hD5' := B5.new (o := .frz o (.tup acc2)) hl
          refine q _ _ _ ns' hD5'.sm hD5'.hp hD5'.nm (.tup ?_ pl hD5'.dz) hpd hnm5
          rw [hid_out]
          · exact upd_same
          · obtain ⟨vs5, hh5, _⟩ := id B5.hp
            have a1 := (ne_of_none hh5 hl).symm
            have a2 := (ne_of_none B5.nm hl).symm
            simp [a1, a2]
theorem ok_pat_all (F : FnP K "_law_pattern" 55 f fd) (hm : mg "_law_pattern" = some (.ref f)) (ml : mg "len" = none) (mr : mg "range" = none) (mt : mg "tuple" = none) (DD : Def P w K mg base 1 "_law_draw" sp_draw) (DA : Def P w K mg base 2 "_law_any" (sp_any K)) :
    ∀ n, n ≤ 3 → Def P w K mg base (n + 3) "_law_pattern" (sp_pat n) := by
  intro n
  induction n using Nat.strongRecOn with
  | _ n ih => exact fun hn => ok_pat F hm ml mr mt DD DA n hn fun m hmn => ih m hmn (by omega)
end
end
section
/-! ### what the law's own names and least forms are -/
def nextRep : List PyData → Nat
  | .str s :: _ => if s = "..." then 1 else 0
  | _ => 0
mutual
def lnames : PyData → Nat → List (Str × Nat)
  | .str s, l => if s ∈ letters then [(s, l)] else []
  | .tuple ds, l => lnamess ds l
  | _, _ => []
def lnamess : List PyData → Nat → List (Str × Nat)
  | [], _ => []
  | d :: ds, l => lnames d (l + nextRep ds) ++ lnamess ds l
end
mutual
theorem lnames_fst : ∀ d l, (lnames d l).map (·.1) = pnames d
  | .none, _ => rfl
  | .bool _, _ => rfl
  | .int _, _ => rfl
  | .str s, l => by
    simp only [lnames, pnames]
    split <;> rfl
  | .list _, _ => rfl
  | .dict _, _ => rfl
  | .tuple ds, l => lnamess_fst ds l
theorem lnamess_fst : ∀ ds l, (lnamess ds l).map (·.1) = pnamess ds
  | [], _ => rfl
  | d :: ds, l => by rw [lnamess, pnamess, List.map_append, lnames_fst, lnamess_fst]
end
mutual
/-- known words and integers alone -/
def knownB : PyData → Bool
  | .str s => decide (s ∈ letters) || decide (s = "_") || decide (s = "...") || decide (s = "lit")
  | .int _ => true
  | .tuple ds => knownBs ds
  | _ => false
def knownBs : List PyData → Bool
  | [] => true
  | d :: ds => knownB d && knownBs ds
end
theorem knownBs_iff : ∀ {ds : List PyData}, knownBs ds = true ↔ ∀ d ∈ ds, knownB d = true
  | [] => by simp [knownBs]
  | d :: ds => by simp [knownBs, knownBs_iff (ds := ds)]
theorem Pat.known {n : Nat} {d : PyData} (h : Pat n d) : knownB d = true := by
  induction h with
  | nm n s hs => simp [knownB, hs]
  | any n => decide +kernel
  | lit n => decide +kernel
  | num n i hi => rfl
  | tup n xs hl hx ih => exact knownBs_iff.mpr ih
  | rep n xs k hl h1 h2 hx ih =>
    refine knownBs_iff.mpr fun d hd => ?_
    rcases List.mem_append.mp hd with hd | hd
    · exact ih d (List.mem_of_mem_take hd)
    · rcases List.mem_cons.mp hd with rfl | hd
      · decide +kernel
      · exact ih d (List.mem_of_mem_drop hd)
theorem canAll_iff : ∀ {ds : List PyData}, PyData.canLayAll0 ds = true ↔ ∀ d ∈ ds, d.canLay0 = true
  | [] => by simp [PyData.canLayAll0]
  | d :: ds => by simp [PyData.canLayAll0, canAll_iff (ds := ds)]
theorem depAll_iff {m : Nat} : ∀ {ds : List PyData}, PyData.depthAll ds ≤ m ↔ ∀ d ∈ ds, d.depth ≤ m
  | [] => by simp [PyData.depthAll]
  | d :: ds => by simp [PyData.depthAll, Nat.max_le, depAll_iff (ds := ds)]
theorem shaped_tup {ds : List PyData} : SeqAt.shaped (.tuple ds) = true ↔ (∀ d ∈ ds, d.canLay0 = true) ∧ ∀ d ∈ ds, d.depth ≤ 63 := by
  have e1 : (PyData.tuple ds).depth = PyData.depthAll ds + 1 := rfl
  have e2 : (PyData.tuple ds).canLay0 = PyData.canLayAll0 ds := rfl
  unfold SeqAt.shaped
  rw [Bool.and_eq_true, decide_eq_true_eq, e1, e2, canAll_iff, ← depAll_iff]
  exact ⟨fun h => ⟨h.1, by omega⟩, fun h => ⟨h.1, by omega⟩⟩
theorem shaped_sub {ds es : List PyData} (h : SeqAt.shaped (.tuple ds) = true) (hs : ∀ d ∈ es, d ∈ ds) : SeqAt.shaped (.tuple es) = true :=
  shaped_tup.mpr ⟨fun d hd => (shaped_tup.mp h).1 d (hs d hd), fun d hd => (shaped_tup.mp h).2 d (hs d hd)⟩
theorem shaped_mem {ds : List PyData} {d : PyData} (h : SeqAt.shaped (.tuple ds) = true) (hd : d ∈ ds) : SeqAt.shaped d = true := by
  have h1 := (shaped_tup.mp h).1 d hd
  have h2 := (shaped_tup.mp h).2 d hd
  unfold SeqAt.shaped
  rw [Bool.and_eq_true, decide_eq_true_eq]
  exact ⟨h1, by omega⟩
theorem shaped_slice {ds : List PyData} (h : SeqAt.shaped (.tuple ds) = true) (i k : Nat) : SeqAt.shaped (.tuple ((ds.drop i).take k)) = true := shaped_sub h fun d hd => List.mem_of_mem_drop (List.mem_of_mem_take hd)
theorem slice_eq (es : List PyData) : PyData.eqv (.tuple (es.take 1)) (.tuple [.str "..."]) = decide (nextRep es = 1) := by
  cases es with
  | nil => simp [PyData.eqv, PyData.eqvAll, nextRep]
  | cons d es =>
    have : PyData.eqv (.tuple [d]) (.tuple [.str "..."]) = PyData.eqv d (.str "...") := by simp [PyData.eqv, PyData.eqvAll]
    rw [List.take_succ_cons, List.take_zero, this, eqv_rep]
    cases d <;> simp [isRep, nextRep]
theorem cutV_one (xs : List V) (i : Nat) : cutV xs (some ((i : Int) + 1)) (some ((i : Int) + 2)) = (xs.drop (i + 1)).take 1 := by
  have e1 : HT.sIx xs.length 0 (some ((i : Int) + 1)) = min (i + 1) xs.length := HT.sIx_nat _ _ (i + 1)
  have e2 : HT.sIx xs.length xs.length (some ((i : Int) + 2)) = min (i + 2) xs.length := HT.sIx_nat _ _ (i + 2)
  unfold cutV
  rw [e1, e2]
  by_cases h : i + 1 ≤ xs.length
  · rw [Nat.min_eq_left h]
    by_cases h2 : i + 2 ≤ xs.length
    · rw [Nat.min_eq_left h2, show i + 2 - (i + 1) = 1 by omega]
    · have : xs.length = i + 1 := by omega
      rw [List.drop_of_length_le (by omega)]
      simp
  · rw [List.drop_of_length_le (by omega), List.drop_of_length_le (by omega)]
    simp
theorem dots_data {K : PySem.W.Frag} {H : Hp} {p : Addr} (h : SqT K H p [.str "..."]) : Dp K H (.ref p) (.tuple [.str "..."]) := .tup h (.cons (.str _) .nil)
theorem shaped_dots : SeqAt.shaped (.tuple [.str "..."]) = true := by decide +kernel
mutual
theorem pnames_len : ∀ d, (pnames d).length ≤ dsize d
  | .none => Nat.zero_le _
  | .bool _ => Nat.zero_le _
  | .int _ => Nat.zero_le _
  | .str s => by
    simp only [pnames, dsize]
    split <;> simp
  | .list _ => Nat.zero_le _
  | .dict _ => Nat.zero_le _
  | .tuple ds => Nat.le_succ_of_le (pnamess_len ds)
theorem pnamess_len : ∀ ds, (pnamess ds).length ≤ dsizes ds
  | [] => Nat.zero_le _
  | d :: ds => by
    rw [pnamess, dsizes, List.length_append]
    exact Nat.add_le_add (pnames_len d) (pnamess_len ds)
end
theorem kvN_app (a b : List (Str × Nat)) : kvN a ++ kvN b = kvN (a ++ b) := by simp [kvN]
theorem kvN_nodup {a : List (Str × Nat)} (h : (a.map (·.1)).Nodup) : ((kvN a).map (·.1)).Nodup := by
  have e : (kvN a).map (·.1) = (a.map (·.1)).map (Sum.inr : Str → Key) := by simp [kvN, Function.comp_def]
  rw [e]
  exact List.Pairwise.map _ (fun x y h z => h (Sum.inr.inj z)) h
def leafIn (v : V) : Bool := inV v [.str "_", .str "...", .str "lit"]
theorem known_str {s : Str} (h : knownB (.str s) = true) : s ∈ letters ∨ s = "_" ∨ s = "..." ∨ s = "lit" := by
  simp only [knownB, Bool.or_eq_true, decide_eq_true_eq] at h
  rcases h with ((h | h) | h) | h
  · exact .inl h
  · exact .inr (.inl h)
  · exact .inr (.inr (.inl h))
  · exact .inr (.inr (.inr h))
theorem leafIn_letters : ∀ s ∈ letters, leafIn (.str s) = false := by decide +kernel
theorem leafIn_str {s : Str} (h : knownB (.str s) = true) : leafIn (.str s) = !decide (s ∈ letters) := by
  rcases known_str h with h | rfl | rfl | rfl
  · rw [leafIn_letters s h, decide_eq_true h]
    rfl
  all_goals decide +kernel
theorem leafIn_int (i : Int) : leafIn (.int i) = false := rfl
section
variable {P : Program} {w : World} {K : PySem.W.Frag} {mg : Str → Option Value} {base : Heap} {f : Addr} {fd : FuncData}
def sp_lnames (K : PySem.W.Frag) (n : Nat) : Sp := fun vs H Q _ => ∃ (v : V) (d : PyData) (l : Nat), vs = [v, .int (l : Int)] ∧ Dp K H v d ∧ knownB d = true ∧ SeqAt.shaped d = true ∧ ddep d ≤ n + 1 ∧ dsize d ≤ 3000 ∧ (pnames d).Nodup ∧
  ∀ p H', Same H H' → H p = none → H' p = some (.dK (kvN (lnames d l))) → Q (.ref p) H'
theorem sc57 : FnScope ["pattern", "level", "found", "at", "part"] ["pattern", "level"] (defScope (top 57)) := ⟨rfl, rfl, rfl, by decide +kernel, rfl, by decide +kernel, by decide +kernel⟩
theorem ok_lnames (F : FnP K "_law_names" 57 f fd) (hm : mg "_law_names" = some (.ref f)) (mi : mg "isinstance" = none) (me : mg "enumerate" = none) (mint : BTy mg "int" "int") (mtu : BTy mg "tuple" "tuple") (n : Nat)
    (DN : ∀ m, m < n → Def P w K mg base (m + 1) "_law_names" (sp_lnames K m)) : Def P w K mg base (n + 1) "_law_names" (sp_lnames K n) := by
  refine Def.mk' F hm sc57 (fun vs H Q E h => ?_) (fun _ _ _ _ _ _ us hl => match us, hl with | [_, _], _ => rfl) (fun cdv A outer s H vs Q E hr tk h => ?_)
  · obtain ⟨v, d, l, rfl, _⟩ := h
    rfl
  · obtain ⟨v, d, l, rfl, hd, hk, hsh, hdp, hsz, hnd, q⟩ := h
    have nd := sc57.nd
    kt_ors
    refine i_ite (fun e => ?_) (fun e => ?_)
    · have dT : dTup d = false := by simpa using e
      have lin : leafIn v = (match d with | .str s => !decide (s ∈ letters) | _ => false) := by
        cases hd with
        | str s => exact leafIn_str hk
        | int i => exact leafIn_int i
        | tup h g => simp [dTup] at dT
        | _ => simp [knownB] at hk
      have fl : flatV v = true := by
        cases hd with
        | str s => rfl
        | int i => rfl
        | tup h g => simp [dTup] at dT
        | _ => simp [knownB] at hk
      kt_ors
      refine wt_cmp op_in_seq rfl ?_
      kt_ors
      refine ⟨by simp [sizeLine], fun p hp => ⟨p, _, rfl, .inr (SqT.of upd_same), fl, rfl, i_bl ?_⟩⟩
      have s1 : Same H (upd H p (.tup [.str "_", .str "...", .str "lit"])) := Same.new hp
      generalize upd H p (.tup [.str "_", .str "...", .str "lit"]) = H1 at s1 ⊢
      have dnone : ∀ H2 p2, Same H H2 → H2 p2 = none → lnames d l = [] → Q (.ref p2) (upd H2 p2 (.dK [])) := fun H2 p2 s2 h2 hl => q p2 _ (s2.trans (Same.new h2)) (none_of_same s2 h2) (by rw [hl]; exact upd_same)
      refine i_ite (fun e1 => ?_) (fun e1 => ?_)
      · refine i_ift rfl (we_dnew fun p2 hp2 => dnone _ _ s1 hp2 ?_)
        have e1 : leafIn v = true := e1
        rw [lin] at e1
        cases d with
        | str s => simp at e1; simp [lnames, e1]
        | _ => simp at e1
      · have e1 : leafIn v = false := e1
        rw [lin] at e1
        have isi : isiD d "int" = some (dInt d) := rfl
        kt_ors
        refine i_ite (fun e2 => ?_) (fun e2 => ?_)
        · refine we_dnew fun p2 hp2 => dnone _ _ s1 hp2 ?_
          cases d <;> first | rfl | simp [dInt] at e2
        · obtain ⟨s, rfl⟩ : ∃ s, d = .str s := by
            cases d with
            | str s => exact ⟨s, rfl⟩
            | tuple ds => simp [dTup] at dT
            | int i => simp [dInt] at e2
            | _ => simp [knownB] at hk
          cases dp_str hd
          have hs : s ∈ letters := by simpa using e1
          refine we_disp1 fun p2 hp2 => ?_
          kt_ors
          refine ⟨upd_same, .inr s, rfl, ?_⟩
          rw [upd_upd]
          exact q p2 _ (s1.trans (Same.new hp2)) (none_of_same s1 hp2) (by simp only [lnames, if_pos hs]; exact upd_same)
    · obtain ⟨ds, rfl⟩ := dTup_of (by simpa using e)
      obtain ⟨a, xs, rfl, ha, hxs⟩ := dp_tup hd
      have hlen := dpAll_len hxs
      have hdsz : dsizes ds + 1 ≤ 3000 := hsz
      have hdd : ddeps ds + 1 ≤ n + 1 := hdp
      have hks := knownBs_iff.mp (show knownBs ds = true from hk)
      have hnds : (pnamess ds).Nodup := hnd
      kt_ors
      refine we_dnew fun p hp => ?_
      have s0 : Same H (upd H p (.dK [])) := Same.new hp
      have hp0 : upd H p (.dK []) p = some (.dK (kvN [])) := upd_same
      generalize upd H p (.dK []) = H0 at s0 hp0 ⊢
      show WP.WB _ _ _ _ _
      refine wb_cons ?_
      refine ws_forI (walk_enumT (K := K) (a := a) (xs := xs)) passes_bx rfl (pi_enumT (by rfl) me pa) (by k_memK) ?_ iEnumT_mono
      show WP.WA _ _ _ _ _
      kt_ors
      refine ⟨a, xs, rfl, s0.tup ha, rfl, fun i σ H' => ∃ acc r3 r4, σ = [some (.ref a), some (.int (l : Int)), some (.ref p), r3, r4] ∧ Same H H' ∧ H' p = some (.dK (kvN acc)) ∧ acc ++ lnamess (ds.drop i) l = lnamess ds l,
        ⟨[], _, _, rfl, s0, hp0, rfl⟩, fun i σ H' _ ⟨_, _, _, _, s, _⟩ => s.tup ha, ?_, ?_⟩
      · rintro i x' σ H1 H2 hi ⟨acc, r3, r4, rfl, s1, hp1, hacc⟩ ⟨T, y, rfl, hT1, rfl, hy⟩
        refine ⟨T, _, rfl, SqT.of upd_same, rfl, _, _, rfl, _, _, rfl, rfl, ?_⟩
        show WP.WB _ _ _ _ _
        have hil : i < ds.length := by omega
        have hdx : Dp K H y ds[i] := by
          obtain ⟨d, hd1, hd2⟩ := dpAll_atv hxs hy
          rw [List.getElem?_eq_getElem hil] at hd1
          cases hd1
          exact hd2
        have s2 : Same H1 (upd H1 T (.tup [.int (i : Nat), y])) := Same.new hT1
        generalize upd H1 T (.tup [.int (i : Nat), y]) = H2 at s2 ⊢
        have s02 := s1.trans s2
        have ed : ds.drop i = ds[i] :: ds.drop (i + 1) := List.drop_eq_getElem_cons hil
        have dm : ds[i] ∈ ds := List.getElem_mem hil
        rw [ed, lnamess] at hacc
        have mpos : ddep ds[i] ≤ n := by have := ddeps_le dm; omega
        obtain ⟨m, rfl⟩ : ∃ m, n = m + 1 := ⟨n - 1, by have := ddep_pos ds[i]; omega⟩
        have D := DN m (by omega)
        kt_ors
        refine we_update ?_
        kt_ors
        refine i_dct (s2 _ _ hp1) ?_
        kt_ors
        refine we_cmp (op_eqD hr.units) rfl (we_slB sl_tupA ?_)
        kt_ors
        refine ⟨_, rfl, ?_⟩
        kt_ors
        refine ⟨_, rfl, i_sl (s02.tup ha) fun c5 H5 s5 h5 => ?_⟩
        rw [cutV_one] at h5
        have s05 := s02.trans s5
        kt_ors
        refine ⟨by simp [sizeLine], fun p6 hp6 => ?_⟩
        have s6 : Same H5 (upd H5 p6 (.tup [.str "..."])) := Same.new hp6
        have h6 : SqT K (upd H5 p6 (.tup [.str "..."])) p6 [.str "..."] := SqT.of upd_same
        generalize upd H5 p6 (.tup [.str "..."]) = H6 at s6 h6 ⊢
        have s06 := s05.trans s6
        refine ⟨_, _, .tup (s6.tup h5) (dpAll_mono s06 (dpAll_take 1 (dpAll_drop (i + 1) hxs))), dots_data h6, shaped_slice hsh _ _, shaped_dots, ?_⟩
        rw [slice_eq]
        kt_ors
        have el : ((l : Int) + if decide (nextRep (ds.drop (i + 1)) = 1) = true then 1 else 0) = ((l + nextRep (ds.drop (i + 1)) : Nat) : Int) := by
          have h01 : nextRep (ds.drop (i + 1)) = 0 ∨ nextRep (ds.drop (i + 1)) = 1 := by
            unfold nextRep
            split
            · split <;> simp
            · simp
          rcases h01 with h | h <;> rw [h] <;> simp
        have nde : (acc ++ (lnames ds[i] (l + nextRep (ds.drop (i + 1))) ++ lnamess (ds.drop (i + 1)) l)).map (·.1) = pnamess ds := by rw [hacc, lnamess_fst]
        have ndi : (pnames ds[i]).Nodup := by
          have z := hnds
          rw [← nde, List.map_append, List.map_append, lnames_fst] at z
          exact (List.nodup_append.mp (List.nodup_append.mp z).2.1).1
        refine ⟨_, ds[i], _, by rw [el], WP.dp_mono s06 hdx, hks _ dm, shaped_mem hsh dm, mpos, by have := dsizes_mem dm; omega, ndi, fun p7 H7 s7 n7 h7 => ?_⟩
        have hp7 := s7 _ _ (s6 _ _ (s5 _ _ (s2 _ _ hp1)))
        have pne : p ≠ p7 := ne_of_none ((s6 _ _ (s5 _ _ (s2 _ _ hp1)))) n7
        kt_ors
        have ll : acc.length + (lnames ds[i] (l + nextRep (ds.drop (i + 1)))).length ≤ 3000 := by
          have z := congrArg List.length nde
          have z2 := pnamess_len ds
          simp only [List.length_map, List.length_append] at z
          omega
        refine i_update pne hp7 h7 (by simp only [kvN, List.length_map]; exact Nat.le_trans ll (by decide)) ?_
        have nda : ((kvN acc ++ kvN (lnames ds[i] (l + nextRep (ds.drop (i + 1))))).map (·.1)).Nodup := by
          rw [kvN_app]
          refine kvN_nodup ?_
          have z := hnds
          rw [← nde, ← List.append_assoc, List.map_append] at z
          exact (List.nodup_append.mp z).1
        rw [mergeK_app nda, kvN_app]
        kt_ors
        exact ⟨_, _, _, rfl, (s06.trans s7).mut hp, upd_same, by rw [List.append_assoc]; exact hacc⟩
      · rintro σ H1 ⟨acc, r3, r4, rfl, s1, hp1, hacc⟩
        show WP.WB _ _ _ _ _
        kt_ors
        have z : ds.drop xs.length = [] := List.drop_of_length_le (by omega)
        rw [z] at hacc
        simp only [lnamess, List.append_nil] at hacc
        exact q p H1 s1 hp (by rw [hp1, hacc] <;> rfl)
theorem ok_lnames_all (F : FnP K "_law_names" 57 f fd) (hm : mg "_law_names" = some (.ref f)) (mi : mg "isinstance" = none) (me : mg "enumerate" = none) (mint : BTy mg "int" "int") (mtu : BTy mg "tuple" "tuple") :
    ∀ n, Def P w K mg base (n + 1) "_law_names" (sp_lnames K n) := by
  intro n
  induction n using Nat.strongRecOn with
  | _ n ih => exact ok_lnames F hm mi me mint mtu n ih
end
end
section
mutual
/-- the law's own least form -/
def lleast (z : Str) : PyData → PyData
  | .str s => if s = "lit" then .str s else .str z
  | .int i => .int i
  | .tuple ds => .tuple (lleasts z ds)
  | d => d
def lleasts (z : Str) : List PyData → List PyData
  | [] => []
  | d :: ds => if isRep d = false ∧ nextRep ds = 0 then lleast z d :: lleasts z ds else lleasts z ds
end
theorem lleasts_len (z : Str) : ∀ ds, (lleasts z ds).length ≤ ds.length
  | [] => Nat.le_refl _
  | d :: ds => by
    have := lleasts_len z ds
    rw [lleasts]
    split <;> simp <;> omega
mutual
theorem nolist_lleast {z : Str} : ∀ d, knownB d = true → nolist (lleast z d) = true
  | .none, h => by simp [knownB] at h
  | .bool _, h => by simp [knownB] at h
  | .int _, _ => rfl
  | .str s, _ => by
    rw [lleast]
    split <;> rfl
  | .list _, h => by simp [knownB] at h
  | .dict _, h => by simp [knownB] at h
  | .tuple ds, h => nolist_lleasts ds h
theorem nolist_lleasts {z : Str} : ∀ ds, knownBs ds = true → nolists (lleasts z ds) = true
  | [], _ => rfl
  | d :: ds, h => by
    simp only [knownBs, Bool.and_eq_true] at h
    rw [lleasts]
    split
    · simp [nolists, nolist_lleast d h.1, nolist_lleasts ds h.2]
    · exact nolist_lleasts ds h.2
end
theorem sqT_off {K : PySem.W.Frag} {H : Hp} {D a : Addr} {ys xs : List V} (e : H D = some (.lst ys)) (h : SqT K H a xs) : SqT K (hid [D] H) a xs := by
  rcases h with (h | ⟨o, h⟩) | h
  · exact .inl (.inl (by rw [hid_out (by simp; exact fun z => by rw [z, e] at h; cases h)]; exact h))
  · exact .inl (.inr ⟨o, by rw [hid_out (by simp; exact fun z => by rw [z, e] at h; cases h)]; exact h⟩)
  · exact .inr h
mutual
theorem dp_off {K : PySem.W.Frag} {H : Hp} {D : Addr} {ys : List V} (e : H D = some (.lst ys)) : ∀ {d : PyData} {v : V}, nolist d = true → Dp K H v d → Dp K (hid [D] H) v d
  | _, _, _, .non => .non
  | _, _, _, .bl b => .bl b
  | _, _, _, .int i => .int i
  | _, _, _, .str x => .str x
  | _, _, n, .lst h g => by simp [nolist] at n
  | _, _, n, .tup h g => .tup (sqT_off e h) (dpAll_off e (by simpa [nolist] using n) g)
theorem dpAll_off {K : PySem.W.Frag} {H : Hp} {D : Addr} {ys : List V} (e : H D = some (.lst ys)) : ∀ {ds : List PyData} {vs : List V}, nolists ds = true → DpAll K H vs ds → DpAll K (hid [D] H) vs ds
  | _, _, _, .nil => .nil
  | _, _, n, .cons h g => by
    simp only [nolists, Bool.and_eq_true] at n
    exact .cons (dp_off e n.1 h) (dpAll_off e n.2 g)
end
section
variable {P : Program} {w : World} {K : PySem.W.Frag} {mg : Str → Option Value} {base : Heap} {f : Addr} {fd : FuncData}
def sp_lleast (K : PySem.W.Frag) (n : Nat) : Sp := fun vs H Q _ => ∃ (v : V) (d : PyData) (z : Str), vs = [v, .str z] ∧ Dp K H v d ∧ knownB d = true ∧ SeqAt.shaped d = true ∧ ddep d ≤ n + 1 ∧ dsize d ≤ 3000 ∧
  ∀ v' H', Same H H' → Dp K H' v' (lleast z d) → Q v' H'
theorem sc61 : FnScope ["pattern", "name", "found", "at", "part"] ["pattern", "name"] (defScope (top 61)) := ⟨rfl, rfl, rfl, by decide +kernel, rfl, by decide +kernel, by decide +kernel⟩
theorem nextRep_01 (es : List PyData) : nextRep es = 0 ∨ nextRep es = 1 := by
  unfold nextRep
  split
  · split <;> simp
  · simp
theorem ok_lleast (F : FnP K "_law_least" 61 f fd) (hm : mg "_law_least" = some (.ref f)) (mi : mg "isinstance" = none) (me : mg "enumerate" = none) (mint : BTy mg "int" "int") (mtu : BTy mg "tuple" "tuple") (n : Nat)
    (DN : ∀ m, m < n → Def P w K mg base (m + 1) "_law_least" (sp_lleast K m)) : Def P w K mg base (n + 1) "_law_least" (sp_lleast K n) := by
  refine Def.mk' F hm sc61 (fun vs H Q E h => ?_) (fun _ _ _ _ _ _ us hl => match us, hl with | [_, _], _ => rfl) (fun cdv A outer s H vs Q E hr tk h => ?_)
  · obtain ⟨v, d, z, rfl, _⟩ := h
    rfl
  · obtain ⟨v, d, z, rfl, hd, hk, hsh, hdp, hsz, q⟩ := h
    have nd := sc61.nd
    kt_ors
    refine i_ite (fun e => ?_) (fun e => ?_)
    · have dT : dTup d = false := by simpa using e
      have isi : isiD d "int" = some (dInt d) := rfl
      cases hd with
      | str s =>
        have hd := Dp.str (K := K) (H := H) s
        kt_ors
        refine i_ite (fun e1 => ?_) (fun e1 => ?_)
        · refine i_ift rfl ?_
          kt_ors
          have : s = "lit" := by simpa using e1
          exact q _ _ (Same.refl _) (by rw [lleast, if_pos this]; exact .str s)
        · kt_ors
          refine i_iff rfl ?_
          kt_ors
          have : s ≠ "lit" := by simpa using e1
          exact q _ _ (Same.refl _) (by rw [lleast, if_neg this]; exact .str z)
      | int i =>
        have hd := Dp.int (K := K) (H := H) i
        kt_ors
        refine i_iff rfl ?_
        kt_ors
        refine i_ift rfl ?_
        kt_ors
        exact q _ _ (Same.refl _) (.int i)
      | tup h g => simp [dTup] at dT
      | _ => simp [knownB] at hk
    · obtain ⟨ds, rfl⟩ := dTup_of (by simpa using e)
      obtain ⟨a, xs, rfl, ha, hxs⟩ := dp_tup hd
      have hlen := dpAll_len hxs
      have hdsz : dsizes ds + 1 ≤ 3000 := hsz
      have hdd : ddeps ds + 1 ≤ n + 1 := hdp
      have hks := knownBs_iff.mp (show knownBs ds = true from hk)
      have hdl := dsizes_len ds
      kt_ors
      refine ⟨by simp [sizeLine], fun p hp => ?_⟩
      have s0 : Same H (upd H p (.lst [])) := Same.new hp
      have hp0 : upd H p (.lst []) p = some (.lst []) := upd_same
      generalize upd H p (.lst []) = H0 at s0 hp0 ⊢
      show WP.WB _ _ _ _ _
      refine wb_cons ?_
      refine ws_forI (walk_enumT (K := K) (a := a) (xs := xs)) passes_bx rfl (pi_enumT (by rfl) me pa) (by k_memK) ?_ iEnumT_mono
      show WP.WA _ _ _ _ _
      kt_ors
      refine ⟨a, xs, rfl, s0.tup ha, rfl, fun i σ H' => ∃ acc r3 r4 es, σ = [some (.ref a), some (.str z), some (.ref p), r3, r4] ∧ Same H H' ∧ H' p = some (.lst acc) ∧ acc.length ≤ i ∧ DpAll K (hid [p] H') acc es ∧ es ++ lleasts z (ds.drop i) = lleasts z ds,
        ⟨[], _, _, [], rfl, s0, hp0, Nat.le_refl _, .nil, rfl⟩, fun i σ H' _ ⟨_, _, _, _, _, s, _⟩ => s.tup ha, ?_, ?_⟩
      · rintro i x' σ H1 H2 hi ⟨acc, r3, r4, es, rfl, s1, hp1, hal, hes, hacc⟩ ⟨T, y, rfl, hT1, rfl, hy⟩
        refine ⟨T, _, rfl, SqT.of upd_same, rfl, _, _, rfl, _, _, rfl, rfl, ?_⟩
        show WP.WB _ _ _ _ _
        have hil : i < ds.length := by omega
        have hdx : Dp K H y ds[i] := by
          obtain ⟨d, hd1, hd2⟩ := dpAll_atv hxs hy
          rw [List.getElem?_eq_getElem hil] at hd1
          cases hd1
          exact hd2
        have s2 : Same H1 (upd H1 T (.tup [.int (i : Nat), y])) := Same.new hT1
        generalize upd H1 T (.tup [.int (i : Nat), y]) = H2 at s2 ⊢
        have s02 := s1.trans s2
        have hp2 := s2 _ _ hp1
        have hes2 := dpAll_mono (same_hid (S := [p]) s2) hes
        have ed : ds.drop i = ds[i] :: ds.drop (i + 1) := List.drop_eq_getElem_cons hil
        have dm : ds[i] ∈ ds := List.getElem_mem hil
        rw [ed, lleasts] at hacc
        have skip : ¬ (isRep ds[i] = false ∧ nextRep (ds.drop (i + 1)) = 0) → ∀ (H3 : Hp) (σ3 : L2.St) (r3 r4 : Option V), Same H2 H3 → σ3 = [some (.ref a), some (.str z), some (.ref p), r3, r4] → ∃ acc r3 r4 es, σ3 = [some (.ref a), some (.str z), some (.ref p), r3, r4] ∧ Same H H3 ∧ H3 p = some (.lst acc) ∧ acc.length ≤ i + 1 ∧ DpAll K (hid [p] H3) acc es ∧ es ++ lleasts z (ds.drop (i + 1)) = lleasts z ds :=
          fun hn H3 σ3 r3 r4 s3 e3 => ⟨acc, r3, r4, es, e3, s02.trans s3, s3 _ _ hp2, by omega, dpAll_mono (same_hid s3) hes2, by rw [if_neg hn] at hacc; exact hacc⟩
        have mpos : ddep ds[i] ≤ n := by have := ddeps_le dm; omega
        obtain ⟨m, rfl⟩ : ∃ m, n = m + 1 := ⟨n - 1, by have := ddep_pos ds[i]; omega⟩
        have D := DN m (by omega)
        refine wb_one (ws_if ?_)
        kt_ors
        refine wt_cmp (op_neD hr.units) rfl ?_
        kt_ors
        refine ⟨_, .str "...", WP.dp_mono s02 hdx, .str _, shaped_mem hsh dm, shaped_rep, i_bl ?_⟩
        rw [eqv_rep]
        refine i_ite (fun e1 => ?_) (fun e1 => wb_nil (skip (fun h => by simp [h.1] at e1) _ _ _ _ (Same.refl _) rfl))
        have e1 : isRep ds[i] = false := by simpa using e1
        kt_ors
        refine wt_cmp (op_neD hr.units) rfl (we_slB sl_tupA ?_)
        kt_ors
        refine ⟨_, rfl, ?_⟩
        kt_ors
        refine ⟨_, rfl, i_sl (s02.tup ha) fun c5 H5 s5 h5 => ?_⟩
        rw [cutV_one] at h5
        have s05 := s02.trans s5
        kt_ors
        refine ⟨by simp [sizeLine], fun p6 hp6 => ?_⟩
        have s6 : Same H5 (upd H5 p6 (.tup [.str "..."])) := Same.new hp6
        have h6 : SqT K (upd H5 p6 (.tup [.str "..."])) p6 [.str "..."] := SqT.of upd_same
        generalize upd H5 p6 (.tup [.str "..."]) = H6 at s6 h6 ⊢
        have s06 := s05.trans s6
        have s26 := s5.trans s6
        refine ⟨_, _, .tup (s6.tup h5) (dpAll_mono s06 (dpAll_take 1 (dpAll_drop (i + 1) hxs))), dots_data h6, shaped_slice hsh _ _, shaped_dots, i_bl ?_⟩
        rw [slice_eq]
        refine i_ite (fun e2 => ?_) (fun e2 => wb_nil (skip (fun h => by simp [h.2] at e2) _ _ _ _ s26 rfl))
        have e2 : nextRep (ds.drop (i + 1)) = 0 := by
          rcases nextRep_01 (ds.drop (i + 1)) with h | h
          · exact h
          · simp [h] at e2
        rw [if_pos ⟨e1, e2⟩] at hacc
        have hp6' := s26 _ _ hp2
        kt_ors
        refine i_lstT hp6' ?_
        kt_ors
        refine ⟨_, ds[i], z, rfl, WP.dp_mono s06 hdx, hks _ dm, shaped_mem hsh dm, mpos, by have := dsizes_mem dm; omega, fun v7 H7 s7 h7 => ?_⟩
        have hp7 := s7 _ _ hp6'
        kt_ors
        refine i_append hp7 (by simp only [sizeLine]; omega) ?_
        kt_ors
        refine ⟨acc ++ [v7], _, _, es ++ [lleast z ds[i]], rfl, (s06.trans s7).mut hp, upd_same, by simp; omega, ?_, by rw [List.append_assoc]; exact hacc⟩
        rw [hid_upd_in (by simp)]
        exact dpAll_snoc (dpAll_mono (same_hid (s26.trans s7)) hes2) (dp_off hp7 (nolist_lleast _ (hks _ dm)) h7)
      · rintro σ H1 ⟨acc, r3, r4, es, rfl, s1, hp1, hal, hes, hacc⟩
        show WP.WB _ _ _ _ _
        have z2 : ds.drop xs.length = [] := List.drop_of_length_le (by omega)
        rw [z2] at hacc
        simp only [lleasts, List.append_nil] at hacc
        refine wb_one (ws_ret ?_)
        refine we_callTy call_tup (by rfl) (BTy.m mtu) boot_tuple ?_
        kt_ors
        refine i_tupL hp1 fun l1 hl1 => ?_
        refine q _ _ (s1.trans (Same.new hl1)) ?_
        rw [lleast, ← hacc]
        exact .tup (SqT.of upd_same) (dpAll_mono ((hid_same).trans (Same.new hl1)) hes)
theorem ok_lleast_all (F : FnP K "_law_least" 61 f fd) (hm : mg "_law_least" = some (.ref f)) (mi : mg "isinstance" = none) (me : mg "enumerate" = none) (mint : BTy mg "int" "int") (mtu : BTy mg "tuple" "tuple") :
    ∀ n, Def P w K mg base (n + 1) "_law_least" (sp_lleast K n) := by
  intro n
  induction n using Nat.strongRecOn with
  | _ n ih => exact ok_lleast F hm mi me mint mtu n ih
end
end
section
/-! ### the law's own judging of patterns, in plain words -/
def lawWord (s : Str) : Bool := decide (s = "_") || nameS s
mutual
def okL : PyData → Nat → Bool
  | .tuple ds, l => decide (ds.countP isRep ≤ 1) && decide (nextRep ds = 0) && okLs ds l && decide (l ≤ 3)
  | .str s, l => !decide (s = "...") && lawWord s && decide (l ≤ 3)
  | .int _, l => decide (l ≤ 3)
  | _, _ => false
def okLs : List PyData → Nat → Bool
  | [], _ => true
  | d :: ds, l => (isRep d || okL d (l + nextRep ds)) && okLs ds l
end
mutual
def namesL (L : List Str) : PyData → List Str
  | .str s => if s ∈ L ++ [("_" : Str)] then [] else [s]
  | .tuple ds => namesLs L ds
  | _ => []
def namesLs (L : List Str) : List PyData → List Str
  | [] => []
  | d :: ds => (if isRep d = true then [] else namesL L d) ++ namesLs L ds
end
def lawPat (L : List Str) (d : PyData) : Bool := okL d 0 && decide (namesL L d).Nodup
theorem onceS_in {acc : List Str} {x : Str} (h : x ∈ acc) : onceS acc x = acc := by
  unfold onceS
  rw [if_pos]
  simp [h]
theorem onceS_out {acc : List Str} {x : Str} (h : x ∉ acc) : onceS acc x = acc ++ [x] := by
  unfold onceS
  rw [if_neg]
  simp only [List.any_eq_true, beq_iff_eq, not_exists, not_and]
  exact fun y hy e => h (e ▸ hy)
theorem once_le : ∀ (xs acc : List Str), (xs.foldl onceS acc).length ≤ acc.length + xs.length
  | [], acc => Nat.le_refl _
  | x :: xs, acc => by
    have := once_le xs (onceS acc x)
    rw [onceS_len] at this
    simp only [List.foldl_cons, List.length_cons]
    split at this <;> omega
theorem once_iff : ∀ (xs acc : List Str), acc.Nodup → ((xs.foldl onceS acc).length = acc.length + xs.length ↔ (acc ++ xs).Nodup)
  | [], acc, h => by simp [h]
  | x :: xs, acc, h => by
    by_cases hx : x ∈ acc
    · rw [List.foldl_cons, onceS_in hx]
      have := once_le xs acc
      constructor
      · intro e
        simp only [List.length_cons] at e
        omega
      · intro e
        exact absurd rfl ((List.nodup_append.mp e).2.2 x hx x (by simp))
    · rw [List.foldl_cons, onceS_out hx]
      have hn : (acc ++ [x]).Nodup := by
        rw [List.nodup_append]
        refine ⟨h, by simp, fun a ha b hb => ?_⟩
        rw [List.mem_singleton.mp hb]
        exact fun e => hx (e ▸ ha)
      have ih := once_iff xs (acc ++ [x]) hn
      rw [List.append_assoc] at ih
      simp only [List.length_append, List.length_cons, List.length_nil] at ih ⊢
      rw [← show acc.length + (0 + 1) + xs.length = acc.length + (xs.length + 1) by omega]
      exact ih
theorem met_iff (xs : List Str) : decide (((metS xs xs.length).length : Int) = (xs.length : Int)) = decide xs.Nodup := by
  have e : metS xs xs.length = xs.foldl onceS [] := by simp [metS]
  have h := once_iff xs [] List.nodup_nil
  simp only [List.length_nil, Nat.zero_add, List.nil_append] at h
  rw [e]
  exact decide_eq_decide.mpr ⟨fun z => h.mp (by omega), fun z => by rw [h.mpr z]⟩
theorem filter_places {α β : Type} (q : α → Bool) (g : α → β) (d : α) : ∀ xs : List α, ((List.range xs.length).filter fun i => q (xs.getD i d)).map (fun i => g (xs.getD i d)) = (xs.filter q).map g := by
  intro xs
  induction xs with
  | nil => rfl
  | cons x xs ih =>
    have e : ((List.range xs.length).map Nat.succ).filter (fun i => q ((x :: xs).getD i d)) = ((List.range xs.length).filter fun i => q (xs.getD i d)).map Nat.succ := by
      rw [List.filter_map]
      rfl
    rw [List.length_cons, List.range_succ_eq_map, List.filter_cons, e]
    have e0 : (x :: xs).getD 0 d = x := rfl
    have e2 : ∀ ys : List Nat, (ys.map Nat.succ).map (fun i => g ((x :: xs).getD i d)) = ys.map fun i => g (xs.getD i d) := fun ys => by
      rw [List.map_map]
      rfl
    rw [e0, List.filter_cons]
    split
    · rw [List.map_cons, List.map_cons, e2, ih, e0]
    · rw [e2, ih]
section
variable {P : Program} {w : World} {K : PySem.W.Frag} {mg : Str → Option Value} {base : Heap} {f : Addr} {fd : FuncData}
def sp_lword : Sp := fun vs H Q _ => ∃ s : Str, vs = [.str s] ∧ s.length ≤ 1000 ∧ ∀ H', Same H H' → Q (.bl (lawWord s)) H'
theorem sc60 : FnScope ["word", "sign"] ["word"] (defScope (top 60)) := ⟨rfl, rfl, rfl, by decide +kernel, rfl, by decide +kernel, by decide +kernel⟩
theorem ok_lword (F : FnP K "_law_is_word" 60 f fd) (hm : mg "_law_is_word" = some (.ref f)) (ml : mg "len" = none) (ma : mg "all" = none) : Def P w K mg base 1 "_law_is_word" sp_lword := by
  refine Def.mk' F hm sc60 (fun vs H Q E h => ?_) (fun _ _ _ _ _ _ us hl => match us, hl with | [_], _ => rfl) (fun cdv A outer s H vs Q E hr tk h => ?_)
  · obtain ⟨z, rfl, _⟩ := h
    rfl
  · obtain ⟨z, rfl, hz', q⟩ := h
    have nd := sc60.nd
    kt_ors
    refine we_cmp op_eq rfl ?_
    kt_ors
    refine i_ite (fun e0 => ?_) (fun e0 => ?_)
    · exact fin_bl (q _ (Same.refl _)) (by have : z = "_" := by simpa using e0
                                           simp [lawWord, this])
    have e0 : decide (z = "_") = false := by simpa using e0
    kt_ors
    refine i_lenS (Nat.le_trans hz' (by decide)) ?_
    kt_ors
    refine i_ite (fun e1 => ?_) (fun e1 => ?_)
    · kt_ors
      refine i_ite (fun e2 => ?_) (fun e2 => ?_)
      · kt_ors
        refine we_callB (cr_all rfl) (by rfl) (by assumption) boot_all ?_
        kt_ors
        refine we_lc rfl rfl tk rfl nd (pi_str pe) (blkOk_by (N := ["word", "sign"]) (sc := defScope (top 60)) (own := [("sign", 1)]) (by decide +kernel)) (fun _ _ _ _ _ => by k_memK) ?_
        show WP.WE _ _ _ _ _
        kt_ors
        have hzl : z.cps.size ≤ 1000 := hz'
        refine ⟨z, rfl, fun D hD => lc_R (fun i _ v => v = .bl ((z.cps[i]?.map fun c => decide (c ∈ signs.cps.toList)).getD false)) stay_val walk_str (Nat.lt_of_le_of_lt hzl (by decide)) hD (fun _ _ => trivial) ?_ teW_mono gName_mono fun H1 acc s1 hl ha hR => ?_⟩
        · rintro i x H1 H2 hi s1 ⟨rfl, c, hc, rfl⟩
          refine ⟨rfl, fun s0 H0 C cl fp => ?_⟩
          refine we_cmp op_in_sign rfl ?_
          kt_ors
          exact ⟨c, signs, rfl, rfl, Same.refl _, by rw [hc]; rfl⟩
        · kt_ors
          have ea : acc = (z.cps.toList.map fun c => decide (c ∈ signs.cps.toList)).map V.bl := by
            apply List.ext_getElem?
            intro i
            by_cases hi : i < acc.length
            · rw [List.getElem?_eq_getElem hi, hR i _ (List.getElem?_eq_getElem hi)]
              have hi' : i < z.cps.size := by omega
              simp [hi']
            · rw [List.getElem?_eq_none (by omega), List.getElem?_eq_none (by simp; omega)]
          refine ⟨D, z.cps.toList.map fun c => decide (c ∈ signs.cps.toList), rfl, SqL.of (by rw [hl, ea]), ?_⟩
          refine fin_bl (q _ s1) ?_
          simp only [lawWord, nameS_eq, e0, e1, e2, Bool.true_and, Bool.false_or, List.all_map]
          rfl
      · kt_ors
        exact fin_bl (q _ (Same.refl _)) (by simp only [lawWord, nameS_eq, e0, e1, e2, Bool.true_and, Bool.false_and, Bool.false_or])
    · kt_ors
      refine i_iff rfl ?_
      exact fin_bl (q _ (Same.refl _)) (by simp only [lawWord, nameS_eq, e0, e1, Bool.false_and, Bool.false_or])
end
end
section
def oV : Option Str → V
  | some s => .str s
  | none => .non
def dE (e : En) : PyData := .tuple [e.d, .int (e.k : Int)]
structure EnZ (H H' : Hp) (e : En) : Prop where
  tu : H' e.a = some (.tup [e.v, .int (e.k : Int)])
  dz : Dz H e.v e.d
/-- small things, as == takes them -/
structure Tame (d : PyData) : Prop where
  can : d.canLay0 = true
  dep : d.depth ≤ 60
  sm : smallD d = true
theorem Tame.shaped {d : PyData} (t : Tame d) : SeqAt.shaped d = true := by
  unfold SeqAt.shaped
  rw [Bool.and_eq_true, decide_eq_true_eq]
  have := t.dep
  exact ⟨t.can, by omega⟩
theorem Tame.mem {ds : List PyData} {d : PyData} (t : Tame (.tuple ds)) (hd : d ∈ ds) : Tame d := by
  have e1 : (PyData.tuple ds).depth = PyData.depthAll ds + 1 := rfl
  have h1 := t.dep
  rw [e1] at h1
  exact ⟨canAll_iff.mp (show PyData.canLayAll0 ds = true from t.can) d hd, (depAll_iff.mp (show PyData.depthAll ds ≤ 60 by omega)) d hd, smallDs_mem (show smallDs ds = true from t.sm) hd⟩
theorem plainAll_of : ∀ {ds : List PyData}, (∀ d ∈ ds, d.canLay0 = true) → PyData.plainAll ds = true
  | [], _ => rfl
  | d :: ds, h => by simp [PyData.plainAll, PyData.plain_of_canLay0 d (h d (by simp)), plainAll_of fun x hx => h x (List.mem_cons_of_mem _ hx)]
theorem enZ_upd {H H' : Hp} {l : Addr} {xs ys : List V} {e : En} (h : EnZ H H' e) (hl : H' l = some (.lst xs)) : EnZ H (upd H' l (.lst ys)) e :=
  ⟨by rw [upd_ne (ne_of h.tu hl (fun z => nomatch z))]; exact h.tu, h.dz⟩
theorem enZ_same {H H' H2 : Hp} {e : En} (h : EnZ H H' e) (s : Same H' H2) : EnZ H H2 e := ⟨s _ _ h.tu, h.dz⟩
theorem dps_enZ {K : PySem.W.Frag} {H H' : Hp} (s : Same H H') : ∀ {es : List En}, (∀ e ∈ es, EnZ H H' e) → DpAll K H' (es.map fun e => V.ref e.a) (es.map dE)
  | [], _ => .nil
  | e :: es, h => .cons (.tup (SqT.of (h e (by simp)).tu) (.cons (WP.dp_mono s (h e (by simp)).dz.dp) (.cons (.int _) .nil))) (dps_enZ s fun x hx => h x (List.mem_cons_of_mem _ hx))
theorem shaped_es {es : List En} (h : ∀ e ∈ es, Tame e.d) : SeqAt.shaped (.list (es.map dE)) = true := by
  have e1 : (PyData.list (es.map dE)).depth = PyData.depthAll (es.map dE) + 1 := rfl
  have e2 : (PyData.list (es.map dE)).canLay0 = PyData.canLayAll0 (es.map dE) := rfl
  unfold SeqAt.shaped
  rw [Bool.and_eq_true, decide_eq_true_eq, e1, e2, canAll_iff]
  have h2 : PyData.depthAll (es.map dE) ≤ 62 := depAll_iff.mpr fun d hd => by
    obtain ⟨e, he, rfl⟩ := List.mem_map.mp hd
    have := (h e he).dep
    have e3 : (dE e).depth = PyData.depthAll [e.d, .int (e.k : Int)] + 1 := rfl
    have e4 : PyData.depthAll [e.d, .int (e.k : Int)] = max e.d.depth (max 0 0) := rfl
    rw [e3, e4]
    omega
  refine ⟨fun d hd => ?_, by omega⟩
  obtain ⟨e, he, rfl⟩ := List.mem_map.mp hd
  show PyData.canLayAll0 [e.d, .int (e.k : Int)] = true
  simp [PyData.canLayAll0, (h e he).can, PyData.canLay0]
/-- what is left to be judged -/
def restL (L : List Str) (es : List En) (nl : List (Option Str)) : Bool := (es.all fun e => okL e.d e.k) && decide ((nl.filterMap id ++ es.flatMap fun e => namesL L e.d).Nodup)
theorem restL_false {L : List Str} {es : List En} {en : En} {nl : List (Option Str)} (h : okL en.d en.k = false) : restL L (es ++ [en]) nl = false := by
  simp [restL, h]
theorem flatV_strs' (L : List Str) : ((L.map V.str).all flatV) = true := by
  rw [List.all_map]
  exact List.all_eq_true.mpr fun x _ => rfl
theorem some_texts (nl : List (Option Str)) : ((List.range nl.length).filter fun i => (nl.getD i none).isSome).map (fun i => oV (nl.getD i none)) = (nl.filterMap id).map V.str := by
  rw [filter_places (fun x => x.isSome) oV none nl]
  induction nl with
  | nil => rfl
  | cons x nl ih => cases x <;> simp [oV] at ih ⊢ <;> exact ih
theorem i_I0e {g : Int → Int → V} {i j : Int} {v : V} {H : Hp} {Q : VK} (e : g i j = v) (q : Q v H) : rI0 g (.int i) (.int j) H Q := ⟨i, j, rfl, rfl, by rw [e]; exact q⟩
theorem room65 {k : Nat} {A : Around} (r : Room k A) : A.units + 65 < cLine := by
  have := r.un
  omega
theorem restL_split {L : List Str} {es : List En} {en : En} {nl : List (Option Str)} : restL L (es ++ [en]) nl = (okL en.d en.k && ((es.all fun e => okL e.d e.k) && decide ((nl.filterMap id ++ namesL L en.d ++ es.flatMap fun e => namesL L e.d).Nodup))) := by
  have p : (nl.filterMap id ++ (es ++ [en]).flatMap fun e => namesL L e.d).Perm (nl.filterMap id ++ namesL L en.d ++ es.flatMap fun e => namesL L e.d) := by
    rw [List.flatMap_append, List.append_assoc]
    refine List.Perm.append_left _ ?_
    simpa using List.perm_append_comm
  have e : decide ((nl.filterMap id ++ (es ++ [en]).flatMap fun e => namesL L e.d).Nodup) = decide ((nl.filterMap id ++ namesL L en.d ++ es.flatMap fun e => namesL L e.d).Nodup) := decide_eq_decide.mpr p.nodup_iff
  rw [restL, e]
  simp only [List.all_append, List.all_cons, List.all_nil, Bool.and_true]
  cases okL en.d en.k <;> cases (es.all fun e => okL e.d e.k) <;> simp
theorem restL_more {L : List Str} {es news : List En} {ds : List PyData} {k : Nat} {nl : List (Option Str)} (h1 : (news.all fun e => okL e.d e.k) = okLs ds k) (h2 : (news.flatMap fun e => namesL L e.d) = namesLs L ds) :
    restL L (es ++ news) nl = (okLs ds k && ((es.all fun e => okL e.d e.k) && decide ((nl.filterMap id ++ namesLs L ds ++ es.flatMap fun e => namesL L e.d).Nodup))) := by
  have p : (nl.filterMap id ++ (es ++ news).flatMap fun e => namesL L e.d).Perm (nl.filterMap id ++ namesLs L ds ++ es.flatMap fun e => namesL L e.d) := by
    rw [List.flatMap_append, List.append_assoc, h2]
    exact List.Perm.append_left _ List.perm_append_comm
  have e : decide ((nl.filterMap id ++ (es ++ news).flatMap fun e => namesL L e.d).Nodup) = decide ((nl.filterMap id ++ namesLs L ds ++ es.flatMap fun e => namesL L e.d).Nodup) := decide_eq_decide.mpr p.nodup_iff
  rw [restL, e, List.all_append, h1]
  cases okLs ds k <;> cases (es.all fun e => okL e.d e.k) <;> simp
theorem dz_tup {H : Hp} {v : V} {ds : List PyData} (h : Dz H v (.tuple ds)) : ∃ a o xs, v = .ref a ∧ H a = some (.frz o (.tup xs)) ∧ Pl o ∧ DzAll H xs ds := by
  cases h with
  | tup h p g => exact ⟨_, _, _, rfl, h, p, g⟩
section
variable {P : Program} {w : World} {K : PySem.W.Frag} {mg : Str → Option Value} {base : Heap} {f : Addr} {fd : FuncData}
def sp_lpat (K : PySem.W.Frag) (L : List Str) : Sp := fun vs H Q _ => ∃ lv v d, vs = [lv, v] ∧ Dp K H lv (.tuple (L.map .str)) ∧ L.length ≤ 100 ∧ Dz H v d ∧ Tame d ∧ dsize d ≤ 900 ∧ ∀ H', Same H H' → Q (.bl (lawPat L d)) H'
theorem sc59 : FnScope ["literals", "thing", "waiting", "names_here", "part", "level", "at", "one", "name"] ["literals", "thing"] (defScope (top 59)) := ⟨rfl, rfl, rfl, by decide +kernel, rfl, by decide +kernel, by decide +kernel⟩
end
end
section
section
variable {P : Program} {w : World} {K : PySem.W.Frag} {mg : Str → Option Value} {base : Heap} {f : Addr} {fd : FuncData}
theorem ok_lpat (L : List Str) (F : FnP K "_law_is_pattern" 59 f fd) (hm : mg "_law_is_pattern" = some (.ref f)) (mi : mg "isinstance" = none) (me : mg "enumerate" = none) (ml : mg "len" = none) (ms : mg "set" = none)
    (mint : BTy mg "int" "int") (mtu : BTy mg "tuple" "tuple") (mstr : BTy mg "str" "str") (mbo : BTy mg "bool" "bool") (DW : Def P w K mg base 1 "_law_is_word" sp_lword) : Def P w K mg base 2 "_law_is_pattern" (sp_lpat K L) := by
  refine Def.mk' F hm sc59 (fun vs H Q E h => ?_) (fun _ _ _ _ _ _ us hl => match us, hl with | [_, _], _ => rfl) (fun cdv A outer s H vs Q E hr tk h => ?_)
  · obtain ⟨lv, v, d, rfl, _⟩ := h
    rfl
  · obtain ⟨lv, v, d, rfl, hL, hLl, hd, hT, hsz, q⟩ := h
    have nd := sc59.nd
    refine wb_cons (ws_par 2 3 rfl nd rfl rfl (by decide) rfl rfl (by rfl) ?_)
    kt_ors
    refine ⟨by simp [sizeLine], fun p hp => ?_⟩
    kt_ors
    refine ⟨by simp [sizeLine], fun l hl => ?_⟩
    kt_ors
    refine ⟨by simp [sizeLine], fun m hm => ?_⟩
    have hl0 : H l = none := none_of_same (Same.new hp) hl
    have hm0 : H m = none := none_of_same ((Same.new hp).trans (Same.new hl)) hm
    have lm : m ≠ l := fun z => by rw [z, upd_same] at hm; cases hm
    have hpA := (Same.new (o := .lst []) hm) _ _ ((Same.new (o := .lst [.ref p]) hl) _ _ (upd_same (H := H) (a := p) (o := .tup [v, .int 0])))
    have hlA := (Same.new (o := .lst []) hm) _ _ (upd_same (H := upd H p (.tup [v, .int 0])) (a := l) (o := .lst [.ref p]))
    have hmA : upd (upd (upd H p (.tup [v, .int 0])) l (.lst [.ref p])) m (.lst []) m = some (.lst []) := upd_same
    have sA : Same H (upd (upd (upd H p (.tup [v, .int 0])) l (.lst [.ref p])) m (.lst [])) := ((Same.new hp).trans (Same.new hl)).trans (Same.new hm)
    generalize upd (upd (upd H p (.tup [v, .int 0])) l (.lst [.ref p])) m (.lst []) = HA at hpA hlA hmA sA ⊢
    show WP.WB _ _ _ _ _
    refine wb_cut (fun σ' H' => ∃ (nl : List (Option Str)) (r4 r5 r6 r7 : Option V), σ' = [some lv, some v, some (.ref l), some (.ref m), r4, r5, r6, r7, none] ∧ Same H H' ∧ H' m = some (.lst (nl.map oV)) ∧ nl.length ≤ 900 ∧ lawPat L d = decide (nl.filterMap id).Nodup) ?_ ?_
    · refine ws_whileW passes_bx (fun z σ H' => ∃ (es : List En) (nl : List (Option Str)) (r4 r5 r6 r7 : Option V), σ = [some lv, some v, some (.ref l), some (.ref m), r4, r5, r6, r7, none] ∧ Same H H' ∧ H' l = some (.lst (es.map fun e => V.ref e.a)) ∧ H' m = some (.lst (nl.map oV)) ∧
        (∀ e ∈ es, EnZ H H' e ∧ Tame e.d) ∧ nl.length + esz es ≤ 900 ∧ z = esz es ∧ lawPat L d = restL L es nl) ?_ ?_
      · refine ⟨_, [⟨p, v, d, 0⟩], [], none, none, none, none, rfl, sA, hlA, hmA, ?_, ?_, rfl, ?_⟩
        · intro e he
          rw [List.mem_singleton.mp he]
          exact ⟨⟨hpA, hd⟩, hT⟩
        · show 0 + (dsize d + 0) ≤ 900
          omega
        · simp [restL, lawPat]
      · rintro z σ H1 ⟨es, nl, r4, r5, r6', r7', rfl, s1, hl1, hm1, hes, hz1, rfl, heq⟩
        kt_ors
        refine wt_cmp (op_neD hr.units) rfl ?_
        kt_ors
        refine ⟨by simp [sizeLine], fun p2 hp2 => ?_⟩
        have s2 : Same H1 (upd H1 p2 (.lst [])) := Same.new hp2
        have hpe : upd H1 p2 (.lst []) p2 = some (.lst []) := upd_same
        generalize upd H1 p2 (.lst []) = H2 at s2 hpe ⊢
        have s02 := s1.trans s2
        have hl2 := s2 _ _ hl1
        have hm2 := s2 _ _ hm1
        have hes2 : ∀ e ∈ es, EnZ H H2 e ∧ Tame e.d := fun e he => ⟨enZ_same (hes e he).1 s2, (hes e he).2⟩
        refine ⟨.list (es.map dE), .list [], .lst (SqL.of hl2) (dps_enZ s02 fun e he => (hes2 e he).1), .lst (SqL.of hpe) .nil, shaped_es fun e he => (hes2 e he).2, rfl, i_bl ?_⟩
        rw [eqv_nil]
        refine i_ite (fun e => ?_) (fun e => ?_)
        · obtain ⟨es', en, rfl⟩ : ∃ es' en, es = es' ++ [en] := by
            rcases List.eq_nil_or_concat es with rfl | ⟨es', en, h⟩
            · simp at e
            · exact ⟨es', en, by simpa using h⟩
          have hen := hes2 en (by simp)
          have hl2' : H2 l = some (.lst ((es'.map fun e => V.ref e.a) ++ [V.ref en.a])) := by rw [hl2]; simp
          kt_ors
          refine i_lstT hl2' (i_pop hl2' ?_)
          have s3 : Same H (upd H2 l (.lst (es'.map fun e => V.ref e.a))) := s02.mut hl0
          have hl3 : upd H2 l (.lst (es'.map fun e => V.ref e.a)) l = some (.lst (es'.map fun e => V.ref e.a)) := upd_same
          have hm3 : upd H2 l (.lst (es'.map fun e => V.ref e.a)) m = some (.lst (nl.map oV)) := by rw [upd_ne lm]; exact hm2
          have hes3 : ∀ e ∈ es', EnZ H (upd H2 l (.lst (es'.map fun e => V.ref e.a))) e ∧ Tame e.d := fun e he => ⟨enZ_upd (hes2 e (by simp [he])).1 hl2, (hes2 e (by simp [he])).2⟩
          have ten := (enZ_upd (ys := es'.map fun e => V.ref e.a) hen.1 hl2).tu
          have dz0 := hen.1.dz
          have tam := hen.2
          have hz3 : esz (es' ++ [en]) = esz es' + dsize en.d := by rw [esz_append]; simp [esz]
          rw [hz3] at hz1 ⊢
          have dpos := dsize_pos en.d
          generalize upd H2 l (.lst (es'.map fun e => V.ref e.a)) = H3 at s3 hl3 hm3 hes3 ten ⊢
          refine i_two (SqT.of ten) ?_
          show WP.WB _ _ _ _ _
          have dp3 : Dp K H3 en.v en.d := WP.dp_mono s3 dz0.dp
          have dz3 := dz0.mono s3
          have no : okL en.d en.k = false → ∀ H', Same H H' → Q (.bl false) H' := fun h H' s' => fin_bl (q _ s') (by rw [heq, restL_false h])
          refine wb_cut (fun σ' H' => ∃ (es2 : List En) (nl2 : List (Option Str)) (r6 r7 : Option V), σ' = [some lv, some v, some (.ref l), some (.ref m), some en.v, some (.int (en.k : Int)), r6, r7, none] ∧ Same H H' ∧ H' l = some (.lst (es2.map fun e => V.ref e.a)) ∧ H' m = some (.lst (nl2.map oV)) ∧
            (∀ e ∈ es2, EnZ H H' e ∧ Tame e.d) ∧ nl2.length + esz es2 ≤ 900 ∧ esz es2 < esz es' + dsize en.d ∧ lawPat L d = (decide (en.k ≤ 3) && restL L es2 nl2)) ?_ ?_
          · refine ws_if ?_
            kt_ors
            refine i_ite (fun e1 => ?_) (fun e1 => ?_)
            · obtain ⟨ds, hds⟩ := dTup_of e1
              rw [hds] at dz0 tam dpos no
              obtain ⟨a, o, xs, eva, hx0, pl, hxs0⟩ := dz_tup dz0
              have hx := s3 _ _ hx0
              have hxs := hxs0.mono s3
              rw [eva] at ten dp3 ⊢
              have hlen := hxs.len
              have dsz : dsize en.d = dsizes ds + 1 := by rw [hds]; rfl
              refine wb_cons (ws_if ?_)
              kt_ors
              refine we_tcount (room65 hr) ?_
              kt_ors
              refine ⟨⟨a, o, xs, rfl, hx, pl⟩, ?_⟩
              kt_ors
              refine ⟨a, xs, .str "...", .str "...", ds, rfl, rfl, sqT_frz hx, hxs.dp, .str _, plainAll_of fun d hd => (tam.mem hd).can, rfl, by decide, ?_⟩
              have ec : (ds.countP fun z => PyData.eqv z (.str "...")) = ds.countP isRep := List.countP_congr fun z _ => by rw [eqv_rep]
              rw [ec]
              kt_ors
              refine i_ite (fun e3 => ?_) (fun e3 => ?_)
              · refine i_ift rfl ?_
                kt_ors
                have : ¬ ds.countP isRep ≤ 1 := by
                  have := of_decide_eq_true e3
                  omega
                exact no (by simp [okL, this]) _ s3
              have c1 : ds.countP isRep ≤ 1 := by
                have := of_decide_eq_false e3
                omega
              keq_hits
              refine wt_cmp (op_eqD hr.units) rfl (we_slH sl_tupA ?_)
              kt_ors
              refine ⟨_, rfl, i_sl (sqT_frz hx) fun c5 H5 s5 h5 => ?_⟩
              rw [show cutV xs none (some (1 : Int)) = xs.take 1 from cutV_take xs 1] at h5
              have s05 := s3.trans s5
              kt_ors
              refine ⟨by simp [sizeLine], fun p6 hp6 => ?_⟩
              have s6 : Same H5 (upd H5 p6 (.tup [.str "..."])) := Same.new hp6
              have h6 : SqT K (upd H5 p6 (.tup [.str "..."])) p6 [.str "..."] := SqT.of upd_same
              generalize upd H5 p6 (.tup [.str "..."]) = H6 at s6 h6 ⊢
              have s36 := s5.trans s6
              have s06 := s3.trans s36
              refine ⟨_, _, .tup (s6.tup h5) (dpAll_mono s36 (dpAll_take 1 hxs.dp)), dots_data h6, shaped_sub tam.shaped fun d hd => List.mem_of_mem_take hd, shaped_dots, ?_⟩
              rw [slice_eq]
              refine i_bl ?_
              refine i_ite (fun e4 => ?_) (fun e4 => ?_)
              · kt_ors
                have : nextRep ds = 1 := of_decide_eq_true e4
                exact no (by simp [okL, this]) _ s06
              have c2 : nextRep ds = 0 := by
                rcases nextRep_01 ds with h | h
                · exact h
                · simp [h] at e4
              have ok1 : okL en.d en.k = (okLs ds en.k && decide (en.k ≤ 3)) := by rw [hds]; simp [okL, c1, c2]
              kt_ors
              refine ws_forI (walk_enumT (K := K) (a := a) (xs := xs)) passes_bx rfl (pi_enumT (by rfl) me pa) (by k_memK) ?_ iEnumT_mono
              show WP.WA _ _ _ _ _
              kt_ors
              refine ⟨a, xs, rfl, sqT_frz (s06 _ _ hx0), rfl, fun i σ H' => ∃ (news : List En) (r6 r7 : Option V), σ = [some lv, some v, some (.ref l), some (.ref m), some (.ref a), some (.int (en.k : Int)), r6, r7, none] ∧ Same H H' ∧ H' l = some (.lst ((es' ++ news).map fun e => V.ref e.a)) ∧ H' m = some (.lst (nl.map oV)) ∧
                (∀ e ∈ es' ++ news, EnZ H H' e ∧ Tame e.d) ∧ esz news + dsizes (ds.drop i) ≤ dsizes ds ∧ ((news.all fun e => okL e.d e.k) && okLs (ds.drop i) en.k) = okLs ds en.k ∧ (news.flatMap fun e => namesL L e.d) ++ namesLs L (ds.drop i) = namesLs L ds, ?_, fun i σ H' _ ⟨_, _, _, _, s, _⟩ => sqT_frz (s _ _ hx0), ?_, ?_⟩
              · exact ⟨[], _, _, rfl, s06, by rw [List.append_nil]; exact s36 _ _ hl3, s36 _ _ hm3, fun e he => ⟨enZ_same (hes3 e (by simpa using he)).1 s36, (hes3 e (by simpa using he)).2⟩, by simp [esz], by simp, by simp⟩
              · rintro i x' σ H7 H8 hi ⟨news, r6, r7, rfl, s7, hl7, hm7, hes7, hz7, hok7, hnm7⟩ ⟨T, y, rfl, hT1, rfl, hy⟩
                refine ⟨T, _, rfl, SqT.of upd_same, rfl, _, _, rfl, _, _, rfl, rfl, ?_⟩
                show WP.WB _ _ _ _ _
                have hil : i < ds.length := by omega
                have hdx : Dz H y ds[i] := by
                  obtain ⟨d', hd1, hd2⟩ := hxs0.at hy
                  rw [List.getElem?_eq_getElem hil] at hd1
                  cases hd1
                  exact hd2
                have s8 : Same H7 (upd H7 T (.tup [.int (i : Nat), y])) := Same.new hT1
                generalize upd H7 T (.tup [.int (i : Nat), y]) = H8 at s8 ⊢
                have s08 := s7.trans s8
                have hl8 := s8 _ _ hl7
                have hm8 := s8 _ _ hm7
                have ed : ds.drop i = ds[i] :: ds.drop (i + 1) := List.drop_eq_getElem_cons hil
                have dm : ds[i] ∈ ds := List.getElem_mem hil
                have tmi := tam.mem dm
                rw [ed, dsizes] at hz7
                rw [ed, okLs] at hok7
                rw [ed, namesLs] at hnm7
                refine wb_one (ws_if ?_)
                keq_hits
                refine wt_cmp (op_neD hr.units) rfl ?_
                keq_hits
                refine ⟨_, .str "...", WP.dp_mono s08 hdx.dp, .str _, tmi.shaped, shaped_rep, i_bl ?_⟩
                rw [eqv_rep]
                refine i_ite (fun e5 => ?_) (fun e5 => ?_)
                · have e5 : isRep ds[i] = false := by simpa using e5
                  rw [e5] at hok7 hnm7
                  keq_hits
                  refine i_lstT hl8 ?_
                  keq_hits
                  refine we_op op_add ?_
                  keq_hits
                  refine we_callTy call_int1 (by rfl) mint.m mint.b (wa_cons ?_)
                  refine we_cmp (op_eqD hr.units) rfl (we_slB sl_tupA ?_)
                  keq_hits
                  refine we_op op_add ?_
                  keq_hits
                  refine ⟨_, rfl, we_op op_add ?_⟩
                  keq_hits
                  refine ⟨_, rfl, i_sl (sqT_frz (s08 _ _ hx0)) fun c9 H9 s9 h9 => ?_⟩
                  rw [cutV_one] at h9
                  have s09 := s08.trans s9
                  keq_hits
                  refine ⟨by simp [sizeLine], fun p10 hp10 => ?_⟩
                  have s10 : Same H9 (upd H9 p10 (.tup [.str "..."])) := Same.new hp10
                  have h10 : SqT K (upd H9 p10 (.tup [.str "..."])) p10 [.str "..."] := SqT.of upd_same
                  generalize upd H9 p10 (.tup [.str "..."]) = H10 at s10 h10 ⊢
                  have s010 := s09.trans s10
                  have s810 := s9.trans s10
                  refine ⟨_, _, .tup (s10.tup h9) (dpAll_mono s010 (dpAll_take 1 (dpAll_drop (i + 1) hxs0.dp))), dots_data h10, shaped_slice tam.shaped _ _, shaped_dots, ?_⟩
                  rw [slice_eq]
                  refine wa_nil (.inr ⟨_, rfl, ?_⟩)
                  have el : ((en.k : Int) + if decide (nextRep (ds.drop (i + 1)) = 1) = true then 1 else 0) = ((en.k + nextRep (ds.drop (i + 1)) : Nat) : Int) := by
                    rcases nextRep_01 (ds.drop (i + 1)) with h | h <;> rw [h] <;> simp
                  refine i_I0e (congrArg V.int el) ?_
                  keq_hits
                  refine ⟨by simp [sizeLine], fun p11 hp11 => ?_⟩
                  have s11 : Same H10 (upd H10 p11 (.tup [y, .int ((en.k + nextRep (ds.drop (i + 1)) : Nat) : Int)])) := Same.new hp11
                  have h11 : upd H10 p11 (.tup [y, .int ((en.k + nextRep (ds.drop (i + 1)) : Nat) : Int)]) p11 = some (.tup [y, .int ((en.k + nextRep (ds.drop (i + 1)) : Nat) : Int)]) := upd_same
                  generalize upd H10 p11 (.tup [y, .int ((en.k + nextRep (ds.drop (i + 1)) : Nat) : Int)]) = H11 at s11 h11 ⊢
                  have s811 := s810.trans s11
                  have s011 := s010.trans s11
                  have hl11 := s811 _ _ hl8
                  have hm11 := s811 _ _ hm8
                  have lns := esz_len (es' ++ news)
                  rw [esz_append] at lns
                  refine wa_nil (i_append hl11 (by simp only [List.length_map, sizeLine]; omega) ?_)
                  refine wb_nil ⟨news ++ [⟨p11, y, ds[i], en.k + nextRep (ds.drop (i + 1))⟩], _, _, rfl, s011.mut hl0, by rw [upd_same]; simp, by rw [upd_ne lm]; exact hm11, fun e he => ?_, by rw [esz_append]; simp only [esz, List.map_cons, List.map_nil, List.sum_cons, List.sum_nil] at hz7 ⊢; omega, ?_, ?_⟩
                  · rw [← List.append_assoc] at he
                    rcases List.mem_append.mp he with he | he
                    · exact ⟨enZ_upd (enZ_same (hes7 e he).1 (s8.trans s811)) hl11, (hes7 e he).2⟩
                    · rw [List.mem_singleton.mp he]
                      exact ⟨enZ_upd ⟨h11, hdx⟩ hl11, tmi⟩
                  · rw [← hok7]
                    simp [Bool.and_assoc]
                  · rw [← hnm7]
                    simp
                · have e5 : isRep ds[i] = true := by simpa using e5
                  rw [e5] at hok7 hnm7
                  exact wb_nil ⟨news, _, _, rfl, s08, hl8, hm8, fun e he => ⟨enZ_same (hes7 e he).1 s8, (hes7 e he).2⟩, by omega, by simpa using hok7, by simpa using hnm7⟩
              · rintro σ H7 ⟨news, r6, r7, rfl, s7, hl7, hm7, hes7, hz7, hok7, hnm7⟩
                have z2 : ds.drop xs.length = [] := List.drop_of_length_le (by omega)
                rw [z2] at hz7 hok7 hnm7
                simp only [okLs, namesLs, Bool.and_true, List.append_nil, dsizes, Nat.add_zero] at hz7 hok7 hnm7
                refine wb_nil ⟨es' ++ news, nl, _, _, rfl, s7, hl7, hm7, hes7, by rw [esz_append]; omega, by rw [esz_append]; omega, ?_⟩
                rw [heq, restL_split, ok1, restL_more hok7 hnm7, hds]
                cases okLs ds en.k <;> cases decide (en.k ≤ 3) <;> simp [namesL]
            · kt_ors
              have nT : dTup en.d = false := e1
              refine i_ite (fun e2 => ?_) (fun e2 => ?_)
              · obtain ⟨s, hs⟩ := dStr_of e2
                rw [hs] at dp3 no
                have ev := dp_str dp3
                rw [ev]
                have sl : s.length ≤ 1000 := by
                  have := tam.sm
                  rw [hs] at this
                  simpa [smallD] using this
                kt_ors
                refine i_ite (fun e3 => ?_) (fun e3 => ?_)
                · kt_ors
                  refine i_ift rfl ?_
                  kt_ors
                  have : s = "..." := by simpa using e3
                  exact no (by simp [okL, this]) _ s3
                · kt_ors
                  refine ⟨s, rfl, sl, fun H4 s4 => ?_⟩
                  keq_hits
                  have hm4 := s4 _ _ hm3
                  have hl4 := s4 _ _ hl3
                  have s34 := s3.trans s4
                  have hLd := WP.dp_mono s34 hL
                  obtain ⟨la, lxs, rfl, hla, hlxs⟩ := dp_tup hLd
                  have elx := dps_strs hlxs
                  have sdots : s ≠ "..." := by simpa using e3
                  refine i_ite (fun e4 => ?_) (fun e4 => ?_)
                  · keq_hits
                    exact no (by have : lawWord s = false := by simpa using e4
                                 simp [okL, this]) _ s34
                  · have ew : lawWord s = true := by simpa using e4
                    keq_hits
                    refine i_lstT hm4 ?_
                    keq_hits
                    refine wt_cmp op_notIn_seq rfl ?_
                    keq_hits
                    refine we_op op_catA ?_
                    keq_hits
                    refine ⟨by simp [sizeLine], fun p5 hp5 => ?_⟩
                    have s5 : Same H4 (upd H4 p5 (.tup [.str "_"])) := Same.new hp5
                    have h5 : SqT K (upd H4 p5 (.tup [.str "_"])) p5 [.str "_"] := SqT.of upd_same
                    generalize upd H4 p5 (.tup [.str "_"]) = H5 at s5 h5 ⊢
                    refine i_cat (s5.tup hla) h5 (by rw [elx]; simp [sizeLine]; omega) fun p6 H6 s6 h6 => ?_
                    have s46 := s5.trans s6
                    have e6 : lxs ++ [V.str "_"] = (L ++ [("_" : Str)]).map V.str := by rw [elx]; simp
                    rw [e6] at h6
                    refine ⟨p6, _, rfl, .inr h6, rfl, flatV_strs' _, i_bl ?_⟩
                    have hm6 := s46 _ _ hm4
                    have hl6 := s46 _ _ hl4
                    have s36 := s34.trans s46
                    have ok1 : okL en.d en.k = decide (en.k ≤ 3) := by rw [hs]; simp [okL, sdots, ew]
                    have fin : ∀ x : Option Str, x = (if s ∈ L ++ [("_" : Str)] then none else some s) → ∃ (es2 : List En) (nl2 : List (Option Str)) (r6 r7 : Option V), [some (V.ref la), some v, some (.ref l), some (.ref m), some (V.str s), some (.int (en.k : Int)), r6', r7', none] = [some (V.ref la), some v, some (.ref l), some (.ref m), some (V.str s), some (.int (en.k : Int)), r6, r7, none] ∧ Same H (upd H6 m (.lst (nl.map oV ++ [oV x]))) ∧ upd H6 m (.lst (nl.map oV ++ [oV x])) l = some (.lst (es2.map fun e => V.ref e.a)) ∧ upd H6 m (.lst (nl.map oV ++ [oV x])) m = some (.lst (nl2.map oV)) ∧
                        (∀ e ∈ es2, EnZ H (upd H6 m (.lst (nl.map oV ++ [oV x]))) e ∧ Tame e.d) ∧ nl2.length + esz es2 ≤ 900 ∧ esz es2 < esz es' + dsize en.d ∧ lawPat L d = (decide (en.k ≤ 3) && restL L es2 nl2) := fun x hx => by
                      refine ⟨es', nl ++ [x], r6', r7', rfl, s36.mut hm0, by rw [upd_ne (Ne.symm lm)]; exact hl6, by rw [upd_same]; simp, fun e he => ⟨enZ_upd (enZ_same (hes3 e he).1 (s4.trans s46)) hm6, (hes3 e he).2⟩, by rw [List.length_append]; simp only [List.length_cons, List.length_nil]; omega, by omega, ?_⟩
                      rw [heq, restL_split, ok1, restL, hs]
                      have en1 : (nl ++ [x]).filterMap id = nl.filterMap id ++ namesL L (.str s) := by
                        rw [List.filterMap_append, namesL, hx]
                        split <;> simp
                      rw [en1]
                    rw [inV_strs]
                    by_cases hin : s ∈ L ++ [("_" : Str)]
                    · refine i_iff (by simp [hin]) ?_
                      keq_hits
                      refine i_append hm6 (by simp only [List.length_map, sizeLine]; omega) ?_
                      keq_hits
                      exact fin none (by rw [if_pos hin])
                    · refine i_ift (by simp [hin]) ?_
                      keq_hits
                      refine i_append hm6 (by simp only [List.length_map, sizeLine]; omega) ?_
                      keq_hits
                      exact fin (some s) (by rw [if_neg hin])
              · kt_ors
                have nS : dStr en.d = false := e2
                refine i_ite (fun e3 => ?_) (fun e3 => ?_)
                · refine i_ift rfl ?_
                  kt_ors
                  refine no ?_ _ s3
                  have e3 : dInt en.d = false := by simpa using e3
                  generalize en.d = dd at e3 nT nS ⊢
                  cases dd <;> first | rfl | (simp [dTup] at nT; done) | (simp [dStr] at nS; done) | (simp [dInt] at e3; done)
                · have e3 : dInt en.d = true := by simpa using e3
                  kt_ors
                  refine i_ite (fun e4 => ?_) (fun e4 => ?_)
                  · kt_ors
                    refine no ?_ _ s3
                    have e4 : dBool en.d = true := e4
                    generalize en.d = dd at e4 ⊢
                    cases dd <;> first | rfl | (simp [dBool] at e4; done)
                  · have e4 : dBool en.d = false := e4
                    have ok1 : okL en.d en.k = decide (en.k ≤ 3) := by
                      generalize en.d = dd at e3 e4 ⊢
                      cases dd <;> first | rfl | (simp [dBool] at e4; done) | (simp [dInt] at e3; done)
                    have nm1 : namesL L en.d = [] := by
                      generalize en.d = dd at e3 e4 ⊢
                      cases dd <;> first | rfl | (simp [dBool] at e4; done) | (simp [dInt] at e3; done)
                    kt_ors
                    refine ⟨es', nl, _, _, rfl, s3, hl3, hm3, hes3, by omega, by omega, ?_⟩
                    rw [heq, restL_split, ok1, nm1, List.append_nil, restL]
          · rintro σ' H4 ⟨es2, nl2, r6, r7, rfl, s4, hl4, hm4, hes4, hz4, hlt, heq4⟩
            kt_ors
            refine i_ite (fun e1 => ?_) (fun e1 => ?_)
            · kt_ors
              have : decide (en.k ≤ 3) = false := by
                have := of_decide_eq_true e1
                exact decide_eq_false (by omega)
              exact fin_bl (q _ s4) (by rw [heq4, this] <;> rfl)
            · kt_ors
              have : decide (en.k ≤ 3) = true := by
                have := of_decide_eq_false e1
                exact decide_eq_true (by omega)
              exact ⟨_, hlt, es2, nl2, _, _, _, _, rfl, s4, hl4, hm4, hes4, hz4, rfl, by rw [heq4, this, Bool.true_and]⟩
        · have : es = [] := by simpa using e
          subst this
          exact ⟨nl, r4, r5, r6', r7', rfl, s02, hm2, by omega, by rw [heq]; simp [restL]⟩
    · rintro σ' H1 ⟨nl, r4, r5, r6, r7, rfl, s1, hm1, hn1, heq⟩
      refine wb_cons ?_
      refine ws_lcI 3 [("name", 8)] rfl nd rfl rfl rfl rfl rfl (pi_list pe) (blkOk_by (N := ["literals", "thing", "waiting", "names_here", "part", "level", "at", "one", "name"]) (sc := defScope (top 59)) (own := [("name", 8)]) (by decide +kernel)) (fun _ _ _ _ _ => by k_memK) ?_
      show WP.WE _ _ _ _ _
      kt_ors
      refine ⟨m, rfl, ⟨_, SqL.of hm1⟩, fun D hD => lc_F (fun i => (nl.getD i none).isSome) (fun i => oV (nl.getD i none)) walk_list (by rw [List.length_map]; show _ < 16777216; omega) hD (fun H s => SqL.of (s _ _ hm1)) ?_ teC_mono ttC_mono gName_mono fun H4 s4 hl4 => ?_⟩
      · rintro i x H5 H6 hi s5 ⟨rfl, ex⟩
        have hin : i < nl.length := by simpa using hi
        have exx : x = oV (nl.getD i none) := by
          rw [List.getElem?_map, List.getElem?_eq_getElem hin] at ex
          simp [List.getD, hin] at ex ⊢
          exact ex.symm
        refine ⟨rfl, fun s0 H0 C0 cl0 fp => ?_⟩
        kt_ors
        refine ⟨Same.refl _, by rw [exx]; cases nl.getD i none <;> rfl, fun hb s0 H0 C0 cl0 fp => ?_⟩
        kt_ors
        exact ⟨Same.refl _, exx⟩
      · have hl4 : H4 D = some (.lst ((nl.filterMap id).map V.str)) := by rw [hl4, List.length_map, some_texts]
        show WP.WB _ _ _ _ _
        refine wb_one (ws_ret (we_cmp op_eq rfl ?_))
        refine we_lenSet rfl (by rfl) (by assumption) (by rfl) (by assumption) ?_
        have lle : (nl.filterMap id).length ≤ nl.length := List.length_filterMap_le _ _
        kt_ors
        refine ⟨D, _, rfl, SqL.of hl4, by omega, ?_⟩
        kt_ors
        refine fin_bl (q _ (s1.trans s4)) ?_
        rw [heq, ← met_iff, List.length_map]
        exact decide_eq_decide.mpr ⟨fun z => V.int.inj z, fun z => congrArg V.int z⟩
end
end
section
/-! ### rows of parts, plainly -/
theorem isRep_eq {d : PyData} (h : isRep d = true) : d = .str "..." := by
  cases d with
  | str s => simp [isRep] at h; rw [h]
  | _ => simp [isRep] at h
theorem spots_eq (ds : List PyData) : spots ds = (List.range ds.length).filter fun i => isRep (ds.getD i .none) := by
  unfold spots
  refine List.filter_congr fun i hi => ?_
  have := List.mem_range.mp hi
  simp [repAt, List.getD, this]
theorem spots_len (ds : List PyData) : (spots ds).length = ds.countP isRep := by
  have h := congrArg List.length (filter_places isRep (fun d => d) .none ds)
  rw [List.length_map, List.length_map] at h
  rw [spots_eq, h, List.countP_eq_length_filter]
theorem spots_mem {ds : List PyData} {i : Nat} : i ∈ spots ds ↔ ∃ d, ds[i]? = some d ∧ isRep d = true := by
  rw [spots_eq, List.mem_filter, List.mem_range]
  constructor
  · rintro ⟨h1, h2⟩
    exact ⟨ds[i], List.getElem?_eq_getElem h1, by simpa [List.getD, h1] using h2⟩
  · rintro ⟨d, h1, h2⟩
    have h3 := (List.getElem?_eq_some_iff.mp h1).1
    exact ⟨h3, by simp [List.getD, h1, h2]⟩
theorem count0 {ds : List PyData} (h : ∀ d ∈ ds, isRep d = false) : ds.countP isRep = 0 := List.countP_eq_zero.mpr fun d hd => by simp [h d hd]
theorem spots0 {ds : List PyData} (h : ∀ d ∈ ds, isRep d = false) : spots ds = [] := List.length_eq_zero_iff.mp (by rw [spots_len, count0 h])
theorem count1 {pre post : List PyData} (h1 : ∀ d ∈ pre, isRep d = false) (h2 : ∀ d ∈ post, isRep d = false) : (pre ++ .str "..." :: post).countP isRep = 1 := by
  rw [List.countP_append, List.countP_cons, count0 h1, count0 h2]
  rfl
theorem spots1 {pre post : List PyData} (h1 : ∀ d ∈ pre, isRep d = false) (h2 : ∀ d ∈ post, isRep d = false) : spots (pre ++ .str "..." :: post) = [pre.length] := by
  obtain ⟨i, e⟩ : ∃ i, spots (pre ++ .str "..." :: post) = [i] := List.length_eq_one_iff.mp (by rw [spots_len, count1 h1 h2])
  have : pre.length ∈ spots (pre ++ .str "..." :: post) := spots_mem.mpr ⟨.str "...", by simp, rfl⟩
  rw [e] at this ⊢
  rw [List.mem_singleton.mp this]
/-- none repeats; one does; else it is no row -/
theorem row_cases : ∀ ds : List PyData, (∀ d ∈ ds, isRep d = false) ∨ (∃ pre r post, ds = pre ++ r :: .str "..." :: post ∧ (∀ d ∈ pre, isRep d = false) ∧ isRep r = false ∧ ∀ d ∈ post, isRep d = false) ∨ nextRep ds = 1 ∨ 2 ≤ ds.countP isRep
  | [] => .inl (fun d h => nomatch h)
  | d :: ds => by
    by_cases hd : isRep d = true
    · refine .inr (.inr (.inl ?_))
      rw [isRep_eq hd]
      rfl
    · have hd : isRep d = false := by simpa using hd
      have hc : (d :: ds).countP isRep = ds.countP isRep := by simp [List.countP_cons, hd]
      rcases row_cases ds with h | ⟨pre, r, post, rfl, h1, h2, h3⟩ | h | h
      · exact .inl fun x hx => by
          rcases List.mem_cons.mp hx with rfl | hx
          · exact hd
          · exact h x hx
      · exact .inr (.inl ⟨d :: pre, r, post, rfl, fun x hx => by
          rcases List.mem_cons.mp hx with rfl | hx
          · exact hd
          · exact h1 x hx, h2, h3⟩)
      · obtain ⟨s, tl, rfl, hs⟩ : ∃ s tl, ds = .str s :: tl ∧ s = "..." := by
          unfold nextRep at h
          split at h
          · rename_i s tl
            split at h
            · exact ⟨s, tl, rfl, by assumption⟩
            · cases h
          · cases h
        subst hs
        by_cases ht : ∀ x ∈ tl, isRep x = false
        · exact .inr (.inl ⟨[], d, tl, rfl, (fun x hx => nomatch hx), hd, ht⟩)
        · refine .inr (.inr (.inr ?_))
          have : 0 < tl.countP isRep := List.countP_pos_iff.mpr (by simpa using ht)
          have e2 : (PyData.str "..." :: tl).countP isRep = tl.countP isRep + 1 := by
            rw [List.countP_cons]
            rfl
          rw [hc, e2]
          omega
      · exact .inr (.inr (.inr (by rw [hc]; exact h)))
theorem next0 {d : PyData} {ds : List PyData} (h : isRep d = false) : nextRep (d :: ds) = 0 := by
  cases d with
  | str s => simp [isRep] at h; simp [nextRep, h]
  | _ => rfl
theorem next_app {xs ys : List PyData} (h : ∀ d ∈ xs, isRep d = false) (hy : nextRep ys = 0) : nextRep (xs ++ ys) = 0 := by
  cases xs with
  | nil => exact hy
  | cons x xs => exact next0 (h x (by simp))
theorem okLs_app {ys : List PyData} {l : Nat} (hy : nextRep ys = 0) : ∀ {xs : List PyData}, (∀ d ∈ xs, isRep d = false) → okLs (xs ++ ys) l = ((xs.all fun d => okL d l) && okLs ys l)
  | [], _ => by simp
  | x :: xs, h => by
    have h1 := h x (by simp)
    have h2 : ∀ d ∈ xs, isRep d = false := fun d hd => h d (List.mem_cons_of_mem _ hd)
    rw [List.cons_append, okLs, next_app h2 hy, okLs_app hy h2, h1]
    simp [Bool.and_assoc]
theorem okLs_flat {xs : List PyData} {l : Nat} (h : ∀ d ∈ xs, isRep d = false) : okLs xs l = xs.all fun d => okL d l := by
  have := okLs_app (ys := []) (l := l) rfl h
  simpa [okLs] using this
theorem namesLs_app {L : List Str} {ys : List PyData} : ∀ {xs : List PyData}, (∀ d ∈ xs, isRep d = false) → namesLs L (xs ++ ys) = (xs.flatMap fun d => namesL L d) ++ namesLs L ys
  | [], _ => rfl
  | x :: xs, h => by
    have h1 := h x (by simp)
    rw [List.cons_append, namesLs, namesLs_app fun d hd => h d (List.mem_cons_of_mem _ hd), h1]
    simp
theorem lnamess_app {ys : List PyData} {l : Nat} (hy : nextRep ys = 0) : ∀ {xs : List PyData}, (∀ d ∈ xs, isRep d = false) → lnamess (xs ++ ys) l = (xs.flatMap fun d => lnames d l) ++ lnamess ys l
  | [], _ => rfl
  | x :: xs, h => by
    have h2 : ∀ d ∈ xs, isRep d = false := fun d hd => h d (List.mem_cons_of_mem _ hd)
    rw [List.cons_append, lnamess, next_app h2 hy, lnamess_app hy h2]
    simp
theorem lleasts_app {z : Str} {ys : List PyData} (hy : nextRep ys = 0) : ∀ {xs : List PyData}, (∀ d ∈ xs, isRep d = false) → lleasts z (xs ++ ys) = xs.map (lleast z) ++ lleasts z ys
  | [], _ => rfl
  | x :: xs, h => by
    have h1 := h x (by simp)
    have h2 : ∀ d ∈ xs, isRep d = false := fun d hd => h d (List.mem_cons_of_mem _ hd)
    rw [List.cons_append, lleasts, next_app h2 hy, lleasts_app hy h2, h1]
    simp
/-! ### the shape of a row -/
theorem seqO_all {α : Type} {f : α → Option Sh} : ∀ {ds : List α}, (∀ d ∈ ds, (f d).isSome = true) → ∃ xs, seqO (ds.map f) = some xs
  | [], _ => ⟨[], rfl⟩
  | d :: ds, h => by
    obtain ⟨x, hx⟩ := Option.isSome_iff_exists.mp (h d (by simp))
    obtain ⟨xs, hxs⟩ := seqO_all (ds := ds) fun y hy => h y (List.mem_cons_of_mem _ hy)
    exact ⟨x :: xs, by simp [seqO, hx, hxs]⟩
theorem join0 {L : List Str} {ds : List PyData} (h : ∀ d ∈ ds, isRep d = false) : shapeS L (.tuple ds) = (seqO (ds.map (shapeS L))).map .lis := by
  rw [shapeS, joinS, spots0 h, shapesS_map]
theorem join1 {L : List Str} {pre post : List PyData} {r : PyData} (h1 : ∀ d ∈ pre, isRep d = false) (hr : isRep r = false) (h2 : ∀ d ∈ post, isRep d = false) :
    shapeS L (.tuple (pre ++ r :: .str "..." :: post)) = (match seqO (pre.map (shapeS L)), seqO (post.map (shapeS L)), shapeS L r with
      | some a, some b, some x => some (.rep a x b)
      | _, _, _ => none) := by
  have hp : ∀ d ∈ pre ++ [r], isRep d = false := fun d hd => by
    rcases List.mem_append.mp hd with hd | hd
    · exact h1 d hd
    · rw [List.mem_singleton.mp hd]
      exact hr
  have e : pre ++ r :: .str "..." :: post = (pre ++ [r]) ++ .str "..." :: post := by simp
  have es : spots (pre ++ r :: .str "..." :: post) = [pre.length + 1] := by
    rw [e, spots1 hp h2]
    simp
  have hm : (pre ++ r :: .str "..." :: post).map (shapeS L) = pre.map (shapeS L) ++ (shapeS L r :: shapeS L (.str "...") :: post.map (shapeS L)) := by simp
  have t1 : ((pre ++ r :: .str "..." :: post).map (shapeS L)).take (pre.length + 1 - 1) = pre.map (shapeS L) := by
    rw [hm, Nat.add_sub_cancel]
    exact List.take_left' (by simp)
  have t2 : ((pre ++ r :: .str "..." :: post).map (shapeS L)).drop (pre.length + 1 + 1) = post.map (shapeS L) := by
    rw [hm, show pre.length + 1 + 1 = (pre.map (shapeS L)).length + 2 by simp, List.drop_append]
    simp
  have t3 : ((pre ++ r :: .str "..." :: post).map (shapeS L))[pre.length + 1 - 1]? = some (shapeS L r) := by
    rw [hm, Nat.add_sub_cancel, List.getElem?_append_right (by simp)]
    simp
  rw [shapeS, joinS, es, shapesS_map]
  simp only [Nat.succ_ne_zero, if_false, t1, t2, t3]
  cases seqO (pre.map (shapeS L)) with
  | none => cases shapeS L r <;> rfl
  | some a => cases seqO (post.map (shapeS L)) with
    | none => cases shapeS L r <;> rfl
    | some b => cases shapeS L r <;> rfl
theorem join_first {L : List Str} {ds : List PyData} (h : nextRep ds = 1) : shapeS L (.tuple ds) = none := by
  obtain ⟨s, tl, rfl, hs⟩ : ∃ s tl, ds = .str s :: tl ∧ s = "..." := by
    unfold nextRep at h
    split at h
    · rename_i s tl
      split at h
      · exact ⟨s, tl, rfl, by assumption⟩
      · cases h
    · cases h
  subst hs
  have h0 : 0 ∈ spots (.str "..." :: tl) := spots_mem.mpr ⟨.str "...", rfl, rfl⟩
  rw [shapeS, joinS]
  split
  · rename_i e
    rw [e] at h0
    cases h0
  · rename_i i e
    rw [e] at h0
    rw [← List.mem_singleton.mp h0]
    rfl
  · rfl
theorem join_many {L : List Str} {ds : List PyData} (h : 2 ≤ ds.countP isRep) : shapeS L (.tuple ds) = none := by
  rw [← spots_len] at h
  rw [shapeS, joinS]
  split
  · rename_i e
    rw [e] at h
    simp at h
  · rename_i i e
    rw [e] at h
    simp at h
  · rfl
end
section
def sd (L : List Str) (d : PyData) (l : Nat) : Bool := match shapeS L d with
  | some x => deepS x l
  | none => false
theorem next_flat {ds : List PyData} (h : ∀ d ∈ ds, isRep d = false) : nextRep ds = 0 := by
  cases ds with
  | nil => rfl
  | cons d ds => exact next0 (h d (by simp))
theorem seq_deep (L : List Str) (l : Nat) : ∀ ds : List PyData, (match seqO (ds.map (shapeS L)) with | some xs => deepSs xs l | none => false) = ds.all fun d => sd L d l
  | [] => rfl
  | d :: ds => by
    have ih := seq_deep L l ds
    rw [List.map_cons, List.all_cons, ← ih]
    unfold sd
    cases e : shapeS L d with
    | none => simp [seqO]
    | some x =>
      simp only [seqO]
      cases seqO (ds.map (shapeS L)) <;> simp [deepSs]
theorem row_okL {pre post : List PyData} {r : PyData} {l : Nat} (h1 : ∀ d ∈ pre, isRep d = false) (hr : isRep r = false) (h2 : ∀ d ∈ post, isRep d = false) :
    okL (.tuple (pre ++ r :: .str "..." :: post)) l = ((pre.all fun d => okL d l) && okL r (l + 1) && (post.all fun d => okL d l) && decide (l ≤ 3)) := by
  have e : pre ++ r :: .str "..." :: post = (pre ++ [r]) ++ .str "..." :: post := by simp
  have hp : ∀ d ∈ pre ++ [r], isRep d = false := fun d hd => by
    rcases List.mem_append.mp hd with hd | hd
    · exact h1 d hd
    · rw [List.mem_singleton.mp hd]
      exact hr
  have c1 : (pre ++ r :: .str "..." :: post).countP isRep = 1 := by rw [e, count1 hp h2]
  have c2 : nextRep (pre ++ r :: .str "..." :: post) = 0 := next_app h1 (next0 hr)
  have c3 : okLs (pre ++ r :: .str "..." :: post) l = ((pre.all fun d => okL d l) && (okL r (l + 1) && post.all fun d => okL d l)) := by
    rw [okLs_app (next0 hr) h1, okLs, okLs, okLs_flat h2, hr]
    have : isRep (.str "...") = true := rfl
    have e1 : nextRep (PyData.str "..." :: post) = 1 := rfl
    rw [this, e1]
    simp
  rw [okL, c1, c2, c3]
  simp [Bool.and_assoc]
theorem pl_deep (L : List Str) : ∀ (n : Nat) (d : PyData) (l : Nat), dsize d ≤ n → formB d = true → sd L d l = okL d l := by
  intro n
  induction n with
  | zero => exact fun d l hn _ => absurd (dsize_pos d) (by omega)
  | succ n IH =>
    intro d l hn h
    cases d with
    | none => simp [formB] at h
    | bool b => simp [formB] at h
    | int i => rfl
    | list ds => simp [formB] at h
    | dict ds => simp [formB] at h
    | str s =>
      have h : wordS s = true := h
      unfold sd
      rw [shapeS]
      by_cases e1 : s = "..."
      · simp [e1, okL]
      · have e2 : lawWord s = true := by
          simp only [wordS, Bool.or_eq_true, decide_eq_true_eq] at h
          simp only [lawWord, Bool.or_eq_true, decide_eq_true_eq]
          rcases h with (h | h) | h
          · exact .inr h
          · exact absurd h e1
          · exact .inl h
        rw [if_neg e1, okL, e2]
        by_cases e3 : s = "_"
        · rw [if_pos e3]
          simp [deepS, e1]
        · rw [if_neg e3]
          by_cases e4 : s ∈ L
          · rw [if_pos e4]
            simp [deepS, e1]
          · rw [if_neg e4]
            simp [deepS, e1]
    | tuple ds =>
      have hz : dsizes ds + 1 ≤ n + 1 := hn
      have ih : ∀ d ∈ ds, ∀ k, sd L d k = okL d k := fun d hd k => IH d k (by have := dsizes_mem hd; omega) (formBs_mem h hd)
      have al : ∀ es : List PyData, (∀ d ∈ es, d ∈ ds) → ∀ k, (es.all fun d => sd L d k) = es.all fun d => okL d k := fun es hs k => by
        rw [Bool.eq_iff_iff, List.all_eq_true, List.all_eq_true]
        exact ⟨fun g d hd => by rw [← ih d (hs d hd) k]; exact g d hd, fun g d hd => by rw [ih d (hs d hd) k]; exact g d hd⟩
      rcases row_cases ds with h0 | ⟨pre, r, post, e, h1, hr, h2⟩ | h0 | h0
      · have a := al ds (fun d hd => hd) l
        rw [← seq_deep] at a
        unfold sd
        rw [join0 h0, okL, count0 h0, next_flat h0, okLs_flat h0, ← a]
        cases seqO (ds.map (shapeS L)) <;> simp [deepS, Bool.and_comm]
      · subst e
        have a1 := al pre (fun d hd => by simp [hd]) l
        have a2 := al post (fun d hd => by simp [hd]) l
        have a3 := ih r (by simp) (l + 1)
        rw [row_okL h1 hr h2, ← a1, ← a2, ← a3, ← seq_deep, ← seq_deep]
        unfold sd
        rw [join1 h1 hr h2]
        cases seqO (pre.map (shapeS L)) with
        | none => simp
        | some a => cases seqO (post.map (shapeS L)) with
          | none => simp
          | some b => cases shapeS L r with
            | none => simp
            | some x =>
              simp only [deepS]
              cases decide (l ≤ 3) <;> cases deepSs a l <;> cases deepS x (l + 1) <;> cases deepSs b l <;> rfl
      · unfold sd
        rw [join_first h0, okL, h0]
        simp
      · unfold sd
        rw [join_many h0, okL]
        have : ¬ ds.countP isRep ≤ 1 := by omega
        simp [this]
/-! names -/
theorem seq_names {L : List Str} {l : Nat} : ∀ {ds : List PyData} {xs : List Sh}, seqO (ds.map (shapeS L)) = some xs → (∀ d ∈ ds, ∀ x, shapeS L d = some x → namesL L d = (namesS x l).map (·.1)) → (ds.flatMap fun d => namesL L d) = (namesSs xs l).map (·.1)
  | [], xs, h, _ => by cases h; rfl
  | d :: ds, xs, h, g => by
    rw [List.map_cons] at h
    cases e : shapeS L d with
    | none => simp [seqO, e] at h
    | some x =>
      simp only [seqO, e] at h
      cases e2 : seqO (ds.map (shapeS L)) with
      | none => simp [e2] at h
      | some ys =>
        simp [e2] at h
        subst h
        rw [List.flatMap_cons, namesSs, List.map_append, g d (by simp) x e, seq_names e2 fun y hy => g y (List.mem_cons_of_mem _ hy)]
theorem pl_names (L : List Str) : ∀ (n : Nat) (d : PyData) (x : Sh) (l : Nat), dsize d ≤ n → shapeS L d = some x → namesL L d = (namesS x l).map (·.1) := by
  intro n
  induction n with
  | zero => exact fun d _ _ hn _ => absurd (dsize_pos d) (by omega)
  | succ n IH =>
    intro d x l hn h
    cases d with
    | none => simp [shapeS] at h
    | bool b => simp [shapeS] at h
    | int i =>
      simp [shapeS] at h
      subst h
      rfl
    | list ds => simp [shapeS] at h
    | dict ds => simp [shapeS] at h
    | str s =>
      rw [shapeS] at h
      by_cases e1 : s = "..."
      · simp [e1] at h
      · rw [if_neg e1] at h
        by_cases e2 : s = "_"
        · rw [if_pos e2] at h
          cases h
          simp [namesL, e2, namesS]
        · rw [if_neg e2] at h
          by_cases e3 : s ∈ L
          · rw [if_pos e3] at h
            cases h
            simp [namesL, e3, namesS]
          · rw [if_neg e3] at h
            cases h
            simp [namesL, e2, e3, namesS]
    | tuple ds =>
      have hz : dsizes ds + 1 ≤ n + 1 := hn
      have ih : ∀ d ∈ ds, ∀ (x : Sh) (l : Nat), shapeS L d = some x → namesL L d = (namesS x l).map (·.1) := fun d hd x l => IH d x l (by have := dsizes_mem hd; omega)
      rcases row_cases ds with h0 | ⟨pre, r, post, e, h1, hr, h2⟩ | h0 | h0
      · rw [join0 h0] at h
        cases e : seqO (ds.map (shapeS L)) with
        | none => simp [e] at h
        | some xs =>
          simp [e] at h
          subst h
          have := namesLs_app (L := L) (ys := []) h0
          simp only [List.append_nil, namesLs] at this
          rw [namesL, this, namesS, seq_names e fun d hd x hx => ih d hd x l hx]
      · subst e
        rw [join1 h1 hr h2] at h
        cases e1 : seqO (pre.map (shapeS L)) with
        | none => simp [e1] at h
        | some a => cases e2 : seqO (post.map (shapeS L)) with
          | none => simp [e1, e2] at h
          | some b => cases e3 : shapeS L r with
            | none => simp [e1, e2, e3] at h
            | some y =>
              simp [e1, e2, e3] at h
              subst h
              have t := namesLs_app (L := L) (ys := []) h2
              simp only [List.append_nil, namesLs] at t
              have ir : isRep (.str "...") = true := rfl
              rw [namesL, namesLs_app h1, namesLs, namesLs, hr, ir, t]
              simp only [Bool.false_eq_true, if_false, if_true, List.nil_append, namesS, List.map_append]
              rw [seq_names e1 fun d hd x hx => ih d (by simp [hd]) x l hx, ih r (by simp) y (l + 1) e3, seq_names e2 fun d hd x hx => ih d (by simp [hd]) x l hx, List.append_assoc]
      · rw [join_first h0] at h
        cases h
      · rw [join_many h0] at h
        cases h
/-! what the law takes is a form -/
mutual
def rangeB : PyData → Bool
  | .int i => decide (-1000000000 ≤ i) && decide (i ≤ 1000000000)
  | .tuple ds => rangeBs ds
  | _ => true
def rangeBs : List PyData → Bool
  | [] => true
  | d :: ds => rangeB d && rangeBs ds
end
mutual
theorem form_of_ok : ∀ (d : PyData) (l : Nat), rangeB d = true → okL d l = true → formB d = true
  | .none, l, _, h => by simp [okL] at h
  | .bool _, l, _, h => by simp [okL] at h
  | .int i, l, r, h => r
  | .list _, l, _, h => by simp [okL] at h
  | .dict _, l, _, h => by simp [okL] at h
  | .str s, l, _, h => by
    simp only [okL, Bool.and_eq_true, lawWord, Bool.or_eq_true, decide_eq_true_eq] at h
    simp only [formB, wordS, Bool.or_eq_true, decide_eq_true_eq]
    rcases h.1.2 with h | h
    · exact .inr h
    · exact .inl (.inl h)
  | .tuple ds, l, r, h => by
    simp only [okL, Bool.and_eq_true] at h
    exact forms_of_ok ds l r h.1.2
theorem forms_of_ok : ∀ (ds : List PyData) (l : Nat), rangeBs ds = true → okLs ds l = true → formBs ds = true
  | [], l, _, _ => rfl
  | d :: ds, l, r, h => by
    simp only [rangeBs, Bool.and_eq_true] at r
    simp only [okLs, Bool.and_eq_true, Bool.or_eq_true] at h
    simp only [formBs, Bool.and_eq_true]
    refine ⟨?_, forms_of_ok ds l r.2 h.2⟩
    rcases h.1 with h | h
    · rw [isRep_eq h]
      exact word_dots.1
    · exact form_of_ok d _ r.1 h
end
/-- is_pattern's answer is the law's own -/
theorem pat_eq {L : List Str} {d : PyData} (r : rangeB d = true) : (formB d && goodD L d) = lawPat L d := by
  cases hf : formB d with
  | false =>
    have : okL d 0 = false := by
      cases e : okL d 0 with
      | false => rfl
      | true =>
        have := form_of_ok d 0 r e
        rw [hf] at this
        cases this
    simp [lawPat, this]
  | true =>
    have h := pl_deep L _ d 0 (Nat.le_refl _) hf
    unfold goodD
    rw [lawPat, ← h, sd]
    cases e : shapeS L d with
    | none => simp
    | some x =>
      simp only [goodS, Bool.true_and]
      rw [pl_names L _ d x 0 (Nat.le_refl _) e, Bool.and_comm]
end
section
/-! ### names, least forms and matches of what the law draws -/
theorem seq_lnames {l : Nat} : ∀ {ds : List PyData} {xs : List Sh}, seqO (ds.map (shapeS ["lit"])) = some xs → (∀ d ∈ ds, ∀ x, shapeS ["lit"] d = some x → lnames d l = namesS x l) → (ds.flatMap fun d => lnames d l) = namesSs xs l
  | [], xs, h, _ => by cases h; rfl
  | d :: ds, xs, h, g => by
    rw [List.map_cons] at h
    cases e : shapeS ["lit"] d with
    | none => simp [seqO, e] at h
    | some x =>
      simp only [seqO, e] at h
      cases e2 : seqO (ds.map (shapeS ["lit"])) with
      | none => simp [e2] at h
      | some ys =>
        simp [e2] at h
        subst h
        rw [List.flatMap_cons, namesSs, g d (by simp) x e, seq_lnames e2 fun y hy => g y (List.mem_cons_of_mem _ hy)]
theorem letters_not : ∀ s ∈ letters, s ∉ ([("lit" : Str)] : List Str) := by decide +kernel
theorem pl_lnames : ∀ (n : Nat) (d : PyData) (x : Sh) (l : Nat), dsize d ≤ n → knownB d = true → shapeS ["lit"] d = some x → lnames d l = namesS x l := by
  intro n
  induction n with
  | zero => exact fun d _ _ hn _ _ => absurd (dsize_pos d) (by omega)
  | succ n IH =>
    intro d x l hn hk h
    cases d with
    | none => simp [shapeS] at h
    | bool b => simp [shapeS] at h
    | int i =>
      simp [shapeS] at h
      subst h
      rfl
    | list ds => simp [shapeS] at h
    | dict ds => simp [shapeS] at h
    | str s =>
      rcases known_str hk with hs | rfl | rfl | rfl
      · obtain ⟨_, n1, n2, n3, _⟩ := letters_ok s hs
        rw [shapeS, if_neg n1, if_neg n2, if_neg (letters_not s hs)] at h
        cases h
        simp [lnames, hs, namesS]
      · cases h
        have : ¬ (("_" : Str) ∈ letters) := by decide +kernel
        simp [lnames, this, namesS]
      · cases h
      · cases h
        have : ¬ (("lit" : Str) ∈ letters) := by decide +kernel
        simp [lnames, this, namesS]
    | tuple ds =>
      have hz : dsizes ds + 1 ≤ n + 1 := hn
      have hks := knownBs_iff.mp (show knownBs ds = true from hk)
      have ih : ∀ d ∈ ds, ∀ (x : Sh) (l : Nat), shapeS ["lit"] d = some x → lnames d l = namesS x l := fun d hd x l => IH d x l (by have := dsizes_mem hd; omega) (hks d hd)
      rcases row_cases ds with h0 | ⟨pre, r, post, e, h1, hr, h2⟩ | h0 | h0
      · rw [join0 h0] at h
        cases e : seqO (ds.map (shapeS ["lit"])) with
        | none => simp [e] at h
        | some xs =>
          simp [e] at h
          subst h
          have := lnamess_app (ys := []) (l := l) rfl h0
          simp only [List.append_nil, lnamess] at this
          rw [lnames, this, namesS, seq_lnames e fun d hd x hx => ih d hd x l hx]
      · subst e
        rw [join1 h1 hr h2] at h
        cases e1 : seqO (pre.map (shapeS ["lit"])) with
        | none => simp [e1] at h
        | some a => cases e2 : seqO (post.map (shapeS ["lit"])) with
          | none => simp [e1, e2] at h
          | some b => cases e3 : shapeS ["lit"] r with
            | none => simp [e1, e2, e3] at h
            | some y =>
              simp [e1, e2, e3] at h
              subst h
              have t := lnamess_app (ys := []) (l := l) rfl h2
              simp only [List.append_nil, lnamess] at t
              have e4 : nextRep (PyData.str "..." :: post) = 1 := rfl
              have e5 : lnames (.str "...") (l + nextRep post) = [] := by
                have : ¬ (("..." : Str) ∈ letters) := by decide +kernel
                simp [lnames, this]
              rw [lnames, lnamess_app (next0 hr) h1, lnamess, lnamess, e4, e5, t, List.nil_append, namesS]
              rw [seq_lnames e1 fun d hd x hx => ih d (by simp [hd]) x l hx, ih r (by simp) y (l + 1) e3, seq_lnames e2 fun d hd x hx => ih d (by simp [hd]) x l hx, List.append_assoc]
      · rw [join_first h0] at h
        cases h
      · rw [join_many h0] at h
        cases h
theorem pl_least {z : Str} : ∀ (n : Nat) (d : PyData) (x : Sh), dsize d ≤ n → knownB d = true → shapeS ["lit"] d = some x → leastD ["lit"] z d = lleast z d := by
  intro n
  induction n with
  | zero => exact fun d _ hn _ _ => absurd (dsize_pos d) (by omega)
  | succ n IH =>
    intro d x hn hk h
    cases d with
    | none => simp [shapeS] at h
    | bool b => simp [shapeS] at h
    | int i => rfl
    | list ds => simp [shapeS] at h
    | dict ds => simp [shapeS] at h
    | str s =>
      rw [leastD, lleast]
      simp
    | tuple ds =>
      have hz : dsizes ds + 1 ≤ n + 1 := hn
      have hks := knownBs_iff.mp (show knownBs ds = true from hk)
      have each : ∀ es : List PyData, (∀ d ∈ es, d ∈ ds) → ∀ xs, seqO (es.map (shapeS ["lit"])) = some xs → es.map (leastD ["lit"] z) = es.map (lleast z) := fun es hs xs hx => by
        refine List.map_congr_left fun d hd => ?_
        have hm := seqO_some hx
        obtain ⟨i, hi, e⟩ := List.mem_iff_getElem.mp hd
        have e2 : (es.map (shapeS ["lit"]))[i]? = some (shapeS ["lit"] d) := by
          rw [List.getElem?_map, List.getElem?_eq_getElem hi, e]
          rfl
        rw [hm, List.getElem?_map] at e2
        cases e3 : xs[i]? with
        | none => simp [e3] at e2
        | some y =>
          simp [e3] at e2
          exact IH d y (by have := dsizes_mem (hs d hd); omega) (hks d (hs d hd)) e2.symm
      rcases row_cases ds with h0 | ⟨pre, r, post, e, h1, hr, h2⟩ | h0 | h0
      · rw [join0 h0] at h
        cases e : seqO (ds.map (shapeS ["lit"])) with
        | none => simp [e] at h
        | some xs =>
          have t := lleasts_app (z := z) (ys := []) rfl h0
          simp only [List.append_nil, lleasts] at t
          rw [leastD, spots0 h0, lleast, t, leastDs_map, each ds (fun d hd => hd) xs e]
      · subst e
        rw [join1 h1 hr h2] at h
        cases e1 : seqO (pre.map (shapeS ["lit"])) with
        | none => simp [e1] at h
        | some a => cases e2 : seqO (post.map (shapeS ["lit"])) with
          | none => simp [e1, e2] at h
          | some b =>
            have t := lleasts_app (z := z) (ys := []) rfl h2
            simp only [List.append_nil, lleasts] at t
            have hp : ∀ d ∈ pre ++ [r], isRep d = false := fun d hd => by
              rcases List.mem_append.mp hd with hd | hd
              · exact h1 d hd
              · rw [List.mem_singleton.mp hd]
                exact hr
            have es : spots (pre ++ r :: .str "..." :: post) = [pre.length + 1] := by
              rw [show pre ++ r :: .str "..." :: post = (pre ++ [r]) ++ .str "..." :: post by simp, spots1 hp h2]
              simp
            have e4 : nextRep (PyData.str "..." :: post) = 1 := rfl
            have e5 : isRep (.str "...") = true := rfl
            rw [leastD, es, lleast, lleasts_app (next0 hr) h1, lleasts, lleasts, e4, e5, t, leastDs_map]
            simp only [Nat.add_sub_cancel]
            have hm : (pre ++ r :: .str "..." :: post).map (leastD ["lit"] z) = pre.map (leastD ["lit"] z) ++ (leastD ["lit"] z r :: leastD ["lit"] z (.str "...") :: post.map (leastD ["lit"] z)) := by simp
            have t1 : ((pre ++ r :: .str "..." :: post).map (leastD ["lit"] z)).take pre.length = pre.map (leastD ["lit"] z) := by
              rw [hm]
              exact List.take_left' (by simp)
            have t2 : ((pre ++ r :: .str "..." :: post).map (leastD ["lit"] z)).drop (pre.length + 1 + 1) = post.map (leastD ["lit"] z) := by
              rw [hm, show pre.length + 1 + 1 = (pre.map (leastD ["lit"] z)).length + 2 by simp, List.drop_append]
              simp
            rw [t1, t2, each pre (fun d hd => by simp [hd]) a e1, each post (fun d hd => by simp [hd]) b e2]
            simp
      · rw [join_first h0] at h
        cases h
      · rw [join_many h0] at h
        cases h
theorem seq_len {ds : List PyData} {xs : List Sh} {L : List Str} (h : seqO (ds.map (shapeS L)) = some xs) : xs.length = ds.length := by
  have := congrArg List.length (seqO_some h)
  simpa using this.symm
theorem seq_match {z : Str} : ∀ {ds : List PyData} {xs : List Sh}, seqO (ds.map (shapeS ["lit"])) = some xs → (∀ d ∈ ds, ∀ x, shapeS ["lit"] d = some x → ∃ bs, matchR x (lleast z d) = some (.ok bs)) → ∀ k, ∃ bs, matchRs k xs (ds.map (lleast z)) = some (.ok bs)
  | [], xs, h, _, k => by cases h; exact ⟨[], by simp [matchRs]⟩
  | d :: ds, xs, h, g, k => by
    rw [List.map_cons] at h
    cases e : shapeS ["lit"] d with
    | none => simp [seqO, e] at h
    | some x =>
      simp only [seqO, e] at h
      cases e2 : seqO (ds.map (shapeS ["lit"])) with
      | none => simp [e2] at h
      | some ys =>
        simp [e2] at h
        subst h
        obtain ⟨b1, h1⟩ := g d (by simp) x e
        obtain ⟨b2, h2⟩ := seq_match e2 (fun y hy => g y (List.mem_cons_of_mem _ hy)) (k + 1)
        exact ⟨b1 ++ b2, by rw [List.map_cons, matchRs, h1]; simp only [h2]⟩
theorem pl_match {z : Str} : ∀ (n : Nat) (d : PyData) (x : Sh), dsize d ≤ n → knownB d = true → shapeS ["lit"] d = some x → ∃ bs, matchR x (lleast z d) = some (.ok bs) := by
  intro n
  induction n with
  | zero => exact fun d _ hn _ _ => absurd (dsize_pos d) (by omega)
  | succ n IH =>
    intro d x hn hk h
    cases d with
    | none => simp [shapeS] at h
    | bool b => simp [shapeS] at h
    | int i =>
      simp [shapeS] at h
      subst h
      exact ⟨[], by simp [lleast, matchR]⟩
    | list ds => simp [shapeS] at h
    | dict ds => simp [shapeS] at h
    | str s =>
      rw [shapeS] at h
      by_cases e1 : s = "..."
      · simp [e1] at h
      · rw [if_neg e1] at h
        by_cases e2 : s = "_"
        · rw [if_pos e2] at h
          cases h
          exact ⟨[], by simp [matchR]⟩
        · rw [if_neg e2] at h
          by_cases e3 : s ∈ ([("lit" : Str)] : List Str)
          · rw [if_pos e3] at h
            cases h
            have e4 : s = "lit" := List.mem_singleton.mp e3
            exact ⟨[], by rw [lleast, if_pos e4]; simp [matchR]⟩
          · rw [if_neg e3] at h
            cases h
            exact ⟨_, by rw [matchR]⟩
    | tuple ds =>
      have hz : dsizes ds + 1 ≤ n + 1 := hn
      have hks := knownBs_iff.mp (show knownBs ds = true from hk)
      have ih : ∀ d ∈ ds, ∀ (x : Sh), shapeS ["lit"] d = some x → ∃ bs, matchR x (lleast z d) = some (.ok bs) := fun d hd x => IH d x (by have := dsizes_mem hd; omega) (hks d hd)
      rcases row_cases ds with h0 | ⟨pre, r, post, e, h1, hr, h2⟩ | h0 | h0
      · rw [join0 h0] at h
        cases e : seqO (ds.map (shapeS ["lit"])) with
        | none => simp [e] at h
        | some xs =>
          simp [e] at h
          subst h
          have t := lleasts_app (z := z) (ys := []) rfl h0
          simp only [List.append_nil, lleasts] at t
          obtain ⟨bs, hb⟩ := seq_match e (fun d hd x hx => ih d hd x hx) 0
          have hl := seq_len e
          exact ⟨bs, by rw [lleast, t, matchR, if_pos (by rw [List.length_map, hl])]; exact hb⟩
      · subst e
        rw [join1 h1 hr h2] at h
        cases e1 : seqO (pre.map (shapeS ["lit"])) with
        | none => simp [e1] at h
        | some a => cases e2 : seqO (post.map (shapeS ["lit"])) with
          | none => simp [e1, e2] at h
          | some b => cases e3 : shapeS ["lit"] r with
            | none => simp [e1, e2, e3] at h
            | some y =>
              simp [e1, e2, e3] at h
              subst h
              have t := lleasts_app (z := z) (ys := []) rfl h2
              simp only [List.append_nil, lleasts] at t
              have e4 : nextRep (PyData.str "..." :: post) = 1 := rfl
              have e5 : isRep (.str "...") = true := rfl
              have ev : lleasts z (pre ++ r :: .str "..." :: post) = pre.map (lleast z) ++ post.map (lleast z) := by
                rw [lleasts_app (next0 hr) h1, lleasts, lleasts, e4, e5, t]
                simp
              obtain ⟨b1, hb1⟩ := seq_match e1 (fun d hd x hx => ih d (by simp [hd]) x hx) 0
              obtain ⟨b2, hb2⟩ := seq_match e2 (fun d hd x hx => ih d (by simp [hd]) x hx) (a.length + 2)
              have la := seq_len e1
              have lb := seq_len e2
              have s1 : (pre.map (lleast z) ++ post.map (lleast z)).take a.length = pre.map (lleast z) := List.take_left' (by rw [List.length_map, la])
              have s2 : (pre.map (lleast z) ++ post.map (lleast z)).drop a.length = post.map (lleast z) := List.drop_left' (by rw [List.length_map, la])
              refine ⟨b1 ++ (namesS y 0).map (fun p => (p.1, .tuple [])) ++ b2, ?_⟩
              rw [lleast, ev, matchR, if_pos (by simp [la, lb]), s1, s2, hb1]
              simp only [hb2]
      · rw [join_first h0] at h
        cases h
      · rw [join_many h0] at h
        cases h
end
section
/-! ### what the law draws is good -/
theorem Pat.norep {n : Nat} {d : PyData} (h : Pat n d) : isRep d = false := by
  cases h with
  | nm n s hs => simp [isRep, (letters_ok s hs).2.1]
  | any n => decide +kernel
  | lit n => decide +kernel
  | num n i hi => rfl
  | tup n xs hl hx => rfl
  | rep n xs k hl h1 h2 hx => rfl
theorem letters_law : ∀ s ∈ letters, lawWord s = true ∧ s ∉ ([("lit" : Str)] ++ [("_" : Str)] : List Str) := by decide +kernel
theorem Pat.split {n k : Nat} {xs : List PyData} (h1 : 1 ≤ k) (h2 : k ≤ xs.length) (hx : ∀ x ∈ xs, Pat n x) :
    ∃ pre r post, xs.take k ++ .str "..." :: xs.drop k = pre ++ r :: .str "..." :: post ∧ xs = pre ++ r :: post ∧ (∀ d ∈ pre, Pat n d) ∧ Pat n r ∧ ∀ d ∈ post, Pat n d := by
  have hk : k - 1 < xs.length := by omega
  have e : xs.take k = xs.take (k - 1) ++ [xs[k - 1]] := by
    have := List.take_succ_eq_append_getElem hk
    rwa [show k - 1 + 1 = k by omega] at this
  refine ⟨xs.take (k - 1), xs[k - 1], xs.drop k, by rw [e, List.append_assoc]; rfl, ?_, fun d hd => hx d (List.mem_of_mem_take hd), hx _ (List.getElem_mem hk), fun d hd => hx d (List.mem_of_mem_drop hd)⟩
  have := List.take_append_drop k xs
  rw [e, List.append_assoc] at this
  exact this.symm
theorem Pat.ok {n : Nat} {d : PyData} (h : Pat n d) : ∀ l, n + l ≤ 3 → okL d l = true := by
  induction h with
  | nm n s hs =>
    intro l hl
    obtain ⟨_, n1, _, _, _⟩ := letters_ok s hs
    have : l ≤ 3 := by omega
    simp [okL, n1, (letters_law s hs).1, this]
  | any n =>
    intro l hl
    have : l ≤ 3 := by omega
    have e : lawWord "_" = true := by decide +kernel
    have e2 : ("_" : Str) ≠ "..." := by decide +kernel
    simp [okL, this, e, e2]
  | lit n =>
    intro l hl
    have : l ≤ 3 := by omega
    have e : lawWord "lit" = true := by decide +kernel
    have e2 : ("lit" : Str) ≠ "..." := by decide +kernel
    simp [okL, this, e, e2]
  | num n i hi =>
    intro l hl
    have : l ≤ 3 := by omega
    simp [okL, this]
  | tup n xs hl hx ih =>
    intro l hll
    have h0 : ∀ d ∈ xs, isRep d = false := fun d hd => (hx d hd).norep
    have : l ≤ 3 := by omega
    rw [okL, count0 h0, next_flat h0, okLs_flat h0]
    simp only [this, decide_true, Bool.and_true, Nat.zero_le, List.all_eq_true, Bool.true_and]
    exact fun d hd => ih d hd l (by omega)
  | rep n xs k hl h1 h2 hx ih =>
    intro l hll
    obtain ⟨pre, r, post, e, ex, p1, p2, p3⟩ := Pat.split h1 h2 hx
    have : l ≤ 3 := by omega
    rw [e, row_okL (fun d hd => (p1 d hd).norep) p2.norep (fun d hd => (p3 d hd).norep)]
    simp only [Bool.and_eq_true, List.all_eq_true, decide_eq_true_eq]
    exact ⟨⟨⟨fun d hd => ih d (by rw [ex]; simp [hd]) l (by omega), ih r (by rw [ex]; simp) (l + 1) (by omega)⟩, fun d hd => ih d (by rw [ex]; simp [hd]) l (by omega)⟩, this⟩
mutual
theorem names_known : ∀ d, knownB d = true → isRep d = false → namesL ["lit"] d = pnames d
  | .none, h, _ => by simp [knownB] at h
  | .bool _, h, _ => by simp [knownB] at h
  | .int _, _, _ => rfl
  | .list _, h, _ => by simp [knownB] at h
  | .dict _, h, _ => by simp [knownB] at h
  | .str s, h, hr => by
    rcases known_str h with hs | rfl | rfl | rfl
    · rw [namesL, if_neg (letters_law s hs).2, pnames, if_pos hs]
    · decide +kernel
    · simp [isRep] at hr
    · decide +kernel
  | .tuple ds, h, _ => names_knowns ds h
theorem names_knowns : ∀ ds, knownBs ds = true → namesLs ["lit"] ds = pnamess ds
  | [], _ => rfl
  | d :: ds, h => by
    simp only [knownBs, Bool.and_eq_true] at h
    rw [namesLs, pnamess, names_knowns ds h.2]
    by_cases hr : isRep d = true
    · rw [if_pos hr, isRep_eq hr]
      have : pnames (.str "...") = [] := by decide +kernel
      rw [this]
    · rw [if_neg hr, names_known d h.1 (by simpa using hr)]
end
mutual
theorem range_form : ∀ d, formB d = true → rangeB d = true
  | .none, _ => rfl
  | .bool _, _ => rfl
  | .int _, h => h
  | .str _, _ => rfl
  | .list _, _ => rfl
  | .dict _, _ => rfl
  | .tuple ds, h => range_forms ds h
theorem range_forms : ∀ ds, formBs ds = true → rangeBs ds = true
  | [], _ => rfl
  | d :: ds, h => by
    simp only [formBs, Bool.and_eq_true] at h
    simp [rangeBs, range_form d h.1, range_forms ds h.2]
end
theorem word_short {s : Str} (h : wordS s = true) : s.length ≤ 12 := by
  simp only [wordS, nameS, Bool.or_eq_true, Bool.and_eq_true, decide_eq_true_eq] at h
  rcases h with (h | h) | h
  · exact h.1.2
  · rw [h]
    decide +kernel
  · rw [h]
    decide +kernel
mutual
theorem small_form : ∀ d, formB d = true → smallD d = true
  | .none, _ => rfl
  | .bool _, _ => rfl
  | .int _, _ => rfl
  | .str s, h => by
    have := word_short (show wordS s = true from h)
    simp only [smallD, decide_eq_true_eq]
    omega
  | .list _, h => by simp [formB] at h
  | .dict _, _ => rfl
  | .tuple ds, h => small_forms ds h
theorem small_forms : ∀ ds, formBs ds = true → smallDs ds = true
  | [], _ => rfl
  | d :: ds, h => by
    simp only [formBs, Bool.and_eq_true] at h
    simp [smallDs, small_form d h.1, small_forms ds h.2]
end
theorem dsizes_all {m : Nat} : ∀ {ds : List PyData}, (∀ d ∈ ds, dsize d ≤ m) → dsizes ds ≤ ds.length * m
  | [], _ => Nat.zero_le _
  | d :: ds, h => by
    have h1 := h d (by simp)
    have h2 := dsizes_all fun x hx => h x (List.mem_cons_of_mem _ hx)
    rw [dsizes, List.length_cons, Nat.succ_mul]
    omega
/-- sizes by depth -/
def szP : Nat → Nat
  | 0 => 1
  | n + 1 => 3 * szP n + 2
theorem szP_mono : ∀ n, szP n ≤ szP (n + 1) := fun n => by simp only [szP]; omega
theorem szP_pos : ∀ n, 1 ≤ szP n := fun n => by cases n <;> simp [szP]
theorem Pat.size {n : Nat} {d : PyData} (h : Pat n d) : dsize d ≤ szP n := by
  induction h with
  | nm n s hs => exact szP_pos n
  | any n => exact szP_pos n
  | lit n => exact szP_pos n
  | num n i hi => exact szP_pos n
  | tup n xs hl hx ih =>
    have h := dsizes_all ih
    have h2 : xs.length * szP n ≤ 3 * szP n := Nat.mul_le_mul_right _ hl
    show dsizes xs + 1 ≤ 3 * szP n + 2
    omega
  | rep n xs k hl h1 h2 hx ih =>
    have h := dsizes_all ih
    have h3 : xs.length * szP n ≤ 3 * szP n := Nat.mul_le_mul_right _ hl
    have e : dsizes (xs.take k ++ .str "..." :: xs.drop k) = dsizes xs + 1 := by
      rw [dsizes_append, dsizes]
      have := dsizes_append (xs.take k) (xs.drop k)
      rw [List.take_append_drop] at this
      rw [this]
      simp only [dsize]
      omega
    show dsizes (xs.take k ++ .str "..." :: xs.drop k) + 1 ≤ 3 * szP n + 2
    omega
theorem good_one {L : List Str} {d : PyData} (h : goodD L d = true) : goodD L (.tuple [d]) = true := by
  unfold goodD at h
  cases e : shapeS L d with
  | none => rw [e] at h; cases h
  | some x =>
    rw [e] at h
    have hr : isRep d = false := by
      cases hr : isRep d with
      | false => rfl
      | true =>
        rw [isRep_eq hr, shapeS] at e
        simp at e
    have h0 : ∀ y ∈ [d], isRep y = false := fun y hy => by rw [List.mem_singleton.mp hy]; exact hr
    have es : shapeS L (.tuple [d]) = some (.lis [x]) := by
      rw [join0 h0]
      simp [seqO, e]
    unfold goodD
    rw [es]
    simp only [goodS, Bool.and_eq_true, decide_eq_true_eq] at h ⊢
    simpa [namesS, namesSs, deepS, deepSs] using h
/-- a drawn pattern, its names unlike -/
theorem pat_good {n : Nat} {d : PyData} (h : Pat n d) (hn : n ≤ 3) (nd : (pnames d).Nodup) : goodD ["lit"] d = true := by
  have e := pat_eq (L := ["lit"]) (range_form d h.form)
  have o := h.ok 0 (by omega)
  rw [h.form, lawPat, o, names_known d h.known h.norep] at e
  simpa [nd] using e
mutual
/-- the least form is a form, no greater, no deeper -/
theorem lleast_form {z : Str} (hz : wordS z = true) : ∀ d, formB d = true → formB (lleast z d) = true ∧ dsize (lleast z d) ≤ dsize d ∧ ddep (lleast z d) ≤ ddep d
  | .none, h => by simp [formB] at h
  | .bool _, h => by simp [formB] at h
  | .int i, h => ⟨h, Nat.le_refl _, Nat.le_refl _⟩
  | .list _, h => by simp [formB] at h
  | .dict _, h => by simp [formB] at h
  | .str s, h => by
    rw [lleast]
    split
    · exact ⟨h, Nat.le_refl _, Nat.le_refl _⟩
    · exact ⟨hz, Nat.le_refl _, Nat.le_refl _⟩
  | .tuple ds, h => by
    obtain ⟨h1, h2, h3⟩ := lleasts_form hz ds h
    exact ⟨h1, Nat.succ_le_succ h2, Nat.succ_le_succ h3⟩
theorem lleasts_form {z : Str} (hz : wordS z = true) : ∀ ds, formBs ds = true → formBs (lleasts z ds) = true ∧ dsizes (lleasts z ds) ≤ dsizes ds ∧ ddeps (lleasts z ds) ≤ ddeps ds
  | [], _ => ⟨rfl, Nat.le_refl _, Nat.le_refl _⟩
  | d :: ds, h => by
    simp only [formBs, Bool.and_eq_true] at h
    obtain ⟨a1, a2, a3⟩ := lleast_form hz d h.1
    obtain ⟨b1, b2, b3⟩ := lleasts_form hz ds h.2
    rw [lleasts]
    split
    · refine ⟨by simp [formBs, a1, b1], ?_, ?_⟩
      · simp only [dsizes]
        omega
      · simp only [ddeps]
        omega
    · refine ⟨b1, ?_, ?_⟩
      · simp only [dsizes]
        omega
      · simp only [ddeps]
        omega
end
/-! sorted rows with unlike keys are one -/
theorem txt_tri {x y : Str} (h1 : txtLt x y = false) (h2 : txtLt y x = false) : x = y := by
  have h1 := of_decide_eq_false h1
  have h2 := of_decide_eq_false h2
  rcases Std.lt_trichotomy (α := List Nat) x.cps.toList y.cps.toList with h | h | h
  · exact absurd h h1
  · cases x
    cases y
    simp at h
    simp [h]
  · exact absurd h h2
theorem sorted_one {α : Type} : ∀ {a b : List (Str × α)}, a.Perm b → (a.map (·.1)).Nodup → a.Pairwise (fun e f => txtLt f.1 e.1 = false) → b.Pairwise (fun e f => txtLt f.1 e.1 = false) → a = b
  | [], b, p, _, _, _ => (List.Perm.nil_eq p)
  | x :: a, [], p, _, _, _ => absurd p.length_eq (by simp)
  | x :: a, y :: b, p, nd, sa, sb => by
    have hx : x ∈ y :: b := p.subset (by simp)
    have hy : y ∈ x :: a := p.symm.subset (by simp)
    have e : x = y := by
      rcases List.mem_cons.mp hx with h | h
      · exact h
      · rcases List.mem_cons.mp hy with g | g
        · exact g.symm
        · have h1 : txtLt x.1 y.1 = false := (List.pairwise_cons.mp sb).1 x h
          have h2 : txtLt y.1 x.1 = false := (List.pairwise_cons.mp sa).1 y g
          have k := txt_tri h1 h2
          have nd' := (List.nodup_cons.mp (show ((x.1) :: a.map (·.1)).Nodup from nd)).1
          exact absurd (List.mem_map.mpr ⟨y, g, k.symm⟩) nd'
    subst e
    rw [sorted_one (List.perm_cons x |>.mp p) (List.nodup_cons.mp (show ((x.1) :: a.map (·.1)).Nodup from nd)).2 (List.pairwise_cons.mp sa).2 (List.pairwise_cons.mp sb).2]
end
section
open LamX in
/-- what _law_said makes of a lambda: "pattern" where it raises BadPattern, else "let" -/
def TSaid (CB : Addr) : (XK → Hp → VK → Prop) → Hp → VK → Prop := fun tl H Q => ∀ Qn : VK, tl (fun cls d H' => cls = .ref CB ∧ d = none ∧ ∀ H2, Same H' H2 → Q (.str "pattern") H2) H Qn
structure SaidOk (K : PySem.W.Frag) (mg : Str → Option Value) (CT CB : Addr) : Prop where
  mT : mg "TextError" = some (.ref CT)
  mB : mg "BadPattern" = some (.ref CB)
  mi : mg "isinstance" = none
  mv : mg "ValueError" = none
  ex : ExcC K CB
  ct : PySem.W.exmOne K (.ref CB) (.ref CT) = some true
  cb : PySem.W.kitOne K (.ref CB) (.ref CB) = some true
  cv : PySem.W.kitOne K (.ref CB) (.type "ValueError") = some true
theorem sc58 : FnScope ["call_one", "error", "some"] ["call_one"] (defScope (top 58)) := ⟨rfl, rfl, rfl, by decide +kernel, rfl, by decide +kernel, by decide +kernel⟩
def saidSuite : List Stmt := match defBody (top 58) with
  | .Try _ (.ExceptHandler _ _ b _ :: _) _ _ _ :: _ => b
  | _ => []
theorem WB.len {X : Cx} {sts : List Stmt} {D : Ends} {σ : L2.St} {H : Hp} (h : σ.length = X.N.length → WB X sts D σ H) : WB X sts D σ H := ⟨fun pins s I => (h I.len).run pins s I⟩
theorem boot_VE : bootBuiltins "ValueError" = some (.type "ValueError") := by decide +kernel
section
variable {P : Program} {w : World} {K : PySem.W.Frag} {mg : Str → Option Value} {base : Heap}
open LamX in
theorem said_gives {X : Cx} {g CT CB : Addr} {cdg : Value} {q : Str} (S : SaidOk X.K X.mg CT CB) (hu : X.A.units + 100 < cLine) :
    GivesTo X ["call_one", "error", "some"] "_law_said" (defScope (top 58)) g cdg (defBody (top 58)) "call_one" q (TSaid CB) := by
  intro f c' s H Q tl act hc h
  have nd := sc58.nd
  refine ⟨_, pss_cons (ps_try_as (X := (cxOf C8.CX0 X.prog X.w X.K X.mg X.base ["call_one", "error", "some"] "_law_said" (defScope (top 58)) g cdg X.A X.stack s H C8.E0).nox) (c := .ref CT) (n := "error") (i := 1)
      (tb := fun W D σ H => ∃ Ech : XK, (∀ cls d σ' H', Ech cls d H' → W cls d σ' H') ∧ σ[0]? = some (some (.ref f)) ∧ H c' = some (CodeO c' q) ∧ tl Ech H (fun _ H' => D.nx σ H'))
      (ts := tsB (cxOf C8.CX0 X.prog X.w X.K X.mg X.base ["call_one", "error", "some"] "_law_said" (defScope (top 58)) g cdg X.A X.stack s H C8.E0).nox saidSuite)
      rfl rfl nd rfl rfl ⟨by rfl, by decide, .inl S.mT⟩ LamX.takes0 (fun W pn xe tk _ => ?_) (fun a oe cls d pn hz hf => ?_)) pss, ?_⟩
  · refine ⟨fun pins s' σ H' D I h' => ?_⟩
    obtain ⟨Ech, hW, h1, h2, h3⟩ := h'
    exact (pss_one (ps_expr (act W pn xe Ech _ _ tk hW))).run pins s' σ H' D I ⟨h1, h2, h3⟩
  · exact ⟨fun pins s' σ' H' D' I h => (h oe pn hz hf).run pins s' I⟩
  · refine ⟨fun cls d H' => cls = .ref CB ∧ d = none ∧ ∀ H2, Same H' H2 → Q (.str "pattern") H2, ?_, rfl, hc, ?_⟩
    · rintro cls d σ' H' ⟨rfl, rfl, hq⟩
      refine ⟨true, S.ct, fun _ a ha => ?_, fun z => nomatch z⟩
      intro oe pn hz hf
      have mi := S.mi
      show WP.WB _ _ _ _ _
      refine WB.len fun hlen => ?_
      have hlen : σ'.length = 3 := by
        rw [List.length_set] at hlen
        exact hlen
      match σ', hlen with
      | [x0, x1, x2], _ =>
      have isE : ∀ {c : V} {cv : Value} {H1 : Hp} {Q1 : VK}, (∀ u, RelV c u → u = cv) → PySem.W.kitOne X.K (.ref CB) cv = some true → Q1 (.bl true) H1 → rIsE X.K CB a [.ref a, c] H1 Q1 := fun h1 h2 h3 => ⟨_, _, true, rfl, h1, h2, h3⟩
      refine wb_cons (ws_set 2 nd rfl (.inl rfl) (we_lst (wa_cons ?_)))
      refine we_callB (call_isE S.ex hz hf) (by rfl) mi boot_isinstance ?_
      keq_hits
      refine we_glob (v := .ref CB) (by rfl) S.mB rfl ?_
      keq_hits
      refine isE (fun u r => r) S.cb ?_
      keq_hits
      refine ⟨by simp [sizeLine], fun p hp => ?_⟩
      have sp : Same H' (upd H' p (.lst [.bl true])) := Same.new hp
      have hp1 : upd H' p (.lst [.bl true]) p = some (.lst [.bl true]) := upd_same
      generalize upd H' p (.lst [.bl true]) = H1 at sp hp1 ⊢
      show WP.WB _ _ _ _ _
      refine wb_cons (ws_if ?_)
      keq_hits
      refine wt_cmp op_ne rfl ?_
      refine we_bm PySem.F.plainAttrs_list PySem.F.slot_list_count PySem.F.type_list_count (mt_bcount (by show X.A.units + 3 + 65 < cLine; omega)) ?_
      keq_hits
      refine ⟨.inl ⟨rfl, _, SqL.of hp1⟩, ?_⟩
      keq_hits
      refine ⟨p, true, true, rfl, rfl, SqL.of hp1, ?_⟩
      keq_hits
      refine ⟨rfl, i_bl (i_iff rfl ?_)⟩
      refine ww_or1 (wt_not (wt_val ?_))
      refine we_callB (call_isE S.ex hz hf) (by rfl) mi boot_isinstance ?_
      keq_hits
      refine we_bty ⟨S.mv, boot_VE⟩ (by rfl) ?_
      keq_hits
      refine isE (fun u r => r) S.cv ?_
      refine i_bl (i_iff rfl ?_)
      keq_hits
      refine we_ix ix_seq (fun _ _ => by with_unfolding_all rfl) ?_
      keq_hits
      refine ⟨by simp [sizeLine], fun p2 hp2 => ?_⟩
      have sp2 : Same H1 (upd H1 p2 (.lst [.str "pattern"])) := Same.new hp2
      have hp21 : upd H1 p2 (.lst [.str "pattern"]) p2 = some (.lst [.str "pattern"]) := upd_same
      generalize upd H1 p2 (.lst [.str "pattern"]) = H2 at sp2 hp21 ⊢
      have hp12 := sp2 _ _ hp1
      refine we_bm PySem.F.plainAttrs_list PySem.F.slot_list_index PySem.F.type_list_index mt_index ?_
      keq_hits
      refine ⟨.inl ⟨rfl, _, SqL.of hp12⟩, ?_⟩
      keq_hits
      refine ⟨p, _, _, 0, _, rfl, rfl, SqL.of hp12, rfl, rfl, rfl, rfl, fun m z' hm => absurd hm (Nat.not_lt_zero m), ?_⟩
      refine .inl ⟨p2, _, _, _, rfl, rfl, SqL.of hp21, rfl, ?_⟩
      exact hq _ (sp.trans sp2)
    · exact h _
end
end
section
/-! ### the law's heap: the hand, the table of the law's code, the literals -/
open LamX
structure LW (H : Hp) (hh c p0 : Addr) (T : List (Addr × Str)) : Prop where
  hp : HandP H hh c
  tb : Tabs T H
  lt : ∃ o, H p0 = some (.frz o (.tup [.str "lit"])) ∧ Pl o
theorem HandP.at_ {H : Hp} {hh c : Addr} (h : HandP H hh c) : ∃ vs, H hh = some (.lst vs) := by
  obtain ⟨vs, e, _⟩ := h
  exact ⟨vs, e⟩
theorem LW.same {H H' : Hp} {hh c p0 : Addr} {T : List (Addr × Str)} (w : LW H hh c p0 T) (s : Same H H') : LW H' hh c p0 T :=
  ⟨w.hp.same s, w.tb.ext s, let ⟨o, e, pl⟩ := w.lt; ⟨o, s _ _ e, pl⟩⟩
def Lists (S : List Addr) (H : Hp) : Prop := ∀ a ∈ S, ∃ vs, H a = some (.lst vs)
theorem Lists.off {S : List Addr} {H : Hp} (h : Lists S H) : Off S H := fun a ha z => by
  obtain ⟨vs, e⟩ := h a ha
  rw [z] at e
  cases e
theorem tabS_hid {S : List Addr} {H H' : Hp} {P : Addr} {q : Str} (t : TabS H P q) (l : Lists S H) (s : Same (hid S H) (hid S H')) : TabS H' P q := by
  obtain ⟨ps, h1, h2, h3⟩ := t
  have keep : ∀ {b : Addr} {o : HO}, H b = some o → (∀ vs, o ≠ .lst vs) → H' b = some o := fun {b o} e n => by
    refine same_at s (fun hb => ?_) e
    obtain ⟨vs, e2⟩ := l b hb
    rw [e] at e2
    exact n vs (Option.some.inj e2)
  refine ⟨ps, keep h1 (fun vs z => by cases z), h2, fun pos cv hc => ?_⟩
  obtain ⟨c, e1, e2⟩ := h3 pos cv hc
  refine ⟨c, e1, keep e2 fun vs z => ?_⟩
  unfold CodeO at z
  cases z
theorem LW.hid {S : List Addr} {H H' : Hp} {hh c p0 : Addr} {T : List (Addr × Str)} (w : LW H hh c p0 T) (l : Lists S H) (s : Same (WP.hid S H) (WP.hid S H')) (hp : HandP H' hh c) : LW H' hh c p0 T := by
  refine ⟨hp, fun p hpT => tabS_hid (w.tb p hpT) l s, ?_⟩
  obtain ⟨o, e, pl⟩ := w.lt
  refine ⟨o, same_at s (fun hb => ?_) e, pl⟩
  obtain ⟨vs, e2⟩ := l p0 hb
  rw [e] at e2
  cases e2
theorem LW.draw {H : Hp} {hh c p0 : Addr} {T : List (Addr × Str)} {ws : List V} (w : LW H hh c p0 T) (L : HandL H hh c ws) : LW (upd H hh (.lst ws)) hh c p0 T :=
  w.hid (S := [hh]) (fun a ha => by rw [List.mem_singleton.mp ha]; exact w.hp.at_) (hid_put (by simp)) (HandP.put L)
theorem LW.ext {H H' : Hp} {hh c p0 : Addr} {T : List (Addr × Str)} (w : LW H hh c p0 T) (e : ExtN H H') (t : Tabs T H') : LW H' hh c p0 T := by
  obtain ⟨vs, h1, ns, i1, i2, i3, i4, ev, hc, n, p1⟩ := w.hp
  obtain ⟨o, h2, pl⟩ := w.lt
  exact ⟨⟨vs, e _ _ h1 (fun _ z => by cases z), ns, i1, i2, i3, i4, ev, e _ _ hc (fun _ z => by cases z), n, p1⟩, t, ⟨o, e _ _ h2 (fun _ z => by cases z), pl⟩⟩
theorem LW.lits {K : PySem.W.Frag} {H : Hp} {hh c p0 : Addr} {T : List (Addr × Str)} (w : LW H hh c p0 T) : Dp K H (.ref p0) (.tuple (([("lit" : Str)] : List Str).map .str)) := by
  obtain ⟨o, e, _⟩ := w.lt
  exact .tup (sqT_frz e) (.cons (.str _) .nil)
theorem LW.lists {H : Hp} {hh c p0 : Addr} {T : List (Addr × Str)} (w : LW H hh c p0 T) : Lists [hh] H := fun a ha => by
  rw [List.mem_singleton.mp ha]
  exact w.hp.at_
mutual
theorem Dz.ext {H H' : Hp} (e : ExtN H H') : ∀ {d : PyData} {v : V}, Dz H v d → Dz H' v d
  | _, _, .non => .non
  | _, _, .bl b => .bl b
  | _, _, .int i => .int i
  | _, _, .str x => .str x
  | _, _, .lst h g => .lst (e _ _ h (fun _ z => by cases z)) (DzAll.ext e g)
  | _, _, .tup h p g => .tup (e _ _ h (fun _ z => by cases z)) p (DzAll.ext e g)
theorem DzAll.ext {H H' : Hp} (e : ExtN H H') : ∀ {ds : List PyData} {vs : List V}, DzAll H vs ds → DzAll H' vs ds
  | _, _, .nil => .nil
  | _, _, .cons h g => .cons (Dz.ext e h) (DzAll.ext e g)
end
theorem extN_hid {S : List Addr} {H H' : Hp} (e : ExtN H H') : ExtN (hid S H) (hid S H') := fun b o h n => by
  by_cases hb : b ∈ S
  · rw [hid_in hb] at h
    cases h
  · rw [hid_out hb] at h ⊢
    exact e b o h n
/-- a datum without lists stands beside lists -/
theorem dz_hid_all {H : Hp} {v : V} {d : PyData} (hn : nolist d = true) (h : Dz H v d) : ∀ {S : List Addr}, Lists S H → Dz (hid S H) v d := by
  intro S
  induction S with
  | nil =>
    intro _
    exact h.mono fun b o e => by rw [hid_out (by simp)]; exact e
  | cons a S ih =>
    intro l
    obtain ⟨vs, e⟩ := l a (by simp)
    have := Dz.off (S := S) e hn (ih fun b hb => l b (List.mem_cons_of_mem _ hb))
    exact this.mono fun b o hb => by
      by_cases hm : b ∈ a :: S
      · rw [hid_in (by simp at hm ⊢; exact hm.symm)] at hb
        cases hb
      · rw [hid_out hm]
        rwa [hid_out (by simp at hm ⊢; exact ⟨hm.2, hm.1⟩)] at hb
theorem Dz.step {S : List Addr} {H H' : Hp} {v : V} {d : PyData} (hn : nolist d = true) (h : Dz H v d) (l : Lists S H) (s : Same (hid S H) (hid S H')) : Dz H' v d := ((dz_hid_all hn h l).mono s).mono hid_same
theorem LW.litz {H : Hp} {hh c p0 : Addr} {T : List (Addr × Str)} (w : LW H hh c p0 T) : Dz (WP.hid [hh] H) (.ref p0) (.tuple [.str "lit"]) := by
  obtain ⟨o, e, pl⟩ := w.lt
  refine dz_hid_all (by decide +kernel) (.tup e pl (.cons (.str _) .nil)) w.lists
end
section
open LamX
/-- _law_said(lambda: body), in the law -/
theorem we_said {X : Cx} {g cc Pt CT CB : Addr} {fdS : FuncData} {k : Nat} {params : Arguments} {body : Expr} {scope : Scope} {p lpos pos : Pos} {σ : L2.St} {H : Hp} {Q : VK} (FS : FnP X.K "_law_said" 58 g fdS) (hm : X.mg "_law_said" = some (.ref g)) (hg : Gl X "_law_said")
    (S : SaidOk X.K X.mg CT CB) (TB : TabB X.base X.mg cc Pt) (hcode : X.env.code = .ref cc) (hr : Room (k + 2) X.A) (L : LamS X.env.scope scope) (hdef : defaultsOf params X.env = ([], []))
    (hbind : ∀ (q : Str) (cl : List (Str × Addr)) (pm cv ctv : Value), bindArgs (PySem.W.kla_fn "<lambda>" q params body scope cl pm cv ctv) ⟨[], []⟩ = pure [])
    (q : Tabs [(Pt, X.env.qual ++ "<lambda>")] H ∧ ∀ H1, ExtN H H1 → Tabs [(Pt, X.env.qual ++ "<lambda>")] H1 → ∀ Qn, tLamB X k scope body (fun cls d H' => cls = .ref CB ∧ d = none ∧ ∀ H2, Same H' H2 → Q (.str "pattern") H2) σ H1 Qn) :
    WE X (.Call (.Name "_law_said" p) [.Lambda params body scope lpos] [] pos) σ H Q := by
  have hb : Binds X.K fdS ["call_one"] [] := FS.bindsN fun _ _ _ _ _ _ us hl => match us, hl with | [_], _ => rfl
  have hk := FS.kp
  obtain ⟨oc, od, dV, kV, doc, pm, an, cdv, ct, osl, rfl, lk, hcd, _, _⟩ := FS.ex
  have hu : X.A.units + 100 < cLine := by
    have := hr.un
    omega
  exact .of (pe_lamcall (T := [(Pt, X.env.qual ++ "<lambda>")]) hg hm hk lk hcd hb sc58 rfl (.inl rfl) (said_gives S hu) TB hcode (by simp) (by simp) hr L hdef hbind (fun A outer s H E f c' r => tLamB_pe A outer s H E f c' r)) q
theorem pas_lam {X : Cx} {A : Around} {outer : List Env} {s : Shared} {H : Hp} {E : XK} {scope : Scope} {f c' : Addr} : Pas (lamCx X A outer s H E scope f c') (fun cls d _ H => E cls d H) := pas_of (takes_of rfl rfl rfl rfl)
abbrev Nl : List Str := ["script", "turn_no", "due", "least", "rules", "odd", "left_deep", "things", "thing", "said", "bad", "hand", "literals", "pattern"]
abbrev LX (P : Program) (w : World) (K : PySem.W.Frag) (mg : Str → Option Value) (base : Heap) (f cc : Addr) (A : Around) (outer : List Env) (s0 : Shared) (H0 : Hp) (E : XK) : Cx := bx P w K mg base Nl "law" (defScope (top 62)) f (.ref cc) A outer s0 H0 E
theorem sc62 : FnScope Nl ["script"] (defScope (top 62)) := ⟨rfl, rfl, rfl, by decide +kernel, rfl, by decide +kernel, by decide +kernel⟩
def loopBody : List Stmt := match defBody (top 62) with
  | _ :: _ :: .For _ _ b _ _ :: _ => b
  | _ => []
abbrev LT (Pt : Addr) (q : Str) : List (Addr × Str) := [(Pt, q ++ "<lambda>")]
/-- a drawn pattern stands in its slot -/
structure PatAt (H : Hp) (pv : V) (pd : PyData) : Prop where
  dz : Dz H pv pd
  pat : Pat 3 pd
  nd : (pnames pd).Nodup
def badOpts : List PyData := [.none, .tuple [.str "a", .str "a"], .tuple [.str "..."], .tuple [.str "a", .str "...", .str "b", .str "..."], .list [.str "a"], .str "A", .tuple [.str "a", .none], .bool true]
theorem bad_ok : ∀ d ∈ badOpts, lawPat ["lit"] d = false ∧ rangeB d = true ∧ smallD d = true ∧ dsize d ≤ 3000 ∧ ddep d ≤ 20 := by decide +kernel
def nameOpts : List PyData := [.none, .str "A", .int 5, .str "...", .tuple [.str "a"]]
theorem name_bad : ∀ d ∈ nameOpts, isName d = false ∧ smallD d = true := by decide +kernel
theorem dz_list {H : Hp} {v : V} {ds : List PyData} (h : Dz H v (.list ds)) : ∃ a xs, v = .ref a ∧ H a = some (.lst xs) ∧ DzAll H xs ds := by
  cases h with
  | lst h g => exact ⟨_, _, rfl, h, g⟩
theorem hid_one {H : Hp} {h a : Addr} {o : HO} (e : hid [h] H a = some o) : a ≠ h ∧ H a = some o := by
  by_cases z : a = h
  · rw [z, hid_in (by simp)] at e
    cases e
  · rw [hid_out (by simp [z])] at e
    exact ⟨z, e⟩
/-- _law_any(hand, [..]) -/
theorem we_any {X : Cx} {K : PySem.W.Frag} {n i : Nat} {e : Expr} {opts : List PyData} {ρ : Str → Option (Nat × PyData)} {hh c p0 : Addr} {T : List (Addr × Str)} {σ : L2.St} {H : Hp} {Q : VK} {p ph pos : Pos} (eK : X.K = K) (da : Def X.prog X.w X.K X.mg X.base 2 "_law_any" (sp_any K)) (hr : Room 2 X.A) (hg : Gl X "_law_any")
    (hN : X.N[i]? = some "hand") (hv : Vis X.env.scope "hand") (hs : σ[i]? = some (some (.ref hh))) (hl : litE ρ n e = some (.list opts)) (h0 : 0 < opts.length) (h1 : opts.length < 1000) (hA : NamesAt X [hh] ρ σ H) (W : LW H hh c p0 T)
    (he : starEach (.Name "hand" ph :: [e]) X.env = (false, eval (.Name "hand" ph) X.env) :: starEach [e] X.env) (hpl : (backTo pos (starEach [e] X.env)).any (·.1) = false)
    (q : ∀ v d H1 ws, d ∈ opts → Same H H1 → HandL H1 hh c ws → LW (upd H1 hh (.lst ws)) hh c p0 T → Dz (hid [hh] (upd H1 hh (.lst ws))) v d → Q v (upd H1 hh (.lst ws))) :
    WE X (.Call (.Name "_law_any" p) [.Name "hand" ph, e] [] pos) σ H Q := by
  refine we_call' (RW := fun _ _ _ _ => False) da hr pas_no hg ?_ (by decide) he hpl
  refine wa_cons (we_var i hN hv hs ?_) he
  refine wa_cons (we_lit n ρ [hh] hl hA W.lists.off fun v H1 s1 g1 => wa_nil ?_) (lit_star [] hl)
  obtain ⟨b, xs, rfl, hb, hxs⟩ := dz_list g1
  obtain ⟨bn, hb'⟩ := hid_one hb
  have W1 := W.same s1
  refine ⟨hh, c, b, xs, rfl, W1.hp, bn, hb', by rw [hxs.len]; exact h0, by rw [hxs.len]; omega, fun j ws v ev L => ?_⟩
  obtain ⟨d, hd, gd⟩ := hxs.at ev
  exact q v d H1 ws (List.mem_of_getElem? hd) s1 L (W1.draw L) (by rw [hid_upd_in (by simp)]; exact gd)
section
variable {P : Program} {w : World} {K : PySem.W.Frag} {mg : Str → Option Value} {base : Heap} {f cc Pt CT CB g : Addr} {fdS : FuncData} {A : Around} {outer : List Env} {s0 : Shared} {H0 : Hp} {E : XK}
def LoopInv (a hh c p0 : Addr) (T : List (Addr × Str)) (σ : L2.St) (H : Hp) : Prop := ∃ (r1 r2 r3 r4 r5 r6 r7 r8 r9 r10 r13 : Option V), σ = [some (.ref a), r1, r2, r3, r4, r5, r6, r7, r8, r9, r10, some (.ref hh), some (.ref p0), r13] ∧ LW H hh c p0 T
theorem law_d (hr : Room 58 (A.deeper (envOfC "law" (defScope (top 62)) s0.heap.objs.size f (.ref cc)))) (FS : FnP K "_law_said" 58 g fdS) (hms : mg "_law_said" = some (.ref g)) (S : SaidOk K mg CT CB) (TB : TabB base mg cc Pt) (da : Def P w K mg base 2 "_law_any" (sp_any K))
    (no : Def P w K mg base 48 "names_of" (sp_names_of K CB ["lit"])) (lu : Def P w K mg base 48 "least_use" (sp_least_use K CB ["lit"])) {D : Ends} {a hh c p0 : Addr} {H : Hp} {r1 r2 r3 r4 r5 r6 r7 r8 r9 r10 : Option V} {pv : V} {pd : PyData}
    (hD : ∀ σ' H', LoopInv a hh c p0 (LT Pt (LX P w K mg base f cc A outer s0 H0 E).env.qual) σ' H' → D.nx σ' H') (W0 : LW H hh c p0 (LT Pt (LX P w K mg base f cc A outer s0 H0 E).env.qual)) (B : PatAt H pv pd) :
    WB (LX P w K mg base f cc A outer s0 H0 E) (loopBody.drop 14) D [some (.ref a), r1, r2, r3, r4, r5, r6, r7, r8, r9, r10, some (.ref hh), some (.ref p0), some pv] H := by
  have nd := sc62.nd
  show WB _ (Stmt.Assign _ _ _ :: _) _ _ _
  refine wb_cons (ws_set 10 nd rfl (by k_clsL) ?_)
  refine we_any (n := 60) (i := 11) (ρ := fun _ => none) (opts := badOpts) rfl da (Room.mono hr (by omega)) (by rfl) (by rfl) (by k_clsL) (by rfl) (by kernel_rfl) (by decide) (by decide) namesAt_none W0 (by rfl) (by rfl) fun bv bd H1 ws1 hbd s1 L1 W1 dzb => ?_
  have dzb1 := dzb.mono hid_same
  have dzp1 : Dz (upd H1 hh (.lst ws1)) pv pd := Dz.step B.pat.nol (B.dz.mono s1) (W0.same s1).lists (hid_put (by simp))
  generalize upd H1 hh (.lst ws1) = H2 at W1 dzb1 dzp1 ⊢
  obtain ⟨bl, br, bs, bz, bp⟩ := bad_ok bd hbd
  have bgood : (formB bd && goodD ["lit"] bd) = false := by rw [pat_eq br]; exact bl
  show WP.WB _ _ _ _ _
  refine wb_cons (ws_set 9 nd rfl (by k_clsL) (we_lst (wa_cons ?_)))
  refine we_said FS hms (by rfl) S TB rfl (k := 50) (Room.mono hr (by omega)) (lamS_by (by show lamSB (defScope (top 62)) _ = true; decide +kernel)) (by rfl) (fun _ _ _ _ _ => by rfl) ⟨W1.tb, fun H3 eN T3 Qn => ?_⟩
  have W3 := W1.ext eN T3
  have dzb3 := Dz.ext eN dzb1
  have dzp3 := Dz.ext eN dzp1
  intro A' outer' s' H0' f' c' r'
  refine we_call' no (Room.mono r' (by omega)) pas_lam (by rfl) ?_
  kt_ors
  refine ⟨_, bv, bd, rfl, W3.lits, dzb3.dp, ⟨bs, bz, bp⟩, fun x hf hs hg => ?_, fun _ H4 s4 => ?_⟩
  · have : goodD ["lit"] bd = true := by
      unfold goodD
      rw [hs]
      exact hg
    rw [hf, this] at bgood
    cases bgood
  refine ⟨rfl, rfl, fun H5 s5 => ?_⟩
  have W5 := (W3.same s4).same s5
  have dzb5 := (dzb3.mono s4).mono s5
  have dzp5 := (dzp3.mono s4).mono s5
  kt_ors
  refine ⟨by simp [sizeLine], fun l hl => ?_⟩
  have W6 := W5.same (Same.new (o := .lst [.str "pattern"]) hl)
  have dzb6 := dzb5.mono (Same.new (o := .lst [.str "pattern"]) hl)
  have dzp6 := dzp5.mono (Same.new (o := .lst [.str "pattern"]) hl)
  have hl6 : upd H5 l (.lst [.str "pattern"]) l = some (.lst [.str "pattern"]) := upd_same
  have ln : l ≠ hh := fun z => by
    obtain ⟨vs, e⟩ := W5.hp.at_
    rw [← z, hl] at e
    cases e
  have lc : l ≠ c := fun z => by
    obtain ⟨vs, _, _, _, _, _, _, _, hc, _⟩ := W5.hp
    rw [← z, hl] at hc
    cases hc
  generalize upd H5 l (.lst [.str "pattern"]) = H6 at W6 dzb6 dzp6 hl6 ⊢
  show WP.WB _ _ _ _ _
  refine wb_cons (ws_expr (we_append ?_))
  refine we_var 9 (by rfl) (by k_clsL) (by rfl) ?_
  refine i_lstT hl6 (wa_cons ?_)
  refine we_said FS hms (by rfl) S TB rfl (k := 50) (Room.mono hr (by omega)) (lamS_by (by show lamSB (defScope (top 62)) _ = true; decide +kernel)) (by rfl) (fun _ _ _ _ _ => by rfl) ⟨W6.tb, fun H7 eN7 T7 Qn7 => ?_⟩
  have W7 := W6.ext eN7 T7
  have dzb7 := Dz.ext eN7 dzb6
  have dzp7 := Dz.ext eN7 dzp6
  have hl7 := eN7 _ _ hl6 (fun _ z => by cases z)
  intro A7 outer7 s7' H70 f7 c7 r7'
  refine we_call' lu (Room.mono r7' (by omega)) pas_lam (by rfl) ?_
  kt_ors
  refine ⟨_, bv, _, bd, .str "w", rfl, W7.lits, dzb7.dp, ⟨bs, bz, bp⟩, .str "w", by decide +kernel, fun h => ?_, fun _ H8 s8 => ?_⟩
  · rw [bgood] at h
    cases h
  refine ⟨rfl, rfl, fun H9 s9 => ?_⟩
  have W9 := (W7.same s8).same s9
  have dzp9 := (dzp7.mono s8).mono s9
  have hl9 := s9 _ _ (s8 _ _ hl7)
  refine wa_nil (i_append hl9 (by simp [sizeLine]) ?_)
  have W10 : LW (upd H9 l (.lst [.str "pattern", .str "pattern"])) hh c p0 (LT Pt (LX P w K mg base f cc A outer s0 H0 E).env.qual) :=
    W9.hid (S := [l]) (fun a ha => by rw [List.mem_singleton.mp ha]; exact ⟨_, hl9⟩) (hid_put (by simp)) (W9.hp.off ln lc)
  have dzp10 : Dz (upd H9 l (.lst [.str "pattern", .str "pattern"])) pv pd := Dz.step B.pat.nol dzp9 (S := [l]) (fun a ha => by rw [List.mem_singleton.mp ha]; exact ⟨_, hl9⟩) (hid_put (by simp))
  have hl10 : upd H9 l (.lst [.str "pattern", .str "pattern"]) l = some (.lst [.str "pattern", .str "pattern"]) := upd_same
  show WP.WB _ _ _ _ (upd H9 l (.lst [.str "pattern", .str "pattern"]))
  generalize upd H9 l (.lst [.str "pattern", .str "pattern"]) = H10 at W10 dzp10 hl10 ⊢
  refine wb_cons (ws_set 9 nd rfl (by k_clsL) (we_op op_cat ?_))
  refine we_var 9 (by rfl) (by k_clsL) (by rfl) ?_
  refine we_lst (wa_cons ?_)
  refine we_said FS hms (by rfl) S TB rfl (k := 50) (Room.mono hr (by omega)) (lamS_by (by show lamSB (defScope (top 62)) _ = true; decide +kernel)) (by rfl) (fun _ _ _ _ _ => by rfl) ⟨W10.tb, fun H11 eN11 T11 Qn11 => ?_⟩
  have W11 := W10.ext eN11 T11
  have dzp11 := Dz.ext eN11 dzp10
  have hl11 := eN11 _ _ hl10 (fun _ z => by cases z)
  intro A11 outer11 s11' H110 f11 c11 r11'
  refine we_call' lu (Room.mono r11' (by omega)) pas_lam (by rfl) ?_
  refine wa_cons (we_var 12 (by rfl) (by k_clsL) (by rfl) ?_)
  refine wa_cons (we_var 13 (by rfl) (by k_clsL) (by rfl) ?_)
  refine wa_cons ?_
  refine we_any (n := 60) (i := 11) (ρ := fun _ => none) (opts := nameOpts) rfl da (Room.mono r11' (by omega)) (by rfl) (by rfl) (by k_clsL) (by rfl) (by kernel_rfl) (by decide) (by decide) namesAt_none W11 (by rfl) (by rfl) fun nv ndd H12 ws12 hnd s12 L12 W12 dzn => ?_
  have dzn1 := dzn.mono hid_same
  have dzp12 : Dz (upd H12 hh (.lst ws12)) pv pd := Dz.step B.pat.nol (dzp11.mono s12) (W11.same s12).lists (hid_put (by simp))
  have hl12 : upd H12 hh (.lst ws12) l = some (.lst [.str "pattern", .str "pattern"]) := by rw [upd_ne ln]; exact s12 _ _ hl11
  generalize upd H12 hh (.lst ws12) = H13 at W12 dzn1 dzp12 hl12 ⊢
  obtain ⟨nb, ns⟩ := name_bad ndd hnd
  have fo : FormOk pd := ⟨small_form pd B.pat.form, Nat.le_trans B.pat.size (by decide), Nat.le_trans B.pat.dep (by decide)⟩
  refine wa_nil ⟨_, pv, nv, pd, ndd, rfl, W12.lits, dzp12.dp, fo, dzn1.dp, ns, fun h z ez hz => ?_, fun _ H14 s14 => ?_⟩
  · rw [nb] at hz
    cases hz
  refine ⟨rfl, rfl, fun H15 s15 => ?_⟩
  have W15 := (W12.same s14).same s15
  have hl15 := s15 _ _ (s14 _ _ hl12)
  refine wa_nil ⟨by simp [sizeLine], fun l2 hl2 => ?_⟩
  have s16 : Same H15 (upd H15 l2 (.lst [.str "pattern"])) := Same.new hl2
  have hl216 : upd H15 l2 (.lst [.str "pattern"]) l2 = some (.lst [.str "pattern"]) := upd_same
  generalize upd H15 l2 (.lst [.str "pattern"]) = H16 at s16 hl216 ⊢
  have hl16 := s16 _ _ hl15
  refine ⟨l, l2, _, _, rfl, rfl, hl16, hl216, by simp [sizeLine], fun l3 hl3 => ?_⟩
  have s17 : Same H16 (upd H16 l3 (.lst [.str "pattern", .str "pattern", .str "pattern"])) := Same.new hl3
  have hl317 : upd H16 l3 (.lst [.str "pattern", .str "pattern", .str "pattern"]) l3 = some (.lst [.str "pattern", .str "pattern", .str "pattern"]) := upd_same
  show WP.WB _ _ _ _ (upd H16 l3 (.lst [.str "pattern", .str "pattern", .str "pattern"]))
  generalize upd H16 l3 (.lst [.str "pattern", .str "pattern", .str "pattern"]) = H17 at s17 hl317 ⊢
  have W17 := (W15.same s16).same s17
  refine wb_one (ws_if ?_)
  refine wt_cmp (op_neD hr.units) rfl ?_
  refine we_var 9 (by rfl) (by k_clsL) (by rfl) ?_
  refine we_op op_rep ?_
  keq_hits
  refine ⟨by simp [sizeLine], fun l4 hl4 => ?_⟩
  have s18 : Same H17 (upd H17 l4 (.lst [.str "pattern"])) := Same.new hl4
  have hl418 : upd H17 l4 (.lst [.str "pattern"]) l4 = some (.lst [.str "pattern"]) := upd_same
  generalize upd H17 l4 (.lst [.str "pattern"]) = H18 at s18 hl418 ⊢
  keq_hits
  refine ⟨l4, 3, _, rfl, rfl, hl418, by decide, by decide, by decide +kernel, fun l5 hl5 => ?_⟩
  have s19 : Same H18 (upd H18 l5 (.lst (List.replicate (Int.toNat 3) [V.str "pattern"]).flatten)) := Same.new hl5
  have hl519 : upd H18 l5 (.lst (List.replicate (Int.toNat 3) [V.str "pattern"]).flatten) l5 = some (.lst [.str "pattern", .str "pattern", .str "pattern"]) := upd_same
  generalize upd H18 l5 (.lst (List.replicate (Int.toNat 3) [V.str "pattern"]).flatten) = H19 at s19 hl519 ⊢
  have h3 := s19 _ _ (s18 _ _ hl317)
  have three : DpAll K H19 [V.str "pattern", .str "pattern", .str "pattern"] [.str "pattern", .str "pattern", .str "pattern"] := .cons (.str _) (.cons (.str _) (.cons (.str _) .nil))
  refine ⟨.list [.str "pattern", .str "pattern", .str "pattern"], .list [.str "pattern", .str "pattern", .str "pattern"], .lst (SqL.of h3) three, .lst (SqL.of hl519) three, by decide +kernel, by decide +kernel, i_bl (i_iff (by decide +kernel) (wb_nil (hD _ _ ⟨_, _, _, _, _, _, _, _, _, _, _, rfl, (W17.same s18).same s19⟩)))⟩
end
end
section
open LamX
def oddOpts : List PyData := [.none, .bool true, .str "A", .str "...", .tuple [.str "a", .str "a"], .tuple [.str "..."], .tuple [.str "a", .str "...", .str "..."], .list [.str "a"], .tuple [.tuple [.str "a", .str "..."], .str "..."], .str "lit", .tuple [.str "_", .str "_"]]
def leftDeep : PyData := .tuple [.tuple [.tuple [.tuple [.tuple [.str "a", .str "..."], .str "..."], .str "..."], .str "..."]]
def thingsOf (pd od : PyData) : List PyData := [pd, .tuple [pd, od], od, .tuple [pd, .str "f"], leftDeep, .tuple [pd, .str "..."], .tuple [.tuple [.str "f", .str "..."], .str "g"]]
def moreThings : List PyData := [.tuple [.str "lit", .str "lit"], .tuple [.int 1, .str "...", .int 2]]
/-- a thing that both judge -/
structure ThingOk (d : PyData) : Prop where
  r : rangeB d = true
  t : Tame d
  z : dsize d ≤ 900
  p : ddep d ≤ 20
theorem tame_by {d : PyData} (h1 : d.canLay0 = true) (h2 : d.depth ≤ 60) (h3 : smallD d = true) : Tame d := ⟨h1, h2, h3⟩
theorem pat_thing {d : PyData} (h : Pat 3 d) : ThingOk d ∧ dsize d ≤ 53 ∧ ddep d ≤ 4 ∧ d.depth ≤ 4 :=
  ⟨⟨range_form d h.form, ⟨canLay_form d h.form, Nat.le_trans (depth_form d h.form) (Nat.le_trans h.dep (by decide)), small_form d h.form⟩, Nat.le_trans h.size (by decide), Nat.le_trans h.dep (by decide)⟩, h.size, h.dep, Nat.le_trans (depth_form d h.form) h.dep⟩
theorem odd_thing : ∀ d ∈ oddOpts, (rangeB d = true ∧ d.canLay0 = true ∧ smallD d = true) ∧ dsize d ≤ 9 ∧ ddep d ≤ 3 ∧ d.depth ≤ 3 := by decide +kernel
theorem pair_thing {a b : PyData} (ha : rangeB a = true ∧ a.canLay0 = true ∧ smallD a = true) (hb : rangeB b = true ∧ b.canLay0 = true ∧ smallD b = true) (s1 : dsize a ≤ 53) (s2 : dsize b ≤ 53) (p1 : ddep a ≤ 4) (p2 : ddep b ≤ 4) (q1 : a.depth ≤ 4) (q2 : b.depth ≤ 4) : ThingOk (.tuple [a, b]) := by
  have e1 : (PyData.tuple [a, b]).depth = max a.depth (max b.depth 0) + 1 := rfl
  refine ⟨by simp [rangeB, rangeBs, ha.1, hb.1], ⟨by simp [PyData.canLay0, PyData.canLayAll0, ha.2.1, hb.2.1], by rw [e1]; omega, by simp [smallD, smallDs, ha.2.2, hb.2.2]⟩, ?_, ?_⟩
  · simp only [dsize, dsizes]
    omega
  · simp only [ddep, ddeps]
    omega
theorem things_ok {pd od : PyData} (hp : Pat 3 pd) (ho : od ∈ oddOpts) : ∀ d ∈ thingsOf pd od ++ moreThings, ThingOk d := by
  obtain ⟨tp, zp, dp, ep⟩ := pat_thing hp
  obtain ⟨⟨r1, c1, m1⟩, zo, po, eo⟩ := odd_thing od ho
  have st : ∀ s : Str, s = "f" ∨ s = "..." → (rangeB (.str s) = true ∧ (PyData.str s).canLay0 = true ∧ smallD (.str s) = true) ∧ dsize (.str s) ≤ 53 ∧ ddep (.str s) ≤ 4 ∧ (PyData.str s).depth ≤ 4 := by
    rintro s (rfl | rfl) <;> decide +kernel
  have pp : rangeB pd = true ∧ pd.canLay0 = true ∧ smallD pd = true := ⟨tp.r, tp.t.can, tp.t.sm⟩
  intro d hd
  simp only [thingsOf, moreThings, List.cons_append, List.nil_append, List.mem_cons, List.not_mem_nil, or_false] at hd
  rcases hd with rfl | rfl | rfl | rfl | rfl | rfl | rfl | rfl | rfl
  · exact tp
  · exact pair_thing pp ⟨r1, c1, m1⟩ zp (by omega) dp (by omega) ep (by omega)
  · exact ⟨r1, ⟨c1, by omega, m1⟩, by omega, by omega⟩
  · obtain ⟨a1, a2, a3, a4⟩ := st "f" (.inl rfl)
    exact pair_thing pp a1 zp a2 dp a3 ep a4
  · exact ⟨by decide +kernel, ⟨by decide +kernel, by decide +kernel, by decide +kernel⟩, by decide +kernel, by decide +kernel⟩
  · obtain ⟨a1, a2, a3, a4⟩ := st "..." (.inr rfl)
    exact pair_thing pp a1 zp a2 dp a3 ep a4
  · exact ⟨by decide +kernel, ⟨by decide +kernel, by decide +kernel, by decide +kernel⟩, by decide +kernel, by decide +kernel⟩
  · exact ⟨by decide +kernel, ⟨by decide +kernel, by decide +kernel, by decide +kernel⟩, by decide +kernel, by decide +kernel⟩
  · exact ⟨by decide +kernel, ⟨by decide +kernel, by decide +kernel, by decide +kernel⟩, by decide +kernel, by decide +kernel⟩
/-- the names pattern, odd, left_deep in their slots -/
def rhoT (pd od : PyData) : Str → Option (Nat × PyData) := fun x => if x = "pattern" then some (13, pd) else if x = "odd" then some (5, od) else if x = "left_deep" then some (6, leftDeep) else none
section
variable {P : Program} {w : World} {K : PySem.W.Frag} {mg : Str → Option Value} {base : Heap} {f cc Pt CT CB g : Addr} {fdS : FuncData} {A : Around} {outer : List Env} {s0 : Shared} {H0 : Hp} {E : XK}
theorem law_c (hr : Room 58 (A.deeper (envOfC "law" (defScope (top 62)) s0.heap.objs.size f (.ref cc)))) (FS : FnP K "_law_said" 58 g fdS) (hms : mg "_law_said" = some (.ref g)) (S : SaidOk K mg CT CB) (TB : TabB base mg cc Pt) (da : Def P w K mg base 2 "_law_any" (sp_any K))
    (no : Def P w K mg base 48 "names_of" (sp_names_of K CB ["lit"])) (lu : Def P w K mg base 48 "least_use" (sp_least_use K CB ["lit"])) (ip : Def P w K mg base 46 "is_pattern" (sp_is_pattern K ["lit"])) (dj : Def P w K mg base 2 "_law_is_pattern" (sp_lpat K ["lit"])) {D : Ends} {a hh c p0 : Addr} {H : Hp} {r1 r2 r3 r4 r5 r6 r7 r8 r9 r10 : Option V} {pv : V} {pd : PyData}
    (hD : ∀ σ' H', LoopInv a hh c p0 (LT Pt (LX P w K mg base f cc A outer s0 H0 E).env.qual) σ' H' → D.nx σ' H') (W0 : LW H hh c p0 (LT Pt (LX P w K mg base f cc A outer s0 H0 E).env.qual)) (B : PatAt H pv pd) :
    WB (LX P w K mg base f cc A outer s0 H0 E) (loopBody.drop 8) D [some (.ref a), r1, r2, r3, r4, r5, r6, r7, r8, r9, r10, some (.ref hh), some (.ref p0), some pv] H := by
  have nd := sc62.nd
  show WB _ (Stmt.Assign _ _ _ :: _) _ _ _
  -- odd = [..]
  refine wb_cons (ws_set 5 nd rfl (by k_clsL) (we_lit 60 (fun _ => none) [hh] (by kernel_rfl) namesAt_none W0.lists.off (d := .list (oddOpts.take 9)) fun v1 H1 s1 g1 => ?_))
  obtain ⟨b1, xs1, rfl, hb1, hxs1⟩ := dz_list g1
  obtain ⟨bn1, hb1'⟩ := hid_one hb1
  have W1 := W0.same s1
  show WP.WB _ _ _ _ _
  -- odd = odd + [..]
  refine wb_cons (ws_set 5 nd rfl (by k_clsL) (we_op op_cat ?_))
  refine we_var 5 (by rfl) (by k_clsL) (by rfl) ?_
  refine we_lit 60 (fun _ => none) [hh] (by kernel_rfl) namesAt_none W1.lists.off (d := .list (oddOpts.drop 9)) fun v2 H2 s2 g2 => ?_
  obtain ⟨b2, xs2, rfl, hb2, hxs2⟩ := dz_list g2
  obtain ⟨bn2, hb2'⟩ := hid_one hb2
  have W2 := W1.same s2
  have l1 := hxs1.len
  have l2 := hxs2.len
  refine ⟨b1, b2, xs1, xs2, rfl, rfl, s2 _ _ hb1', hb2', by rw [l1, l2]; decide +kernel, fun b3 hb3 => ?_⟩
  have s3 : Same H2 (upd H2 b3 (.lst (xs1 ++ xs2))) := Same.new hb3
  have W3 := W2.same s3
  have bn3 : b3 ≠ hh := fun z => by
    obtain ⟨vs, e⟩ := W2.hp.at_
    rw [← z, hb3] at e
    cases e
  have hb33 : upd H2 b3 (.lst (xs1 ++ xs2)) b3 = some (.lst (xs1 ++ xs2)) := upd_same
  have gAll : DzAll (hid [hh] (upd H2 b3 (.lst (xs1 ++ xs2)))) (xs1 ++ xs2) oddOpts := by
    have z := (hxs1.mono ((same_hid s2).trans (same_hid s3))).app (hxs2.mono (same_hid s3))
    rwa [List.take_append_drop] at z
  show WP.WB _ _ _ _ (upd H2 b3 (.lst (xs1 ++ xs2)))
  have B3 : PatAt (upd H2 b3 (.lst (xs1 ++ xs2))) pv pd := ⟨((B.dz.mono s1).mono s2).mono s3, B.pat, B.nd⟩
  generalize upd H2 b3 (.lst (xs1 ++ xs2)) = H3 at W3 hb33 gAll B3 ⊢
  -- odd = _law_any(hand, odd)
  have hN3 : NamesAt (LX P w K mg base f cc A outer s0 H0 E) [hh] (fun x => if x = "odd" then some (5, .list oddOpts) else none) [some (.ref a), r1, r2, r3, r4, some (.ref b3), r6, r7, r8, r9, r10, some (.ref hh), some (.ref p0), some pv] H3 := by
    refine ⟨fun x i d e => ?_⟩
    by_cases hx : x = "odd"
    · rw [if_pos hx] at e
      cases e
      subst hx
      exact ⟨by rfl, by k_clsL, by decide, by decide, _, rfl, .lst (by rw [hid_out (by simp [bn3])]; exact hb33) gAll⟩
    · rw [if_neg hx] at e
      cases e
  refine wb_cons (ws_set 5 nd rfl (by k_clsL) ?_)
  refine we_any (n := 60) (i := 11) (opts := oddOpts) rfl da (Room.mono hr (by omega)) (by rfl) (by rfl) (by k_clsL) (by rfl) (by kernel_rfl) (by decide) (by decide) hN3 W3 (by rfl) (by rfl) fun ov od H4 ws4 hod s4 L4 W4 dzo => ?_
  have B4 : PatAt (upd H4 hh (.lst ws4)) pv pd := ⟨Dz.step B.pat.nol (B3.dz.mono s4) (W3.same s4).lists (hid_put (by simp)), B.pat, B.nd⟩
  generalize upd H4 hh (.lst ws4) = H5 at W4 dzo B4 ⊢
  show WP.WB _ _ _ _ _
  -- left_deep, things
  refine wb_cons (ws_set 6 nd rfl (by k_clsL) (we_lit 60 (fun _ => none) [hh] (by kernel_rfl) namesAt_none W4.lists.off (d := leftDeep) fun v6 H6 s6 g6 => ?_))
  have W6 := W4.same s6
  have dzo6 := dzo.mono (same_hid s6)
  have dzp6 := B4.dz.mono s6
  have hN6 : NamesAt (LX P w K mg base f cc A outer s0 H0 E) [hh] (rhoT pd od) [some (.ref a), r1, r2, r3, r4, some ov, some v6, r7, r8, r9, r10, some (.ref hh), some (.ref p0), some pv] H6 := by
    refine ⟨fun x i d e => ?_⟩
    unfold rhoT at e
    by_cases hx : x = "pattern"
    · rw [if_pos hx] at e
      cases e
      subst hx
      exact ⟨by rfl, by k_clsL, by decide, by decide, _, rfl, dz_hid_all B.pat.nol dzp6 W6.lists⟩
    · rw [if_neg hx] at e
      by_cases hx2 : x = "odd"
      · rw [if_pos hx2] at e
        cases e
        subst hx2
        exact ⟨by rfl, by k_clsL, by decide, by decide, _, rfl, dzo6⟩
      · rw [if_neg hx2] at e
        by_cases hx3 : x = "left_deep"
        · rw [if_pos hx3] at e
          cases e
          subst hx3
          exact ⟨by rfl, by k_clsL, by decide, by decide, _, rfl, g6⟩
        · rw [if_neg hx3] at e
          cases e
  show WP.WB _ _ _ _ _
  refine wb_cons (ws_set 7 nd rfl (by k_clsL) (we_lit 60 (rhoT pd od) [hh] (by kernel_rfl) hN6 W6.lists.off (d := .list (thingsOf pd od)) fun v7 H7 s7 g7 => ?_))
  obtain ⟨b7, xs7, rfl, hb7, hxs7⟩ := dz_list g7
  obtain ⟨bn7, hb7'⟩ := hid_one hb7
  have W7 := W6.same s7
  have dzp7 := dzp6.mono s7
  show WP.WB _ _ _ _ _
  -- for thing in things + [..]
  refine wb_cons ?_
  refine ws_for passes_bx rfl (pi_list pe) (by k_memK) ?_
  show WP.WE _ _ _ _ _
  refine we_op op_cat ?_
  refine we_var 7 (by rfl) (by k_clsL) (by rfl) ?_
  refine we_lit 60 (fun _ => none) [hh] (by kernel_rfl) namesAt_none W7.lists.off (d := .list moreThings) fun v8 H8 s8 g8 => ?_
  obtain ⟨b8, xs8, rfl, hb8, hxs8⟩ := dz_list g8
  obtain ⟨bn8, hb8'⟩ := hid_one hb8
  have W8 := W7.same s8
  have l7 := hxs7.len
  have l8 := hxs8.len
  refine ⟨b7, b8, xs7, xs8, rfl, rfl, s8 _ _ hb7', hb8', by rw [l7, l8]; simp only [thingsOf, moreThings, List.length_cons, List.length_nil, sizeLine]; omega, fun b9 hb9 => ?_⟩
  have s9 : Same H8 (upd H8 b9 (.lst (xs7 ++ xs8))) := Same.new hb9
  have hb99 : upd H8 b9 (.lst (xs7 ++ xs8)) b9 = some (.lst (xs7 ++ xs8)) := upd_same
  have gT : DzAll (hid [hh] (upd H8 b9 (.lst (xs7 ++ xs8)))) (xs7 ++ xs8) (thingsOf pd od ++ moreThings) := (hxs7.mono ((same_hid s8).trans (same_hid s9))).app (hxs8.mono (same_hid s9))
  have W9 := W8.same s9
  have dzp9 := (dzp7.mono s8).mono s9
  generalize upd H8 b9 (.lst (xs7 ++ xs8)) = H9 at hb99 gT W9 dzp9 ⊢
  have ok := things_ok (od := od) B.pat hod
  refine ⟨b9, rfl, ⟨_, SqL.of hb99⟩, for_it (walk_list (K := K) (a := b9) (xs := xs7 ++ xs8)) (fun i σ H' => ∃ q8 : Option V, σ = [some (.ref a), r1, r2, r3, r4, some ov, some v6, some (.ref b7), q8, r9, r10, some (.ref hh), some (.ref p0), some pv] ∧ Same H9 H') ⟨r8, rfl, Same.refl _⟩ (fun i σ H' _ ⟨_, _, s⟩ => SqL.of (s _ _ hb99)) ?_ ?_⟩
  · rintro i x σ H10 H11 hi ⟨q8, rfl, s10⟩ ⟨rfl, ex⟩
    show WP.WB _ _ _ _ _
    obtain ⟨d, hd1, hd2⟩ := gT.at ex
    have tok := ok d (List.mem_of_getElem? hd1)
    have W10 := W9.same s10
    have dzd := (hd2.mono (same_hid s10)).mono hid_same
    refine wb_one (ws_if (wt_cmp op_ne rfl ?_))
    refine we_call' (RW := fun _ _ _ _ => False) ip (Room.mono hr (by omega)) pas_no (by rfl) ?_
    refine wa_cons (we_var 12 (by rfl) (by k_clsL) (by rfl) ?_)
    refine wa_cons (we_var 8 (by rfl) (by k_clsL) (by rfl) ?_)
    refine wa_nil ⟨_, _, d, rfl, W10.lits, dzd.dp, ⟨tok.t.sm, Nat.le_trans tok.z (by decide), tok.p⟩, fun H12 s12 => ?_⟩
    have W12 := W10.same s12
    have dzd12 := dzd.mono s12
    refine we_call' (RW := fun _ _ _ _ => False) dj (Room.mono hr (by omega)) pas_no (by rfl) ?_
    refine wa_cons (we_var 12 (by rfl) (by k_clsL) (by rfl) ?_)
    refine wa_cons (we_var 8 (by rfl) (by k_clsL) (by rfl) ?_)
    refine wa_nil ⟨_, _, d, rfl, W12.lits, by decide, dzd12, tok.t, tok.z, fun H13 s13 => ?_⟩
    rw [pat_eq tok.r]
    refine ⟨rfl, i_bl (i_iff (by simp) (wb_nil ⟨_, rfl, (s10.trans s12).trans s13⟩))⟩
  · rintro σ H10 ⟨q8, rfl, s10⟩
    show WP.WB _ _ _ _ _
    exact law_d hr FS hms S TB da no lu hD (W9.same s10) ⟨dzp9.mono s10, B.pat, B.nd⟩
end
end
section
open LamX
def pairD (p : Str × Nat) : PyData := .tuple [.str p.1, .int (p.2 : Int)]
theorem dps_pairs {K : PySem.W.Frag} {H : Hp} : ∀ ps : List (Addr × Str × Nat), (∀ z ∈ ps, H z.1 = some (.tup [.str z.2.1, .int (z.2.2 : Int)])) → DpAll K H (ps.map fun z => V.ref z.1) ((ps.map (·.2)).map pairD)
  | [], _ => .nil
  | z :: ps, h => .cons (.tup (SqT.of (h z (by simp))) (.cons (.str _) (.cons (.int _) .nil))) (dps_pairs ps fun y hy => h y (List.mem_cons_of_mem _ hy))
theorem shaped_pairs {rows : List (Str × Nat)} (h : ∀ p ∈ rows, p.1 ∈ letters) : SeqAt.shaped (.tuple (rows.map pairD)) = true := by
  refine shaped_tup.mpr ⟨fun d hd => ?_, fun d hd => ?_⟩
  · obtain ⟨p, hp, rfl⟩ := List.mem_map.mp hd
    have : PyData.strOk p.1 = true := strOk_word (letters_ok p.1 (h p hp)).1
    show PyData.canLayAll0 [.str p.1, .int (p.2 : Int)] = true
    simp [PyData.canLayAll0, PyData.canLay0, this]
  · obtain ⟨p, hp, rfl⟩ := List.mem_map.mp hd
    show PyData.depthAll [.str p.1, .int (p.2 : Int)] + 1 ≤ 63
    have : PyData.depthAll [.str p.1, .int (p.2 : Int)] = 0 := rfl
    rw [this]
    decide
theorem eqv_self {d : PyData} (h : SeqAt.shaped d = true) : PyData.eqv d d = true := PySem.SeqAt.eqv_refl d (SeqAt.canLay_of_shaped h)
theorem strs_of {H : Hp} : ∀ {ns : List Str} {xs : List V}, DzAll H xs (ns.map .str) → xs = ns.map V.str
  | [], _, .nil => rfl
  | s :: ns, _, .cons (.str _) g => by rw [strs_of g]; rfl
theorem letters_nd : letters.Nodup := by decide +kernel
def rhoR (pd : PyData) : Str → Option (Nat × PyData) := fun x => if x = "pattern" then some (13, pd) else if x = "literals" then some (12, .tuple [.str "lit"]) else none
theorem rule_z : RuleOk ["lit"] (.str "z", 2) := ⟨⟨by decide +kernel, by decide +kernel, by decide +kernel⟩, ⟨by decide +kernel, by decide +kernel, by decide +kernel⟩, by decide +kernel, by decide +kernel, by decide +kernel⟩
structure LibF (P : Program) (w : World) (K : PySem.W.Frag) (mg : Str → Option Value) (base : Heap) (CB : Addr) : Prop where
  dp : Def P w K mg base 6 "_law_pattern" (sp_pat 3)
  dn : Def P w K mg base 4 "_law_names" (sp_lnames K 3)
  dl : Def P w K mg base 4 "_law_least" (sp_lleast K 3)
  dm : Def P w K mg base 49 "does_match" (sp_does_match K ["lit"])
  ar : Def P w K mg base 49 "are_rules" (sp_are_rules K ["lit"])
  ut : Def P w K mg base 51 "use_told" (sp_use_told K ["lit"])
  ms : mg "sorted" = none
  mt : BTy mg "tuple" "tuple"
section
variable {P : Program} {w : World} {K : PySem.W.Frag} {mg : Str → Option Value} {base : Heap} {f cc Pt CT CB g : Addr} {fdS : FuncData} {A : Around} {outer : List Env} {s0 : Shared} {H0 : Hp} {E : XK}
theorem law_b (hr : Room 58 (A.deeper (envOfC "law" (defScope (top 62)) s0.heap.objs.size f (.ref cc)))) (FS : FnP K "_law_said" 58 g fdS) (hms : mg "_law_said" = some (.ref g)) (S : SaidOk K mg CT CB) (TB : TabB base mg cc Pt) (da : Def P w K mg base 2 "_law_any" (sp_any K))
    (no : Def P w K mg base 48 "names_of" (sp_names_of K CB ["lit"])) (lu : Def P w K mg base 48 "least_use" (sp_least_use K CB ["lit"])) (ip : Def P w K mg base 46 "is_pattern" (sp_is_pattern K ["lit"])) (dj : Def P w K mg base 2 "_law_is_pattern" (sp_lpat K ["lit"]))
    (Lf : LibF P w K mg base CB) {D : Ends} {a hh c p0 : Addr} {H : Hp} {r1 r2 r3 r4 r5 r6 r7 r8 r9 r10 r13 : Option V}
    (hD : ∀ σ' H', LoopInv a hh c p0 (LT Pt (LX P w K mg base f cc A outer s0 H0 E).env.qual) σ' H' → D.nx σ' H') (W0 : LW H hh c p0 (LT Pt (LX P w K mg base f cc A outer s0 H0 E).env.qual)) :
    WB (LX P w K mg base f cc A outer s0 H0 E) loopBody D [some (.ref a), r1, r2, r3, r4, r5, r6, r7, r8, r9, r10, some (.ref hh), some (.ref p0), r13] H := by
  have nd := sc62.nd
  obtain ⟨dp, dn, dl, dm, ar, ut, ms, mt⟩ := Lf
  show WB _ (Stmt.Assign _ _ _ :: _) _ _ _
  -- pattern = _law_pattern(hand, [..], 3, 3)
  refine wb_cons (ws_set 13 nd rfl (by k_clsL) ?_)
  refine we_call' (RW := fun _ _ _ _ => False) dp (Room.mono hr (by omega)) pas_no (by rfl) ?_
  refine wa_cons (we_var 11 (by rfl) (by k_clsL) (by rfl) ?_)
  refine wa_cons (we_lit 60 (fun _ => none) [hh] (by kernel_rfl) namesAt_none W0.lists.off (d := .list (letters.map .str)) fun v1 H1 s1 g1 => ?_)
  obtain ⟨nl, xs, rfl, hnl, hxs⟩ := dz_list g1
  obtain ⟨n1, hnl'⟩ := hid_one hnl
  have W1 := W0.same s1
  rw [strs_of hxs] at hnl'
  have n2 : nl ≠ c := fun z => by
    obtain ⟨_, _, ns, _, _, _, _, _, hc, _⟩ := W1.hp
    rw [← z, hnl'] at hc
    cases ns with
    | nil => cases hc
    | cons i ns => cases hc
  keq_hits
  refine ⟨hh, c, nl, letters, rfl, W1.hp, hnl', n1, n2, fun s hs => hs, fun pv pd H2 ns' s2 hp2 hnl2 dz2 pat hnm => ?_⟩
  have lists1 : Lists [hh, nl] H1 := fun b hb => by
    rcases List.mem_cons.mp hb with rfl | hb
    · exact W1.hp.at_
    · rw [List.mem_singleton.mp hb]
      exact ⟨_, hnl'⟩
  have W2 := W1.hid lists1 s2 hp2
  have ndp : (pnames pd).Nodup := by
    have z := letters_nd
    rw [hnm] at z
    exact (List.reverse_perm (pnames pd)).nodup_iff.mp (List.nodup_append.mp z).2.1
  have B : PatAt H2 pv pd := ⟨dz2.mono hid_same, pat, ndp⟩
  have frm := pat.form
  have kn := pat.known
  have fo : FormOk pd := ⟨small_form pd frm, Nat.le_trans pat.size (by decide), Nat.le_trans pat.dep (by decide)⟩
  have gd := pat_good pat (by decide) ndp
  obtain ⟨x, ex, gx⟩ := good_shape gd
  have fg : (formB pd && goodD ["lit"] pd) = true := by rw [frm, gd]; rfl
  have shp : SeqAt.shaped pd = true := shaped_form frm (Nat.le_trans pat.dep (by decide))
  have eln := pl_lnames _ pd x 0 (Nat.le_refl _) kn ex
  have lns : (lnames pd 0).map (·.1) = pnames pd := lnames_fst pd 0
  show WP.WB _ _ _ _ _
  -- due = tuple(sorted(_law_names(pattern, 0).items()))
  refine wb_cons (ws_set 2 nd rfl (by k_clsL) ?_)
  refine we_callTy call_tup (by rfl) mt.m boot_tuple (wa_cons ?_)
  refine we_callB (cr_sortedK rfl) (by rfl) ms boot_sorted (wa_cons (we_items ?_))
  refine we_call' (RW := fun _ _ _ _ => False) dn (Room.mono hr (by omega)) pas_no (by rfl) ?_
  keq_hits
  refine ⟨pv, pd, 0, rfl, B.dz.dp, kn, shp, Nat.le_trans pat.dep (by decide), fo.sz, ndp, fun p3 H3 s3 n3 h3 => ?_⟩
  refine i_items h3 fun p4 hp4 => ?_
  have s34 : Same H3 (upd H3 p4 (L2.DX.itemsO p4 p3)) := Same.new hp4
  refine wa_nil ⟨p4, p3, (lnames pd 0).map fN, rfl, upd_same, by rw [← kvN_fN]; exact s34 _ _ h3, ?_, ?_, fun H5 l5 ps5 s5 n5 pm5 so5 h5 e5 => ?_⟩
  · rw [List.map_map]
    show (((lnames pd 0).map (·.1))).Nodup
    rw [lns]
    exact ndp
  · rw [List.length_map]
    have := congrArg List.length lns
    rw [List.length_map] at this
    have := Nat.le_trans (pnames_len pd) fo.sz
    show _ < 16777216
    omega
  have back : ∀ z ∈ ps5, z.2 = fN (gN z.2) := fun z hz => by
    have : z.2 ∈ (lnames pd 0).map fN := pm5.mem_iff.mp (List.mem_map_of_mem hz)
    obtain ⟨y, _, e⟩ := List.mem_map.mp this
    rw [← e, gN_fN]
  obtain ⟨rows, erows⟩ : ∃ rows, rows = ps5.map fun z => gN z.2 := ⟨_, rfl⟩
  have perm5 : rows.Perm (lnames pd 0) := by
    have e1 := pm5.map gN
    rw [List.map_map, List.map_map, show gN ∘ fN = id from funext gN_fN, List.map_id] at e1
    rw [erows]
    exact e1
  have sort5 : rows.Pairwise (fun e f => txtLt f.1 e.1 = false) := by
    rw [erows, List.pairwise_map]
    rw [List.pairwise_map] at so5
    exact so5
  have nd5 : (rows.map (·.1)).Nodup := by
    rw [(perm5.map (·.1)).nodup_iff, lns]
    exact ndp
  have inl : ∀ p ∈ rows, p.1 ∈ letters := fun p hp => by
    have : p.1 ∈ pnames pd := by
      rw [← lns]
      exact List.mem_map_of_mem (perm5.mem_iff.mp hp)
    have : p.1 ∈ (pnames pd).reverse := List.mem_reverse.mpr this
    rw [hnm]
    exact List.mem_append_right _ this
  have shr := shaped_pairs inl
  have d5 : DpAll K H5 (ps5.map fun z => V.ref z.1) (rows.map pairD) := by
    have z := dps_pairs (K := K) (H := H5) (ps5.map fun z => (z.1, gN z.2)) fun z hz => by
      obtain ⟨y, hy, rfl⟩ := List.mem_map.mp hz
      have e := e5 y hy
      rw [back y hy] at e
      exact e
    rw [List.map_map, List.map_map] at z
    rw [erows, List.map_map]
    rw [List.map_map] at z
    exact z
  have s25 := s3.trans (s34.trans s5)
  have W5 := W2.same s25
  have B5 : PatAt H5 pv pd := ⟨B.dz.mono s25, pat, ndp⟩
  refine wa_nil (i_tupL h5 fun l6 hl6 => ?_)
  have s6 : Same H5 (upd H5 l6 (.tup (ps5.map fun z => V.ref z.1))) := Same.new hl6
  have due6 : Dp K (upd H5 l6 (.tup (ps5.map fun z => V.ref z.1))) (.ref l6) (.tuple (rows.map pairD)) := .tup (SqT.of upd_same) (dpAll_mono s6 d5)
  have W6 := W5.same s6
  have B6 : PatAt (upd H5 l6 (.tup (ps5.map fun z => V.ref z.1))) pv pd := ⟨B5.dz.mono s6, pat, ndp⟩
  show WP.WB _ _ _ _ (upd H5 l6 (.tup (ps5.map fun z => V.ref z.1)))
  generalize upd H5 l6 (.tup (ps5.map fun z => V.ref z.1)) = H6 at due6 W6 B6 ⊢
  -- if is_pattern(..) is not True or tuple(names_of(..)) != due
  refine wb_cons (ws_if (wt_ww (ww_or (wt_cmp op_notBl rfl ?_))))
  refine we_call' (RW := fun _ _ _ _ => False) ip (Room.mono hr (by omega)) pas_no (by rfl) ?_
  refine wa_cons (we_var 12 (by rfl) (by k_clsL) (by rfl) ?_)
  refine wa_cons (we_var 13 (by rfl) (by k_clsL) (by rfl) ?_)
  refine wa_nil ⟨_, pv, pd, rfl, W6.lits, B6.dz.dp, fo, fun H7 s7 => ?_⟩
  rw [fg]
  have W7 := W6.same s7
  have B7 : PatAt H7 pv pd := ⟨B6.dz.mono s7, pat, ndp⟩
  refine we_bl ⟨true, true, rfl, rfl, i_bl (i_iff (by decide) ?_)⟩
  refine ww_or1 (wt_cmp (op_neD hr.units) rfl ?_)
  refine we_callTy call_tup (by rfl) mt.m boot_tuple (wa_cons ?_)
  refine we_call' (RW := fun _ _ _ _ => False) no (Room.mono hr (by omega)) pas_no (by rfl) ?_
  refine wa_cons (we_var 12 (by rfl) (by k_clsL) (by rfl) ?_)
  refine wa_cons (we_var 13 (by rfl) (by k_clsL) (by rfl) ?_)
  refine wa_nil ⟨_, pv, pd, rfl, W7.lits, B7.dz.dp, fo, fun x' _ ex' _ H8 l8 ps8 s8 n8 pm8 so8 h8 e8 => ?_, fun h => by rw [fg] at h; cases h⟩
  rw [ex] at ex'
  cases ex'
  have same_rows : ps8.map (·.2) = rows := by
    rw [← eln] at pm8
    refine sorted_one (pm8.trans perm5.symm) ?_ so8 sort5
    rw [(pm8.map (·.1)).nodup_iff, lns]
    exact ndp
  refine wa_nil (i_tupL h8 fun l9 hl9 => ?_)
  have s9 : Same H8 (upd H8 l9 (.tup (ps8.map fun z => V.ref z.1))) := Same.new hl9
  have due9 : Dp K (upd H8 l9 (.tup (ps8.map fun z => V.ref z.1))) (.ref l9) (.tuple (rows.map pairD)) := .tup (SqT.of upd_same) (dpAll_mono s9 (by rw [← same_rows]; exact dps_pairs ps8 e8))
  generalize upd H8 l9 (.tup (ps8.map fun z => V.ref z.1)) = H9 at s9 due9 ⊢
  have s79 := s8.trans s9
  refine we_var 2 (by rfl) (by k_clsL) (by rfl) ?_
  refine ⟨_, _, due9, WP.dp_mono (s7.trans s79) due6, shr, shr, i_bl (i_iff (by rw [eqv_self shr]; rfl) (wb_nil ?_))⟩
  have W9 := W7.same s79
  have B9 : PatAt H9 pv pd := ⟨B7.dz.mono s79, pat, ndp⟩
  show WP.WB _ _ _ _ _
  -- least = _law_least(pattern, "w")
  refine wb_cons (ws_set 3 nd rfl (by k_clsL) ?_)
  refine we_call' (RW := fun _ _ _ _ => False) dl (Room.mono hr (by omega)) pas_no (by rfl) ?_
  refine wa_cons (we_var 13 (by rfl) (by k_clsL) (by rfl) ?_)
  refine wa_cons (we_str (wa_nil ⟨pv, pd, "w", rfl, B9.dz.dp, kn, shp, Nat.le_trans pat.dep (by decide), fo.sz, fun lv H10 s10 dpl => ?_⟩))
  have W10 := W9.same s10
  have B10 : PatAt H10 pv pd := ⟨B9.dz.mono s10, pat, ndp⟩
  have hw : wordS "w" = true := by decide +kernel
  obtain ⟨lf1, lf2, lf3⟩ := lleast_form hw pd frm
  have lz : dsize (lleast "w" pd) ≤ 53 := Nat.le_trans lf2 (Nat.le_trans pat.size (by decide))
  have ldp : ddep (lleast "w" pd) ≤ 4 := Nat.le_trans lf3 (Nat.le_trans pat.dep (by decide))
  have shl : SeqAt.shaped (lleast "w" pd) = true := shaped_form lf1 (Nat.le_trans ldp (by decide))
  have foe : FormOk (lleast "w" pd) := ⟨small_form _ lf1, by omega, by omega⟩
  show WP.WB _ _ _ _ _
  -- if least_use(..) != least
  refine wb_cons (ws_if (wt_cmp (op_neD hr.units) rfl ?_))
  refine we_call' (RW := fun _ _ _ _ => False) lu (Room.mono hr (by omega)) pas_no (by rfl) ?_
  refine wa_cons (we_var 12 (by rfl) (by k_clsL) (by rfl) ?_)
  refine wa_cons (we_var 13 (by rfl) (by k_clsL) (by rfl) ?_)
  refine wa_cons (we_str (wa_nil ⟨_, pv, _, pd, .str "w", rfl, W10.lits, B10.dz.dp, fo, .str "w", by decide +kernel, fun _ z ez _ v11 H11 s11 dp11 => ?_, fun h => ?_⟩))
  case refine_2 =>
    have : isName (.str "w") = true := by decide +kernel
    rw [fg, this] at h
    cases h
  cases ez
  rw [pl_least _ pd x (Nat.le_refl _) kn ex] at dp11
  refine we_var 3 (by rfl) (by k_clsL) (by rfl) ?_
  refine ⟨_, _, dp11, WP.dp_mono s11 dpl, shl, shl, i_bl (i_iff (by rw [eqv_self shl]; rfl) (wb_nil ?_))⟩
  have W11 := W10.same s11
  have B11 : PatAt H11 pv pd := ⟨B10.dz.mono s11, pat, ndp⟩
  have dpl11 := WP.dp_mono s11 dpl
  obtain ⟨bs, hbs⟩ := pl_match (z := "w") _ pd x (Nat.le_refl _) kn ex
  show WP.WB _ _ _ _ _
  -- if does_match(..) is not True
  refine wb_cons (ws_if (wt_cmp op_notBl rfl ?_))
  refine we_call' (RW := fun _ _ _ _ => False) dm (Room.mono hr (by omega)) pas_no (by rfl) ?_
  refine wa_cons (we_var 12 (by rfl) (by k_clsL) (by rfl) ?_)
  refine wa_cons (we_var 13 (by rfl) (by k_clsL) (by rfl) ?_)
  refine wa_cons (we_var 3 (by rfl) (by k_clsL) (by rfl) ?_)
  refine wa_nil ⟨_, pv, lv, pd, _, x, bs, rfl, W11.lits, B11.dz.dp, dpl11, fo, frm, foe, lf1, ex, gx, hbs, fun H12 s12 => ?_⟩
  refine we_bl ⟨true, true, rfl, rfl, i_bl (i_iff (by decide) (wb_nil ?_))⟩
  have W12 := W11.same s12
  have B12 : PatAt H12 pv pd := ⟨B11.dz.mono s12, pat, ndp⟩
  have dpl12 := WP.dp_mono s12 dpl11
  show WP.WB _ _ _ _ _
  -- rules = ..
  have hN12 : NamesAt (LX P w K mg base f cc A outer s0 H0 E) [hh] (rhoR pd) [some (.ref a), r1, some (.ref l6), some lv, r4, r5, r6, r7, r8, r9, r10, some (.ref hh), some (.ref p0), some pv] H12 := by
    refine ⟨fun x i d e => ?_⟩
    unfold rhoR at e
    by_cases hx : x = "pattern"
    · rw [if_pos hx] at e
      cases e
      subst hx
      exact ⟨by rfl, by k_clsL, by decide, by decide, _, rfl, dz_hid_all pat.nol B12.dz W12.lists⟩
    · rw [if_neg hx] at e
      by_cases hx2 : x = "literals"
      · rw [if_pos hx2] at e
        cases e
        subst hx2
        exact ⟨by rfl, by k_clsL, by decide, by decide, _, rfl, W12.litz⟩
      · rw [if_neg hx2] at e
        cases e
  refine wb_cons (ws_set 4 nd rfl (by k_clsL) (we_lit 60 (rhoR pd) [hh] (by kernel_rfl) hN12 W12.lists.off (d := rulesD ["lit"] [(pd, 1), (.str "z", 2)]) fun rv H13 s13 g13 => ?_))
  have W13 := W12.same s13
  have B13 : PatAt H13 pv pd := ⟨B12.dz.mono s13, pat, ndp⟩
  have dpr := (g13.mono hid_same).dp (K := K)
  have dpl13 := WP.dp_mono s13 dpl12
  have ru : RuleOk ["lit"] (pd, 1) := by
    refine ⟨⟨?_, ?_, ?_⟩, ⟨?_, ?_, ?_⟩, frm, good_one gd, show formB (.int 1) = true by decide⟩
    · have := fo.sm
      have w1 : smallD (.str "_") = true := by decide +kernel
      simp [smallD, smallDs, this] at w1 ⊢
      exact w1
    · have := Nat.le_trans pat.size (show szP 3 ≤ 53 by decide)
      simp only [dsize, dsizes]
      omega
    · have := pat.dep
      simp only [ddep, ddeps]
      omega
    · simpa [smallD, smallDs] using fo.sm
    · have := Nat.le_trans pat.size (show szP 3 ≤ 53 by decide)
      simp only [dsize, dsizes]
      omega
    · have := pat.dep
      simp only [ddep, ddeps]
      omega
  have ruz := rule_z
  show WP.WB _ _ _ _ _
  -- if are_rules(rules) is not True or use_told(..) != ("made", 0, 1)
  refine wb_cons (ws_if (wt_ww (ww_or (wt_cmp op_notBl rfl ?_))))
  refine we_call' (RW := fun _ _ _ _ => False) ar (Room.mono hr (by omega)) pas_no (by rfl) ?_
  refine wa_cons (we_var 4 (by rfl) (by k_clsL) (by rfl) ?_)
  refine wa_nil ⟨_, [(pd, 1), (.str "z", 2)], rfl, dpr, by simp, by simp, fun r hr => ?_, fun H14 s14 => ?_⟩
  · rcases List.mem_cons.mp hr with rfl | hr
    · exact ru
    · rw [List.mem_singleton.mp hr]
      exact ruz
  have W14 := W13.same s14
  have B14 : PatAt H14 pv pd := ⟨B13.dz.mono s14, pat, ndp⟩
  have dpr14 := WP.dp_mono s14 dpr
  have dpl14 := WP.dp_mono s14 dpl13
  refine we_bl ⟨true, true, rfl, rfl, i_bl (i_iff (by decide) ?_)⟩
  refine ww_or1 (wt_cmp (op_neD hr.units) rfl ?_)
  refine we_call' (RW := fun _ _ _ _ => False) ut (Room.mono hr (by omega)) pas_no (by rfl) ?_
  refine wa_cons (we_var 4 (by rfl) (by k_clsL) (by rfl) ?_)
  refine wa_cons (we_tup (wa_cons (we_str (wa_cons (we_var 3 (by rfl) (by k_clsL) (by rfl) (wa_nil ⟨by simp [sizeLine], fun p15 hp15 => ?_⟩))))))
  have s15 : Same H14 (upd H14 p15 (.tup [.str "mm", lv])) := Same.new hp15
  have dp15 : Dp K (upd H14 p15 (.tup [.str "mm", lv])) (.ref p15) (.tuple [.str "mm", lleast "w" pd]) := .tup (SqT.of upd_same) (.cons (.str _) (.cons (WP.dp_mono s15 dpl14) .nil))
  generalize upd H14 p15 (.tup [.str "mm", lv]) = H15 at s15 dp15 ⊢
  have h0 : ∀ y ∈ [pd], isRep y = false := fun y hy => by rw [List.mem_singleton.mp hy]; exact pat.norep
  have ex1 : shapeS ["lit"] (.tuple [pd]) = some (.lis [x]) := by
    rw [join0 h0]
    simp [seqO, ex]
  have mt1 : matchR (.lis [x]) (.tuple [lleast "w" pd]) = some (.ok (bs ++ [])) := by
    simp [matchR, matchRs, hbs]
  have fme : FormOk (.tuple [.str "mm", lleast "w" pd]) := by
    refine ⟨?_, ?_, ?_⟩
    · have := foe.sm
      have w1 : smallD (.str "mm") = true := by decide +kernel
      simp [smallD, smallDs, this] at w1 ⊢
      exact w1
    · simp only [dsize, dsizes]
      omega
    · simp only [ddep, ddeps]
      omega
  have fe1 : FormOk (.tuple [lleast "w" pd]) := by
    refine ⟨?_, ?_, ?_⟩
    · simpa [smallD, smallDs] using foe.sm
    · simp only [dsize, dsizes]
      omega
    · simp only [ddep, ddeps]
      omega
  refine wa_nil ⟨_, _, (pd, 1), [(.str "z", 2)], lleast "w" pd, .lis [x], bs ++ [], rfl, WP.dp_mono s15 dpr14, by decide, fun r hr => ?_, dp15, fme, fe1, lf1, ex1, mt1, fun q16 H16 s16 h16 => ?_⟩
  · rcases List.mem_cons.mp hr with rfl | hr
    · exact ru
    · rw [List.mem_singleton.mp hr]
      exact ruz
  have W16 := (W14.same s15).same s16
  have B16 : PatAt H16 pv pd := ⟨(B14.dz.mono s15).mono s16, pat, ndp⟩
  refine we_tup (wa_cons (we_str (wa_cons (we_int (wa_cons (we_int (wa_nil ⟨by simp [sizeLine], fun p17 hp17 => ?_⟩)))))))
  have s17 : Same H16 (upd H16 p17 (.tup [.str "made", .int 0, .int 1])) := Same.new hp17
  have h17 : upd H16 p17 (.tup [.str "made", .int 0, .int 1]) p17 = some (.tup [.str "made", .int 0, .int 1]) := upd_same
  generalize upd H16 p17 (.tup [.str "made", .int 0, .int 1]) = H17 at s17 h17 ⊢
  have made : ∀ z, H17 z = some (.tup [.str "made", .int 0, .int 1]) → Dp K H17 (.ref z) (.tuple [.str "made", .int 0, .int 1]) := fun z hz => .tup (SqT.of hz) (.cons (.str _) (.cons (.int _) (.cons (.int _) .nil)))
  refine ⟨_, _, made _ (s17 _ _ h16), made _ h17, by decide +kernel, by decide +kernel, i_bl (i_iff (by decide +kernel) (wb_nil ?_))⟩
  show WP.WB _ _ _ _ _
  exact law_c hr FS hms S TB da no lu ip dj hD (W16.same s17) ⟨B16.dz.mono s17, pat, ndp⟩
end
end
section
open LamX
def d1 : PyData := .tuple [.tuple [.str "a", .str "..."], .str "...", .str "b"]
def d2 : PyData := .tuple [.str "a", .tuple [.int 5, .str "..."], .str "_"]
def d3 : PyData := .tuple [.str "a", .int 1]
def e3 : PyData := .tuple [.str "x", .int 2]
theorem form_by {d : PyData} (h1 : smallD d = true) (h2 : dsize d ≤ 3000) (h3 : ddep d ≤ 20) : FormOk d := ⟨h1, h2, h3⟩
theorem nil_dp {K : PySem.W.Frag} {H : Hp} {v : V} (h : Dz H v (.tuple [])) : Dp K H v (.tuple ((([] : List Str)).map .str)) := h.dp
def sp_law (K : PySem.W.Frag) (Pt : Addr) : Sp := fun vs H Q _ => ∃ (a : Addr) (ns : List Int), vs = [.ref a] ∧ SqL K H a (ns.map V.int) ∧ H Pt = some (.tbl #[]) ∧ ∀ H', Q (.bl true) H'
structure LawF (P : Program) (w : World) (K : PySem.W.Frag) (mg : Str → Option Value) (base : Heap) (CB : Addr) : Prop where
  lf : LibF P w K mg base CB
  da : Def P w K mg base 2 "_law_any" (sp_any K)
  no : Def P w K mg base 48 "names_of" (sp_names_of K CB ["lit"])
  lu : Def P w K mg base 48 "least_use" (sp_least_use K CB ["lit"])
  ip : Def P w K mg base 46 "is_pattern" (sp_is_pattern K ["lit"])
  dj : Def P w K mg base 2 "_law_is_pattern" (sp_lpat K ["lit"])
  dh : Def P w K mg base 1 "_law_hand" (sp_hand K)
  no0 : Def P w K mg base 48 "names_of" (sp_names_of K CB [])
  lu0 : Def P w K mg base 48 "least_use" (sp_least_use K CB [])
  mt0 : Def P w K mg base 48 "match_told" (sp_match_told K [])
  mr : mg "range" = none
theorem names1 : (shapeS [] d1).map (fun x => namesS x 0) = some ([("a", 2), ("b", 0)] : List (Str × Nat)) := by decide +kernel
theorem least2 : leastD [] "w" d2 = .tuple [.str "w", .tuple [], .str "w"] := by rfl
theorem match3 : (shapeS [] d3).bind (fun x => matchR x e3) = some (.bad [1]) := by kernel_rfl
section
variable {P : Program} {w : World} {K : PySem.W.Frag} {mg : Str → Option Value} {base : Heap} {f cc Pt CT CB g : Addr} {fd fdS : FuncData}
theorem ok_law (F : FnP K "law" 62 f fd) (hc : fd.code = .ref cc) (FS : FnP K "_law_said" 58 g fdS) (hms : mg "_law_said" = some (.ref g)) (S : SaidOk K mg CT CB) (TB : TabB base mg cc Pt) (Lf : LawF P w K mg base CB) :
    FnOk P w K mg base (L2.CX P w) 59 f fd ["script"] (sp_law K Pt) := by
  obtain ⟨lf, da, no, lu, ip, dj, dh, no0, lu0, mt0, mr⟩ := Lf
  obtain ⟨oc, od, dV, kV, doc, pm, an, cdv, ct, osl, rfl, lk, hcd, _, _⟩ := F.ex
  cases (show cdv = .ref cc from hc)
  refine fn_of lk hcd sc62 (fun vs H Q E h => ?_) fun A outer s H vs Q E hr h => ⟨_, pss, ?_⟩
  · obtain ⟨a, ns, rfl, _⟩ := h
    rfl
  obtain ⟨a, ns, rfl, hS, hT, q⟩ := h
  have nd := sc62.nd
  have mtt := lf.mt
  show WB (LX P w K mg base f cc A outer s H E) (Stmt.Assign _ _ _ :: _) _ [some (.ref a), none, none, none, none, none, none, none, none, none, none, none, none, none] H
  refine wb_cons (ws_set 11 nd rfl (by k_clsL) ?_)
  refine we_call' (RW := fun _ _ _ _ => False) dh (Room.mono hr (by omega)) pas_no (by rfl) ?_
  refine wa_cons (we_var 0 (by rfl) (by k_clsL) (by rfl) ?_)
  refine wa_nil ⟨a, ns, rfl, hS, fun hh c H1 s1 hp1 hn1 => ?_⟩
  have hT1 := s1 _ _ hT
  show WP.WB _ _ _ _ _
  refine wb_cons (ws_set 12 nd rfl (by k_clsL) ?_)
  refine we_tupZ (wa_cons (we_str (wa_nil ⟨by simp [sizeLine], fun p0 o hp0 pl => ?_⟩)))
  have s2 : Same H1 (upd H1 p0 (.frz o (.tup [.str "lit"]))) := Same.new hp0
  have h2 : upd H1 p0 (.frz o (.tup [.str "lit"])) p0 = some (.frz o (.tup [.str "lit"])) := upd_same
  generalize upd H1 p0 (.frz o (.tup [.str "lit"])) = H2 at s2 h2 ⊢
  have W2 : LW H2 hh c p0 (LT Pt (LX P w K mg base f cc A outer s H E).env.qual) := ⟨hp1.same s2, fun p hp => by
    rw [List.mem_singleton.mp hp]
    exact TabS.nil (s2 _ _ hT1), ⟨o, h2, pl⟩⟩
  show WP.WB _ _ _ _ _
  refine wb_cons ?_
  refine ws_for passes_bx rfl (pi_range1 (by rfl) mr pa) (by k_memK) ?_
  show WA _ _ _ _ _
  refine wa_cons (we_int (wa_nil ⟨8, rfl, by decide, by decide, ?_⟩))
  refine for_it walk_range (fun i => LoopInv a hh c p0 (LT Pt (LX P w K mg base f cc A outer s H E).env.qual)) ⟨_, _, _, _, _, _, _, _, _, _, _, rfl, W2⟩ (fun _ _ _ _ _ => trivial) ?_ ?_
  · rintro i x σ H3 H4 hi ⟨r1, r2, r3, r4, r5, r6, r7, r8, r9, r10, r13, rfl, W3⟩ ⟨rfl, rfl⟩
    exact law_b hr FS hms S TB da no lu ip dj lf (fun _ _ z => z) W3
  rintro σ H3 ⟨r1, r2, r3, r4, r5, r6, r7, r8, r9, r10, r13, rfl, W3⟩
  show WP.WB _ _ _ _ _
  -- tuple(names_of((), ..)) != (("a", 2), ("b", 0))
  refine wb_cons (ws_if (wt_cmp (op_neD hr.units) rfl ?_))
  refine we_callTy call_tup (by rfl) mtt.m boot_tuple (wa_cons ?_)
  refine we_call' (RW := fun _ _ _ _ => False) no0 (Room.mono hr (by omega)) pas_no (by rfl) ?_
  refine wa_cons (we_lit 60 (fun _ => none) [] (by kernel_rfl) namesAt_none (fun a ha => nomatch ha) (d := .tuple []) fun v4 H4 s4 g4 => ?_)
  refine wa_cons (we_lit 60 (fun _ => none) [] (by kernel_rfl) namesAt_none (fun a ha => nomatch ha) (d := d1) fun v5 H5 s5 g5 => ?_)
  have hf1 : formB d1 = true := by decide +kernel
  have hg1 : (formB d1 && goodD [] d1) = true := by decide +kernel
  refine wa_nil ⟨v4, v5, d1, rfl, WP.dp_mono s5 (nil_dp (g4.mono hid_same)), (g5.mono hid_same).dp, form_by (by decide +kernel) (by decide +kernel) (by decide +kernel), fun x _ ex gx H6 l6 ps6 s6 n6 pm6 so6 h6 e6 => ?_, fun z => by rw [hg1] at z; cases z⟩
  have e1 : namesS x 0 = ([("a", 2), ("b", 0)] : List (Str × Nat)) := by
    have z := names1
    rw [ex] at z
    exact Option.some.inj z
  rw [e1] at pm6
  have rows : ps6.map (·.2) = ([("a", 2), ("b", 0)] : List (Str × Nat)) := by
    refine sorted_one pm6 ?_ so6 (by decide +kernel)
    rw [(pm6.map (·.1)).nodup_iff]
    decide +kernel
  refine wa_nil (i_tupL h6 fun l7 hl7 => ?_)
  have s7 : Same H6 (upd H6 l7 (.tup (ps6.map fun z => V.ref z.1))) := Same.new hl7
  have d7 : Dp K (upd H6 l7 (.tup (ps6.map fun z => V.ref z.1))) (.ref l7) (.tuple [.tuple [.str "a", .int 2], .tuple [.str "b", .int 0]]) := .tup (SqT.of upd_same) (dpAll_mono s7 (by
    have z := dps_pairs (K := K) ps6 e6
    rw [rows] at z
    exact z))
  generalize upd H6 l7 (.tup (ps6.map fun z => V.ref z.1)) = H7 at s7 d7 ⊢
  refine we_lit 60 (fun _ => none) [] (by kernel_rfl) namesAt_none (fun a ha => nomatch ha) (d := .tuple [.tuple [.str "a", .int 2], .tuple [.str "b", .int 0]]) fun v8 H8 s8 g8 => ?_
  refine ⟨_, _, WP.dp_mono s8 d7, (g8.mono hid_same).dp, by decide +kernel, by decide +kernel, i_bl (i_iff (by decide +kernel) (wb_nil ?_))⟩
  show WP.WB _ _ _ _ _
  -- least_use((), ..) != ("w", (), "w")
  refine wb_cons (ws_if (wt_cmp (op_neD hr.units) rfl ?_))
  refine we_call' (RW := fun _ _ _ _ => False) lu0 (Room.mono hr (by omega)) pas_no (by rfl) ?_
  refine wa_cons (we_lit 60 (fun _ => none) [] (by kernel_rfl) namesAt_none (fun a ha => nomatch ha) (d := .tuple []) fun v9 H9 s9 g9 => ?_)
  refine wa_cons (we_lit 60 (fun _ => none) [] (by kernel_rfl) namesAt_none (fun a ha => nomatch ha) (d := d2) fun v10 H10 s10 g10 => ?_)
  have hg2 : (formB d2 && goodD [] d2 && isName (.str "w")) = true := by decide +kernel
  refine wa_cons (we_str (wa_nil ⟨v9, v10, _, d2, .str "w", rfl, WP.dp_mono s10 (nil_dp (g9.mono hid_same)), (g10.mono hid_same).dp, form_by (by decide +kernel) (by decide +kernel) (by decide +kernel), .str "w", by decide +kernel, fun _ z ez _ v11 H11 s11 dp11 => ?_, fun h => by rw [hg2] at h; cases h⟩))
  cases ez
  rw [least2] at dp11
  refine we_lit 60 (fun _ => none) [] (by kernel_rfl) namesAt_none (fun a ha => nomatch ha) (d := .tuple [.str "w", .tuple [], .str "w"]) fun v12 H12 s12 g12 => ?_
  refine ⟨_, _, WP.dp_mono s12 dp11, (g12.mono hid_same).dp, by decide +kernel, by decide +kernel, i_bl (i_iff (by decide +kernel) (wb_nil ?_))⟩
  show WP.WB _ _ _ _ _
  -- return match_told((), ..) == ("unlike", (1,))
  refine wb_one (ws_ret ?_)
  refine we_cmp (op_eqD hr.units) rfl ?_
  refine we_call' (RW := fun _ _ _ _ => False) mt0 (Room.mono hr (by omega)) pas_no (by rfl) ?_
  refine wa_cons (we_lit 60 (fun _ => none) [] (by kernel_rfl) namesAt_none (fun a ha => nomatch ha) (d := .tuple []) fun v13 H13 s13 g13 => ?_)
  refine wa_cons (we_lit 60 (fun _ => none) [] (by kernel_rfl) namesAt_none (fun a ha => nomatch ha) (d := d3) fun v14 H14 s14 g14 => ?_)
  refine wa_cons (we_lit 60 (fun _ => none) [] (by kernel_rfl) namesAt_none (fun a ha => nomatch ha) (d := e3) fun v15 H15 s15 g15 => ?_)
  obtain ⟨x, ex, gx⟩ := good_shape (show goodD [] d3 = true by decide +kernel)
  have em : matchR x e3 = some (.bad [1]) := by
    have z := match3
    rw [ex] at z
    exact z
  refine wa_nil ⟨v13, v14, v15, d3, e3, x, .bad [1], rfl, WP.dp_mono (s14.trans s15) (nil_dp (g13.mono hid_same)), WP.dp_mono s15 (g14.mono hid_same).dp, (g15.mono hid_same).dp, form_by (by decide +kernel) (by decide +kernel) (by decide +kernel), by decide +kernel, form_by (by decide +kernel) (by decide +kernel) (by decide +kernel), by decide +kernel, ex, gx, em, fun q16 p16 H16 s16 h16 hp16 => ?_⟩
  have d16 : Dp K H16 (.ref q16) (.tuple [.str "unlike", .tuple [.int 1]]) := .tup (SqT.of h16) (.cons (.str _) (.cons (.tup hp16 (.cons (.int _) .nil)) .nil))
  refine we_lit 60 (fun _ => none) [] (by kernel_rfl) namesAt_none (fun a ha => nomatch ha) (d := .tuple [.str "unlike", .tuple [.int 1]]) fun v17 H17 s17 g17 => ?_
  refine ⟨_, _, WP.dp_mono s17 d16, (g17.mono hid_same).dp, by decide +kernel, by decide +kernel, ?_⟩
  rw [show PyData.eqv (.tuple [.str "unlike", .tuple [.int 1]]) (.tuple [.str "unlike", .tuple [.int 1]]) = true by decide +kernel]
  exact q _
end
end
section
/-! ### the head: what the module's names say at the end of the top -/
open He
def fd0 (i : Nat) (n : Str) : DefD := ⟨(n, none), n, n, defArgs (top i), defBody (top i), defScope (top i), [], []⟩
def fm0 (C : Str) (q n : Str) (i j : Nat) : DefD := ⟨(C, some n), n, q, defArgs (mth i j), defBody (mth i j), defScope (mth i j), [], []⟩
def fnTop : List (Nat × Str) := ([(13, "is_integer"), (14, "is_within"), (15, "is_tuple"), (16, "is_sized"), (17, "is_name"), (18, "is_word"), (19, "is_form"), (20, "check_form"), (24, "shape"), (25, "list_shape"), (26, "depths"), (27, "matched")] : List (Nat × Str)) ++ ([(28, "fits"), (29, "matched_parts"), (30, "check_literals"), (31, "is_pattern"), (32, "is_good"), (33, "check_pattern"), (34, "names_of"), (35, "match_told"), (36, "does_match"), (37, "least_use"), (38, "least_of"), (42, "check_shape")] : List (Nat × Str)) ++ ([(44, "filled"), (46, "is_template"), (47, "is_fit"), (48, "are_rules"), (49, "check_rules"), (50, "use_told"), (52, "_law_hand"), (53, "_law_draw"), (54, "_law_any"), (55, "_law_pattern"), (57, "_law_names"), (58, "_law_said")] : List (Nat × Str)) ++ ([(59, "_law_is_pattern"), (60, "_law_is_word"), (61, "_law_least"), (62, "law")] : List (Nat × Str))
def fnMth : List DefD := [fm0 "Plain" "Plain.list_parts" "list_parts" 23 0, fm0 "Plain" "Plain.integer" "integer" 23 1, fm0 "Plain" "Plain.word_in" "word_in" 23 2, fm0 "Plain" "Plain.key" "key" 23 3, fm0 "Plain" "Plain.is_like" "is_like" 23 4, fm0 "PlainMaker" "PlainMaker.leaf" "leaf" 41 0,
  fm0 "BadPattern" "TextError.__init__" "__init__" 1 0, fm0 "BadTemplate" "TextError.__init__" "__init__" 1 0]
def fn : List DefD := fnTop.map (fun p => fd0 p.1 p.2) ++ fnMth
def gloN : List Str := (["is_integer", "is_within", "is_tuple", "is_sized", "is_name", "is_word", "is_form", "check_form", "shape", "list_shape", "depths", "matched"] : List Str) ++ (["fits", "matched_parts", "check_literals", "is_pattern", "is_good", "check_pattern", "names_of", "match_told", "does_match", "least_use", "least_of", "check_shape"] : List Str) ++ (["filled", "is_template", "is_fit", "are_rules", "check_rules", "use_told", "_law_hand", "_law_draw", "_law_any", "_law_pattern", "_law_names", "_law_said"] : List Str) ++ (["_law_is_pattern", "_law_is_word", "_law_least", "law", "TextError", "BadPattern", "BadTemplate", "Plain", "PlainMaker"] : List Str)
def freeN : List Str := (["isinstance", "len", "all", "enumerate", "sorted", "dict", "range", "set", "abs", "int", "str", "tuple"] : List Str) ++ (["bool", "ValueError"] : List Str)
def faC : List Fa := [.str "SIGNS" "abcdefghijklmnopqrstuvwxyz?*+-<=>!", .int "MOST_INT" 1000000000, .int "MOST_DEEP" 40, .int "MOST_PARTS" 3000, .str "REPEAT" "...", .str "ANY" "_", .int "MOST_REPEATS" 3, .int "MOST_RULES" 20, .cls "Plain", .cls "PlainMaker",
  .meth "Plain" "list_parts", .meth "Plain" "integer", .meth "Plain" "word_in", .meth "Plain" "key", .meth "Plain" "is_like", .meth "PlainMaker" "leaf", .meth "BadPattern" "__init__", .meth "BadTemplate" "__init__", .exm "BadPattern" "BadPattern" true, .exm "BadPattern" "TextError" true]
def fa : List Fa := gloN.map .glo ++ (freeN.map .free ++ faC)
def mk0B (K : PySem.W.Frag) (C : Addr) : Bool := PySem.W.makesIn K C && (eqO (PySem.W.findIn K (.ref C) "__init__") (some (some (.builtin "object.__init__"))) && PySem.W.keepIn K (.ref C))
theorem mk0B_ok {K : PySem.W.Frag} {C : Addr} (h : mk0B K C = true) : Mk0 K C := by
  obtain ⟨h1, h2⟩ := ba h
  obtain ⟨h3, h4⟩ := ba h2
  exact ⟨h1, eqO_ok h3, h4⟩
def oexObjB (K : PySem.W.Frag) (C : Addr) : Bool := match K.lookup C with
  | some ⟨.type c, _, .cls ⟨_, _, .ref D :: bm, _, _, true, _, _, _, _, false⟩, sl⟩ => decide (c = "type") && (decide (D = C) && (PySem.HandSPX.refsVE bm && (match sl.toList with
    | [_, _, _, _, some (.builtin n), _] => decide (n = "ValueError.__new__")
    | _ => false)))
  | _ => false
theorem arr6 {α : Type} {a : Array α} {x y z u v w : α} (h : a.toList = [x, y, z, u, v, w]) : a = #[x, y, z, u, v, w] := by
  cases a
  cases h
  rfl
theorem oexObjB_ok {K : PySem.W.Frag} {C : Addr} (h : oexObjB K C = true) : ∃ nm q N bs bm sn sub ab col dd k0 k1 k2 k3 k5, K.lookup C = some (excClassObj nm q C N bs bm true sn sub ab col dd k0 k1 k2 k3 k5 "ValueError.__new__") ∧ PySem.HandSPX.refsVE bm = true := by
  unfold oexObjB at h
  split at h
  · rename_i e
    obtain ⟨h1, h2⟩ := ba h
    obtain ⟨h3, h4⟩ := ba h2
    obtain ⟨h5, h6⟩ := ba h4
    split at h6
    · rename_i e2
      have e3 := arr6 e2
      rw [of_decide_eq_true h6] at e3
      rw [of_decide_eq_true h1, of_decide_eq_true h3, e3] at e
      exact ⟨_, _, _, _, _, _, _, _, _, _, _, _, _, _, _, e, h5⟩
    · cases h6
  · cases h
def oexB (K : PySem.W.Frag) (C : Addr) : Bool := oexObjB K C && (eqO (PySem.W.findIn K (.ref C) "__setattr__") (some (some (.builtin "object.__setattr__"))) && (decide (PySem.W.subIn K (.ref C) (.type "BaseException") = some true) && (decide (PySem.W.typeIn K (.ref C) = some (.type "type")) && PySem.W.keepIn K (.ref C))))
theorem oexB_ok {K : PySem.W.Frag} {C : Addr} (h : oexB K C = true) : OexC K C := by
  obtain ⟨h1, h2⟩ := ba h
  obtain ⟨h3, h4⟩ := ba h2
  obtain ⟨h5, h6⟩ := ba h4
  obtain ⟨h7, h8⟩ := ba h6
  exact ⟨oexObjB_ok h1, eqO_ok h3, of_decide_eq_true h5, of_decide_eq_true h7, h8⟩
def excB (K : PySem.W.Frag) (D : Addr) : Bool := eqO (PySem.W.findIn K (.ref D) "__getattribute__") (some (some (.builtin "BaseException.__getattribute__"))) && (eqO (PySem.W.findIn K (.ref D) "__getattr__") (some none) && (decide (PySem.W.subIn K (.ref D) (.type "BaseException") = some true) && (PySem.W.hasDictIn K D &&
  (eqO (PySem.W.findIn K (.ref D) "__class__") (some (some (.builtin "object.__class__"))) && (eqO (PySem.W.specialIn K (.builtin "object.__class__") "__get__") (some (some (.builtin "getset_descriptor.__get__"))) && (decide (PySem.W.takesIn K (.builtin "object.__class__") = some true) && decide (PySem.W.mroIn K D (.type "object") = some true)))))))
theorem excB_ok {K : PySem.W.Frag} {D : Addr} (h : excB K D = true) : ExcC K D := by
  obtain ⟨h1, h⟩ := ba h
  obtain ⟨h2, h⟩ := ba h
  obtain ⟨h3, h⟩ := ba h
  obtain ⟨h4, h⟩ := ba h
  obtain ⟨h5, h⟩ := ba h
  obtain ⟨h6, h⟩ := ba h
  obtain ⟨h7, h8⟩ := ba h
  exact ⟨eqO_ok h1, eqO_ok h2, of_decide_eq_true h3, h4, eqO_ok h5, eqO_ok h6, of_decide_eq_true h7, of_decide_eq_true h8⟩
def veiB (K : PySem.W.Frag) : Bool := match PySem.W.findCls K (.type "ValueError") (.type "type") "__init__" with
  | some (.val (.builtin n)) => decide (n = "ValueError.__init__")
  | _ => false
theorem veiB_ok {K : PySem.W.Frag} (h : veiB K = true) : PySem.W.findCls K (.type "ValueError") (.type "type") "__init__" = some (.val (.builtin "ValueError.__init__")) := by
  unfold veiB at h
  split at h
  · rename_i n e
    rw [e, of_decide_eq_true h]
  · cases h
def exs (K : PySem.W.Frag) : List Bool := [mk0B K (ga K "Plain"), mk0B K (ga K "PlainMaker"), oexB K (ga K "BadPattern"), oexB K (ga K "BadTemplate"), excB K (ga K "BadPattern"), decide (PySem.W.kitOne K (.ref (ga K "BadPattern")) (.ref (ga K "BadPattern")) = some true), decide (PySem.W.kitOne K (.ref (ga K "BadPattern")) (.type "ValueError") = some true), veiB K]
def ex (K : PySem.W.Frag) : Bool := (exs K).all id
def tf : List Defn := [("law", none)]
end
section
set_option maxHeartbeats 0
/-! ### the top's run -/
abbrev R : PySem.W.OpenRow := PySem.W.OpenLaw.row PySem.Challenge.rw_owntexts_k03_whole_patterns
abbrev hk : PySem.W.Hook := He.hookX 4 fa fn [] tf ex
noncomputable def ob (s : PySem.W.SharedT) : He.AlX := He.obsX 4 fa fn [] tf ex (HandSHeadRun.getT s)
theorem ob_eq (s : PySem.W.SharedT) : ob s = hk.obs s.abs := He.obsX_eq (HandSHeadRun.getT_eq s)
def nmA : List Str := ["TextError", "BadArgument", "BadPattern", "BadTemplate", "Uneven", "SIGNS", "MOST_INT", "MOST_DEEP", "MOST_PARTS", "REPEAT", "ANY", "is_integer", "is_within", "is_tuple", "is_sized", "is_name", "is_word", "is_form", "check_form", "MOST_REPEATS"]
def nmB : List Str := ["Plain", "shape", "list_shape", "depths", "matched", "fits", "matched_parts", "check_literals", "is_pattern", "is_good", "check_pattern", "names_of", "match_told", "does_match", "least_use", "least_of", "MOST_RULES", "PlainMaker", "check_shape", "repeated_keys"]
def nmC : List Str := ["filled", "many_filled", "is_template", "is_fit", "are_rules", "check_rules", "use_told", "_law_hand", "_law_draw", "_law_any", "_law_pattern", "_law_use", "_law_names", "_law_said", "_law_is_pattern", "_law_is_word", "_law_least"]
def loose : List Str := nmA ++ nmB ++ nmC
theorem run (w : World) : HandSHeadRun.RunEq R (PySem.W.view R.prog [62]) hk ob 40000 loose w := by
  intro os
  kernel_rfl
end
section
/-! ### all promises together -/
open He
structure Kn (K : PySem.W.Frag) (mg : Str → Option Value) : Prop where
  glo : ∀ x ∈ gloN, mg x = some (.ref (ga K x))
  free : ∀ x ∈ freeN, mg x = none
  fnT : ∀ p ∈ fnTop, ∃ fd, FnP K p.2 p.1 (ga K p.2) fd
  fnM : ∀ d ∈ fnMth, ∃ fd, FunD K d.name d.qual d.params d.body d.scope [] [] (fAd K d.at_) fd
  sg : ∃ t, mg "SIGNS" = some (.str "abcdefghijklmnopqrstuvwxyz?*+-<=>!" t)
  mi : ∃ t, mg "MOST_INT" = some (.int 1000000000 t)
  md : ∃ t, mg "MOST_DEEP" = some (.int 40 t)
  mp : ∃ t, mg "MOST_PARTS" = some (.int 3000 t)
  rp : ∃ t, mg "REPEAT" = some (.str "..." t)
  an : ∃ t, mg "ANY" = some (.str "_" t)
  mr : ∃ t, mg "MOST_REPEATS" = some (.int 3 t)
  ml : ∃ t, mg "MOST_RULES" = some (.int 20 t)
  cP : Cls K (ga K "Plain")
  cM : Cls K (ga K "PlainMaker")
  m0 : Meth K (ga K "Plain") "list_parts" (fAd K ("Plain", some "list_parts"))
  m1 : Meth K (ga K "Plain") "integer" (fAd K ("Plain", some "integer"))
  m2 : Meth K (ga K "Plain") "word_in" (fAd K ("Plain", some "word_in"))
  m3 : Meth K (ga K "Plain") "key" (fAd K ("Plain", some "key"))
  m4 : Meth K (ga K "Plain") "is_like" (fAd K ("Plain", some "is_like"))
  m5 : Meth K (ga K "PlainMaker") "leaf" (fAd K ("PlainMaker", some "leaf"))
  i1 : Meth K (ga K "BadPattern") "__init__" (fAd K ("BadPattern", some "__init__"))
  i2 : Meth K (ga K "BadTemplate") "__init__" (fAd K ("BadTemplate", some "__init__"))
  x1 : PySem.W.exmOne K (.ref (ga K "BadPattern")) (.ref (ga K "BadPattern")) = some true
  x2 : PySem.W.exmOne K (.ref (ga K "BadPattern")) (.ref (ga K "TextError")) = some true
  kP : Mk0 K (ga K "Plain")
  kM : Mk0 K (ga K "PlainMaker")
  oB : OexC K (ga K "BadPattern")
  oM : OexC K (ga K "BadTemplate")
  eB : ExcC K (ga K "BadPattern")
  y1 : PySem.W.kitOne K (.ref (ga K "BadPattern")) (.ref (ga K "BadPattern")) = some true
  y2 : PySem.W.kitOne K (.ref (ga K "BadPattern")) (.type "ValueError") = some true
  vi : PySem.W.findCls K (.type "ValueError") (.type "type") "__init__" = some (.val (.builtin "ValueError.__init__"))
theorem kn_of {K : PySem.W.Frag} {h : Heap} {mg : Str → Option Value} (X : K.In h) (G : h.Ns mainGlobals mg) (c : SaysD fa fn K) (e : ex K = true) : Kn K mg := by
  have g0 : ∀ f ∈ fa, f.ok K = true := fun f hf => c.facts hf
  have gc : ∀ f ∈ faC, f.ok K = true := fun f hf => g0 f (List.mem_append_right _ (List.mem_append_right _ hf))
  have e0 : ∀ b ∈ exs K, b = true := fun b hb => List.all_eq_true.mp e b hb
  have at_ : ∀ (i : Nat) (f : Fa), faC[i]? = some f → f.ok K = true := fun i f hf => gc f (List.mem_of_getElem? hf)
  have et : ∀ (i : Nat) (b : Bool), (exs K)[i]? = some b → b = true := fun i b hb => e0 b (List.mem_of_getElem? hb)
  exact {
    glo := fun x hx => glo_ok X G (g0 (.glo x) (List.mem_append_left _ (List.mem_map_of_mem hx)))
    free := fun x hx => free_ok X G (g0 (.free x) (List.mem_append_right _ (List.mem_append_left _ (List.mem_map_of_mem hx))))
    fnT := fun p hp => c.defs (d := fd0 p.1 p.2) (List.mem_append_left _ (List.mem_map_of_mem (f := fun p => fd0 p.1 p.2) hp))
    fnM := fun d hd => by
      have z := c.defs (d := d) (List.mem_append_right _ hd)
      have e1 : d.dvs K = [] := by
        have : ∀ d ∈ fnMth, d.dfl.length = 0 := by decide +kernel
        unfold DefD.dvs
        rw [List.eq_nil_of_length_eq_zero (this d hd)]
        rfl
      have e2 : d.kws K = [] := by
        have : ∀ d ∈ fnMth, d.kwd.length = 0 := by decide +kernel
        unfold DefD.kws
        rw [List.eq_nil_of_length_eq_zero (this d hd)]
        rfl
      rw [e1, e2] at z
      exact z
    sg := str_ok X G (at_ 0 _ rfl)
    mi := int_ok X G (at_ 1 _ rfl)
    md := int_ok X G (at_ 2 _ rfl)
    mp := int_ok X G (at_ 3 _ rfl)
    rp := str_ok X G (at_ 4 _ rfl)
    an := str_ok X G (at_ 5 _ rfl)
    mr := int_ok X G (at_ 6 _ rfl)
    ml := int_ok X G (at_ 7 _ rfl)
    cP := cls_ok (at_ 8 _ rfl)
    cM := cls_ok (at_ 9 _ rfl)
    m0 := meth_ok (at_ 10 _ rfl)
    m1 := meth_ok (at_ 11 _ rfl)
    m2 := meth_ok (at_ 12 _ rfl)
    m3 := meth_ok (at_ 13 _ rfl)
    m4 := meth_ok (at_ 14 _ rfl)
    m5 := meth_ok (at_ 15 _ rfl)
    i1 := meth_ok (at_ 16 _ rfl)
    i2 := meth_ok (at_ 17 _ rfl)
    x1 := exm_ok (at_ 18 _ rfl)
    x2 := exm_ok (at_ 19 _ rfl)
    kP := mk0B_ok (et 0 _ rfl)
    kM := mk0B_ok (et 1 _ rfl)
    oB := oexB_ok (et 2 _ rfl)
    oM := oexB_ok (et 3 _ rfl)
    eB := excB_ok (et 4 _ rfl)
    y1 := of_decide_eq_true (et 5 _ rfl)
    y2 := of_decide_eq_true (et 6 _ rfl)
    vi := veiB_ok (et 7 _ rfl) }
theorem scI : FnScope ["self"] ["self"] (defScope (mth 1 0)) := ⟨rfl, rfl, rfl, by decide +kernel, rfl, by decide +kernel, by decide +kernel⟩
theorem ok_init {P : Program} {w : World} {K : PySem.W.Frag} {mg : Str → Option Value} {base : Heap} {f : Addr} {fd : FuncData} (n : Kn K mg) (F : FnM K "TextError.__init__" "__init__" 1 0 f fd) : FnOk P w K mg base (L2.CX P w) 1 f fd ["self"] (fun vs H Q _ => ∃ a C, vs = [.ref a] ∧ OexC K C ∧ H a = some (exo a C none) ∧ Q .non H) := by
  refine F.ok scI (fun vs H Q E h => ?_) fun cdv A outer s H vs Q E hr h => ⟨_, pss, ?_⟩
  · obtain ⟨a, C, rfl, _⟩ := h
    rfl
  obtain ⟨a, C, rfl, T, ha, q⟩ := h
  show WB (bx P w K mg base ["self"] "TextError.__init__" (defScope (mth 1 0)) f cdv A outer s H E) [Stmt.Expr _ _] _ [some (.ref a)] H
  refine wb_one (ws_expr ?_)
  refine .of (pe_veinit (by rfl) (n.free "ValueError" (by decide +kernel)) n.vi pa) ?_
  refine wa_cons (we_var 0 (by rfl) (by k_clsL) (by rfl) (wa_nil ?_))
  exact ⟨a, C, [], rfl, by simp, T, ha, q⟩
end
section
open He
section
variable {P : Program} {w : World} {K : PySem.W.Frag} {mg : Str → Option Value} {base : Heap} {L : List Str}
theorem err_of {x : Str} {C f : Addr} (n : Kn K mg) (g : mg x = some (.ref C)) (T : OexC K C) (m : Meth K C "__init__" f) (F : ∃ fd, FnM K "TextError.__init__" "__init__" 1 0 f fd) : ErrC P w K mg base 1 x C := by
  obtain ⟨fd, F⟩ := F
  exact ⟨g, T, f, fd, ["self"], m.at_, by simpa [PySem.W.isFn] using m.fn, F.bindsN (fun _ _ _ _ _ _ us hl => match us, hl with | [_], _ => rfl), ok_init n F⟩
abbrev aP (K : PySem.W.Frag) : Addr := ga K "Plain"
abbrev aM (K : PySem.W.Frag) : Addr := ga K "PlainMaker"
abbrev aB (K : PySem.W.Frag) : Addr := ga K "BadPattern"
abbrev aT (K : PySem.W.Frag) : Addr := ga K "BadTemplate"
/-- what no literals are told of -/
structure BD (P : Program) (w : World) (K : PySem.W.Frag) (mg : Str → Option Value) (base : Heap) : Prop where
  ii : Def P w K mg base 1 "is_integer" (sp_is_integer K)
  nm : Def P w K mg base 1 "is_name" (sp_is_name K)
  tu : Def P w K mg base 1 "is_tuple" (sp_is_tuple K)
  sz : Def P w K mg base 1 "is_sized" (sp_is_sized K)
  fo : Def P w K mg base 3 "is_form" (sp_is_form K)
  cf : Def P w K mg base 4 "check_form" (sp_check_form K)
  O : PlainOk P w K mg base (aP K)
  M : MakerOk P w K mg base (aM K)
  EB : ErrC P w K mg base 1 "BadPattern" (aB K)
  ET : ErrC P w K mg base 1 "BadTemplate" (aT K)
  dd : Def P w K mg base 3 "depths" (sp_depths K (aB K))
  ma : Def P w K mg base 44 "matched" (sp_matched K (aP K) 20)
  cs : Def P w K mg base 3 "check_shape" (sp_check_shape K (aP K))
  fl : Def P w K mg base 2 "filled" (sp_filled (aP K) (aM K))
theorem bt_int (n : Kn K mg) : BTy mg "int" "int" := ⟨n.free "int" (by decide +kernel), PyProof.Rows.boot_int⟩
theorem bt_str (n : Kn K mg) : BTy mg "str" "str" := ⟨n.free "str" (by decide +kernel), PyProof.Rows.boot_str⟩
theorem bt_bool (n : Kn K mg) : BTy mg "bool" "bool" := ⟨n.free "bool" (by decide +kernel), PyProof.Rows.boot_bool⟩
theorem bt_tuple (n : Kn K mg) : BTy mg "tuple" "tuple" := ⟨n.free "tuple" (by decide +kernel), PyProof.Rows.boot_tuple⟩
theorem ok_matches (F : FnP K "matched" 27 f fd) (hm : mg "matched" = some (.ref f)) (F2 : FnP K "matched_parts" 29 f2 fd2) (hm2 : mg "matched_parts" = some (.ref f2)) (O : PlainOk P w K mg base C) (ml : mg "len" = none) (me : mg "enumerate" = none) (mt : mg "tuple" = none) (mi : mg "int" = none)
    (DF : Def P w K mg base 1 "fits" (sp_fits K)) (DD : Def P w K mg base 3 "depths" (sp_depths K CB)) : ∀ n, n ≤ 60 → Def P w K mg base (2 * n + 4) "matched" (sp_matched K C n)
  | 0, _ => ok_matched0 F hm
  | n + 1, h => ok_matched F hm (by omega) O ml DF (ok_matched_parts F2 hm2 (by omega) (by omega) ml me mt mi (ok_matches F hm F2 hm2 O ml me mt mi DF DD n (by omega)) DD)
theorem ok_leastA (F : FnP K "least_of" 38 f fd) (hm : mg "least_of" = some (.ref f)) (mi : mg "isinstance" = none) (ml : mg "len" = none) (me : mg "enumerate" = none) (mtu : BTy mg "tuple" "tuple") (mst : BTy mg "str" "str") (mR : ∃ t, mg "REPEAT" = some (.str "..." t)) :
    ∀ n, Def P w K mg base (n + 1) "least_of" (sp_least_of K L n)
  | 0 => ok_least0 F hm
  | n + 1 => ok_least F hm mi ml me mtu mst mR (ok_leastA F hm mi ml me mtu mst mR n)
theorem bd_of (n : Kn K mg) : BD P w K mg base := by
  have T := fun i x (h : (i, x) ∈ fnTop) => n.fnT (i, x) h
  have G := n.glo
  have mi := n.free "isinstance" (by decide +kernel)
  have ml := n.free "len" (by decide +kernel)
  have ma := n.free "all" (by decide +kernel)
  have me := n.free "enumerate" (by decide +kernel)
  have mt := n.free "tuple" (by decide +kernel)
  have mint := n.free "int" (by decide +kernel)
  obtain ⟨_, F13⟩ := T 13 "is_integer" (by decide +kernel)
  obtain ⟨_, F14⟩ := T 14 "is_within" (by decide +kernel)
  obtain ⟨_, F15⟩ := T 15 "is_tuple" (by decide +kernel)
  obtain ⟨_, F16⟩ := T 16 "is_sized" (by decide +kernel)
  obtain ⟨_, F17⟩ := T 17 "is_name" (by decide +kernel)
  obtain ⟨_, F18⟩ := T 18 "is_word" (by decide +kernel)
  obtain ⟨_, F19⟩ := T 19 "is_form" (by decide +kernel)
  obtain ⟨_, F20⟩ := T 20 "check_form" (by decide +kernel)
  obtain ⟨_, F26⟩ := T 26 "depths" (by decide +kernel)
  obtain ⟨_, F27⟩ := T 27 "matched" (by decide +kernel)
  obtain ⟨_, F28⟩ := T 28 "fits" (by decide +kernel)
  obtain ⟨_, F29⟩ := T 29 "matched_parts" (by decide +kernel)
  obtain ⟨_, F42⟩ := T 42 "check_shape" (by decide +kernel)
  obtain ⟨_, F44⟩ := T 44 "filled" (by decide +kernel)
  obtain ⟨_, M0⟩ := n.fnM (fm0 "Plain" "Plain.list_parts" "list_parts" 23 0) (by simp [fnMth])
  obtain ⟨_, M1⟩ := n.fnM (fm0 "Plain" "Plain.integer" "integer" 23 1) (by simp [fnMth])
  obtain ⟨_, M2⟩ := n.fnM (fm0 "Plain" "Plain.word_in" "word_in" 23 2) (by simp [fnMth])
  obtain ⟨_, M3⟩ := n.fnM (fm0 "Plain" "Plain.key" "key" 23 3) (by simp [fnMth])
  obtain ⟨_, M4⟩ := n.fnM (fm0 "Plain" "Plain.is_like" "is_like" 23 4) (by simp [fnMth])
  obtain ⟨_, M5⟩ := n.fnM (fm0 "PlainMaker" "PlainMaker.leaf" "leaf" 41 0) (by simp [fnMth])
  have ii : Def P w K mg base 1 "is_integer" (sp_is_integer K) := ok_is_integer F13 (G "is_integer" (by decide +kernel)) mi (bt_int n) (bt_bool n)
  have iw : Def P w K mg base 2 "is_within" (sp_is_within K) := ok_is_within F14 (G "is_within" (by decide +kernel)) ii
  have tu : Def P w K mg base 1 "is_tuple" (sp_is_tuple K) := ok_is_tuple F15 (G "is_tuple" (by decide +kernel)) mi ml (bt_tuple n)
  have sz : Def P w K mg base 1 "is_sized" (sp_is_sized K) := ok_is_sized F16 (G "is_sized" (by decide +kernel)) mi ml (bt_tuple n)
  have nm : Def P w K mg base 1 "is_name" (sp_is_name K) := ok_is_name F17 (G "is_name" (by decide +kernel)) mi ml ma n.sg (bt_str n)
  have wd : Def P w K mg base 2 "is_word" (sp_is_word K) := ok_is_word F18 (G "is_word" (by decide +kernel)) mi (bt_str n) n.rp n.an nm
  have fo : Def P w K mg base 3 "is_form" (sp_is_form K) := ok_is_form F19 (G "is_form" (by decide +kernel)) mi ml (bt_tuple n) n.mp n.md n.mi wd iw
  have O : PlainOk P w K mg base (aP K) := ⟨n.cP, n.kP, G "Plain" (by decide +kernel), ok_list_parts M0 n.m0 mi (bt_tuple n), ok_integer M1 n.m1 ii, ok_word_in M2 n.m2 mi (bt_str n), ok_key M3 n.m3, ok_is_like M4 n.m4⟩
  have M : MakerOk P w K mg base (aM K) := ⟨n.cM, n.kM, G "PlainMaker" (by decide +kernel), ok_leaf M5 n.m5⟩
  have EB : ErrC P w K mg base 1 "BadPattern" (aB K) := err_of n (G "BadPattern" (by decide +kernel)) n.oB n.i1 (n.fnM (fm0 "BadPattern" "TextError.__init__" "__init__" 1 0) (by simp [fnMth]))
  have ET : ErrC P w K mg base 1 "BadTemplate" (aT K) := err_of n (G "BadTemplate" (by decide +kernel)) n.oM n.i2 (n.fnM (fm0 "BadTemplate" "TextError.__init__" "__init__" 1 0) (by simp [fnMth]))
  have dd : Def P w K mg base 3 "depths" (sp_depths K (aB K)) := ok_depths F26 (G "depths" (by decide +kernel)) EB n.mr ml
  have fi : Def P w K mg base 1 "fits" (sp_fits K) := ok_fits F28 (G "fits" (by decide +kernel)) ml
  exact {
    ii := ii
    nm := nm
    tu := tu
    sz := sz
    fo := fo
    cf := ok_check_form F20 (G "check_form" (by decide +kernel)) fo
    O := O
    M := M
    EB := EB
    ET := ET
    dd := dd
    ma := ok_matches F27 (G "matched" (by decide +kernel)) F29 (G "matched_parts" (by decide +kernel)) O ml me mt mint fi dd 20 (by omega)
    cs := ok_check_shape F42 (G "check_shape" (by decide +kernel)) O ml
    fl := ok_filled F44 (G "filled" (by decide +kernel)) O M }
/-- what is told of literals -/
structure LD (P : Program) (w : World) (K : PySem.W.Frag) (mg : Str → Option Value) (base : Heap) (L : List Str) : Prop where
  ip : Def P w K mg base 46 "is_pattern" (sp_is_pattern K L)
  no : Def P w K mg base 48 "names_of" (sp_names_of K (aB K) L)
  lu : Def P w K mg base 48 "least_use" (sp_least_use K (aB K) L)
  mt : Def P w K mg base 48 "match_told" (sp_match_told K L)
  dm : Def P w K mg base 49 "does_match" (sp_does_match K L)
  ar : Def P w K mg base 49 "are_rules" (sp_are_rules K L)
  ut : Def P w K mg base 51 "use_told" (sp_use_told K L)
theorem ld_of (n : Kn K mg) (LO : LitsOk L) : LD P w K mg base L := by
  obtain ⟨ii, nm, tu, sz, fo, cf, O, M, EB, ET, dd, ma, cs, fl⟩ := bd_of (P := P) (w := w) (base := base) n
  have T := fun i x (h : (i, x) ∈ fnTop) => n.fnT (i, x) h
  have G := n.glo
  have mi := n.free "isinstance" (by decide +kernel)
  have ml := n.free "len" (by decide +kernel)
  have mal := n.free "all" (by decide +kernel)
  have me := n.free "enumerate" (by decide +kernel)
  have mt := n.free "tuple" (by decide +kernel)
  have ms := n.free "sorted" (by decide +kernel)
  have mdi := n.free "dict" (by decide +kernel)
  obtain ⟨_, F24⟩ := T 24 "shape" (by decide +kernel)
  obtain ⟨_, F25⟩ := T 25 "list_shape" (by decide +kernel)
  obtain ⟨_, F30⟩ := T 30 "check_literals" (by decide +kernel)
  obtain ⟨_, F31⟩ := T 31 "is_pattern" (by decide +kernel)
  obtain ⟨_, F32⟩ := T 32 "is_good" (by decide +kernel)
  obtain ⟨_, F33⟩ := T 33 "check_pattern" (by decide +kernel)
  obtain ⟨_, F34⟩ := T 34 "names_of" (by decide +kernel)
  obtain ⟨_, F35⟩ := T 35 "match_told" (by decide +kernel)
  obtain ⟨_, F36⟩ := T 36 "does_match" (by decide +kernel)
  obtain ⟨_, F37⟩ := T 37 "least_use" (by decide +kernel)
  obtain ⟨_, F38⟩ := T 38 "least_of" (by decide +kernel)
  obtain ⟨_, F46⟩ := T 46 "is_template" (by decide +kernel)
  obtain ⟨_, F47⟩ := T 47 "is_fit" (by decide +kernel)
  obtain ⟨_, F48⟩ := T 48 "are_rules" (by decide +kernel)
  obtain ⟨_, F49⟩ := T 49 "check_rules" (by decide +kernel)
  obtain ⟨_, F50⟩ := T 50 "use_told" (by decide +kernel)
  have sh : Def P w K mg base 44 "shape" (sp_shape K (aP K) (aB K) L 20) := ok_shapes F24 (G "shape" (by decide +kernel)) F25 (G "list_shape" (by decide +kernel)) O EB n.rp n.an ml me mt 20
  have cl : Def P w K mg base 3 "check_literals" (sp_check_literals K L) := ok_check_literals F30 (G "check_literals" (by decide +kernel)) LO ml mal sz nm
  have ig : Def P w K mg base 45 "is_good" (sp_is_good K L) := ok_is_good F32 (G "is_good" (by decide +kernel)) O EB n.x1 sh dd
  have ip : Def P w K mg base 46 "is_pattern" (sp_is_pattern K L) := ok_is_pattern F31 (G "is_pattern" (by decide +kernel)) cl fo ig
  have cp : Def P w K mg base 47 "check_pattern" (sp_check_pattern K (aB K) L) := ok_check_pattern F33 (G "check_pattern" (by decide +kernel)) EB ip
  have lo : Def P w K mg base 21 "least_of" (sp_least_of K L 20) := ok_leastA F38 (G "least_of" (by decide +kernel)) mi ml me (bt_tuple n) (bt_str n) n.rp 20
  have mtd : Def P w K mg base 48 "match_told" (sp_match_told K L) := ok_match_told F35 (G "match_told" (by decide +kernel)) O ms mt cp cf sh ma
  have fit : Def P w K mg base 45 "is_fit" (sp_is_fit K L) := ok_is_fit F47 (G "is_fit" (by decide +kernel)) O ET sh dd cs
  have tm : Def P w K mg base 48 "is_template" (sp_is_template K L) := ok_is_template F46 (G "is_template" (by decide +kernel)) cp fo fit
  have ar : Def P w K mg base 49 "are_rules" (sp_are_rules K L) := ok_are_rules F48 (G "are_rules" (by decide +kernel)) EB mi ml (bt_tuple n) (bt_str n) n.rp n.ml tu sz cl ip tm fo
  have cr : Def P w K mg base 50 "check_rules" (sp_check_rules K L) := ok_check_rules F49 (G "check_rules" (by decide +kernel)) ar
  exact {
    ip := ip
    no := ok_names_of F34 (G "names_of" (by decide +kernel)) O ms cp sh dd
    lu := ok_least_use F37 (G "least_use" (by decide +kernel)) EB cp nm lo
    mt := mtd
    dm := ok_does_match F36 (G "does_match" (by decide +kernel)) mtd
    ar := ar
    ut := ok_use_told F50 (G "use_told" (by decide +kernel)) O M mi ml me mdi (bt_tuple n) cr cf mtd sh dd fl }
theorem lits1 : LitsOk ["lit"] := ⟨by decide, by decide +kernel, by decide +kernel⟩
theorem lits0 : LitsOk [] := ⟨by decide, by decide +kernel, by decide +kernel⟩
theorem lawF_of (n : Kn K mg) : LawF P w K mg base (aB K) := by
  obtain ⟨ip, no, lu, _, dm, ar, ut⟩ := ld_of (P := P) (w := w) (base := base) n lits1
  obtain ⟨_, no0, lu0, mt0, _, _, _⟩ := ld_of (P := P) (w := w) (base := base) n lits0
  have T := fun i x (h : (i, x) ∈ fnTop) => n.fnT (i, x) h
  have G := n.glo
  have mi := n.free "isinstance" (by decide +kernel)
  have ml := n.free "len" (by decide +kernel)
  have mal := n.free "all" (by decide +kernel)
  have mab := n.free "abs" (by decide +kernel)
  have mr := n.free "range" (by decide +kernel)
  have me := n.free "enumerate" (by decide +kernel)
  have mt := n.free "tuple" (by decide +kernel)
  have mse := n.free "set" (by decide +kernel)
  obtain ⟨_, F52⟩ := T 52 "_law_hand" (by decide +kernel)
  obtain ⟨_, F53⟩ := T 53 "_law_draw" (by decide +kernel)
  obtain ⟨_, F54⟩ := T 54 "_law_any" (by decide +kernel)
  obtain ⟨_, F55⟩ := T 55 "_law_pattern" (by decide +kernel)
  obtain ⟨_, F57⟩ := T 57 "_law_names" (by decide +kernel)
  obtain ⟨_, F59⟩ := T 59 "_law_is_pattern" (by decide +kernel)
  obtain ⟨_, F60⟩ := T 60 "_law_is_word" (by decide +kernel)
  obtain ⟨_, F61⟩ := T 61 "_law_least" (by decide +kernel)
  have dw : Def P w K mg base 1 "_law_draw" sp_draw := ok_draw F53 (G "_law_draw" (by decide +kernel)) ml (bt_int n)
  have da : Def P w K mg base 2 "_law_any" (sp_any K) := ok_any F54 (G "_law_any" (by decide +kernel)) ml dw
  have lw : Def P w K mg base 1 "_law_is_word" sp_lword := ok_lword F60 (G "_law_is_word" (by decide +kernel)) ml mal
  exact {
    lf := {
      dp := ok_pat_all F55 (G "_law_pattern" (by decide +kernel)) ml mr mt dw da 3 (by omega)
      dn := ok_lnames_all F57 (G "_law_names" (by decide +kernel)) mi me (bt_int n) (bt_tuple n) 3
      dl := ok_lleast_all F61 (G "_law_least" (by decide +kernel)) mi me (bt_int n) (bt_tuple n) 3
      dm := dm
      ar := ar
      ut := ut
      ms := n.free "sorted" (by decide +kernel)
      mt := bt_tuple n }
    da := da
    no := no
    lu := lu
    ip := ip
    dj := ok_lpat ["lit"] F59 (G "_law_is_pattern" (by decide +kernel)) mi me ml mse (bt_int n) (bt_tuple n) (bt_str n) (bt_bool n) lw
    dh := ok_hand F52 (G "_law_hand" (by decide +kernel)) ml mab (bt_int n)
    no0 := no0
    lu0 := lu0
    mt0 := mt0
    mr := mr }
theorem said_of (n : Kn K mg) : SaidOk K mg (ga K "TextError") (aB K) := ⟨n.glo "TextError" (by decide +kernel), n.glo "BadPattern" (by decide +kernel), n.free "isinstance" (by decide +kernel), n.free "ValueError" (by decide +kernel), n.eB, n.x2, n.y1, n.y2⟩
end
end
section
open He
theorem law_at {w : World} {mg : Str → Option Value} {f : Addr} {h : Heap} (Y : (hk).says w h) (G : h.Ns mainGlobals mg) (hmg : mg "law" = some (.ref f)) : ∃ K : PySem.W.Frag, K.In h ∧ LamX.LawAtS PySem.Challenge.rw_owntexts_k03_whole_patterns w K (L2.CX R.prog w) 59 63 "script" mg f h := by
  obtain ⟨K, X, c⟩ := Y
  have n : Kn K mg := kn_of X G c.t.d c.more
  obtain ⟨fd, F⟩ := n.fnT (62, "law") (by decide +kernel)
  obtain ⟨fdS, FS⟩ := n.fnT (58, "_law_said") (by decide +kernel)
  have e := hmg.symm.trans (n.glo "law" (by decide +kernel))
  cases e
  obtain ⟨oc, od, dV, kV, doc, pm, an, cdv, ct, osl, efd, lk, hcd, _, _⟩ := id F.ex
  obtain ⟨cc, rfl⟩ := codeIn_ref hcd
  have hc : fd.code = .ref cc := by rw [efd] <;> rfl
  have ecT : cT K ("law", none) = (cc, tabOf K cc) := by
    have z := codeOf_eq (p := ("law", none)) lk hc
    unfold cT
    rw [z]
  have mem : (("law", none) : Defn) ∈ tf := by simp [tf]
  have hd := c.hd _ mem
  have out := c.out _ mem
  have emp := c.empty _ mem
  rw [ecT] at hd out emp
  have b := FunD.bindsA (ps := ["script"]) F fun _ _ _ _ _ _ us hl => match us, hl with | [_], _ => rfl
  refine ⟨K, X, fd, [(cc, tabOf K cc)], sp_law K (tabOf K cc), fun p hp => ?_, fun p hp => ?_, fun p hp => ?_, fun s v => b s [v] rfl, fun H a ns _ _ hT hS => ⟨a, ns, rfl, hS, hT _ (List.mem_singleton.mpr rfl), fun _ => rfl⟩, fun base _ _ TB => ?_⟩
  · rw [List.mem_singleton.mp hp]
    exact emp
  · rw [List.mem_singleton.mp hp]
    exact out
  · rw [List.mem_singleton.mp hp]
    exact PySem.W.codeHd_of_K X hd
  · exact ok_law F hc FS (n.glo "_law_said" (by decide +kernel)) (said_of n) (TB _ (List.mem_singleton.mpr rfl)) (lawF_of n)
end
end K3
end
section
set_option Elab.async false
set_option linter.all false
set_option maxRecDepth 100000
set_option maxHeartbeats 0
open PySem PySem.W PySem.Calls PyProof.Rows
theorem K3.end_ : PySem.Challenge.rw_owntexts_k03_whole_patterns.Holds := by
  w_on; o_law
  refine HandSHeadRun.head_any (r := K3.R) (q := view K3.R.prog [62]) (H := K3.hk) (ob := K3.ob) (M := 40000) (loose := K3.loose) (d := HandSHeadRun.topDef K3.R.prog 62) (kwd := []) K3.ob_eq
    (by kernel_rfl) (fun s => by kernel_rfl) K3.run (by kernel_rfl) (by kernel_rfl) (by kernel_rfl) (by rfl) (by first | assumption | decide +kernel) (by decide +kernel) ⟨rfl, rfl, rfl, rfl, rfl, by decide +kernel⟩ ?hw ?hc
  case hw => w_witness2
  case hc =>
    refine LamX.walk_ofTsE (l := PySem.Challenge.rw_owntexts_k03_whole_patterns) (n := 63) (k := 59) (x := "script") (CX := fun w => L2.CX K3.R.prog w) rfl (by decide) (by kernel_rfl) ⟨rfl, by decide, by decide⟩ ?F ?C
    case F =>
      intro w mg f h Y G hmg0
      have hmg : mg ("law" : PySem.Str) = some (.ref f) := by
        have e : (HandSHeadRun.topDef K3.R.prog 62).name = ("law" : PySem.Str) := by kernel_rfl
        rw [← e]
        exact hmg0
      exact K3.law_at Y G hmg
    case C =>
      rintro w H s e s' ⟨a, B, H', cls, d, _, _, _, _, _, _, _, z⟩
      exact z
end
set_option maxHeartbeats 0 in
theorem PySem.Challenge.cw_owntexts_k03_whole_patterns_holds : PySem.Challenge.rw_owntexts_k03_whole_patterns.Holds := by
  exact K3.end_
