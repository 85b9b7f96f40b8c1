import PyProof.Rows.All
import Wide.All
import OpenK.AllK
import Wide.FinOn
import Lean
import PySem.Challenge.RW_nz0479_01
set_option Elab.async false
set_option maxRecDepth 100000
set_option maxHeartbeats 0
set_option linter.all false
open PySem PySem.W PyProof.Rows PySem.Calls
namespace Mine
theorem kww:True:=by
 k_with "w" => (refine ⟨?_,?h⟩;case h=>(conv=>lhs;whnf))
 exact True.intro
theorem mS {α:Type} {a b:α} (h:a∈[b]):a=b:=List.mem_singleton.mp h
theorem mC {α:Type} {a b:α} {l:List α} (h:a∈b::l):a=b∨a∈l:=List.mem_cons.mp h
theorem mt2 {α:Type} {a x0 x1:α} {l:List α} (h:a∈l):a∈x0::x1::l := .tail _ (.tail _ h)
theorem mt3 {α:Type} {a x0 x1 x2:α} {l:List α} (h:a∈l):a∈x0::x1::x2::l := .tail _ (.tail _ (.tail _ h))
theorem mt4 {α:Type} {a x0 x1 x2 x3:α} {l:List α} (h:a∈l):a∈x0::x1::x2::x3::l := .tail _ (.tail _ (.tail _ (.tail _ h)))
theorem mt5 {α:Type} {a x0 x1 x2 x3 x4:α} {l:List α} (h:a∈l):a∈x0::x1::x2::x3::x4::l := .tail _ (.tail _ (.tail _ (.tail _ (.tail _ h))))
theorem mt6 {α:Type} {a x0 x1 x2 x3 x4 x5:α} {l:List α} (h:a∈l):a∈x0::x1::x2::x3::x4::x5::l := .tail _ (.tail _ (.tail _ (.tail _ (.tail _ (.tail _ h)))))
theorem mt7 {α:Type} {a x0 x1 x2 x3 x4 x5 x6:α} {l:List α} (h:a∈l):a∈x0::x1::x2::x3::x4::x5::x6::l := .tail _ (.tail _ (.tail _ (.tail _ (.tail _ (.tail _ (.tail _ h))))))
theorem mt8 {α:Type} {a x0 x1 x2 x3 x4 x5 x6 x7:α} {l:List α} (h:a∈l):a∈x0::x1::x2::x3::x4::x5::x6::x7::l := .tail _ (.tail _ (.tail _ (.tail _ (.tail _ (.tail _ (.tail _ (.tail _ h)))))))
theorem mt9 {α:Type} {a x0 x1 x2 x3 x4 x5 x6 x7 x8:α} {l:List α} (h:a∈l):a∈x0::x1::x2::x3::x4::x5::x6::x7::x8::l := .tail _ (.tail _ (.tail _ (.tail _ (.tail _ (.tail _ (.tail _ (.tail _ (.tail _ h))))))))
theorem mt10 {α:Type} {a x0 x1 x2 x3 x4 x5 x6 x7 x8 x9:α} {l:List α} (h:a∈l):a∈x0::x1::x2::x3::x4::x5::x6::x7::x8::x9::l := .tail _ (.tail _ (.tail _ (.tail _ (.tail _ (.tail _ (.tail _ (.tail _ (.tail _ (.tail _ h)))))))))
theorem mt11 {α:Type} {a x0 x1 x2 x3 x4 x5 x6 x7 x8 x9 x10:α} {l:List α} (h:a∈l):a∈x0::x1::x2::x3::x4::x5::x6::x7::x8::x9::x10::l := .tail _ (.tail _ (.tail _ (.tail _ (.tail _ (.tail _ (.tail _ (.tail _ (.tail _ (.tail _ (.tail _ h))))))))))
theorem mt12 {α:Type} {a x0 x1 x2 x3 x4 x5 x6 x7 x8 x9 x10 x11:α} {l:List α} (h:a∈l):a∈x0::x1::x2::x3::x4::x5::x6::x7::x8::x9::x10::x11::l := .tail _ (.tail _ (.tail _ (.tail _ (.tail _ (.tail _ (.tail _ (.tail _ (.tail _ (.tail _ (.tail _ (.tail _ h)))))))))))
section
open Lean Meta
theorem here {p:Prop} (h:p):p:=h
def Stop (p:Prop):Prop:=p
theorem stop {p:Prop} (h:Stop p):p:=h
theorem unstop {p:Prop} (h:p):Stop p:=h
namespace Sq
set_option genInjectivity false
set_option genSizeOf false
set_option smartUnfolding false
abbrev X:=Lean.Expr
abbrev MN:=Std.HashMap X Nat
abbrev ME:=Std.HashMap X X
structure St where
 l:LocalContext
 l2:LocalContext
 n:Nat:=0
 g:Nat:=0
 lev:MN := {}
 cnt:MN := {}
 sub:ME := {}
 memo:ME := {}
 ord:Array X := #[]
 ys:Array X := #[]
abbrev M:=StateRefT St MetaM
def LOCAL:Nat:=1000000000
def gN (m:MN) (e:X):Nat:=(m[e]?).getD 0
def iN (m:MN) (e:X) (n:Nat):MN:=m.insert e n
def gE (m:ME) (e:X):Option X:=m[e]?
def iE (m:ME) (e v:X):ME:=m.insert e v
def inL (k:MetaM X):M X:=do
 let l:=(← get).l
 (withLCtx l #[] k:MetaM X)
def setLev (e:X) (n:Nat):M Unit:=modify fun s => {s with lev:=iN s.lev e n}
def setCnt (e:X) (n:Nat):M Unit:=modify fun s => {s with cnt:=iN s.cnt e n}
def setSub (e v:X):M Unit:=modify fun s => {s with sub:=iE s.sub e v}
def setMemo (e v:X):M Unit:=modify fun s => {s with memo:=iE s.memo e v}
def isB (e:X):Bool:=e.isLambda || e.isForall || e.isLet
def hasB (e:X):Bool:=(e.find? isB).isSome
def tag (c:Nat) (e:X):X := .proj `sq c e
def info (c:X):M Nat:=do
 let k:=gN (← get).cnt (tag 0 c)
 if k != 0 then return k
 let r ← inL (do
   let t ← inferType c
   forallTelescope t fun xs _=>do
     let mut r:=1
     for x in xs.reverse do
       let d ← inferType x
       let p ← isProp d
       let w ← forallTelescope d fun _ r=>pure (r.getAppFn.isFVar || r.getAppFn.constName.toString.endsWith "noConfusionType")
       r:=r*3+(if p then 1 else if w then 0 else 2)
     return mkRawNatLit r)
 let r:=match r with | .lit (.natVal r)=>r | _=>1
 setCnt (tag 0 c) r
 return r
def isPf (e:X):M Bool:=do
 let r ← inL (do if ← Meta.isProof e then return e else return .bvar 0)
 return !r.isBVar
def fresh (nm:Name) (ty:X) (v:Option X) (lv:Nat):M X:=do
 let n:=(← get).n
 let id:FVarId:=⟨.num `sq n⟩
 modify fun s => {s with n:=n+1,l:=match v with | some v=>s.l.mkLetDecl id nm ty v | none=>s.l.mkLocalDecl id nm ty}
 setLev (.fvar id) lv
 return .fvar id
def decl2 (x ty:X) (v:Option X):M Unit :=
 modify fun s => {s with l2:=match v with | some v=>s.l2.mkLetDecl x.fvarId! `x ty v | none=>s.l2.mkLocalDecl x.fvarId! `x ty}
def openG (e:X) (lv:Nat):M (X×X):=do
 if let some r:=gE (← get).memo (tag 1 e) then return (r.appArg!,r.appFn!)
 let x ← if e.isLet then fresh `x e.letType! (some e.letValue!) lv else fresh `x e.bindingDomain! none lv
 let b:=(if e.isLet then e.letBody! else e.bindingBody!).instantiate1 x
 setMemo (tag 1 e) (.app b x)
 return (x,b)
def alF (e:X):M (Option X):=return gE (← get).memo (tag 2 e)
def levOf (e:X):M Nat:=do
 if !e.hasFVar then return 0
 return gN (← get).lev (((← alF e)).getD e)
def norm (e:X):X :=
 let f:=e.getAppFn
 let a:=e.getAppArgs
 if f.isConst && a.size ≥ 5 && (a[2]!).isLambda && !(a[2]!).bindingBody!.hasLooseBVar 0 then
   let g:=(a[2]!).bindingBody!
   if f.constName! == ``Exists.casesOn && a.size == 5 then mkAppN (.const ``Exists.elim f.constLevels!) #[a[0]!,a[1]!,g,a[3]!,a[4]!]
   else if f.constName! == ``And.casesOn && a.size == 5 then mkAppN (.const ``And.elim f.constLevels!) #[a[0]!,a[1]!,g,a[4]!,a[3]!]
   else if f.constName! == ``Or.casesOn && a.size == 6 then mkAppN (.const ``Or.elim []) #[a[0]!,a[1]!,g,a[3]!,a[4]!,a[5]!]
   else e
 else e
def unEx:Nat->X->Array X->Array X×X
 | 0,b,xs=>(xs,b)
 | k+1,b,xs =>
   if b.isAppOfArity ``Exists 2 && b.appArg!.isLambda then unEx k b.appArg!.bindingBody! (xs.push b.appArg!.bindingDomain!) else (xs,b)
def small:Nat->X->Nat->Nat
 | 0,_,n=>n
 | k+1,e,n=>if n > 24 || !e.hasLooseBVars then n else if e.isApp then small k e.appArg! (small k e.appFn! (n+1)) else if isB e && !e.isLet then small k e.bindingBody! (small k e.bindingDomain! (n+1)) else n
def lams:List X->X->X
 | [],b=>b
 | d::r,b => .lam `x d (lams r b) .default
def chainF (use:X->M Unit) (lv:Nat) (ds:List X) (b:X):Nat->List X->M (List X)
 | 0,fs=>return fs
 | k+1,fs=>do
   let v:=match fs with
     | []=>lams ds b
     | f::_=>lams (ds.take (k+1)) (mkApp2 (.const ``Exists [1]) (ds[k+1]!) (mkAppN f ((Array.range (k+1)).map fun i => .bvar (k - i))))
   if fs.isEmpty then use v
   let lv ← if fs.isEmpty then levOf v else pure lv
   let x ← fresh `f (← inL (inferType v)) (some v) lv
   setMemo (tag 4 x) v
   modify fun s => {s with ord:=s.ord.push x}
   chainF use lv ds b k (x::fs)
def chain (use:X->M Unit) (p a:X):M Unit:=do
 if !p.isLambda then return
 if (← alF p).isNone then
   let (xs,b):=unEx 40 p.bindingBody! #[p.bindingDomain!]
   if xs.size<2 || small 100 b 0≤24 || !(List.range xs.size).all (b.hasLooseBVar ·) then return
   let fs ← chainF use 0 xs.toList b xs.size []
   setMemo (tag 2 p) fs.head!
   let all:=mkAppN (.bvar 0) fs.toArray
   for f in fs do setMemo (tag 3 f) all
 let some y ← alF p | return
 let q:=p.bindingBody!.instantiate1 a
 if !q.isAppOfArity ``Exists 2 then return
 let q:=q.appArg!
 if !q.isLambda || (← alF q).isSome then return
 let some all:=gE (← get).memo (tag 3 y.getAppFn) | return
 let args:=y.getAppArgs.push a
 if args.size<all.getAppNumArgs then setMemo (tag 2 q) (mkAppN (all.getAppArgs[args.size]!) args)
def walk:Nat->Bool->X->M Unit
 | 0,_,_=>throwError "squeeze: too deep"
 | k+1,pf,e=>do
   if e.isFVar || e.isConst || e.isBVar || e.isSort || e.isLit then return
   let pf:=pf && hasB e
   if !pf then
     if !e.hasFVar then return
     if let some y ← alF e then return ← walk k false y
   let c:=gN (← get).cnt (if pf then tag 5 e else e)
   if c != 0 then
     if !pf then setCnt e (c+1)
     return
   setCnt (if pf then tag 5 e else e) 1
   let e0:=e
   let e:=if pf then norm e else e
   let mut ch:Array (Bool×X) := #[]
   if e.isApp && !pf then ch := #[(false,e.appFn!),(false,e.appArg!)]
   else if e.isApp then
     let f:=e.getAppFn
     let args:=e.getAppArgs
     let mut inf ← if pf && f.isConst then info f else pure 1
     ch:=ch.push (pf,f)
     for a in args do
       let d:=if inf == 1 then 0 else inf % 3
       if inf != 1 then inf:=inf / 3
       let q ← if pf && !a.isFVar && d == 0 then isPf a else pure (d == 1)
       ch:=ch.push (pf && q,a)
     if pf && f.isConst && args.size ≥ 4 then
       if f.constName! == ``Exists.intro then chain (walk k false) args[1]! args[2]!
       else if f.constName! == ``Exists.elim && (args[4]!).isLambda then
         modify fun s => {s with g:=s.g+1}
         chain (walk k false) args[1]! (← openG args[4]! (← get).g).1
   else if e.isMData then ch:=ch.push (pf,e.mdataExpr!)
   else if e.isProj then ch:=ch.push (pf,e.projExpr!)
   else
     modify fun s => {s with g:=s.g+1}
     let g:=(← get).g
     let (_,b) ← openG e (if pf then g else LOCAL)
     ch:=ch.push (false,if e.isLet then e.letType! else e.bindingDomain!)
     if e.isLet then ch:=ch.push (pf && (← isPf e.letValue!),e.letValue!)
     ch:=ch.push (pf,b)
   let mut lv:=0
   for (p,c) in ch do
     walk k p c
     if !pf then lv:=max lv (← levOf c)
   if !pf then
     if isB e then
       lv:=0
       for f in (Lean.collectFVars {} e).fvarIds do lv:=max lv (← levOf (.fvar f))
     setLev e0 lv
     modify fun s => {s with ord:=s.ord.push e0}
def pre (s:ME):Nat->X->X×Nat
 | 0,f=>(f,0)
 | n+1,f=>if (gE s f).isSome then (f,n+1) else pre s n f.appFn!
def declT (f:Bool->X->M X) (t:X):M Unit:=do
 let v:=gE (← get).memo (tag 4 t)
 if v.isSome && (← get).l2.contains t.fvarId! then return
 let ty ← f false (← inL (inferType t))
 let v' ← f true (v.getD t)
 let n:=(← get).n
 let y:X:=if v.isSome then t else .fvar ⟨.num `sq n⟩
 decl2 y ty (some v')
 modify fun s => {s with n:=n+1,ys:=s.ys.push y}
 if v.isNone then setSub t y
def rb:Nat->Bool->X->M X
 | 0,_,_=>throwError "squeeze: too deep"
 | k+1,top,e=>do
   if !e.hasFVar || e.isFVar then return e
   if let some y ← alF e then
     for f in (((gE (← get).memo (tag 3 y.getAppFn)).getD (.bvar 0)).getAppArgs).reverse do declT (rb k) f
     return ← rb k false y
   if !top then
     if let some y:=gE (← get).sub e then return y
   let e0:=e
   let e:=norm e
   let mut r:=e
   if e.isApp then
     if e.isAppOfArity ``id 2 && hasB e then r ← rb k false e.appArg!
     else
       let s:=(← get).sub
       let (h,n):=pre s (e.getAppNumArgs - 1) e.appFn!
       r ← rb k false h
       for a in e.getAppArgs.extract n e.getAppNumArgs do r := .app r (← rb k false a)
   else if e.isMData then r ← rb k false e.mdataExpr!
   else if e.isProj then r:=e.updateProj! (← rb k false e.projExpr!)
   else
     let (x,b) ← openG e LOCAL
     let g ← levOf x
     let v ← if e.isLet then some <$> rb k false e.letValue! else pure none
     decl2 x (← rb k false (if e.isLet then e.letType! else e.bindingDomain!)) v
     let ys0:=(← get).ys
     if g != LOCAL then
       modify fun s => {s with ys := #[x]}
       for t in (((gE (← get).memo (tag 6 (.bvar g))).getD (.bvar 0)).getAppArgs).reverse do declT (rb k) t
     let ys1:=(← get).ys
     let ys:=if g != LOCAL then ys1 else #[x]
     modify fun s => {s with ys:=ys0}
     let b ← rb k false b
     let l:=(← get).l2
     r:=if e.isForall then l.mkForall ys b else l.mkLambda ys b
   unless top do setSub e0 r
   return r
def go (e:X):M X:=do
 let e:=Lean.Expr.lam `z (.sort .zero) e .default
 walk 1000000 true e
 for t in (← get).ord.reverse do
   let lv ← levOf t
   let c:=gN (← get).cnt t
   let p ← if c≤3 && c ≥ 2 && lv<LOCAL then isPf t else pure false
   if lv<LOCAL && (t.isFVar || (c ≥ 2 && !p)) then
     let lv:=max lv 1
     let key:=tag 6 (.bvar lv)
     let c:=(gE (← get).memo key).getD (.bvar 0)
     setMemo key (.app c t)
 let r ← rb 1000000 false e
 return r.bindingBody!
def run (e:X):MetaM X:=do
 let l ← getLCtx
 (go e).run' {l:=l,l2:=l}
open Elab Tactic in
def fin:TacticM Unit:=do
 let r:Option X:=(← getMCtx).eAssignment.foldl (init:=none) fun acc _ v=>if v.isAppOfArity ``Mine.here 2 then some v.appArg! else acc
 let some x:=r | throwError "squeeze: no mark"
 let e ← instantiateMVars x
 if !x.isMVar || e.hasExprMVar || e.hasLevelMVar then return
 let d ← x.mvarId!.getDecl
 let e' ← withLCtx d.lctx d.localInstances (run e)
 unless (Lean.collectFVars {} e').fvarIds.any (fun f => !d.lctx.contains f) do x.mvarId!.assign e'
 unless (← getThe Core.State).messages.hasErrors do modifyThe Core.State fun s => {s with messages := {}}
open Elab Tactic in
def kx (s:String):TacticM Unit:=do evalTactic (← `(tactic| k_extra $(Syntax.mkStrLit s)))
open Elab Tactic in
def atCall:TacticM Unit:=withMainContext do
 let T ← whnfR (← instantiateMVars (← getMainTarget))
 let t ← whnfR (T.getAppArgs.getD 3 T)
 let n:=(t.getAppArgs.find? (·.isAppOfArity `PySem.Value.ref 1)).bind fun x=>x.appArg!.nat? <|> x.appArg!.rawNatLit?
 match n with
 | some n =>
   let one:TacticM Unit:=kx s!"c{n}" <|> kx "c*"
   one <|> withDefault one <|> (do kx "ds";one) <|> (do kx "ds";withDefault one) <|> kx "stop"
 | none=>kx "c*"
def ltGo:Nat->X->X->X->X×X
 | 0,d,l,h=>(mkApp2 (.const `PySem.W.AllLt []) d l,h)
 | k+1,d,l,h =>
   if l.isAppOfArity ``List.cons 3 then
     let p:=l.appFn!.appArg!
     let t:=l.appArg!
     let a:=if p.isAppOfArity ``Prod.mk 4 then p.appFn!.appArg! else .proj ``Prod 0 p
     let A:=mkApp4 (.const ``LT.lt [0]) (.const ``Nat []) (.const ``instLTNat []) a d
     let R:=mkApp2 (.const `PySem.W.AllLt []) d t
     let x:=mkApp3 (.const ``And.left []) A R h
     if t.isAppOfArity ``List.nil 1 then (A,x)
     else
       let (B,q):=ltGo k d t (mkApp3 (.const ``And.right []) A R h)
       (mkApp2 (.const ``And []) A B,mkApp4 (.const ``And.intro []) A B x q)
   else (mkApp2 (.const `PySem.W.AllLt []) d l,h)
open Elab Tactic in
def lt:TacticM Unit:=withMainContext do
 let some y:=(← getLCtx).lastDecl | throwError "lt"
 let T ← instantiateMVars y.type
 unless T.isAppOfArity `PySem.W.AllLt 2 && T.appArg!.isAppOfArity ``List.cons 3 do throwError "lt"
 let (ty,pf):=ltGo 1000 T.appFn!.appArg! T.appArg! y.toExpr
 let r ← (← getMainGoal).replace y.fvarId pf ty
 replaceMainGoal [r.mvarId]
end Sq
theorem kws:True:=by
 k_with "s" => (run_tac Lean.Elab.enableInfoTree false);refine no_implicit_lambda% (here ?_)
 k_with "f" => run_tac Sq.fin
 k_with "lt" => run_tac Sq.lt
 k_with "size_fits" => (with_reducible show List.length _≤sizeLine);first | exact Nat.le_of_ble_eq_true rfl | (simp only [List.length_cons,List.length_nil,sizeLine_eq];omega)
 k_with "ds" => dsimp only
 k_with "stop" => refine stop ?_
 k_with "!call ref" => run_tac Sq.atCall
 k_with "!pyIter ref" => first | (k_here;gp_on) | refine stop ?_
 k_with "k_steps" => (repeat' ((fail_if_success (with_reducible refine unstop ?_));first | (k_unfold;(try dsimp only)) | (k_end;wrow_close) | walk1 | (dsimp only;walk1) | (leave1;(try dsimp only)) | fail "no step"));all_goals (try (with_reducible refine unstop ?_))
 exact True.intro
end
section
open PySem PySem.W PyProof.Rows PySem.Calls
def stAt (i:Nat):Stmt:=(PySem.Challenge.pw_nz0479_01.main.body[i]?).getD (.Pass ⟨0,0,0,0⟩)
def mAt (i j:Nat):Stmt:=match stAt i with
 | .ClassDef _ _ _ b .. => (b[j]?).getD (.Pass ⟨0,0,0,0⟩)
 | s=>s
def fArgs:Stmt->Arguments
 | .FunctionDef _ a .. => a
 | _=>default
def fBody:Stmt->List Stmt
 | .FunctionDef _ _ b .. => b
 | _=>[]
def fScope:Stmt->Option Scope
 | .FunctionDef _ _ _ _ _ _ sc .. => some sc
 | _=>none
@[reducible] noncomputable def fp21:Arguments:=Subtype.val (p:=fun b=>fArgs (stAt 0)=b) (by k_extra "w")
@[reducible] noncomputable def fb21:List Stmt:=Subtype.val (p:=fun b=>fBody (stAt 0)=b) (by k_extra "w")
@[reducible] noncomputable def fs21:Scope:=Subtype.val (p:=fun b=>fScope (stAt 0)=some b) (by k_extra "w")
@[reducible] noncomputable def fp28:Arguments:=Subtype.val (p:=fun b=>fArgs (stAt 2)=b) (by k_extra "w")
@[reducible] noncomputable def fb28:List Stmt:=Subtype.val (p:=fun b=>fBody (stAt 2)=b) (by k_extra "w")
@[reducible] noncomputable def fs28:Scope:=Subtype.val (p:=fun b=>fScope (stAt 2)=some b) (by k_extra "w")
@[reducible] noncomputable def fp35:Arguments:=Subtype.val (p:=fun b=>fArgs (stAt 3)=b) (by k_extra "w")
@[reducible] noncomputable def fb35:List Stmt:=Subtype.val (p:=fun b=>fBody (stAt 3)=b) (by k_extra "w")
@[reducible] noncomputable def fs35:Scope:=Subtype.val (p:=fun b=>fScope (stAt 3)=some b) (by k_extra "w")
@[reducible] noncomputable def fp62:Arguments:=Subtype.val (p:=fun b=>fArgs (mAt 6 0)=b) (by k_extra "w")
@[reducible] noncomputable def fb62:List Stmt:=Subtype.val (p:=fun b=>fBody (mAt 6 0)=b) (by k_extra "w")
@[reducible] noncomputable def fs62:Scope:=Subtype.val (p:=fun b=>fScope (mAt 6 0)=some b) (by k_extra "w")
@[reducible] noncomputable def fp81:Arguments:=Subtype.val (p:=fun b=>fArgs (mAt 8 0)=b) (by k_extra "w")
@[reducible] noncomputable def fb81:List Stmt:=Subtype.val (p:=fun b=>fBody (mAt 8 0)=b) (by k_extra "w")
@[reducible] noncomputable def fs81:Scope:=Subtype.val (p:=fun b=>fScope (mAt 8 0)=some b) (by k_extra "w")
@[reducible] noncomputable def fp103:Arguments:=Subtype.val (p:=fun b=>fArgs (mAt 9 0)=b) (by k_extra "w")
@[reducible] noncomputable def fb103:List Stmt:=Subtype.val (p:=fun b=>fBody (mAt 9 0)=b) (by k_extra "w")
@[reducible] noncomputable def fs103:Scope:=Subtype.val (p:=fun b=>fScope (mAt 9 0)=some b) (by k_extra "w")
@[reducible] noncomputable def fp110:Arguments:=Subtype.val (p:=fun b=>fArgs (mAt 9 1)=b) (by k_extra "w")
@[reducible] noncomputable def fb110:List Stmt:=Subtype.val (p:=fun b=>fBody (mAt 9 1)=b) (by k_extra "w")
@[reducible] noncomputable def fs110:Scope:=Subtype.val (p:=fun b=>fScope (mAt 9 1)=some b) (by k_extra "w")
@[reducible] noncomputable def fp124:Arguments:=Subtype.val (p:=fun b=>fArgs (stAt 10)=b) (by k_extra "w")
@[reducible] noncomputable def fb124:List Stmt:=Subtype.val (p:=fun b=>fBody (stAt 10)=b) (by k_extra "w")
@[reducible] noncomputable def fs124:Scope:=Subtype.val (p:=fun b=>fScope (stAt 10)=some b) (by k_extra "w")
@[reducible] noncomputable def fp131:Arguments:=Subtype.val (p:=fun b=>fArgs (stAt 12)=b) (by k_extra "w")
@[reducible] noncomputable def fb131:List Stmt:=Subtype.val (p:=fun b=>fBody (stAt 12)=b) (by k_extra "w")
@[reducible] noncomputable def fs131:Scope:=Subtype.val (p:=fun b=>fScope (stAt 12)=some b) (by k_extra "w")
@[reducible] noncomputable def fp138:Arguments:=Subtype.val (p:=fun b=>fArgs (stAt 13)=b) (by k_extra "w")
@[reducible] noncomputable def fb138:List Stmt:=Subtype.val (p:=fun b=>fBody (stAt 13)=b) (by k_extra "w")
@[reducible] noncomputable def fs138:Scope:=Subtype.val (p:=fun b=>fScope (stAt 13)=some b) (by k_extra "w")
@[reducible] noncomputable def fp145:Arguments:=Subtype.val (p:=fun b=>fArgs (stAt 14)=b) (by k_extra "w")
@[reducible] noncomputable def fb145:List Stmt:=Subtype.val (p:=fun b=>fBody (stAt 14)=b) (by k_extra "w")
@[reducible] noncomputable def fs145:Scope:=Subtype.val (p:=fun b=>fScope (stAt 14)=some b) (by k_extra "w")
@[reducible] noncomputable def fp152:Arguments:=Subtype.val (p:=fun b=>fArgs (stAt 15)=b) (by k_extra "w")
@[reducible] noncomputable def fb152:List Stmt:=Subtype.val (p:=fun b=>fBody (stAt 15)=b) (by k_extra "w")
@[reducible] noncomputable def fs152:Scope:=Subtype.val (p:=fun b=>fScope (stAt 15)=some b) (by k_extra "w")
@[reducible] noncomputable def fp159:Arguments:=Subtype.val (p:=fun b=>fArgs (stAt 16)=b) (by k_extra "w")
@[reducible] noncomputable def fb159:List Stmt:=Subtype.val (p:=fun b=>fBody (stAt 16)=b) (by k_extra "w")
@[reducible] noncomputable def fs159:Scope:=Subtype.val (p:=fun b=>fScope (stAt 16)=some b) (by k_extra "w")
@[reducible] noncomputable def fp166:Arguments:=Subtype.val (p:=fun b=>fArgs (stAt 17)=b) (by k_extra "w")
@[reducible] noncomputable def fb166:List Stmt:=Subtype.val (p:=fun b=>fBody (stAt 17)=b) (by k_extra "w")
@[reducible] noncomputable def fs166:Scope:=Subtype.val (p:=fun b=>fScope (stAt 17)=some b) (by k_extra "w")
@[reducible] noncomputable def fp173:Arguments:=Subtype.val (p:=fun b=>fArgs (stAt 18)=b) (by k_extra "w")
@[reducible] noncomputable def fb173:List Stmt:=Subtype.val (p:=fun b=>fBody (stAt 18)=b) (by k_extra "w")
@[reducible] noncomputable def fs173:Scope:=Subtype.val (p:=fun b=>fScope (stAt 18)=some b) (by k_extra "w")
@[reducible] noncomputable def fp180:Arguments:=Subtype.val (p:=fun b=>fArgs (stAt 19)=b) (by k_extra "w")
@[reducible] noncomputable def fb180:List Stmt:=Subtype.val (p:=fun b=>fBody (stAt 19)=b) (by k_extra "w")
@[reducible] noncomputable def fs180:Scope:=Subtype.val (p:=fun b=>fScope (stAt 19)=some b) (by k_extra "w")
@[reducible] noncomputable def fp187:Arguments:=Subtype.val (p:=fun b=>fArgs (stAt 20)=b) (by k_extra "w")
@[reducible] noncomputable def fb187:List Stmt:=Subtype.val (p:=fun b=>fBody (stAt 20)=b) (by k_extra "w")
@[reducible] noncomputable def fs187:Scope:=Subtype.val (p:=fun b=>fScope (stAt 20)=some b) (by k_extra "w")
@[reducible] noncomputable def fp194:Arguments:=Subtype.val (p:=fun b=>fArgs (stAt 22)=b) (by k_extra "w")
@[reducible] noncomputable def fb194:List Stmt:=Subtype.val (p:=fun b=>fBody (stAt 22)=b) (by k_extra "w")
@[reducible] noncomputable def fs194:Scope:=Subtype.val (p:=fun b=>fScope (stAt 22)=some b) (by k_extra "w")
@[reducible] noncomputable def fp201:Arguments:=Subtype.val (p:=fun b=>fArgs (stAt 24)=b) (by k_extra "w")
@[reducible] noncomputable def fb201:List Stmt:=Subtype.val (p:=fun b=>fBody (stAt 24)=b) (by k_extra "w")
@[reducible] noncomputable def fs201:Scope:=Subtype.val (p:=fun b=>fScope (stAt 24)=some b) (by k_extra "w")
@[reducible] noncomputable def fp208:Arguments:=Subtype.val (p:=fun b=>fArgs (stAt 25)=b) (by k_extra "w")
@[reducible] noncomputable def fb208:List Stmt:=Subtype.val (p:=fun b=>fBody (stAt 25)=b) (by k_extra "w")
@[reducible] noncomputable def fs208:Scope:=Subtype.val (p:=fun b=>fScope (stAt 25)=some b) (by k_extra "w")
@[reducible] noncomputable def fp215:Arguments:=Subtype.val (p:=fun b=>fArgs (stAt 26)=b) (by k_extra "w")
@[reducible] noncomputable def fb215:List Stmt:=Subtype.val (p:=fun b=>fBody (stAt 26)=b) (by k_extra "w")
@[reducible] noncomputable def fs215:Scope:=Subtype.val (p:=fun b=>fScope (stAt 26)=some b) (by k_extra "w")
@[reducible] noncomputable def fp222:Arguments:=Subtype.val (p:=fun b=>fArgs (stAt 27)=b) (by k_extra "w")
@[reducible] noncomputable def fb222:List Stmt:=Subtype.val (p:=fun b=>fBody (stAt 27)=b) (by k_extra "w")
@[reducible] noncomputable def fs222:Scope:=Subtype.val (p:=fun b=>fScope (stAt 27)=some b) (by k_extra "w")
@[reducible] noncomputable def fp229:Arguments:=Subtype.val (p:=fun b=>fArgs (stAt 28)=b) (by k_extra "w")
@[reducible] noncomputable def fb229:List Stmt:=Subtype.val (p:=fun b=>fBody (stAt 28)=b) (by k_extra "w")
@[reducible] noncomputable def fs229:Scope:=Subtype.val (p:=fun b=>fScope (stAt 28)=some b) (by k_extra "w")
@[reducible] noncomputable def fp234:Arguments:=Subtype.val (p:=fun b=>fArgs (stAt 29)=b) (by k_extra "w")
@[reducible] noncomputable def fb234:List Stmt:=Subtype.val (p:=fun b=>fBody (stAt 29)=b) (by k_extra "w")
@[reducible] noncomputable def fs234:Scope:=Subtype.val (p:=fun b=>fScope (stAt 29)=some b) (by k_extra "w")
@[reducible] noncomputable def fp241:Arguments:=Subtype.val (p:=fun b=>fArgs (stAt 30)=b) (by k_extra "w")
@[reducible] noncomputable def fb241:List Stmt:=Subtype.val (p:=fun b=>fBody (stAt 30)=b) (by k_extra "w")
@[reducible] noncomputable def fs241:Scope:=Subtype.val (p:=fun b=>fScope (stAt 30)=some b) (by k_extra "w")
@[reducible] noncomputable def fp246:Arguments:=Subtype.val (p:=fun b=>fArgs (stAt 31)=b) (by k_extra "w")
@[reducible] noncomputable def fb246:List Stmt:=Subtype.val (p:=fun b=>fBody (stAt 31)=b) (by k_extra "w")
@[reducible] noncomputable def fs246:Scope:=Subtype.val (p:=fun b=>fScope (stAt 31)=some b) (by k_extra "w")
@[reducible] noncomputable def fp253:Arguments:=Subtype.val (p:=fun b=>fArgs (stAt 32)=b) (by k_extra "w")
@[reducible] noncomputable def fb253:List Stmt:=Subtype.val (p:=fun b=>fBody (stAt 32)=b) (by k_extra "w")
@[reducible] noncomputable def fs253:Scope:=Subtype.val (p:=fun b=>fScope (stAt 32)=some b) (by k_extra "w")
@[reducible] noncomputable def fp260:Arguments:=Subtype.val (p:=fun b=>fArgs (stAt 33)=b) (by k_extra "w")
@[reducible] noncomputable def fb260:List Stmt:=Subtype.val (p:=fun b=>fBody (stAt 33)=b) (by k_extra "w")
@[reducible] noncomputable def fs260:Scope:=Subtype.val (p:=fun b=>fScope (stAt 33)=some b) (by k_extra "w")
@[reducible] noncomputable def fp267:Arguments:=Subtype.val (p:=fun b=>fArgs (stAt 34)=b) (by k_extra "w")
@[reducible] noncomputable def fb267:List Stmt:=Subtype.val (p:=fun b=>fBody (stAt 34)=b) (by k_extra "w")
@[reducible] noncomputable def fs267:Scope:=Subtype.val (p:=fun b=>fScope (stAt 34)=some b) (by k_extra "w")
@[reducible] noncomputable def fp272:Arguments:=Subtype.val (p:=fun b=>fArgs (stAt 35)=b) (by k_extra "w")
@[reducible] noncomputable def fb272:List Stmt:=Subtype.val (p:=fun b=>fBody (stAt 35)=b) (by k_extra "w")
@[reducible] noncomputable def fs272:Scope:=Subtype.val (p:=fun b=>fScope (stAt 35)=some b) (by k_extra "w")
@[reducible] noncomputable def fp279:Arguments:=Subtype.val (p:=fun b=>fArgs (stAt 36)=b) (by k_extra "w")
@[reducible] noncomputable def fb279:List Stmt:=Subtype.val (p:=fun b=>fBody (stAt 36)=b) (by k_extra "w")
@[reducible] noncomputable def fs279:Scope:=Subtype.val (p:=fun b=>fScope (stAt 36)=some b) (by k_extra "w")
@[reducible] noncomputable def fp287:Arguments:=Subtype.val (p:=fun b=>fArgs (stAt 37)=b) (by k_extra "w")
@[reducible] noncomputable def fb287:List Stmt:=Subtype.val (p:=fun b=>fBody (stAt 37)=b) (by k_extra "w")
@[reducible] noncomputable def fs287:Scope:=Subtype.val (p:=fun b=>fScope (stAt 37)=some b) (by k_extra "w")
@[reducible] noncomputable def fp295:Arguments:=Subtype.val (p:=fun b=>fArgs (stAt 38)=b) (by k_extra "w")
@[reducible] noncomputable def fb295:List Stmt:=Subtype.val (p:=fun b=>fBody (stAt 38)=b) (by k_extra "w")
@[reducible] noncomputable def fs295:Scope:=Subtype.val (p:=fun b=>fScope (stAt 38)=some b) (by k_extra "w")
@[reducible] noncomputable def fp302:Arguments:=Subtype.val (p:=fun b=>fArgs (stAt 40)=b) (by k_extra "w")
@[reducible] noncomputable def fb302:List Stmt:=Subtype.val (p:=fun b=>fBody (stAt 40)=b) (by k_extra "w")
@[reducible] noncomputable def fs302:Scope:=Subtype.val (p:=fun b=>fScope (stAt 40)=some b) (by k_extra "w")
@[reducible] noncomputable def fp309:Arguments:=Subtype.val (p:=fun b=>fArgs (stAt 41)=b) (by k_extra "w")
@[reducible] noncomputable def fb309:List Stmt:=Subtype.val (p:=fun b=>fBody (stAt 41)=b) (by k_extra "w")
@[reducible] noncomputable def fs309:Scope:=Subtype.val (p:=fun b=>fScope (stAt 41)=some b) (by k_extra "w")
@[reducible] noncomputable def fp316:Arguments:=Subtype.val (p:=fun b=>fArgs (stAt 42)=b) (by k_extra "w")
@[reducible] noncomputable def fb316:List Stmt:=Subtype.val (p:=fun b=>fBody (stAt 42)=b) (by k_extra "w")
@[reducible] noncomputable def fs316:Scope:=Subtype.val (p:=fun b=>fScope (stAt 42)=some b) (by k_extra "w")
@[reducible] noncomputable def fp323:Arguments:=Subtype.val (p:=fun b=>fArgs (stAt 43)=b) (by k_extra "w")
@[reducible] noncomputable def fb323:List Stmt:=Subtype.val (p:=fun b=>fBody (stAt 43)=b) (by k_extra "w")
@[reducible] noncomputable def fs323:Scope:=Subtype.val (p:=fun b=>fScope (stAt 43)=some b) (by k_extra "w")
@[reducible] noncomputable def fp330:Arguments:=Subtype.val (p:=fun b=>fArgs (stAt 44)=b) (by k_extra "w")
@[reducible] noncomputable def fb330:List Stmt:=Subtype.val (p:=fun b=>fBody (stAt 44)=b) (by k_extra "w")
@[reducible] noncomputable def fs330:Scope:=Subtype.val (p:=fun b=>fScope (stAt 44)=some b) (by k_extra "w")
@[reducible] noncomputable def fp335:Arguments:=Subtype.val (p:=fun b=>fArgs (stAt 45)=b) (by k_extra "w")
@[reducible] noncomputable def fb335:List Stmt:=Subtype.val (p:=fun b=>fBody (stAt 45)=b) (by k_extra "w")
@[reducible] noncomputable def fs335:Scope:=Subtype.val (p:=fun b=>fScope (stAt 45)=some b) (by k_extra "w")
@[reducible] noncomputable def fp342:Arguments:=Subtype.val (p:=fun b=>fArgs (stAt 46)=b) (by k_extra "w")
@[reducible] noncomputable def fb342:List Stmt:=Subtype.val (p:=fun b=>fBody (stAt 46)=b) (by k_extra "w")
@[reducible] noncomputable def fs342:Scope:=Subtype.val (p:=fun b=>fScope (stAt 46)=some b) (by k_extra "w")
@[reducible] noncomputable def fp347:Arguments:=Subtype.val (p:=fun b=>fArgs (stAt 47)=b) (by k_extra "w")
@[reducible] noncomputable def fb347:List Stmt:=Subtype.val (p:=fun b=>fBody (stAt 47)=b) (by k_extra "w")
@[reducible] noncomputable def fs347:Scope:=Subtype.val (p:=fun b=>fScope (stAt 47)=some b) (by k_extra "w")
@[reducible] noncomputable def fp354:Arguments:=Subtype.val (p:=fun b=>fArgs (stAt 48)=b) (by k_extra "w")
@[reducible] noncomputable def fb354:List Stmt:=Subtype.val (p:=fun b=>fBody (stAt 48)=b) (by k_extra "w")
@[reducible] noncomputable def fs354:Scope:=Subtype.val (p:=fun b=>fScope (stAt 48)=some b) (by k_extra "w")
@[reducible] noncomputable def fp361:Arguments:=Subtype.val (p:=fun b=>fArgs (stAt 49)=b) (by k_extra "w")
@[reducible] noncomputable def fb361:List Stmt:=Subtype.val (p:=fun b=>fBody (stAt 49)=b) (by k_extra "w")
@[reducible] noncomputable def fs361:Scope:=Subtype.val (p:=fun b=>fScope (stAt 49)=some b) (by k_extra "w")
@[reducible] noncomputable def fp366:Arguments:=Subtype.val (p:=fun b=>fArgs (stAt 50)=b) (by k_extra "w")
@[reducible] noncomputable def fb366:List Stmt:=Subtype.val (p:=fun b=>fBody (stAt 50)=b) (by k_extra "w")
@[reducible] noncomputable def fs366:Scope:=Subtype.val (p:=fun b=>fScope (stAt 50)=some b) (by k_extra "w")
@[reducible] noncomputable def fp373:Arguments:=Subtype.val (p:=fun b=>fArgs (stAt 51)=b) (by k_extra "w")
@[reducible] noncomputable def fb373:List Stmt:=Subtype.val (p:=fun b=>fBody (stAt 51)=b) (by k_extra "w")
@[reducible] noncomputable def fs373:Scope:=Subtype.val (p:=fun b=>fScope (stAt 51)=some b) (by k_extra "w")
@[reducible] noncomputable def fp380:Arguments:=Subtype.val (p:=fun b=>fArgs (stAt 52)=b) (by k_extra "w")
@[reducible] noncomputable def fb380:List Stmt:=Subtype.val (p:=fun b=>fBody (stAt 52)=b) (by k_extra "w")
@[reducible] noncomputable def fs380:Scope:=Subtype.val (p:=fun b=>fScope (stAt 52)=some b) (by k_extra "w")
@[reducible] noncomputable def fp387:Arguments:=Subtype.val (p:=fun b=>fArgs (stAt 53)=b) (by k_extra "w")
@[reducible] noncomputable def fb387:List Stmt:=Subtype.val (p:=fun b=>fBody (stAt 53)=b) (by k_extra "w")
@[reducible] noncomputable def fs387:Scope:=Subtype.val (p:=fun b=>fScope (stAt 53)=some b) (by k_extra "w")
@[reducible] noncomputable def fp394:Arguments:=Subtype.val (p:=fun b=>fArgs (stAt 54)=b) (by k_extra "w")
@[reducible] noncomputable def fb394:List Stmt:=Subtype.val (p:=fun b=>fBody (stAt 54)=b) (by k_extra "w")
@[reducible] noncomputable def fs394:Scope:=Subtype.val (p:=fun b=>fScope (stAt 54)=some b) (by k_extra "w")
@[reducible] noncomputable def fp401:Arguments:=Subtype.val (p:=fun b=>fArgs (stAt 55)=b) (by k_extra "w")
@[reducible] noncomputable def fb401:List Stmt:=Subtype.val (p:=fun b=>fBody (stAt 55)=b) (by k_extra "w")
@[reducible] noncomputable def fs401:Scope:=Subtype.val (p:=fun b=>fScope (stAt 55)=some b) (by k_extra "w")
@[reducible] noncomputable def fp408:Arguments:=Subtype.val (p:=fun b=>fArgs (stAt 56)=b) (by k_extra "w")
@[reducible] noncomputable def fb408:List Stmt:=Subtype.val (p:=fun b=>fBody (stAt 56)=b) (by k_extra "w")
@[reducible] noncomputable def fs408:Scope:=Subtype.val (p:=fun b=>fScope (stAt 56)=some b) (by k_extra "w")
@[reducible] noncomputable def fp413:Arguments:=Subtype.val (p:=fun b=>fArgs (stAt 57)=b) (by k_extra "w")
@[reducible] noncomputable def fb413:List Stmt:=Subtype.val (p:=fun b=>fBody (stAt 57)=b) (by k_extra "w")
@[reducible] noncomputable def fs413:Scope:=Subtype.val (p:=fun b=>fScope (stAt 57)=some b) (by k_extra "w")
noncomputable def KF:Params->Frag:=fun P =>
(nat_lit 2,.mk .none none (.dict #[.mk (PyData.keyHash P (.ofString "type.__subclasses__.Exception.0")) (.str (.ofString "type.__subclasses__.Exception.0") 230) (.int 45 0),.mk (PyData.keyHash P (.ofString "type.__subclasses__.Exception.n")) (.str (.ofString "type.__subclasses__.Exception.n") 231) (.int 1 0)] 2) #[]) ::
(nat_lit 3,.mk (.type "dict") none (.dict #[.mk (PyData.keyHash P (.ofString "__name__")) (.str (.ofString "__name__") 165) (.str (.ofString "law_nz0479_01") 565),.mk (PyData.keyHash P (.ofString "__doc__")) (.str (.ofString "__doc__") 166) .none,.mk (PyData.keyHash P (.ofString "__package__")) (.str (.ofString "__package__") 167) .none,.mk (PyData.keyHash P (.ofString "__loader__")) (.str (.ofString "__loader__") 168) (.builtin "__main__.__loader__#opaque"),.mk (PyData.keyHash P (.ofString "__spec__")) (.str (.ofString "__spec__") 169) .none,.mk (PyData.keyHash P (.ofString "__annotations__")) (.str (.ofString "__annotations__") 170) (.ref 6),.mk (PyData.keyHash P (.ofString "__builtins__")) (.str (.ofString "__builtins__") 171) (.ref 4),.mk (PyData.keyHash P (.ofString "__file__")) (.str (.ofString "__file__") 173) (.str (.ofString "/claim/cut.py") 172),.mk (PyData.keyHash P (.ofString "__cached__")) (.str (.ofString "__cached__") 174) .none,.mk (PyData.keyHash P (.ofString "_wall")) (.str (.ofString "_wall") 193) (.ref 21),.mk (PyData.keyHash P (.ofString "get_attr")) (.str (.ofString "get_attr") 203) (.ref 28),.mk (PyData.keyHash P (.ofString "dim_of")) (.str (.ofString "dim_of") 211) (.ref 35),.mk (PyData.keyHash P (.ofString "CoveError")) (.str (.ofString "CoveError") 233) (.ref 45),.mk (PyData.keyHash P (.ofString "Refusal")) (.str (.ofString "Refusal") 258) (.ref 65),.mk (PyData.keyHash P (.ofString "Null")) (.str (.ofString "Null") 289) (.ref 84),.mk (PyData.keyHash P (.ofString "Vector")) (.str (.ofString "Vector") 331) (.ref 113),.mk (PyData.keyHash P (.ofString "length")) (.str (.ofString "length") 339) (.ref 124),.mk (PyData.keyHash P (.ofString "recycle_length")) (.str (.ofString "recycle_length") 349) (.ref 131),.mk (PyData.keyHash P (.ofString "note_recycling")) (.str (.ofString "note_recycling") 358) (.ref 138),.mk (PyData.keyHash P (.ofString "product")) (.str (.ofString "product") 367) (.ref 145),.mk (PyData.keyHash P (.ofString "result_dim")) (.str (.ofString "result_dim") 380) (.ref 152),.mk (PyData.keyHash P (.ofString "note_array_of_one")) (.str (.ofString "note_array_of_one") 392) (.ref 159),.mk (PyData.keyHash P (.ofString "common_length")) (.str (.ofString "common_length") 401) (.ref 166),.mk (PyData.keyHash P (.ofString "attribute")) (.str (.ofString "attribute") 409) (.ref 173),.mk (PyData.keyHash P (.ofString "shape_attrs")) (.str (.ofString "shape_attrs") 422) (.ref 180),.mk (PyData.keyHash P (.ofString "keep_all")) (.str (.ofString "keep_all") 430) (.ref 187),.mk (PyData.keyHash P (.ofString "is_na")) (.str (.ofString "is_na") 439) (.ref 194),.mk (PyData.keyHash P (.ofString "and_items")) (.str (.ofString "and_items") 449) (.ref 201),.mk (PyData.keyHash P (.ofString "or_items")) (.str (.ofString "or_items") 457) (.ref 208),.mk (PyData.keyHash P (.ofString "not_item")) (.str (.ofString "not_item") 464) (.ref 215),.mk (PyData.keyHash P (.ofString "xor_items")) (.str (.ofString "xor_items") 472) (.ref 222),.mk (PyData.keyHash P (.ofString "truth_item")) (.str (.ofString "truth_item") 480) (.ref 229),.mk (PyData.keyHash P (.ofString "truth_items")) (.str (.ofString "truth_items") 486) (.ref 234),.mk (PyData.keyHash P (.ofString "logic_operand")) (.str (.ofString "logic_operand") 493) (.ref 241),.mk (PyData.keyHash P (.ofString "logic_pairs")) (.str (.ofString "logic_pairs") 499) (.ref 246),.mk (PyData.keyHash P (.ofString "logic_and")) (.str (.ofString "logic_and") 508) (.ref 253),.mk (PyData.keyHash P (.ofString "logic_or")) (.str (.ofString "logic_or") 517) (.ref 260),.mk (PyData.keyHash P (.ofString "logic_xor")) (.str (.ofString "logic_xor") 526) (.ref 267),.mk (PyData.keyHash P (.ofString "logic_not")) (.str (.ofString "logic_not") 532) (.ref 272),.mk (PyData.keyHash P (.ofString "checked_items")) (.str (.ofString "checked_items") 540) (.ref 279),.mk (PyData.keyHash P (.ofString "all_of")) (.str (.ofString "all_of") 552) (.ref 287),.mk (PyData.keyHash P (.ofString "any_of")) (.str (.ofString "any_of") 564) (.ref 295),.mk (PyData.keyHash P (.ofString "_law_row")) (.str (.ofString "_law_row") 577) (.ref 302),.mk (PyData.keyHash P (.ofString "_law_next")) (.str (.ofString "_law_next") 584) (.ref 309),.mk (PyData.keyHash P (.ofString "_law_reduced")) (.str (.ofString "_law_reduced") 594) (.ref 316),.mk (PyData.keyHash P (.ofString "_law_double")) (.str (.ofString "_law_double") 604) (.ref 323),.mk (PyData.keyHash P (.ofString "_law_shaped")) (.str (.ofString "_law_shaped") 613) (.ref 330),.mk (PyData.keyHash P (.ofString "_law_dressed")) (.str (.ofString "_law_dressed") 619) (.ref 335),.mk (PyData.keyHash P (.ofString "_law_dims")) (.str (.ofString "_law_dims") 626) (.ref 342),.mk (PyData.keyHash P (.ofString "_law_seen")) (.str (.ofString "_law_seen") 632) (.ref 347),.mk (PyData.keyHash P (.ofString "_law_shape")) (.str (.ofString "_law_shape") 649) (.ref 354),.mk (PyData.keyHash P (.ofString "_law_attrs")) (.str (.ofString "_law_attrs") 667) (.ref 361),.mk (PyData.keyHash P (.ofString "_law_vector")) (.str (.ofString "_law_vector") 673) (.ref 366),.mk (PyData.keyHash P (.ofString "_law_truths")) (.str (.ofString "_law_truths") 682) (.ref 373),.mk (PyData.keyHash P (.ofString "_law_and")) (.str (.ofString "_law_and") 690) (.ref 380),.mk (PyData.keyHash P (.ofString "_law_not")) (.str (.ofString "_law_not") 697) (.ref 387),.mk (PyData.keyHash P (.ofString "_law_or")) (.str (.ofString "_law_or") 705) (.ref 394),.mk (PyData.keyHash P (.ofString "_law_xor")) (.str (.ofString "_law_xor") 713) (.ref 401),.mk (PyData.keyHash P (.ofString "_law_kept")) (.str (.ofString "_law_kept") 721) (.ref 408),.mk (PyData.keyHash P (.ofString "law")) (.str (.ofString "law") 727) (.ref 413)] 60) #[]) ::
(nat_lit 15,.mk (.type "tuple") none (.seq #[]) #[]) ::
(nat_lit 17,.mk (.type "tuple") none (.seq #[.str (.ofString "k") 190]) #[]) ::
(nat_lit 18,.mk (.type "tuple") none (.seq #[]) #[]) ::
(nat_lit 20,.mk (.type "code") none (.fields #[.str (.ofString "_wall") 187,.str (.ofString "_wall") 188,.str (.ofString "/claim/cut.py") 189,.int 1 0,.int 1 0,.int 0 0,.int 0 0,.int 3 0,.ref 15,.bool true,.int 181 0,.ref 16,.none,.ref 17,.ref 18,.ref 19,.int 191 0,.int 1 0,.str (.ofString "/claim/cut.py") 192]) #[]) ::
(nat_lit 21,.mk (.type "function") none (.func (.mk (.ofString "_wall") (.ofString "_wall") fp21 (.stmts fb21) fs21 3 [] .none .none .none (.str (.ofString "__main__") 164) none (.ref 20) .none 0)) #[]) ::
(nat_lit 22,.mk (.type "tuple") none (.seq #[]) #[]) ::
(nat_lit 24,.mk (.type "tuple") none (.seq #[.str (.ofString "v") 199,.str (.ofString "name") 200]) #[]) ::
(nat_lit 25,.mk (.type "tuple") none (.seq #[]) #[]) ::
(nat_lit 27,.mk (.type "code") none (.fields #[.str (.ofString "get_attr") 196,.str (.ofString "get_attr") 197,.str (.ofString "/claim/cut.py") 198,.int 5 0,.int 2 0,.int 0 0,.int 0 0,.int 3 0,.ref 22,.bool true,.int 181 0,.ref 23,.none,.ref 24,.ref 25,.ref 26,.int 201 0,.int 5 0,.str (.ofString "/claim/cut.py") 202]) #[]) ::
(nat_lit 28,.mk (.type "function") none (.func (.mk (.ofString "get_attr") (.ofString "get_attr") fp28 (.stmts fb28) fs28 3 [] .none .none .none (.str (.ofString "vectorcove.attrs") 194) none (.ref 27) .none 0)) #[]) ::
(nat_lit 29,.mk (.type "tuple") none (.seq #[]) #[]) ::
(nat_lit 31,.mk (.type "tuple") none (.seq #[.str (.ofString "v") 207,.str (.ofString "dims") 208]) #[]) ::
(nat_lit 32,.mk (.type "tuple") none (.seq #[]) #[]) ::
(nat_lit 34,.mk (.type "code") none (.fields #[.str (.ofString "dim_of") 204,.str (.ofString "dim_of") 205,.str (.ofString "/claim/cut.py") 206,.int 9 0,.int 1 0,.int 0 0,.int 0 0,.int 3 0,.ref 29,.bool true,.int 181 0,.ref 30,.none,.ref 31,.ref 32,.ref 33,.int 209 0,.int 9 0,.str (.ofString "/claim/cut.py") 210]) #[]) ::
(nat_lit 35,.mk (.type "function") none (.func (.mk (.ofString "dim_of") (.ofString "dim_of") fp35 (.stmts fb35) fs35 3 [] .none .none .none (.str (.ofString "vectorcove.attrs") 194) none (.ref 34) .none 0)) #[]) ::
(nat_lit 36,.mk (.type "tuple") none (.seq #[.type "Exception"]) #[]) ::
(nat_lit 43,.mk (.type "tuple") none (.seq #[]) #[]) ::
(nat_lit 44,.mk (.type "dict") none (.dict #[.mk (PyData.keyHash P (.ofString "__module__")) (.str (.ofString "__module__") 221) (.str (.ofString "vectorcove.errors") 212),.mk (PyData.keyHash P (.ofString "__firstlineno__")) (.str (.ofString "__firstlineno__") 225) (.int 15 224),.mk (PyData.keyHash P (.ofString "__static_attributes__")) (.str (.ofString "__static_attributes__") 226) (.ref 43),.mk (PyData.keyHash P (.ofString "__weakref__")) (.str (.ofString "__weakref__") 228) (.ref 46),.mk (PyData.keyHash P (.ofString "__doc__")) (.str (.ofString "__doc__") 229) .none] 3) #[]) ::
(nat_lit 45,.mk (.type "type") none (.cls (.mk (.ofString "CoveError") [.type "Exception"] [.ref 45,.type "Exception",.type "BaseException",.type "object"] 44 (.ofString "CoveError") true [] [.ref 65] false none false)) #[some (.ref 36),none,some (.str (.ofString "CoveError") 214),some (.str (.ofString "CoveError") 222),some (.builtin "Exception.__new__"),some (.bool true)]) ::
(nat_lit 46,.mk (.type "getset_descriptor") none (.fields #[.str (.ofString "__weakref__") 227,.ref 45,.builtin "ExceptionGroup.__weakref__",.none]) #[]) ::
(nat_lit 49,.mk (.type "tuple") none (.seq #[.ref 45]) #[]) ::
(nat_lit 56,.mk (.type "tuple") none (.seq #[]) #[]) ::
(nat_lit 58,.mk (.type "tuple") none (.seq #[.str (.ofString "self") 249,.str (.ofString "message") 250]) #[]) ::
(nat_lit 59,.mk (.type "tuple") none (.seq #[]) #[]) ::
(nat_lit 61,.mk (.type "code") none (.fields #[.str (.ofString "__init__") 246,.str (.ofString "Refusal.__init__") 247,.str (.ofString "/claim/cut.py") 248,.int 19 0,.int 2 0,.int 0 0,.int 0 0,.int 3 0,.ref 56,.bool true,.int 181 0,.ref 57,.none,.ref 58,.ref 59,.ref 60,.int 251 0,.int 19 0,.str (.ofString "/claim/cut.py") 252]) #[]) ::
(nat_lit 62,.mk (.type "function") none (.func (.mk (.ofString "__init__") (.ofString "Refusal.__init__") fp62 (.stmts fb62) fs62 3 [] .none .none .none (.str (.ofString "vectorcove.errors") 212) none (.ref 61) .none 0)) #[]) ::
(nat_lit 63,.mk (.type "tuple") none (.seq #[.str (.ofString "message") 254]) #[]) ::
(nat_lit 64,.mk (.type "dict") none (.dict #[.mk (PyData.keyHash P (.ofString "__module__")) (.str (.ofString "__module__") 241) (.str (.ofString "vectorcove.errors") 212),.mk (PyData.keyHash P (.ofString "__firstlineno__")) (.str (.ofString "__firstlineno__") 245) (.int 17 244),.mk (PyData.keyHash P (.ofString "__init__")) (.str (.ofString "__init__") 253) (.ref 62),.mk (PyData.keyHash P (.ofString "__static_attributes__")) (.str (.ofString "__static_attributes__") 255) (.ref 63),.mk (PyData.keyHash P (.ofString "__doc__")) (.str (.ofString "__doc__") 256) .none] 2) #[]) ::
(nat_lit 65,.mk (.type "type") none (.cls (.mk (.ofString "Refusal") [.ref 45] [.ref 65,.ref 45,.type "Exception",.type "BaseException",.type "object"] 64 (.ofString "Refusal") true [] [] false none false)) #[some (.ref 49),none,some (.str (.ofString "Refusal") 234),some (.str (.ofString "Refusal") 242),some (.builtin "Exception.__new__"),some (.bool true)]) ::
(nat_lit 75,.mk (.type "tuple") none (.seq #[]) #[]) ::
(nat_lit 77,.mk (.type "tuple") none (.seq #[.str (.ofString "self") 276]) #[]) ::
(nat_lit 78,.mk (.type "tuple") none (.seq #[]) #[]) ::
(nat_lit 80,.mk (.type "code") none (.fields #[.str (.ofString "__init__") 273,.str (.ofString "Null.__init__") 274,.str (.ofString "/claim/cut.py") 275,.int 24 0,.int 1 0,.int 0 0,.int 0 0,.int 3 0,.ref 75,.bool true,.int 181 0,.ref 76,.none,.ref 77,.ref 78,.ref 79,.int 277 0,.int 24 0,.str (.ofString "/claim/cut.py") 278]) #[]) ::
(nat_lit 81,.mk (.type "function") none (.func (.mk (.ofString "__init__") (.ofString "Null.__init__") fp81 (.stmts fb81) fs81 3 [] .none .none .none (.str (.ofString "vectorcove.values") 259) none (.ref 80) .none 0)) #[]) ::
(nat_lit 82,.mk (.type "tuple") none (.seq #[.str (.ofString "attrs") 280,.str (.ofString "kind") 281]) #[]) ::
(nat_lit 83,.mk (.type "dict") none (.dict #[.mk (PyData.keyHash P (.ofString "__module__")) (.str (.ofString "__module__") 268) (.str (.ofString "vectorcove.values") 259),.mk (PyData.keyHash P (.ofString "__firstlineno__")) (.str (.ofString "__firstlineno__") 272) (.int 22 271),.mk (PyData.keyHash P (.ofString "__init__")) (.str (.ofString "__init__") 279) (.ref 81),.mk (PyData.keyHash P (.ofString "__static_attributes__")) (.str (.ofString "__static_attributes__") 282) (.ref 82),.mk (PyData.keyHash P (.ofString "__dict__")) (.str (.ofString "__dict__") 284) (.ref 85),.mk (PyData.keyHash P (.ofString "__weakref__")) (.str (.ofString "__weakref__") 286) (.ref 86),.mk (PyData.keyHash P (.ofString "__doc__")) (.str (.ofString "__doc__") 287) .none] 4) #[]) ::
(nat_lit 84,.mk (.type "type") none (.cls (.mk (.ofString "Null") [.type "object"] [.ref 84,.type "object"] 83 (.ofString "Null") true [] [] false none false)) #[none,none,some (.str (.ofString "Null") 261),some (.str (.ofString "Null") 269),some (.builtin "object.__new__"),some (.bool true)]) ::
(nat_lit 85,.mk (.type "getset_descriptor") none (.fields #[.str (.ofString "__dict__") 283,.ref 84,.builtin "function.__dict__",.builtin "function.__dict__#set"]) #[]) ::
(nat_lit 86,.mk (.type "getset_descriptor") none (.fields #[.str (.ofString "__weakref__") 285,.ref 84,.builtin "ExceptionGroup.__weakref__",.none]) #[]) ::
(nat_lit 96,.mk (.type "tuple") none (.seq #[.none]) #[]) ::
(nat_lit 97,.mk (.type "tuple") none (.seq #[]) #[]) ::
(nat_lit 99,.mk (.type "tuple") none (.seq #[.str (.ofString "self") 305,.str (.ofString "kind") 306,.str (.ofString "items") 307,.str (.ofString "attrs") 308]) #[]) ::
(nat_lit 100,.mk (.type "tuple") none (.seq #[]) #[]) ::
(nat_lit 102,.mk (.type "code") none (.fields #[.str (.ofString "__init__") 302,.str (.ofString "Vector.__init__") 303,.str (.ofString "/claim/cut.py") 304,.int 29 0,.int 4 0,.int 0 0,.int 0 0,.int 3 0,.ref 97,.bool true,.int 181 0,.ref 98,.none,.ref 99,.ref 100,.ref 101,.int 309 0,.int 29 0,.str (.ofString "/claim/cut.py") 310]) #[]) ::
(nat_lit 103,.mk (.type "function") none (.func (.mk (.ofString "__init__") (.ofString "Vector.__init__") fp103 (.stmts fb103) fs103 3 [] (.ref 96) .none .none (.str (.ofString "vectorcove.values") 259) none (.ref 102) .none 0)) #[]) ::
(nat_lit 104,.mk (.type "tuple") none (.seq #[]) #[]) ::
(nat_lit 106,.mk (.type "tuple") none (.seq #[.str (.ofString "self") 315]) #[]) ::
(nat_lit 107,.mk (.type "tuple") none (.seq #[]) #[]) ::
(nat_lit 109,.mk (.type "code") none (.fields #[.str (.ofString "copy") 312,.str (.ofString "Vector.copy") 313,.str (.ofString "/claim/cut.py") 314,.int 36 0,.int 1 0,.int 0 0,.int 0 0,.int 3 0,.ref 104,.bool true,.int 181 0,.ref 105,.none,.ref 106,.ref 107,.ref 108,.int 316 0,.int 36 0,.str (.ofString "/claim/cut.py") 317]) #[]) ::
(nat_lit 110,.mk (.type "function") none (.func (.mk (.ofString "copy") (.ofString "Vector.copy") fp110 (.stmts fb110) fs110 3 [] .none .none .none (.str (.ofString "vectorcove.values") 259) none (.ref 109) .none 0)) #[]) ::
(nat_lit 111,.mk (.type "tuple") none (.seq #[.str (.ofString "attrs") 319,.str (.ofString "items") 320,.str (.ofString "kind") 321,.str (.ofString "loose") 322,.str (.ofString "shared") 323]) #[]) ::
(nat_lit 112,.mk (.type "dict") none (.dict #[.mk (PyData.keyHash P (.ofString "__module__")) (.str (.ofString "__module__") 297) (.str (.ofString "vectorcove.values") 259),.mk (PyData.keyHash P (.ofString "__firstlineno__")) (.str (.ofString "__firstlineno__") 301) (.int 27 300),.mk (PyData.keyHash P (.ofString "__init__")) (.str (.ofString "__init__") 311) (.ref 103),.mk (PyData.keyHash P (.ofString "copy")) (.str (.ofString "copy") 318) (.ref 110),.mk (PyData.keyHash P (.ofString "__static_attributes__")) (.str (.ofString "__static_attributes__") 324) (.ref 111),.mk (PyData.keyHash P (.ofString "__dict__")) (.str (.ofString "__dict__") 326) (.ref 114),.mk (PyData.keyHash P (.ofString "__weakref__")) (.str (.ofString "__weakref__") 328) (.ref 115),.mk (PyData.keyHash P (.ofString "__doc__")) (.str (.ofString "__doc__") 329) .none] 4) #[]) ::
(nat_lit 113,.mk (.type "type") none (.cls (.mk (.ofString "Vector") [.type "object"] [.ref 113,.type "object"] 112 (.ofString "Vector") true [] [] false none false)) #[none,none,some (.str (.ofString "Vector") 290),some (.str (.ofString "Vector") 298),some (.builtin "object.__new__"),some (.bool true)]) ::
(nat_lit 114,.mk (.type "getset_descriptor") none (.fields #[.str (.ofString "__dict__") 325,.ref 113,.builtin "function.__dict__",.builtin "function.__dict__#set"]) #[]) ::
(nat_lit 115,.mk (.type "getset_descriptor") none (.fields #[.str (.ofString "__weakref__") 327,.ref 113,.builtin "ExceptionGroup.__weakref__",.none]) #[]) ::
(nat_lit 118,.mk (.type "tuple") none (.seq #[]) #[]) ::
(nat_lit 120,.mk (.type "tuple") none (.seq #[.str (.ofString "v") 335,.str (.ofString "kind") 336]) #[]) ::
(nat_lit 121,.mk (.type "tuple") none (.seq #[]) #[]) ::
(nat_lit 123,.mk (.type "code") none (.fields #[.str (.ofString "length") 332,.str (.ofString "length") 333,.str (.ofString "/claim/cut.py") 334,.int 38 0,.int 1 0,.int 0 0,.int 0 0,.int 3 0,.ref 118,.bool true,.int 181 0,.ref 119,.none,.ref 120,.ref 121,.ref 122,.int 337 0,.int 38 0,.str (.ofString "/claim/cut.py") 338]) #[]) ::
(nat_lit 124,.mk (.type "function") none (.func (.mk (.ofString "length") (.ofString "length") fp124 (.stmts fb124) fs124 3 [] .none .none .none (.str (.ofString "vectorcove.values") 259) none (.ref 123) .none 0)) #[]) ::
(nat_lit 125,.mk (.type "tuple") none (.seq #[]) #[]) ::
(nat_lit 127,.mk (.type "tuple") none (.seq #[.str (.ofString "n") 345,.str (.ofString "m") 346]) #[]) ::
(nat_lit 128,.mk (.type "tuple") none (.seq #[]) #[]) ::
(nat_lit 130,.mk (.type "code") none (.fields #[.str (.ofString "recycle_length") 342,.str (.ofString "recycle_length") 343,.str (.ofString "/claim/cut.py") 344,.int 50 0,.int 2 0,.int 0 0,.int 0 0,.int 3 0,.ref 125,.bool true,.int 181 0,.ref 126,.none,.ref 127,.ref 128,.ref 129,.int 347 0,.int 50 0,.str (.ofString "/claim/cut.py") 348]) #[]) ::
(nat_lit 131,.mk (.type "function") none (.func (.mk (.ofString "recycle_length") (.ofString "recycle_length") fp131 (.stmts fb131) fs131 3 [] .none .none .none (.str (.ofString "vectorcove.arith") 340) none (.ref 130) .none 0)) #[]) ::
(nat_lit 132,.mk (.type "tuple") none (.seq #[]) #[]) ::
(nat_lit 134,.mk (.type "tuple") none (.seq #[.str (.ofString "n") 353,.str (.ofString "m") 354,.str (.ofString "notes") 355]) #[]) ::
(nat_lit 135,.mk (.type "tuple") none (.seq #[]) #[]) ::
(nat_lit 137,.mk (.type "code") none (.fields #[.str (.ofString "note_recycling") 350,.str (.ofString "note_recycling") 351,.str (.ofString "/claim/cut.py") 352,.int 54 0,.int 3 0,.int 0 0,.int 0 0,.int 3 0,.ref 132,.bool true,.int 181 0,.ref 133,.none,.ref 134,.ref 135,.ref 136,.int 356 0,.int 54 0,.str (.ofString "/claim/cut.py") 357]) #[]) ::
(nat_lit 138,.mk (.type "function") none (.func (.mk (.ofString "note_recycling") (.ofString "note_recycling") fp138 (.stmts fb138) fs138 3 [] .none .none .none (.str (.ofString "vectorcove.arith") 340) none (.ref 137) .none 0)) #[]) ::
(nat_lit 139,.mk (.type "tuple") none (.seq #[]) #[]) ::
(nat_lit 141,.mk (.type "tuple") none (.seq #[.str (.ofString "numbers") 362,.str (.ofString "found") 363,.str (.ofString "value") 364]) #[]) ::
(nat_lit 142,.mk (.type "tuple") none (.seq #[]) #[]) ::
(nat_lit 144,.mk (.type "code") none (.fields #[.str (.ofString "product") 359,.str (.ofString "product") 360,.str (.ofString "/claim/cut.py") 361,.int 57 0,.int 1 0,.int 0 0,.int 0 0,.int 3 0,.ref 139,.bool true,.int 181 0,.ref 140,.none,.ref 141,.ref 142,.ref 143,.int 365 0,.int 57 0,.str (.ofString "/claim/cut.py") 366]) #[]) ::
(nat_lit 145,.mk (.type "function") none (.func (.mk (.ofString "product") (.ofString "product") fp145 (.stmts fb145) fs145 3 [] .none .none .none (.str (.ofString "vectorcove.arith") 340) none (.ref 144) .none 0)) #[]) ::
(nat_lit 146,.mk (.type "tuple") none (.seq #[]) #[]) ::
(nat_lit 148,.mk (.type "tuple") none (.seq #[.str (.ofString "u") 371,.str (.ofString "v") 372,.str (.ofString "n") 373,.str (.ofString "m") 374,.str (.ofString "left") 375,.str (.ofString "right") 376,.str (.ofString "total") 377]) #[]) ::
(nat_lit 149,.mk (.type "tuple") none (.seq #[]) #[]) ::
(nat_lit 151,.mk (.type "code") none (.fields #[.str (.ofString "result_dim") 368,.str (.ofString "result_dim") 369,.str (.ofString "/claim/cut.py") 370,.int 62 0,.int 2 0,.int 0 0,.int 0 0,.int 3 0,.ref 146,.bool true,.int 181 0,.ref 147,.none,.ref 148,.ref 149,.ref 150,.int 378 0,.int 62 0,.str (.ofString "/claim/cut.py") 379]) #[]) ::
(nat_lit 152,.mk (.type "function") none (.func (.mk (.ofString "result_dim") (.ofString "result_dim") fp152 (.stmts fb152) fs152 3 [] .none .none .none (.str (.ofString "vectorcove.arith") 340) none (.ref 151) .none 0)) #[]) ::
(nat_lit 153,.mk (.type "tuple") none (.seq #[]) #[]) ::
(nat_lit 155,.mk (.type "tuple") none (.seq #[.str (.ofString "u") 384,.str (.ofString "v") 385,.str (.ofString "notes") 386,.str (.ofString "lone") 387,.str (.ofString "other") 388,.str (.ofString "text") 389]) #[]) ::
(nat_lit 156,.mk (.type "tuple") none (.seq #[]) #[]) ::
(nat_lit 158,.mk (.type "code") none (.fields #[.str (.ofString "note_array_of_one") 381,.str (.ofString "note_array_of_one") 382,.str (.ofString "/claim/cut.py") 383,.int 82 0,.int 3 0,.int 0 0,.int 0 0,.int 3 0,.ref 153,.bool true,.int 181 0,.ref 154,.none,.ref 155,.ref 156,.ref 157,.int 390 0,.int 82 0,.str (.ofString "/claim/cut.py") 391]) #[]) ::
(nat_lit 159,.mk (.type "function") none (.func (.mk (.ofString "note_array_of_one") (.ofString "note_array_of_one") fp159 (.stmts fb159) fs159 3 [] .none .none .none (.str (.ofString "vectorcove.arith") 340) none (.ref 158) .none 0)) #[]) ::
(nat_lit 160,.mk (.type "tuple") none (.seq #[]) #[]) ::
(nat_lit 162,.mk (.type "tuple") none (.seq #[.str (.ofString "u") 396,.str (.ofString "v") 397,.str (.ofString "notes") 398]) #[]) ::
(nat_lit 163,.mk (.type "tuple") none (.seq #[]) #[]) ::
(nat_lit 165,.mk (.type "code") none (.fields #[.str (.ofString "common_length") 393,.str (.ofString "common_length") 394,.str (.ofString "/claim/cut.py") 395,.int 88 0,.int 3 0,.int 0 0,.int 0 0,.int 3 0,.ref 160,.bool true,.int 181 0,.ref 161,.none,.ref 162,.ref 163,.ref 164,.int 399 0,.int 88 0,.str (.ofString "/claim/cut.py") 400]) #[]) ::
(nat_lit 166,.mk (.type "function") none (.func (.mk (.ofString "common_length") (.ofString "common_length") fp166 (.stmts fb166) fs166 3 [] .none .none .none (.str (.ofString "vectorcove.arith") 340) none (.ref 165) .none 0)) #[]) ::
(nat_lit 167,.mk (.type "tuple") none (.seq #[]) #[]) ::
(nat_lit 169,.mk (.type "tuple") none (.seq #[.str (.ofString "v") 405,.str (.ofString "name") 406]) #[]) ::
(nat_lit 170,.mk (.type "tuple") none (.seq #[]) #[]) ::
(nat_lit 172,.mk (.type "code") none (.fields #[.str (.ofString "attribute") 402,.str (.ofString "attribute") 403,.str (.ofString "/claim/cut.py") 404,.int 93 0,.int 2 0,.int 0 0,.int 0 0,.int 3 0,.ref 167,.bool true,.int 181 0,.ref 168,.none,.ref 169,.ref 170,.ref 171,.int 407 0,.int 93 0,.str (.ofString "/claim/cut.py") 408]) #[]) ::
(nat_lit 173,.mk (.type "function") none (.func (.mk (.ofString "attribute") (.ofString "attribute") fp173 (.stmts fb173) fs173 3 [] .none .none .none (.str (.ofString "vectorcove.arith") 340) none (.ref 172) .none 0)) #[]) ::
(nat_lit 174,.mk (.type "tuple") none (.seq #[]) #[]) ::
(nat_lit 176,.mk (.type "tuple") none (.seq #[.str (.ofString "u") 413,.str (.ofString "v") 414,.str (.ofString "result") 415,.str (.ofString "found") 416,.str (.ofString "shape") 417,.str (.ofString "operand") 418,.str (.ofString "heads") 419]) #[]) ::
(nat_lit 177,.mk (.type "tuple") none (.seq #[]) #[]) ::
(nat_lit 179,.mk (.type "code") none (.fields #[.str (.ofString "shape_attrs") 410,.str (.ofString "shape_attrs") 411,.str (.ofString "/claim/cut.py") 412,.int 97 0,.int 3 0,.int 0 0,.int 0 0,.int 3 0,.ref 174,.bool true,.int 181 0,.ref 175,.none,.ref 176,.ref 177,.ref 178,.int 420 0,.int 97 0,.str (.ofString "/claim/cut.py") 421]) #[]) ::
(nat_lit 180,.mk (.type "function") none (.func (.mk (.ofString "shape_attrs") (.ofString "shape_attrs") fp180 (.stmts fb180) fs180 3 [] .none .none .none (.str (.ofString "vectorcove.arith") 340) none (.ref 179) .none 0)) #[]) ::
(nat_lit 181,.mk (.type "tuple") none (.seq #[]) #[]) ::
(nat_lit 183,.mk (.type "tuple") none (.seq #[.str (.ofString "v") 426,.str (.ofString "result") 427]) #[]) ::
(nat_lit 184,.mk (.type "tuple") none (.seq #[]) #[]) ::
(nat_lit 186,.mk (.type "code") none (.fields #[.str (.ofString "keep_all") 423,.str (.ofString "keep_all") 424,.str (.ofString "/claim/cut.py") 425,.int 113 0,.int 2 0,.int 0 0,.int 0 0,.int 3 0,.ref 181,.bool true,.int 181 0,.ref 182,.none,.ref 183,.ref 184,.ref 185,.int 428 0,.int 113 0,.str (.ofString "/claim/cut.py") 429]) #[]) ::
(nat_lit 187,.mk (.type "function") none (.func (.mk (.ofString "keep_all") (.ofString "keep_all") fp187 (.stmts fb187) fs187 3 [] .none .none .none (.str (.ofString "vectorcove.arith") 340) none (.ref 186) .none 0)) #[]) ::
(nat_lit 188,.mk (.type "tuple") none (.seq #[]) #[]) ::
(nat_lit 190,.mk (.type "tuple") none (.seq #[.str (.ofString "x") 436]) #[]) ::
(nat_lit 191,.mk (.type "tuple") none (.seq #[]) #[]) ::
(nat_lit 193,.mk (.type "code") none (.fields #[.str (.ofString "is_na") 433,.str (.ofString "is_na") 434,.str (.ofString "/claim/cut.py") 435,.int 118 0,.int 1 0,.int 0 0,.int 0 0,.int 3 0,.ref 188,.bool true,.int 181 0,.ref 189,.none,.ref 190,.ref 191,.ref 192,.int 437 0,.int 118 0,.str (.ofString "/claim/cut.py") 438]) #[]) ::
(nat_lit 194,.mk (.type "function") none (.func (.mk (.ofString "is_na") (.ofString "is_na") fp194 (.stmts fb194) fs194 3 [] .none .none .none (.str (.ofString "vectorcove.rational") 431) none (.ref 193) .none 0)) #[]) ::
(nat_lit 195,.mk (.type "tuple") none (.seq #[]) #[]) ::
(nat_lit 197,.mk (.type "tuple") none (.seq #[.str (.ofString "a") 445,.str (.ofString "b") 446]) #[]) ::
(nat_lit 198,.mk (.type "tuple") none (.seq #[]) #[]) ::
(nat_lit 200,.mk (.type "code") none (.fields #[.str (.ofString "and_items") 442,.str (.ofString "and_items") 443,.str (.ofString "/claim/cut.py") 444,.int 121 0,.int 2 0,.int 0 0,.int 0 0,.int 3 0,.ref 195,.bool true,.int 181 0,.ref 196,.none,.ref 197,.ref 198,.ref 199,.int 447 0,.int 121 0,.str (.ofString "/claim/cut.py") 448]) #[]) ::
(nat_lit 201,.mk (.type "function") none (.func (.mk (.ofString "and_items") (.ofString "and_items") fp201 (.stmts fb201) fs201 3 [] .none .none .none (.str (.ofString "vectorcove.logic") 440) none (.ref 200) .none 0)) #[]) ::
(nat_lit 202,.mk (.type "tuple") none (.seq #[]) #[]) ::
(nat_lit 204,.mk (.type "tuple") none (.seq #[.str (.ofString "a") 453,.str (.ofString "b") 454]) #[]) ::
(nat_lit 205,.mk (.type "tuple") none (.seq #[]) #[]) ::
(nat_lit 207,.mk (.type "code") none (.fields #[.str (.ofString "or_items") 450,.str (.ofString "or_items") 451,.str (.ofString "/claim/cut.py") 452,.int 127 0,.int 2 0,.int 0 0,.int 0 0,.int 3 0,.ref 202,.bool true,.int 181 0,.ref 203,.none,.ref 204,.ref 205,.ref 206,.int 455 0,.int 127 0,.str (.ofString "/claim/cut.py") 456]) #[]) ::
(nat_lit 208,.mk (.type "function") none (.func (.mk (.ofString "or_items") (.ofString "or_items") fp208 (.stmts fb208) fs208 3 [] .none .none .none (.str (.ofString "vectorcove.logic") 440) none (.ref 207) .none 0)) #[]) ::
(nat_lit 209,.mk (.type "tuple") none (.seq #[]) #[]) ::
(nat_lit 211,.mk (.type "tuple") none (.seq #[.str (.ofString "a") 461]) #[]) ::
(nat_lit 212,.mk (.type "tuple") none (.seq #[]) #[]) ::
(nat_lit 214,.mk (.type "code") none (.fields #[.str (.ofString "not_item") 458,.str (.ofString "not_item") 459,.str (.ofString "/claim/cut.py") 460,.int 133 0,.int 1 0,.int 0 0,.int 0 0,.int 3 0,.ref 209,.bool true,.int 181 0,.ref 210,.none,.ref 211,.ref 212,.ref 213,.int 462 0,.int 133 0,.str (.ofString "/claim/cut.py") 463]) #[]) ::
(nat_lit 215,.mk (.type "function") none (.func (.mk (.ofString "not_item") (.ofString "not_item") fp215 (.stmts fb215) fs215 3 [] .none .none .none (.str (.ofString "vectorcove.logic") 440) none (.ref 214) .none 0)) #[]) ::
(nat_lit 216,.mk (.type "tuple") none (.seq #[]) #[]) ::
(nat_lit 218,.mk (.type "tuple") none (.seq #[.str (.ofString "a") 468,.str (.ofString "b") 469]) #[]) ::
(nat_lit 219,.mk (.type "tuple") none (.seq #[]) #[]) ::
(nat_lit 221,.mk (.type "code") none (.fields #[.str (.ofString "xor_items") 465,.str (.ofString "xor_items") 466,.str (.ofString "/claim/cut.py") 467,.int 137 0,.int 2 0,.int 0 0,.int 0 0,.int 3 0,.ref 216,.bool true,.int 181 0,.ref 217,.none,.ref 218,.ref 219,.ref 220,.int 470 0,.int 137 0,.str (.ofString "/claim/cut.py") 471]) #[]) ::
(nat_lit 222,.mk (.type "function") none (.func (.mk (.ofString "xor_items") (.ofString "xor_items") fp222 (.stmts fb222) fs222 3 [] .none .none .none (.str (.ofString "vectorcove.logic") 440) none (.ref 221) .none 0)) #[]) ::
(nat_lit 223,.mk (.type "tuple") none (.seq #[]) #[]) ::
(nat_lit 225,.mk (.type "tuple") none (.seq #[.str (.ofString "kind") 476,.str (.ofString "item") 477]) #[]) ::
(nat_lit 226,.mk (.type "tuple") none (.seq #[]) #[]) ::
(nat_lit 228,.mk (.type "code") none (.fields #[.str (.ofString "truth_item") 473,.str (.ofString "truth_item") 474,.str (.ofString "/claim/cut.py") 475,.int 141 0,.int 2 0,.int 0 0,.int 0 0,.int 3 0,.ref 223,.bool true,.int 181 0,.ref 224,.none,.ref 225,.ref 226,.ref 227,.int 478 0,.int 141 0,.str (.ofString "/claim/cut.py") 479]) #[]) ::
(nat_lit 229,.mk (.type "function") none (.func (.mk (.ofString "truth_item") (.ofString "truth_item") fp229 (.stmts fb229) fs229 3 [] .none .none .none (.str (.ofString "vectorcove.logic") 440) none (.ref 228) .none 0)) #[]) ::
(nat_lit 230,.mk (.type "tuple") none (.seq #[]) #[]) ::
(nat_lit 233,.mk (.type "code") none (.fields #[.str (.ofString "truth_items") 481,.str (.ofString "truth_items") 482,.str (.ofString "/claim/cut.py") 483,.int 149 0,.int 1 0,.int 0 0,.int 0 0,.int 3 0,.ref 230,.bool true,.int 181 0,.ref 231,.none,.none,.none,.ref 232,.int 484 0,.int 149 0,.str (.ofString "/claim/cut.py") 485]) #[]) ::
(nat_lit 234,.mk (.type "function") none (.func (.mk (.ofString "truth_items") (.ofString "truth_items") fp234 (.stmts fb234) fs234 3 [] .none .none .none (.str (.ofString "vectorcove.logic") 440) none (.ref 233) .none 0)) #[]) ::
(nat_lit 235,.mk (.type "tuple") none (.seq #[]) #[]) ::
(nat_lit 237,.mk (.type "tuple") none (.seq #[.str (.ofString "v") 490]) #[]) ::
(nat_lit 238,.mk (.type "tuple") none (.seq #[]) #[]) ::
(nat_lit 240,.mk (.type "code") none (.fields #[.str (.ofString "logic_operand") 487,.str (.ofString "logic_operand") 488,.str (.ofString "/claim/cut.py") 489,.int 151 0,.int 1 0,.int 0 0,.int 0 0,.int 3 0,.ref 235,.bool true,.int 181 0,.ref 236,.none,.ref 237,.ref 238,.ref 239,.int 491 0,.int 151 0,.str (.ofString "/claim/cut.py") 492]) #[]) ::
(nat_lit 241,.mk (.type "function") none (.func (.mk (.ofString "logic_operand") (.ofString "logic_operand") fp241 (.stmts fb241) fs241 3 [] .none .none .none (.str (.ofString "vectorcove.logic") 440) none (.ref 240) .none 0)) #[]) ::
(nat_lit 242,.mk (.type "tuple") none (.seq #[]) #[]) ::
(nat_lit 245,.mk (.type "code") none (.fields #[.str (.ofString "logic_pairs") 494,.str (.ofString "logic_pairs") 495,.str (.ofString "/claim/cut.py") 496,.int 157 0,.int 4 0,.int 0 0,.int 0 0,.int 3 0,.ref 242,.bool true,.int 181 0,.ref 243,.none,.none,.none,.ref 244,.int 497 0,.int 157 0,.str (.ofString "/claim/cut.py") 498]) #[]) ::
(nat_lit 246,.mk (.type "function") none (.func (.mk (.ofString "logic_pairs") (.ofString "logic_pairs") fp246 (.stmts fb246) fs246 3 [] .none .none .none (.str (.ofString "vectorcove.logic") 440) none (.ref 245) .none 0)) #[]) ::
(nat_lit 247,.mk (.type "tuple") none (.seq #[]) #[]) ::
(nat_lit 249,.mk (.type "tuple") none (.seq #[.str (.ofString "u") 503,.str (.ofString "v") 504,.str (.ofString "notes") 505]) #[]) ::
(nat_lit 250,.mk (.type "tuple") none (.seq #[]) #[]) ::
(nat_lit 252,.mk (.type "code") none (.fields #[.str (.ofString "logic_and") 500,.str (.ofString "logic_and") 501,.str (.ofString "/claim/cut.py") 502,.int 165 0,.int 3 0,.int 0 0,.int 0 0,.int 3 0,.ref 247,.bool true,.int 181 0,.ref 248,.none,.ref 249,.ref 250,.ref 251,.int 506 0,.int 165 0,.str (.ofString "/claim/cut.py") 507]) #[]) ::
(nat_lit 253,.mk (.type "function") none (.func (.mk (.ofString "logic_and") (.ofString "logic_and") fp253 (.stmts fb253) fs253 3 [] .none .none .none (.str (.ofString "vectorcove.logic") 440) none (.ref 252) .none 0)) #[]) ::
(nat_lit 254,.mk (.type "tuple") none (.seq #[]) #[]) ::
(nat_lit 256,.mk (.type "tuple") none (.seq #[.str (.ofString "u") 512,.str (.ofString "v") 513,.str (.ofString "notes") 514]) #[]) ::
(nat_lit 257,.mk (.type "tuple") none (.seq #[]) #[]) ::
(nat_lit 259,.mk (.type "code") none (.fields #[.str (.ofString "logic_or") 509,.str (.ofString "logic_or") 510,.str (.ofString "/claim/cut.py") 511,.int 167 0,.int 3 0,.int 0 0,.int 0 0,.int 3 0,.ref 254,.bool true,.int 181 0,.ref 255,.none,.ref 256,.ref 257,.ref 258,.int 515 0,.int 167 0,.str (.ofString "/claim/cut.py") 516]) #[]) ::
(nat_lit 260,.mk (.type "function") none (.func (.mk (.ofString "logic_or") (.ofString "logic_or") fp260 (.stmts fb260) fs260 3 [] .none .none .none (.str (.ofString "vectorcove.logic") 440) none (.ref 259) .none 0)) #[]) ::
(nat_lit 261,.mk (.type "tuple") none (.seq #[]) #[]) ::
(nat_lit 263,.mk (.type "tuple") none (.seq #[.str (.ofString "u") 521,.str (.ofString "v") 522,.str (.ofString "notes") 523]) #[]) ::
(nat_lit 264,.mk (.type "tuple") none (.seq #[]) #[]) ::
(nat_lit 266,.mk (.type "code") none (.fields #[.str (.ofString "logic_xor") 518,.str (.ofString "logic_xor") 519,.str (.ofString "/claim/cut.py") 520,.int 169 0,.int 3 0,.int 0 0,.int 0 0,.int 3 0,.ref 261,.bool true,.int 181 0,.ref 262,.none,.ref 263,.ref 264,.ref 265,.int 524 0,.int 169 0,.str (.ofString "/claim/cut.py") 525]) #[]) ::
(nat_lit 267,.mk (.type "function") none (.func (.mk (.ofString "logic_xor") (.ofString "logic_xor") fp267 (.stmts fb267) fs267 3 [] .none .none .none (.str (.ofString "vectorcove.logic") 440) none (.ref 266) .none 0)) #[]) ::
(nat_lit 268,.mk (.type "tuple") none (.seq #[]) #[]) ::
(nat_lit 271,.mk (.type "code") none (.fields #[.str (.ofString "logic_not") 527,.str (.ofString "logic_not") 528,.str (.ofString "/claim/cut.py") 529,.int 171 0,.int 1 0,.int 0 0,.int 0 0,.int 3 0,.ref 268,.bool true,.int 181 0,.ref 269,.none,.none,.none,.ref 270,.int 530 0,.int 171 0,.str (.ofString "/claim/cut.py") 531]) #[]) ::
(nat_lit 272,.mk (.type "function") none (.func (.mk (.ofString "logic_not") (.ofString "logic_not") fp272 (.stmts fb272) fs272 3 [] .none .none .none (.str (.ofString "vectorcove.logic") 440) none (.ref 271) .none 0)) #[]) ::
(nat_lit 273,.mk (.type "tuple") none (.seq #[]) #[]) ::
(nat_lit 275,.mk (.type "tuple") none (.seq #[.str (.ofString "v") 536,.str (.ofString "notes") 537]) #[]) ::
(nat_lit 276,.mk (.type "tuple") none (.seq #[]) #[]) ::
(nat_lit 278,.mk (.type "code") none (.fields #[.str (.ofString "checked_items") 533,.str (.ofString "checked_items") 534,.str (.ofString "/claim/cut.py") 535,.int 183 0,.int 2 0,.int 0 0,.int 0 0,.int 3 0,.ref 273,.bool true,.int 181 0,.ref 274,.none,.ref 275,.ref 276,.ref 277,.int 538 0,.int 183 0,.str (.ofString "/claim/cut.py") 539]) #[]) ::
(nat_lit 279,.mk (.type "function") none (.func (.mk (.ofString "checked_items") (.ofString "checked_items") fp279 (.stmts fb279) fs279 3 [] .none .none .none (.str (.ofString "vectorcove.logic") 440) none (.ref 278) .none 0)) #[]) ::
(nat_lit 280,.mk (.type "tuple") none (.seq #[.none]) #[]) ::
(nat_lit 281,.mk (.type "tuple") none (.seq #[]) #[]) ::
(nat_lit 283,.mk (.type "tuple") none (.seq #[.str (.ofString "vs") 544,.str (.ofString "skip") 545,.str (.ofString "notes") 546,.str (.ofString "found") 547,.str (.ofString "v") 548,.str (.ofString "item") 549]) #[]) ::
(nat_lit 284,.mk (.type "tuple") none (.seq #[]) #[]) ::
(nat_lit 286,.mk (.type "code") none (.fields #[.str (.ofString "all_of") 541,.str (.ofString "all_of") 542,.str (.ofString "/claim/cut.py") 543,.int 191 0,.int 3 0,.int 0 0,.int 0 0,.int 3 0,.ref 281,.bool true,.int 181 0,.ref 282,.none,.ref 283,.ref 284,.ref 285,.int 550 0,.int 191 0,.str (.ofString "/claim/cut.py") 551]) #[]) ::
(nat_lit 287,.mk (.type "function") none (.func (.mk (.ofString "all_of") (.ofString "all_of") fp287 (.stmts fb287) fs287 3 [] (.ref 280) .none .none (.str (.ofString "vectorcove.logic") 440) none (.ref 286) .none 0)) #[]) ::
(nat_lit 288,.mk (.type "tuple") none (.seq #[.none]) #[]) ::
(nat_lit 289,.mk (.type "tuple") none (.seq #[]) #[]) ::
(nat_lit 291,.mk (.type "tuple") none (.seq #[.str (.ofString "vs") 556,.str (.ofString "skip") 557,.str (.ofString "notes") 558,.str (.ofString "found") 559,.str (.ofString "v") 560,.str (.ofString "item") 561]) #[]) ::
(nat_lit 292,.mk (.type "tuple") none (.seq #[]) #[]) ::
(nat_lit 294,.mk (.type "code") none (.fields #[.str (.ofString "any_of") 553,.str (.ofString "any_of") 554,.str (.ofString "/claim/cut.py") 555,.int 198 0,.int 3 0,.int 0 0,.int 0 0,.int 3 0,.ref 289,.bool true,.int 181 0,.ref 290,.none,.ref 291,.ref 292,.ref 293,.int 562 0,.int 198 0,.str (.ofString "/claim/cut.py") 563]) #[]) ::
(nat_lit 295,.mk (.type "function") none (.func (.mk (.ofString "any_of") (.ofString "any_of") fp295 (.stmts fb295) fs295 3 [] (.ref 288) .none .none (.str (.ofString "vectorcove.logic") 440) none (.ref 294) .none 0)) #[]) ::
(nat_lit 296,.mk (.type "tuple") none (.seq #[]) #[]) ::
(nat_lit 298,.mk (.type "tuple") none (.seq #[.str (.ofString "script") 570,.str (.ofString "row") 571,.str (.ofString "cell") 572,.str (.ofString "figure") 573,.str (.ofString "lap") 574]) #[]) ::
(nat_lit 299,.mk (.type "tuple") none (.seq #[]) #[]) ::
(nat_lit 301,.mk (.type "code") none (.fields #[.str (.ofString "_law_row") 567,.str (.ofString "_law_row") 568,.str (.ofString "/claim/cut.py") 569,.int 206 0,.int 1 0,.int 0 0,.int 0 0,.int 3 0,.ref 296,.bool true,.int 181 0,.ref 297,.none,.ref 298,.ref 299,.ref 300,.int 575 0,.int 206 0,.str (.ofString "/claim/cut.py") 576]) #[]) ::
(nat_lit 302,.mk (.type "function") none (.func (.mk (.ofString "_law_row") (.ofString "_law_row") fp302 (.stmts fb302) fs302 3 [] .none .none .none (.str (.ofString "law_nz0479_01") 565) none (.ref 301) .none 0)) #[]) ::
(nat_lit 303,.mk (.type "tuple") none (.seq #[]) #[]) ::
(nat_lit 305,.mk (.type "tuple") none (.seq #[.str (.ofString "row") 581]) #[]) ::
(nat_lit 306,.mk (.type "tuple") none (.seq #[]) #[]) ::
(nat_lit 308,.mk (.type "code") none (.fields #[.str (.ofString "_law_next") 578,.str (.ofString "_law_next") 579,.str (.ofString "/claim/cut.py") 580,.int 219 0,.int 1 0,.int 0 0,.int 0 0,.int 3 0,.ref 303,.bool true,.int 181 0,.ref 304,.none,.ref 305,.ref 306,.ref 307,.int 582 0,.int 219 0,.str (.ofString "/claim/cut.py") 583]) #[]) ::
(nat_lit 309,.mk (.type "function") none (.func (.mk (.ofString "_law_next") (.ofString "_law_next") fp309 (.stmts fb309) fs309 3 [] .none .none .none (.str (.ofString "law_nz0479_01") 565) none (.ref 308) .none 0)) #[]) ::
(nat_lit 310,.mk (.type "tuple") none (.seq #[]) #[]) ::
(nat_lit 312,.mk (.type "tuple") none (.seq #[.str (.ofString "n") 588,.str (.ofString "d") 589,.str (.ofString "a") 590,.str (.ofString "b") 591]) #[]) ::
(nat_lit 313,.mk (.type "tuple") none (.seq #[]) #[]) ::
(nat_lit 315,.mk (.type "code") none (.fields #[.str (.ofString "_law_reduced") 585,.str (.ofString "_law_reduced") 586,.str (.ofString "/claim/cut.py") 587,.int 221 0,.int 2 0,.int 0 0,.int 0 0,.int 3 0,.ref 310,.bool true,.int 181 0,.ref 311,.none,.ref 312,.ref 313,.ref 314,.int 592 0,.int 221 0,.str (.ofString "/claim/cut.py") 593]) #[]) ::
(nat_lit 316,.mk (.type "function") none (.func (.mk (.ofString "_law_reduced") (.ofString "_law_reduced") fp316 (.stmts fb316) fs316 3 [] .none .none .none (.str (.ofString "law_nz0479_01") 565) none (.ref 315) .none 0)) #[]) ::
(nat_lit 317,.mk (.type "tuple") none (.seq #[]) #[]) ::
(nat_lit 319,.mk (.type "tuple") none (.seq #[.str (.ofString "row") 598,.str (.ofString "kind") 599,.str (.ofString "n") 600,.str (.ofString "d") 601]) #[]) ::
(nat_lit 320,.mk (.type "tuple") none (.seq #[]) #[]) ::
(nat_lit 322,.mk (.type "code") none (.fields #[.str (.ofString "_law_double") 595,.str (.ofString "_law_double") 596,.str (.ofString "/claim/cut.py") 597,.int 227 0,.int 1 0,.int 0 0,.int 0 0,.int 3 0,.ref 317,.bool true,.int 181 0,.ref 318,.none,.ref 319,.ref 320,.ref 321,.int 602 0,.int 227 0,.str (.ofString "/claim/cut.py") 603]) #[]) ::
(nat_lit 323,.mk (.type "function") none (.func (.mk (.ofString "_law_double") (.ofString "_law_double") fp323 (.stmts fb323) fs323 3 [] .none .none .none (.str (.ofString "law_nz0479_01") 565) none (.ref 322) .none 0)) #[]) ::
(nat_lit 324,.mk (.type "tuple") none (.seq #[]) #[]) ::
(nat_lit 326,.mk (.type "tuple") none (.seq #[.str (.ofString "row") 608,.str (.ofString "many") 609,.str (.ofString "kind") 610]) #[]) ::
(nat_lit 327,.mk (.type "tuple") none (.seq #[]) #[]) ::
(nat_lit 329,.mk (.type "code") none (.fields #[.str (.ofString "_law_shaped") 605,.str (.ofString "_law_shaped") 606,.str (.ofString "/claim/cut.py") 607,.int 236 0,.int 2 0,.int 0 0,.int 0 0,.int 3 0,.ref 324,.bool true,.int 181 0,.ref 325,.none,.ref 326,.ref 327,.ref 328,.int 611 0,.int 236 0,.str (.ofString "/claim/cut.py") 612]) #[]) ::
(nat_lit 330,.mk (.type "function") none (.func (.mk (.ofString "_law_shaped") (.ofString "_law_shaped") fp330 (.stmts fb330) fs330 3 [] .none .none .none (.str (.ofString "law_nz0479_01") 565) none (.ref 329) .none 0)) #[]) ::
(nat_lit 331,.mk (.type "tuple") none (.seq #[]) #[]) ::
(nat_lit 334,.mk (.type "code") none (.fields #[.str (.ofString "_law_dressed") 614,.str (.ofString "_law_dressed") 615,.str (.ofString "/claim/cut.py") 616,.int 245 0,.int 2 0,.int 0 0,.int 0 0,.int 3 0,.ref 331,.bool true,.int 181 0,.ref 332,.none,.none,.none,.ref 333,.int 617 0,.int 245 0,.str (.ofString "/claim/cut.py") 618]) #[]) ::
(nat_lit 335,.mk (.type "function") none (.func (.mk (.ofString "_law_dressed") (.ofString "_law_dressed") fp335 (.stmts fb335) fs335 3 [] .none .none .none (.str (.ofString "law_nz0479_01") 565) none (.ref 334) .none 0)) #[]) ::
(nat_lit 336,.mk (.type "tuple") none (.seq #[]) #[]) ::
(nat_lit 338,.mk (.type "tuple") none (.seq #[.str (.ofString "v") 623]) #[]) ::
(nat_lit 339,.mk (.type "tuple") none (.seq #[]) #[]) ::
(nat_lit 341,.mk (.type "code") none (.fields #[.str (.ofString "_law_dims") 620,.str (.ofString "_law_dims") 621,.str (.ofString "/claim/cut.py") 622,.int 260 0,.int 1 0,.int 0 0,.int 0 0,.int 3 0,.ref 336,.bool true,.int 181 0,.ref 337,.none,.ref 338,.ref 339,.ref 340,.int 624 0,.int 260 0,.str (.ofString "/claim/cut.py") 625]) #[]) ::
(nat_lit 342,.mk (.type "function") none (.func (.mk (.ofString "_law_dims") (.ofString "_law_dims") fp342 (.stmts fb342) fs342 3 [] .none .none .none (.str (.ofString "law_nz0479_01") 565) none (.ref 341) .none 0)) #[]) ::
(nat_lit 343,.mk (.type "tuple") none (.seq #[]) #[]) ::
(nat_lit 346,.mk (.type "code") none (.fields #[.str (.ofString "_law_seen") 627,.str (.ofString "_law_seen") 628,.str (.ofString "/claim/cut.py") 629,.int 262 0,.int 1 0,.int 0 0,.int 0 0,.int 3 0,.ref 343,.bool true,.int 181 0,.ref 344,.none,.none,.none,.ref 345,.int 630 0,.int 262 0,.str (.ofString "/claim/cut.py") 631]) #[]) ::
(nat_lit 347,.mk (.type "function") none (.func (.mk (.ofString "_law_seen") (.ofString "_law_seen") fp347 (.stmts fb347) fs347 3 [] .none .none .none (.str (.ofString "law_nz0479_01") 565) none (.ref 346) .none 0)) #[]) ::
(nat_lit 348,.mk (.type "tuple") none (.seq #[]) #[]) ::
(nat_lit 350,.mk (.type "tuple") none (.seq #[.str (.ofString "u") 636,.str (.ofString "v") 637,.str (.ofString "n") 638,.str (.ofString "m") 639,.str (.ofString "notes") 640,.str (.ofString "total") 641,.str (.ofString "left") 642,.str (.ofString "right") 643,.str (.ofString "shape") 644,.str (.ofString "own_size") 645,.str (.ofString "other") 646]) #[]) ::
(nat_lit 351,.mk (.type "tuple") none (.seq #[]) #[]) ::
(nat_lit 353,.mk (.type "code") none (.fields #[.str (.ofString "_law_shape") 633,.str (.ofString "_law_shape") 634,.str (.ofString "/claim/cut.py") 635,.int 266 0,.int 5 0,.int 0 0,.int 0 0,.int 3 0,.ref 348,.bool true,.int 181 0,.ref 349,.none,.ref 350,.ref 351,.ref 352,.int 647 0,.int 266 0,.str (.ofString "/claim/cut.py") 648]) #[]) ::
(nat_lit 354,.mk (.type "function") none (.func (.mk (.ofString "_law_shape") (.ofString "_law_shape") fp354 (.stmts fb354) fs354 3 [] .none .none .none (.str (.ofString "law_nz0479_01") 565) none (.ref 353) .none 0)) #[]) ::
(nat_lit 355,.mk (.type "tuple") none (.seq #[]) #[]) ::
(nat_lit 357,.mk (.type "tuple") none (.seq #[.str (.ofString "u") 653,.str (.ofString "v") 654,.str (.ofString "n") 655,.str (.ofString "m") 656,.str (.ofString "shape") 657,.str (.ofString "total") 658,.str (.ofString "extra") 659,.str (.ofString "found") 660,.str (.ofString "side") 661,.str (.ofString "size") 662,.str (.ofString "seen") 663,.str (.ofString "name") 664]) #[]) ::
(nat_lit 358,.mk (.type "tuple") none (.seq #[]) #[]) ::
(nat_lit 360,.mk (.type "code") none (.fields #[.str (.ofString "_law_attrs") 650,.str (.ofString "_law_attrs") 651,.str (.ofString "/claim/cut.py") 652,.int 286 0,.int 7 0,.int 0 0,.int 0 0,.int 3 0,.ref 355,.bool true,.int 181 0,.ref 356,.none,.ref 357,.ref 358,.ref 359,.int 665 0,.int 286 0,.str (.ofString "/claim/cut.py") 666]) #[]) ::
(nat_lit 361,.mk (.type "function") none (.func (.mk (.ofString "_law_attrs") (.ofString "_law_attrs") fp361 (.stmts fb361) fs361 3 [] .none .none .none (.str (.ofString "law_nz0479_01") 565) none (.ref 360) .none 0)) #[]) ::
(nat_lit 362,.mk (.type "tuple") none (.seq #[]) #[]) ::
(nat_lit 365,.mk (.type "code") none (.fields #[.str (.ofString "_law_vector") 668,.str (.ofString "_law_vector") 669,.str (.ofString "/claim/cut.py") 670,.int 298 0,.int 1 0,.int 0 0,.int 0 0,.int 3 0,.ref 362,.bool true,.int 181 0,.ref 363,.none,.none,.none,.ref 364,.int 671 0,.int 298 0,.str (.ofString "/claim/cut.py") 672]) #[]) ::
(nat_lit 366,.mk (.type "function") none (.func (.mk (.ofString "_law_vector") (.ofString "_law_vector") fp366 (.stmts fb366) fs366 3 [] .none .none .none (.str (.ofString "law_nz0479_01") 565) none (.ref 365) .none 0)) #[]) ::
(nat_lit 367,.mk (.type "tuple") none (.seq #[]) #[]) ::
(nat_lit 369,.mk (.type "tuple") none (.seq #[.str (.ofString "v") 677,.str (.ofString "found") 678,.str (.ofString "item") 679]) #[]) ::
(nat_lit 370,.mk (.type "tuple") none (.seq #[]) #[]) ::
(nat_lit 372,.mk (.type "code") none (.fields #[.str (.ofString "_law_truths") 674,.str (.ofString "_law_truths") 675,.str (.ofString "/claim/cut.py") 676,.int 310 0,.int 1 0,.int 0 0,.int 0 0,.int 3 0,.ref 367,.bool true,.int 181 0,.ref 368,.none,.ref 369,.ref 370,.ref 371,.int 680 0,.int 310 0,.str (.ofString "/claim/cut.py") 681]) #[]) ::
(nat_lit 373,.mk (.type "function") none (.func (.mk (.ofString "_law_truths") (.ofString "_law_truths") fp373 (.stmts fb373) fs373 3 [] .none .none .none (.str (.ofString "law_nz0479_01") 565) none (.ref 372) .none 0)) #[]) ::
(nat_lit 374,.mk (.type "tuple") none (.seq #[]) #[]) ::
(nat_lit 376,.mk (.type "tuple") none (.seq #[.str (.ofString "a") 686,.str (.ofString "b") 687]) #[]) ::
(nat_lit 377,.mk (.type "tuple") none (.seq #[]) #[]) ::
(nat_lit 379,.mk (.type "code") none (.fields #[.str (.ofString "_law_and") 683,.str (.ofString "_law_and") 684,.str (.ofString "/claim/cut.py") 685,.int 319 0,.int 2 0,.int 0 0,.int 0 0,.int 3 0,.ref 374,.bool true,.int 181 0,.ref 375,.none,.ref 376,.ref 377,.ref 378,.int 688 0,.int 319 0,.str (.ofString "/claim/cut.py") 689]) #[]) ::
(nat_lit 380,.mk (.type "function") none (.func (.mk (.ofString "_law_and") (.ofString "_law_and") fp380 (.stmts fb380) fs380 3 [] .none .none .none (.str (.ofString "law_nz0479_01") 565) none (.ref 379) .none 0)) #[]) ::
(nat_lit 381,.mk (.type "tuple") none (.seq #[]) #[]) ::
(nat_lit 383,.mk (.type "tuple") none (.seq #[.str (.ofString "a") 694]) #[]) ::
(nat_lit 384,.mk (.type "tuple") none (.seq #[]) #[]) ::
(nat_lit 386,.mk (.type "code") none (.fields #[.str (.ofString "_law_not") 691,.str (.ofString "_law_not") 692,.str (.ofString "/claim/cut.py") 693,.int 321 0,.int 1 0,.int 0 0,.int 0 0,.int 3 0,.ref 381,.bool true,.int 181 0,.ref 382,.none,.ref 383,.ref 384,.ref 385,.int 695 0,.int 321 0,.str (.ofString "/claim/cut.py") 696]) #[]) ::
(nat_lit 387,.mk (.type "function") none (.func (.mk (.ofString "_law_not") (.ofString "_law_not") fp387 (.stmts fb387) fs387 3 [] .none .none .none (.str (.ofString "law_nz0479_01") 565) none (.ref 386) .none 0)) #[]) ::
(nat_lit 388,.mk (.type "tuple") none (.seq #[]) #[]) ::
(nat_lit 390,.mk (.type "tuple") none (.seq #[.str (.ofString "a") 701,.str (.ofString "b") 702]) #[]) ::
(nat_lit 391,.mk (.type "tuple") none (.seq #[]) #[]) ::
(nat_lit 393,.mk (.type "code") none (.fields #[.str (.ofString "_law_or") 698,.str (.ofString "_law_or") 699,.str (.ofString "/claim/cut.py") 700,.int 323 0,.int 2 0,.int 0 0,.int 0 0,.int 3 0,.ref 388,.bool true,.int 181 0,.ref 389,.none,.ref 390,.ref 391,.ref 392,.int 703 0,.int 323 0,.str (.ofString "/claim/cut.py") 704]) #[]) ::
(nat_lit 394,.mk (.type "function") none (.func (.mk (.ofString "_law_or") (.ofString "_law_or") fp394 (.stmts fb394) fs394 3 [] .none .none .none (.str (.ofString "law_nz0479_01") 565) none (.ref 393) .none 0)) #[]) ::
(nat_lit 395,.mk (.type "tuple") none (.seq #[]) #[]) ::
(nat_lit 397,.mk (.type "tuple") none (.seq #[.str (.ofString "a") 709,.str (.ofString "b") 710]) #[]) ::
(nat_lit 398,.mk (.type "tuple") none (.seq #[]) #[]) ::
(nat_lit 400,.mk (.type "code") none (.fields #[.str (.ofString "_law_xor") 706,.str (.ofString "_law_xor") 707,.str (.ofString "/claim/cut.py") 708,.int 325 0,.int 2 0,.int 0 0,.int 0 0,.int 3 0,.ref 395,.bool true,.int 181 0,.ref 396,.none,.ref 397,.ref 398,.ref 399,.int 711 0,.int 325 0,.str (.ofString "/claim/cut.py") 712]) #[]) ::
(nat_lit 401,.mk (.type "function") none (.func (.mk (.ofString "_law_xor") (.ofString "_law_xor") fp401 (.stmts fb401) fs401 3 [] .none .none .none (.str (.ofString "law_nz0479_01") 565) none (.ref 400) .none 0)) #[]) ::
(nat_lit 402,.mk (.type "tuple") none (.seq #[]) #[]) ::
(nat_lit 404,.mk (.type "tuple") none (.seq #[.str (.ofString "ask") 717,.str (.ofString "error") 718]) #[]) ::
(nat_lit 405,.mk (.type "tuple") none (.seq #[]) #[]) ::
(nat_lit 407,.mk (.type "code") none (.fields #[.str (.ofString "_law_kept") 714,.str (.ofString "_law_kept") 715,.str (.ofString "/claim/cut.py") 716,.int 327 0,.int 1 0,.int 0 0,.int 0 0,.int 3 0,.ref 402,.bool true,.int 181 0,.ref 403,.none,.ref 404,.ref 405,.ref 406,.int 719 0,.int 327 0,.str (.ofString "/claim/cut.py") 720]) #[]) ::
(nat_lit 408,.mk (.type "function") none (.func (.mk (.ofString "_law_kept") (.ofString "_law_kept") fp408 (.stmts fb408) fs408 3 [] .none .none .none (.str (.ofString "law_nz0479_01") 565) none (.ref 407) .none 0)) #[]) ::
(nat_lit 409,.mk (.type "tuple") none (.seq #[]) #[]) ::
(nat_lit 412,.mk (.type "code") none (.fields #[.str (.ofString "law") 722,.str (.ofString "law") 723,.str (.ofString "/claim/cut.py") 724,.int 332 0,.int 1 0,.int 0 0,.int 0 0,.int 3 0,.ref 409,.bool true,.int 181 0,.ref 410,.none,.none,.none,.ref 411,.int 725 0,.int 332 0,.str (.ofString "/claim/cut.py") 726]) #[]) ::
(nat_lit 413,.mk (.type "function") none (.func (.mk (.ofString "law") (.ofString "law") fp413 (.stmts fb413) fs413 3 [] .none .none .none (.str (.ofString "law_nz0479_01") 565) none (.ref 412) .none 0)) #[])::[]
noncomputable def KA:List Addr:=[2,3,15,17,18,20,21,22,24,25,27,28,29,31,32,34,35,36,43,44,45,46,49,56,58,59,61,62,63,64,65,75,77,78,80,81,82,83,84,85,86,96,97,99,100,102,103,104,106,107,109,110,111,112,113,114,115,118,120,121,123,124,125,127,128,130,131,132,134,135,137,138,139,141,142,144,145,146,148,149,151,152,153,155,156,158,159,160,162,163,165,166,167,169,170,172,173,174,176,177,179,180,181,183,184,186,187,188,190,191,193,194,195,197,198,200,201,202,204,205,207,208,209,211,212,214,215,216,218,219,221,222,223,225,226,228,229,230,233,234,235,237,238,240,241,242,245,246,247,249,250,252,253,254,256,257,259,260,261,263,264,266,267,268,271,272,273,275,276,278,279,280,281,283,284,286,287,288,289,291,292,294,295,296,298,299,301,302,303,305,306,308,309,310,312,313,315,316,317,319,320,322,323,324,326,327,329,330,331,334,335,336,338,339,341,342,343,346,347,348,350,351,353,354,355,357,358,360,361,362,365,366,367,369,370,372,373,374,376,377,379,380,381,383,384,386,387,388,390,391,393,394,395,397,398,400,401,402,404,405,407,408,409,412,413]
theorem KA_eq:∀ P,KA=(KF P).map (·.1):=fun _=>by kernel_rfl!
noncomputable def HK:Hook:=kHook KF KA KA_eq
noncomputable def VW:Program := {PySem.Challenge.pw_nz0479_01 with main := {PySem.Challenge.pw_nz0479_01.main with body:=PySem.Challenge.pw_nz0479_01.main.body.filter fun st=>match st with | .Assign .. => false | .FunctionDef n .. => n != Str.ofString "all_of" && n != Str.ofString "any_of" | _=>true}}
end
section
open PySem PySem.W PyProof.Rows PySem.Calls
def KB (D:List Addr) (h h':Heap):Prop:=∀ b o,b∉D->h.get? b=some o->h'.get? b=some o
theorem KB.refl {D:List Addr} {h:Heap}:KB D h h:=fun _ _ _ e=>e
theorem KB.trans {D:List Addr} {h h' h'':Heap} (x:KB D h h') (y:KB D h' h''):KB D h h'':=fun b o n e=>y b o n (x b o n e)
theorem KB.mono {D D':List Addr} {h h':Heap} (x:KB D h h') (s:∀ d∈D,d∈D'):KB D' h h':=fun b o n e=>x b o (fun q=>n (s b q)) e
theorem KB.stays {h h':Heap} (x:KB [] h h'):h.StaysIn h':=fun b o e=>x b o (fun q=>nomatch q) e
noncomputable abbrev PG:Program:=PySem.Challenge.rw_nz0479_01.row.prog
noncomputable abbrev TP:Program:=topProg
noncomputable abbrev LW:List Str:=looseW VW [Str.ofString "all_of",Str.ofString "any_of"]
noncomputable abbrev LO:List Str:=LW++(recsOf VW).map (·.name)++(litsOf VW).map (·.1)++(clssOf VW LW).map (·.name)
structure Gd (w:World) (mean:ExcName->Option Value) (mg mb:Str->Option Value) (B:Heap):Prop where
 K:(KF w.params).In B
 T:Top TP LO mean mg mb B
theorem Gd.keeps {w:World} {mean:ExcName->Option Value} {mg mb:Str->Option Value} {B B':Heap} (G:Gd w mean mg mb B) (k:B.StaysIn B'):Gd w mean mg mb B':=⟨G.K.keeps k,G.T.keeps k⟩
section
variable {w:World} {A:Around} {E:Value->Shared->Prop} {s:Shared} {mean:ExcName->Option Value} {mg mb:Str->Option Value} {b₀:Heap} {Q:Value->Shared->Prop}
 {name qual:Str} {params:Arguments} {body:List Stmt} {scope:Scope} {dV kV doc pm cdv ct oc:Value} {an od:Option Addr} {osl:Array (Option Value)} {f:Addr} {vs:List Value} {kw:List (Str×Value)} {binds:List (Str×Value)}
theorem hide_stays {D:List Addr} {h b:Heap} (hb:b.StaysIn h) (hd:∀ d∈D,b.get? d=none):b.StaysIn (hideAll h D):=fun x o e=>by
 refine hideAll_get _ (hb _ _ e) fun hm=>?_
 rw [hd x hm] at e;cases e
theorem enter (foot:List (Addr×Obj)) (G:Gd w mean mg mb b₀) (hb:b₀.StaysIn s.heap) (hf:∀ p∈foot,s.heap.get? p.1=some p.2∧b₀.get? p.1=none)
   (ho:(KF w.params).lookup f=some ⟨oc,od,.func (fnOf name qual params body scope dV kV doc pm an cdv ct),osl⟩) (hcd:codeIn (KF w.params) cdv qual=true) (hroom:A.depth<recursionLimit)
   (hbind:BindsTo s (fnOf name qual params body scope dV kV doc pm an cdv ct) ⟨vs,kw⟩ binds) (hloc:∀ y∈binds,scope.names.lookup y.1=some .local)
   (h:∀ b L h₁,Fr b L h₁ (fun y=>binds.reverse.lookup y)->News b L h₁ foot->(KF w.params).In b->Top TP LO mean mg mb b->b₀.StaysIn b->KB (foot.map (·.1)) s.heap b ->
     (∀ h' m',Fr b L h' m'->KB (foot.map (·.1)) s.heap h')->(∀ p∈foot,p.1<L) ->
     wpAny (model PG w) (A.deeper (envOf qual scope L f cdv)) (execs body (envOf qual scope L f cdv))
       (fun fl s'=>Q (match fl with | .ret v=>v | _ => .none) s')
       (fun e s'=>wpAny (model PG w) (A.deeper (envOf qual scope L f cdv)) (leaving (envOf qual scope L f cdv) e) (fun _ s''=>E e s'') (fun e' s''=>E e' s'') s')
       {s with heap:=h₁,toks:=s.toks+binds.length})
   (hco:scope.isCoroutine=false:=by rfl) (hgen:scope.isGenerator=false:=by rfl) (hk:scope.kind = .function:=by rfl)
   (hcell:∀ x∈scope.names,x.2 ≠ .cell:=by decide):wpAny (model PG w) A (call (.ref f) vs kw) Q E s:=by
 k_extra "s"
 have hst:b₀.StaysIn (hideAll s.heap (foot.map (·.1))):=hide_stays hb fun d hd=>by
   obtain ⟨p,hp,rfl⟩:=List.mem_map.mp hd
   exact (hf p hp).2
 have Gs:=G.keeps hb
 have Gb:=G.keeps hst
 refine wpAny_call (codeAny_call_def (fd:=fnOf name qual params body scope dV kV doc pm an cdv ct) (body:=body) (binds:=binds) hroom (Gs.K _ _ ho) rfl Gs.T.nolimit (codeRec_of Gs.K hcd) rfl hbind hcell hloc (fun h₁ hns hk₁=>?_) hco hgen hk)
 have hkb:KB (foot.map (·.1)) s.heap (hideAll s.heap (foot.map (·.1))):=fun b o n e=>hideAll_get _ e n
 exact h (hideAll s.heap (foot.map (·.1))) s.heap.objs.size h₁ ⟨hns,fun b o e=>hk₁ b o (of_hideAll _ e),Nat.le_of_eq (hideAll_size _ _)⟩
   (fun p hp=>⟨hk₁ _ _ (hf p hp).1,Nat.ne_of_lt (Heap.lt_size (hf p hp).1),hideAll_none _ (List.mem_map_of_mem hp)⟩) Gb.K Gb.T hst hkb
   (fun h' m' F b o n e=>F.keep _ _ (hkb b o n e)) (fun p hp=>Heap.lt_size (hf p hp).1)
 k_extra "f"
end
def EnvEq (C:Str->Prop) (L R:Str->Option Value):Prop:=∀ y,C y->L y=R y
theorem EnvEq.start {L R:Str->Option Value} (h:EnvEq (fun _=>True) L R):L=R:=funext fun y=>h y True.intro
theorem EnvEq.step {C:Str->Prop} {n:Str} {L R:Str->Option Value} {v:Option Value} (hp:L n=v) (hn:EnvEq (fun y=>C y∧¬ y=n) L R):EnvEq C L (fun y=>if y=n then v else R y):=fun y hc=>by
 by_cases h:y=n
 . show L y=if y=n then v else R y
   rw [if_pos h,h];exact hp
 . show L y=if y=n then v else R y
   rw [if_neg h];exact hn y ⟨hc,h⟩
end
section
open PySem PySem.W PyProof.Rows PySem.Calls
structure Rm (A:Around) (n:Nat):Prop where
 h:A.handled=none
 d:A.depth+n<recursionLimit
 u:A.units+8*n+100<cLine
theorem Rm.le {A:Around} {n k:Nat} (r:Rm A n) (h:k≤n):Rm A k:=⟨r.h,by have:=r.d;omega,by have:=r.u;omega⟩
theorem Rm.deeper {A:Around} {n:Nat} {e:Env} (r:Rm A (n+1)):Rm (A.deeper e) n :=
 ⟨r.h,by have:=r.d;simp only [depth_deeper];omega,by have:=r.u;simp only [Around.deeper_units];omega⟩
theorem Rm.in1 {A:Around} {n:Nat} (r:Rm A (n+1)):Rm A.in1 n:=⟨r.h,by have:=r.d;simp only [Around.in1_depth];omega,by have:=r.u;simp only [Around.in1_units];omega⟩
section
variable {b h h':Heap} {L d:Addr} {m:Str->Option Value} {news news':List (Addr×Obj)} {o o':Obj}
theorem Fr.kb0 (F:Fr b L h m) (k:KB [] h h'):Fr b L h' m:=F.keeps k.stays
theorem News.kb0 (N:News b L h news) (k:KB [] h h'):News b L h' news:=N.grown k.stays
theorem Fr.kb (F:Fr b L h m) (N:News b L h news) {D:List Addr} (hd:∀ d∈D,∃ o,(d,o)∈news) (k:KB D h h'):Fr b L h' m:=by
 have hn:∀ d∈D,d≠L∧b.get? d=none:=fun d hm=>by obtain ⟨o,ho⟩:=hd d hm;exact (N _ ho).2
 refine ⟨F.ns.at' fun o e=>k L o (fun q=>(hn L q).1 rfl) e,fun x o e=>k x o (fun q=>?_) (F.keep _ _ e),F.above⟩
 rw [(hn x q).2] at e;cases e
theorem News.kb1 (N:News b L h news) (U:Upd d o o' news news') (k:KB [d] h h') (g:h'.get? d=some o'):News b L h' news':=by
 k_extra "s"
 obtain ⟨pre,post,rfl,rfl,h1,h2⟩:=U.split
 have z:=N (d,o) (List.mem_append_right _ (.head _))
 intro p hp
 rcases List.mem_append.mp hp with hp | hp
 . have y:=N p (List.mem_append_left _ hp)
   exact ⟨k _ _ (by simpa using h1 p hp) y.1,y.2⟩
 . rcases mC hp with rfl | hp
   . exact ⟨g,z.2⟩
   . have y:=N p (List.mem_append_right _ (.tail _ hp))
     exact ⟨k _ _ (by simpa using h2 p hp) y.1,y.2⟩
 k_extra "f"
theorem upd_mem (U:Upd d o o' news news'):(d,o)∈news:=by
 obtain ⟨pre,post,rfl,rfl,h1,h2⟩:=U.split
 exact List.mem_append_right _ (.head _)
theorem Fr.kb1 (F:Fr b L h m) (N:News b L h news) (U:Upd d o o' news news') (k:KB [d] h h'):Fr b L h' m :=
 Fr.kb F N (fun x hx=>by rw [mS hx];exact ⟨_,upd_mem U⟩) k
theorem News.more' {tl:List (Addr×Obj)} (F:Fr b L h m) (N:News b L h' news) (ht:∀ p∈tl,h'.get? p.1=some p.2∧h.get? p.1=none):News b L h' (tl++news):=by
 k_extra "s"
 intro p hp
 rcases List.mem_append.mp hp with hp | hp
 . obtain ⟨h1,h2⟩:=ht p hp
   refine ⟨h1,fun q=>?_,?_⟩
   . obtain ⟨oL,_,_,hL,_⟩:=F.ns
     rw [q,hL] at h2;cases h2
   . cases e:b.get? p.1 with
     | none=>rfl
     | some o'=>have:=F.keep _ _ e;rw [h2] at this;cases this
 . exact N p hp
 k_extra "f"
theorem fakeNews (e:h.get? d=some o):News ({}:Heap) (d+1) h [(d,o)]:=fun p hp=>by
 rw [mS hp]
 exact ⟨e,Nat.ne_of_lt (Nat.lt_succ_self _),by simp [Heap.get?]⟩
theorem news_new {foot:List (Addr×Obj)} {s:Heap} {p:Addr×Obj} (N:News b L h news) (hkb:KB (foot.map (·.1)) s b) (hp:p∈news) (hn:p.1∉foot.map (·.1)):s.get? p.1=none:=by
 cases e:s.get? p.1 with
 | none=>rfl
 | some o=>have:=hkb _ _ hn e;rw [(N p hp).2.2] at this;cases this
end
/-! ### the data: a vector of the program in the heap (or in a ledger) -/
abbrev HM:=Addr->Obj->Prop
abbrev hm (h:Heap):HM:=fun a o=>h.get? a=some o
abbrev lm (l:List (Addr×Obj)):HM:=fun a o=>(a,o)∈l
inductive ItM (H:HM):Value->PyData->Prop
 | none:ItM H .none .none
 | int (i:Int) (t:Tok):ItM H (.int i t) (.int i)
 | str (x:Str) (t:Tok):ItM H (.str x t) (.str x)
 | pair {a:Addr} {x y:Int} {t u:Tok} {n:Nat}:H a {cls := .type "tuple",data := .seq #[.int x t,.int y u] n}->ItM H (.ref a) (.tuple [.int x,.int y])
inductive ItsM (H:HM):List Value->List PyData->Prop
 | nil:ItsM H [] []
 | cons {v:Value} {d:PyData} {vs:List Value} {ds:List PyData}:ItM H v d->ItsM H vs ds->ItsM H (v::vs) (d::ds)
theorem ItM.mono {H H':HM} {v:Value} {d:PyData} (x:ItM H v d) (k:∀ a o,H a o->H' a o):ItM H' v d:=by
 k_extra "s"
 cases x with
 | none=>exact .none
 | int i t=>exact .int i t
 | str x t=>exact .str x t
 | pair h=>exact .pair (k _ _ h)
 k_extra "f"
theorem ItsM.mono {H H':HM} {vs:List Value} {ds:List PyData} (x:ItsM H vs ds) (k:∀ a o,H a o->H' a o):ItsM H' vs ds:=by
 induction x with
 | nil=>exact .nil
 | cons h _ ih=>exact .cons (h.mono k) ih
theorem ItsM.length {H:HM} {vs:List Value} {ds:List PyData} (x:ItsM H vs ds):vs.length=ds.length:=by
 induction x with
 | nil=>rfl
 | cons _ _ ih=>simp [ih]
theorem ItsM.append {H:HM} {vs vs':List Value} {ds ds':List PyData} (x:ItsM H vs ds) (y:ItsM H vs' ds'):ItsM H (vs++vs') (ds++ds'):=by
 induction x with
 | nil=>exact y
 | cons h _ ih=>exact .cons h ih
theorem ItsM.at {H:HM} {vs:List Value} {ds:List PyData} (x:ItsM H vs ds):∀ (i:Nat) (v:Value),vs[i]?=some v->∃ d,ds[i]?=some d∧ItM H v d:=by
 k_extra "s"
 induction x with
 | nil=>intro i v h;simp at h
 | cons h _ ih =>
   intro i v e
   cases i with
   | zero=>simp at e;subst e;exact ⟨_,rfl,h⟩
   | succ i=>simpa using ih i v (by simpa using e)
 k_extra "f"
theorem ItsM.at' {H:HM} {vs:List Value} {ds:List PyData} (x:ItsM H vs ds):∀ (i:Nat) (d:PyData),ds[i]?=some d->∃ v,vs[i]?=some v∧ItM H v d:=by
 k_extra "s"
 induction x with
 | nil=>intro i v h;simp at h
 | cons h _ ih =>
   intro i v e
   cases i with
   | zero=>simp at e;subst e;exact ⟨_,rfl,h⟩
   | succ i=>simpa using ih i v (by simpa using e)
 k_extra "f"
theorem ItM.reads {h:Heap} {v:Value} {d:PyData} (x:ItM (hm h) v d):Reads h v d []:=by
 k_extra "s"
 cases x with
 | none=>exact .none
 | int i t=>exact .int i t
 | str x t=>exact .str x t
 | pair e=>exact Reads.tuple e rfl rfl (.cons (.int _ _) (.cons (.int _ _) .nil))
 k_extra "f"
theorem ItsM.reads {h:Heap} {vs:List Value} {ds:List PyData} (x:ItsM (hm h) vs ds):ReadsAll h vs ds []:=by
 induction x with
 | nil=>exact .nil
 | cons h _ ih=>exact .cons (as:=[]) (bs:=[]) h.reads ih
structure Pv where
 kind:Str
 items:List PyData
noncomputable def vEnts (P:Params) (tk ti ta ts tl:Tok) (kv iv av:Value):List DictEntry :=
 [⟨PyData.keyHash P "kind",.str "kind" tk,kv⟩,⟨PyData.keyHash P "items",.str "items" ti,iv⟩,⟨PyData.keyHash P "attrs",.str "attrs" ta,av⟩,⟨PyData.keyHash P "shared",.str "shared" ts,.bool false⟩,⟨PyData.keyHash P "loose",.str "loose" tl,.bool false⟩]
structure VAt (P:Params) (H:HM) (u dx ia:Addr) (k:Str) (av:Value) (items:List PyData):Prop where
 ex:∃ tk ti ta ts tl kt n vs c,H u (instObj 113 dx)∧H dx (dictOf (vEnts P tk ti ta ts tl (.str k kt) (.ref ia) av) n)∧H ia (listOf (List.toArray vs) c)∧ItsM H vs items
theorem VAt.mono {P:Params} {H H':HM} {u dx ia:Addr} {k:Str} {av:Value} {items:List PyData} (x:VAt P H u dx ia k av items) (f:∀ a o,H a o->H' a o):VAt P H' u dx ia k av items:=by
 obtain ⟨tk,ti,ta,ts,tl,kt,n,vs,c,h1,h2,h3,h4⟩:=x.ex
 exact ⟨tk,ti,ta,ts,tl,kt,n,vs,c,f _ _ h1,f _ _ h2,f _ _ h3,h4.mono f⟩
inductive TvV:Value->Option Bool->Prop
 | none:TvV .none none
 | f (t:Tok):TvV (.int 0 t) (some false)
 | t (t:Tok):TvV (.int 1 t) (some true)
def and3:Option Bool->Option Bool->Option Bool
 | some false,_=>some false
 | _,some false=>some false
 | some true,some true=>some true
 | _,_=>none
def or3:Option Bool->Option Bool->Option Bool
 | some true,_=>some true
 | _,some true=>some true
 | some false,some false=>some false
 | _,_=>none
def not3:Option Bool->Option Bool
 | some b=>some (!b)
 | none=>none
def xor3:Option Bool->Option Bool->Option Bool
 | some a,some b=>some (a != b)
 | _,_=>none
inductive Kd where
 | lgl | itg | dbl
def Kd.str:Kd->Str
 | .lgl => "logical"
 | .itg => "integer"
 | .dbl => "double"
inductive OkIt:Kd->PyData->Prop
 | none (k:Kd):OkIt k .none
 | lgl (i:Int):OkIt .lgl (.int i)
 | itg (i:Int):OkIt .itg (.int i)
 | dbl (x y:Int):OkIt .dbl (.tuple [.int x,.int y])
noncomputable def tru:PyData->Option Bool
 | .int i=>some (decide (i≠0))
 | .tuple [.int x,.int y]=>if x=0∧y=0 then none else some (decide (x≠0))
 | _=>none
section
variable {prog:Program} {w:World} {A:Around} {E:Value->Shared->Prop} {s:Shared} {Q:Value->Shared->Prop}
theorem in_tup {c x:Value} {xs:List PyData} {d:PyData} {as bs:List Addr} (b:Bool) (rc:Reads s.heap c (.tuple xs) as) (rx:Reads s.heap x d bs) (hxs:PyData.canLayAll0 xs=true) (hd:d.canLay0=true) (hdp:d.depth≤8)
   (hu:A.units+9<cLine) (e:(xs.any fun y=>PyData.eqv y d)=b) (h:Q (.bool b) s):wpAny (model prog w) A (compareOp .In x c) Q E s :=
 SeqAt.in_tuple_reads rc rx hxs hd (by have:=Nat.min_le_right (PyData.depthAll xs) d.depth;omega) (by rw [e];exact h)
theorem notin_tup {c x:Value} {xs:List PyData} {d:PyData} {as bs:List Addr} (b:Bool) (rc:Reads s.heap c (.tuple xs) as) (rx:Reads s.heap x d bs) (hxs:PyData.canLayAll0 xs=true) (hd:d.canLay0=true) (hdp:d.depth≤8)
   (hu:A.units+9<cLine) (e:(xs.any fun y=>PyData.eqv y d)=b) (h:Q (.bool (!b)) s):wpAny (model prog w) A (compareOp .NotIn x c) Q E s :=
 SeqAt.notIn_tuple_reads rc rx hxs hd (by have:=Nat.min_le_right (PyData.depthAll xs) d.depth;omega) (by rw [e];exact h)
end
theorem tvn {o:Option Bool} (e:o=none):TvV .none o:=e ▸ .none
theorem tvt {o:Option Bool} {t:Tok} (e:o=some true):TvV (.int 1 t) o:=e ▸ .t t
theorem tvf {o:Option Bool} {t:Tok} (e:o=some false):TvV (.int 0 t) o:=e ▸ .f t
end
section
open PySem PySem.W PyProof.Rows PySem.Calls
section
variable {w:World} {A:Around} {E:Value->Shared->Prop} {s:Shared} {mean:ExcName->Option Value} {mg mb:Str->Option Value} {b₀:Heap} {Q:Value->Shared->Prop}
 {name qual:Str} {params:Arguments} {body:List Stmt} {scope:Scope} {dV kV doc pm cdv ct oc:Value} {an od:Option Addr} {osl:Array (Option Value)} {f:Addr} {vs:List Value} {kw:List (Str×Value)} {binds:List (Str×Value)}
theorem enterC (foot:List (Addr×Obj)) (G:Gd w mean mg mb b₀) (hb:b₀.StaysIn s.heap) (hf:∀ p∈foot,s.heap.get? p.1=some p.2∧b₀.get? p.1=none)
   (ho:(KF w.params).lookup f=some ⟨oc,od,.func (fnOf name qual params body scope dV kV doc pm an cdv ct),osl⟩) (hcd:codeIn (KF w.params) cdv qual=true) (hroom:A.depth<recursionLimit)
   (hbind:BindsTo s (fnOf name qual params body scope dV kV doc pm an cdv ct) ⟨vs,kw⟩ binds) (hkind:(binds.all fun y=>scope.names.lookup y.1 == some .local || scope.names.lookup y.1 == some .cell)=true)
   (hnd:((cellsFrom 0 scope.names []).map (·.1)).Nodup)
   (h:∀ b L h₁ tk cells,Fr b L h₁ (bindL (envOfC qual scope L f cdv).kindOf binds fun _=>none)->News b L h₁ (cells++foot)->CellsAre (bindC (envOfC qual scope L f cdv).kindOf binds fun _=>none) (cellsFrom (L+1) scope.names []) cells ->
     (KF w.params).In b->Top TP LO mean mg mb b->b₀.StaysIn b->KB (foot.map (·.1)) s.heap b->(∀ h' m',Fr b L h' m'->KB (foot.map (·.1)) s.heap h')->(∀ p∈foot,p.1<L) ->
     wpAny (model PG w) (A.deeper (envOfC qual scope L f cdv)) (execs body (envOfC qual scope L f cdv))
       (fun fl s'=>Q (match fl with | .ret v=>v | _ => .none) s')
       (fun e s'=>wpAny (model PG w) (A.deeper (envOfC qual scope L f cdv)) (leaving (envOfC qual scope L f cdv) e) (fun _ s''=>E e s'') (fun e' s''=>E e' s'') s')
       {s with heap:=h₁,toks:=tk})
   (hco:scope.isCoroutine=false:=by rfl) (hgen:scope.isGenerator=false:=by rfl) (hk:scope.kind = .function:=by rfl):wpAny (model PG w) A (call (.ref f) vs kw) Q E s:=by
 k_extra "s"
 have hst:b₀.StaysIn (hideAll s.heap (foot.map (·.1))):=hide_stays hb fun d hd=>by
   obtain ⟨p,hp,rfl⟩:=List.mem_map.mp hd
   exact (hf p hp).2
 have Gs:=G.keeps hb
 have Gb:=G.keeps hst
 refine wpAny_call (codeAny_call_function (fd:=fnX name qual params body scope [] dV kV doc pm an cdv ct) hroom (Gs.K _ _ ho) rfl hco hgen rfl (codeRec_of Gs.K hcd) (hbind _ _ _ _ ?_))
 refine wpAny_newFunctionEnv_cells hk (kindsX hkind _) fun env' he s' x=>?_
 subst he
 refine ⟨Gs.T.nolimit.keeps x.toInCall.keep,codeAny_func ?_⟩
 obtain ⟨h₁,tk,rfl,_⟩:=x.done
 have hk₁:=x.toInCall.keep
 obtain ⟨cells,NC,Y⟩:=Cl.news (h₀:=s.heap) (Nat.le_refl _) fun n c hm=>⟨x.cell n c (lookup_of_mem_nodup (cellsFrom_names scope.names 0 (s.heap.objs.size+1) [] [] rfl ▸ hnd) hm),x.above n c hm⟩
 have hkb:KB (foot.map (·.1)) s.heap (hideAll s.heap (foot.map (·.1))):=fun b o n e=>hideAll_get _ e n
 refine h (hideAll s.heap (foot.map (·.1))) s.heap.objs.size h₁ tk cells ⟨x.toInCall.ns,fun b o e=>hk₁ b o (of_hideAll _ e),Nat.le_of_eq (hideAll_size _ _)⟩ (fun p hp=>?_) Y Gb.K Gb.T hst hkb
   (fun h' m' F b o n e=>F.keep _ _ (hkb b o n e)) (fun p hp=>Heap.lt_size (hf p hp).1)
 rcases List.mem_append.mp hp with hp | hp
 . refine ⟨(NC p hp).1,(NC p hp).2.1,?_⟩
   cases q:(hideAll s.heap (foot.map (·.1))).get? p.1 with
   | none=>rfl
   | some o=>have:=of_hideAll _ q;rw [(NC p hp).2.2] at this;cases this
 . exact ⟨hk₁ _ _ (hf p hp).1,Nat.ne_of_lt (Heap.lt_size (hf p hp).1),hideAll_none _ (List.mem_map_of_mem hp)⟩
 k_extra "f"
end
section
open PyProof.Rows.LCg
variable {prog:Program} {w:World} {A:Around} {h₀:Heap} {L:Addr} {m:Str->Option Value} {env:Env}
theorem comp_inv {elt:Expr} {x:Str} {scope:Scope} {cl:List (Str×Addr)} {s:Shared} {S:List (Addr×Obj)->Prop} {P:Nat->Value->Prop} {Fin:List Value->List (Addr×Obj)->Prop} {n:Nat}
   (I:Nat->List Value->List (Addr×Obj)->Prop)
   (turn:∀ i ys news,i<n->I i ys news->∀ v J oJ oC C D m₂ h tk (E':Value->Shared->Prop),P i v->NsObj oC m₂->m₂ x=some v->Fr h₀ L h m->News h₀ L h ((J,oJ)::(C,oC)::(D,lst ys)::news)->Off3 J C D news->((@Ne Nat J C)∧(@Ne Nat J D)∧(@Ne Nat C D)) ->
     wpAny (model prog w) A (eval elt (compEnvC scope cl C env)) (CompEnd h₀ L m {s with heap:=h,toks:=tk} J oJ C oC D (lst ys) S (fun y news'=>I (i+1) (ys++[y]) news')) E' {s with heap:=h,toks:=tk})
   (fin:∀ ys news,I n ys news->Fin ys news):∀ k i ys news,i+k=n->I i ys news->CompRest prog w A h₀ L m env elt x scope cl s S P Fin k i ys news
 | 0,i,ys,news,e,h=>by
   have:i=n:=by omega
   subst this
   exact fin _ _ h
 | k+1,i,ys,news,e,h=>by
   refine CompRest.succ fun v J oJ C oC D m₂ hh tk E' hp hoC hm F N off ne=>?_
   refine wpAny_mono (turn i ys news (by omega) h v J oJ oC C D m₂ hh tk E' hp hoC hm F N off ne) (fun y s₂ q=>?_) fun _ _ q=>q
   obtain ⟨h',tk',news',rfl,F',N',off',hS,r⟩:=q
   exact ⟨h',tk',news',rfl,F',N',off',hS,comp_inv I turn fin k (i+1) _ _ (by omega) r⟩
end
theorem instStays {h h':Heap} {x C:Addr} {ox:Obj} {od:Option Obj} (k:∀ b o,h.get? b=some o->h'.get? b=some o) (I:InstAt h x ox C od):InstAt h' x ox C od :=
 ⟨k _ _ I.at_,I.cls,I.no,by
   have:=I.dict
   split at this
   . exact k _ _ this
   . trivial
   . exact this.elim⟩
theorem instOf {h:Heap} {x C dx:Addr} {od:Obj} (h1:h.get? x=some (instObj C dx)) (h2:h.get? dx=some od):InstAt h x (instObj C dx) C (some od):=⟨h1,rfl,rfl,h2⟩
end
section
open PySem PySem.W PyProof.Rows PySem.Calls
section
variable {w:World} {A:Around} {E:Value->Shared->Prop} {s:Shared} {mean:ExcName->Option Value} {mg mb:Str->Option Value} {b₀:Heap} {R:Result->Shared->Prop}
 {name qual:Str} {params:Arguments} {body:List Stmt} {scope:Scope} {dV kV doc pm cdv ct oc:Value} {an od:Option Addr} {osl:Array (Option Value)} {f:Addr} {args:Args} {binds:List (Str×Value)}
theorem enterK (foot:List (Addr×Obj)) (G:Gd w mean mg mb b₀) (hb:b₀.StaysIn s.heap) (hf:∀ p∈foot,s.heap.get? p.1=some p.2∧b₀.get? p.1=none)
   (ho:(KF w.params).lookup f=some ⟨oc,od,.func (fnOf name qual params body scope dV kV doc pm an cdv ct),osl⟩) (hcd:codeIn (KF w.params) cdv qual=true) (hroom:A.depth<recursionLimit)
   (hbind:BindsTo s (fnOf name qual params body scope dV kV doc pm an cdv ct) args binds) (hloc:∀ y∈binds,scope.names.lookup y.1=some .local)
   (h:∀ b L h₁,Fr b L h₁ (fun y=>binds.reverse.lookup y)->News b L h₁ foot->(KF w.params).In b->Top TP LO mean mg mb b->b₀.StaysIn b->KB (foot.map (·.1)) s.heap b ->
     (∀ h' m',Fr b L h' m'->KB (foot.map (·.1)) s.heap h')->(∀ p∈foot,p.1<L) ->
     wpAny (model PG w) (A.deeper (envOf qual scope L f cdv)) (execs body (envOf qual scope L f cdv))
       (fun fl s'=>R (.ok (.ret (match fl with | .ret v=>v | _ => .none))) s')
       (fun e s'=>wpAny (model PG w) (A.deeper (envOf qual scope L f cdv)) (leaving (envOf qual scope L f cdv) e) (fun _ s''=>R (.error e) s'') (fun e' s''=>R (.error e') s'') s')
       {s with heap:=h₁,toks:=s.toks+binds.length})
   (hco:scope.isCoroutine=false:=by rfl) (hgen:scope.isGenerator=false:=by rfl) (hk:scope.kind = .function:=by rfl)
   (hcell:∀ x∈scope.names,x.2 ≠ .cell:=by decide):codeAny (model PG w) A (.call (.ref f) args) R s:=by
 k_extra "s"
 have hst:b₀.StaysIn (hideAll s.heap (foot.map (·.1))):=hide_stays hb fun d hd=>by
   obtain ⟨p,hp,rfl⟩:=List.mem_map.mp hd
   exact (hf p hp).2
 have Gs:=G.keeps hb
 have Gb:=G.keeps hst
 refine codeAny_call_def (fd:=fnOf name qual params body scope dV kV doc pm an cdv ct) (body:=body) (binds:=binds) hroom (Gs.K _ _ ho) rfl Gs.T.nolimit (codeRec_of Gs.K hcd) rfl hbind hcell hloc (fun h₁ hns hk₁=>?_) hco hgen hk
 have hkb:KB (foot.map (·.1)) s.heap (hideAll s.heap (foot.map (·.1))):=fun b o n e=>hideAll_get _ e n
 exact h (hideAll s.heap (foot.map (·.1))) s.heap.objs.size h₁ ⟨hns,fun b o e=>hk₁ b o (of_hideAll _ e),Nat.le_of_eq (hideAll_size _ _)⟩
   (fun p hp=>⟨hk₁ _ _ (hf p hp).1,Nat.ne_of_lt (Heap.lt_size (hf p hp).1),hideAll_none _ (List.mem_map_of_mem hp)⟩) Gb.K Gb.T hst hkb
   (fun h' m' F b o n e=>F.keep _ _ (hkb b o n e)) (fun p hp=>Heap.lt_size (hf p hp).1)
 k_extra "f"
end
theorem Rm.make {A:Around} {n:Nat} {C:Addr} {vals:List Value} {kw:List (Str×Value)} (r:Rm A (n+1)):Rm (A.under (.builtin "type.__call__" ⟨.ref C::vals,kw⟩)) n :=
 ⟨r.h,by have:=r.d;show A.depth+1+n<_;omega,by have:=r.u;show A.units+(Code.builtin "type.__call__" ⟨.ref C::vals,kw⟩).cUnits+8*n+100<_;have e:(Code.builtin "type.__call__" ⟨.ref C::vals,kw⟩).cUnits≤8:=(by decide:1≤8) |> fun z=>Nat.le_trans (Nat.le_of_eq rfl) z;omega⟩
end
section
open PySem PySem.W PyProof.Rows PySem.Calls
abbrev Att:=Str×Str×List PyData
inductive AtsM (P:Params) (H:HM):List (Str×Value)->List Att->Prop
 | nil:AtsM P H [] []
 | cons {n:Str} {a dx ia:Addr} {k:Str} {its:List PyData} {kvs:List (Str×Value)} {ats:List Att}:VAt P H a dx ia k .none its->AtsM P H kvs ats->AtsM P H ((n,.ref a)::kvs) ((n,k,its)::ats)
theorem AtsM.mono {P:Params} {H H':HM} {kvs:List (Str×Value)} {ats:List Att} (x:AtsM P H kvs ats) (f:∀ a o,H a o->H' a o):AtsM P H' kvs ats:=by
 induction x with
 | nil=>exact .nil
 | cons h _ ih=>exact .cons (h.mono f) ih
theorem AtsM.names {P:Params} {H:HM} {kvs:List (Str×Value)} {ats:List Att} (x:AtsM P H kvs ats):kvs.map (·.1)=ats.map (·.1):=by
 induction x with
 | nil=>rfl
 | cons _ _ ih=>simp [ih]
theorem AtsM.length {P:Params} {H:HM} {kvs:List (Str×Value)} {ats:List Att} (x:AtsM P H kvs ats):kvs.length=ats.length:=by
 have:=congrArg List.length x.names;simpa using this
def attOf (ats:List Att) (n:Str):Option (Str×List PyData):=(ats.find? fun p=>p.1=n).map (·.2)
theorem AtsM.none {P:Params} {H:HM} {kvs:List (Str×Value)} {ats:List Att} (x:AtsM P H kvs ats) {n:Str} (e:attOf ats n = .none):valueAt kvs n = .none:=by
 k_extra "s"
 induction x with
 | nil=>rfl
 | @cons m a dx ia k its kvs ats h _ ih =>
   unfold attOf valueAt at *
   by_cases hm:m=n
   . simp [List.find?_cons,hm] at e
   . simp only [List.find?_cons,hm,decide_false,Bool.false_eq_true,if_false] at e ⊢
     exact ih e
 k_extra "f"
theorem AtsM.some {P:Params} {H:HM} {kvs:List (Str×Value)} {ats:List Att} (x:AtsM P H kvs ats) {n k:Str} {its:List PyData} (e:attOf ats n = .some (k,its)):∃ a dx ia,valueAt kvs n = .some (.ref a)∧VAt P H a dx ia k .none its:=by
 k_extra "s"
 induction x with
 | nil=>cases e
 | @cons m a dx ia k its kvs ats h _ ih =>
   unfold attOf valueAt at *
   by_cases hm:m=n
   . simp [List.find?_cons,hm] at e ⊢
     obtain ⟨rfl,rfl⟩:=e
     exact ⟨_,_,h⟩
   . simp only [List.find?_cons,hm,decide_false,Bool.false_eq_true,if_false] at e ⊢
     exact ih e
 k_extra "f"
inductive AtAt (w:World) (H:HM):Value->List Att->Prop
 | none:AtAt w H .none []
 | some {d:Addr} {o:Obj} {kvs:List (Str×Value)} {ats:List Att}:H d o->o.IsDictOf (PySem.strKind PG w) kvs->(d == sysModules)=false->AtsM w.params H kvs ats->ats≠[]->AtAt w H (.ref d) ats
theorem AtAt.mono {w:World} {H H':HM} {av:Value} {ats:List Att} (x:AtAt w H av ats) (f:∀ a o,H a o->H' a o):AtAt w H' av ats:=by
 cases x with
 | none=>exact .none
 | some h1 h2 h3 h4 h5=>exact .some (f _ _ h1) h2 h3 (h4.mono f) h5
structure Vd where
 kind:Str
 items:List PyData
 ats:List Att
noncomputable abbrev nullEnts (P:Params) (tk ta kt:Tok):List DictEntry:=[⟨PyData.keyHash P "kind",.str "kind" tk,.str "NULL" kt⟩,⟨PyData.keyHash P "attrs",.str "attrs" ta,.none⟩]
inductive VM (w:World) (H:HM):Addr->Vd->Prop
 | vec {u dx ia:Addr} {k:Str} {av:Value} {items:List PyData} {ats:List Att}:k ≠ "NULL" -> VAt w.params H u dx ia k av items->AtAt w H av ats->VM w H u ⟨k,items,ats⟩
 | null {u dx:Addr} {tk ta kt:Tok} {n:Nat}:H u (instObj 84 dx)->H dx (dictOf (nullEnts w.params tk ta kt) n)->VM w H u ⟨"NULL",[],[]⟩
theorem VM.mono {w:World} {H H':HM} {u:Addr} {v:Vd} (x:VM w H u v) (f:∀ a o,H a o->H' a o):VM w H' u v:=by
 cases x with
 | vec h0 h1 h2=>exact .vec h0 (h1.mono f) (h2.mono f)
 | null h1 h2=>exact .null (f _ _ h1) (f _ _ h2)
theorem VM.stays {w:World} {h h':Heap} {u:Addr} {v:Vd} (x:VM w (hm h) u v) (k:∀ b o,h.get? b=some o->h'.get? b=some o):VM w (hm h') u v:=x.mono k
theorem VAt.stays {P:Params} {h h':Heap} {u dx ia:Addr} {k:Str} {av:Value} {items:List PyData} (x:VAt P (hm h) u dx ia k av items) (f:∀ a o,h.get? a=some o->h'.get? a=some o):VAt P (hm h') u dx ia k av items:=x.mono f
def Vd.len (v:Vd):Nat:=v.items.length
inductive AvM (P:Params) (H:HM):Value->Option (Str×List PyData)->Prop
 | none:AvM P H .none none
 | some {a dx ia:Addr} {k:Str} {its:List PyData}:VAt P H a dx ia k .none its->AvM P H (.ref a) (some (k,its))
theorem AvM.mono {P:Params} {H H':HM} {r:Value} {x:Option (Str×List PyData)} (z:AvM P H r x) (f:∀ a o,H a o->H' a o):AvM P H' r x:=by
 cases z with
 | none=>exact .none
 | some h=>exact .some (h.mono f)
theorem AvM.of {P:Params} {H:HM} {kvs:List (Str×Value)} {ats:List Att} (x:AtsM P H kvs ats) (n:Str):AvM P H ((valueAt kvs n).getD .none) (attOf ats n):=by
 cases e:attOf ats n with
 | none=>rw [x.none e];exact .none
 | some q=>obtain ⟨k,its⟩:=q;obtain ⟨a,dx,ia,h1,h2⟩:=x.some e;rw [h1];exact .some h2
theorem listStays {h h':Heap} {a:Addr} {its:Array Value} (k:∀ b o,h.get? b=some o->h'.get? b=some o) (x:h.IsList a its):h'.IsList a its:=by
 obtain ⟨o,h1,h2⟩:=x
 exact ⟨o,k _ _ h1,h2⟩
theorem ItsM.ints {H:HM}:∀ {vs:List Value} {ds:List Int},ItsM H vs (ds.map PyData.int)->IntsAre vs ds
 | [],[],_ => .nil
 | [],_::_,h=>nomatch h
 | _::_,[],h=>nomatch h
 | v::vs,d::ds,h=>by
   cases h with
   | cons h1 h2=>cases h1;exact .cons _ _ (ItsM.ints h2)
section
variable {w:World} {A:Around} {E:Value->Shared->Prop} {s:Shared} {b:Heap} {L d:Addr} {m:Str->Option Value} {o:Obj} {kvs:List (Str×Value)} {n:Str} {tn:Tok}
theorem dget_method {pl:Sem Bool} {Q:Value×List Value->Shared->Prop} (F:Fr b L s.heap m) (hb:b.get? d=some o) (hd:o.IsDictOf (PySem.strKind PG w) kvs) (h:Q (.builtin "dict.get",[.ref d]) s):wpAny (model PG w) A (getMethod (.ref d) "get" pl) Q E s :=
 kdg_method (fakeNews (F.keep _ _ hb)) (.head _) hd h
theorem dget_call {Q:Value->Shared->Prop} (F:Fr b L s.heap m) (hb:b.get? d=some o) (hd:o.IsDictOf (PySem.strKind PG w) kvs) (lo:(d == sysModules)=false) (h:Q ((valueAt kvs n).getD .none) {s with toks:=s.toks+1}) :
   wpAny (model PG w) A (call (.builtin "dict.get") [.ref d,.str n tn]) Q E s :=
 kdg_get1 (fakeNews (F.keep _ _ hb)) (.head _) hd lo (strKind_is _ _ _ _) _ rfl h
theorem dnotin {Q:Value->Shared->Prop} (F:Fr b L s.heap m) (hb:b.get? d=some o) (hd:o.IsDictOf (PySem.strKind PG w) kvs) (lo:(d == sysModules)=false) (h:Q (.bool (!(valueAt kvs n).isSome)) {s with toks:=s.toks+1}) :
   wpAny (model PG w) A (compareOp .NotIn (.str n tn) (.ref d)) Q E s:=kdg_notin (fakeNews (F.keep _ _ hb)) (.head _) hd lo (strKind_is _ _ _ _) _ rfl h
theorem ditem {value slice:PySem.Expr} {v:Value} {Q:Value->Shared->Prop} (F:Fr b L s.heap m) (hb:b.get? d=some o) (hd:o.IsDictOf (PySem.strKind PG w) kvs) (hl:valueAt kvs n=some v) (h:Q v {s with toks:=s.toks+1})
   (hs:subscripted slice false (.ref d) (.str n tn)=operate [.ref d,.str n tn] (getItem (.ref d) (.str n tn)):=by with_unfolding_all rfl) (hg:∀ r,letTemporaryGo value (.ref d) r=pure ():=by intro _;with_unfolding_all rfl) :
   wpAny (model PG w) A (subscriptTail value slice (.ref d) (.str n tn)) Q E s:=kda_item (fakeNews (F.keep _ _ hb)) (.head _) hd (strKind_is _ _ _ _) hl h hs hg
end
theorem isListOf {h:Heap} {a:Addr} {its:Array Value} {c:Nat} (e:h.get? a=some (listOf its c)):h.IsList a its:=⟨_,e,rfl,_,rfl⟩
theorem isListOf' {h:Heap} {a:Addr} {its:Array Value} {c:Nat} (e:hm h a (listOf its c)):h.IsList a its:=⟨_,e,rfl,_,rfl⟩
theorem instOf' {h:Heap} {x C dx:Addr} {od:Obj} (h1:hm h x (instObj C dx)) (h2:hm h dx od):InstAt h x (instObj C dx) C (some od):=⟨h1,rfl,rfl,h2⟩
theorem st2 {a b c:Heap} (x:a.StaysIn b) (y:b.StaysIn c):a.StaysIn c:=fun _ _ e=>y _ _ (x _ _ e)
end
section
open PySem PySem.W PyProof.Rows PySem.Calls PySem.Spec
section
variable {prog:Program} {w:World} {A:Around} {E:Value->Shared->Prop} {s:Shared} {env:Env} {h₀:Heap} {x:Str} {body:List Stmt} {Q:Flow->Shared->Prop}
def TEnd (h₀:Heap) (L I:Addr) (oI:Obj) (Jn:(Str->Option Value)->List (Addr×Obj)->Prop) (s₁:Shared) (Q:Flow->Shared->Prop) (f:Flow) (s₂:Shared):Prop :=
 match f with
 | .ret v=>Q (.ret v) s₂
 | .brk=>Q .next s₂
 | _=>∃ h' tk m' news',s₂ = {s₁ with heap:=h',toks:=tk}∧Fr h₀ L h' m'∧News h₀ L h' ((I,oI)::news')∧(∀ p∈news',p.1≠I)∧Jn m' news'
theorem iterW {I:Addr} {fp:List Addr} {n:Nat} {P:Nat->Value->Prop} {St:Nat->Heap->Prop} {m₀:Str->Option Value} {news:List (Addr×Obj)} (J:Nat->(Str->Option Value)->List (Addr×Obj)->Prop)
   (W:Walks prog w A I fp [I] n P St) (hIf:I∈fp) (hob:∀ i h,St i h->∃ o,h.get? I=some o) (hLf:env.locals∉fp) (hI0:h₀.get? I=none)
   (hfp:∀ b∈fp,b=I∨(∃ q,h₀.get? b=some q)∨∃ ob,∀ i m₁ news₁,J i m₁ news₁->(b,ob)∈news₁)
   (hst:St 0 s.heap) (F:Fr h₀ env.locals s.heap m₀) (N:News h₀ env.locals s.heap news) (hnw:∀ p∈news,p.1≠I) (J0:J 0 m₀ news)
   (turn:∀ i v m₁ news₁ h tk oI,i<n->P i v->J i m₁ news₁->(∀ p∈news₁,p.1≠I)->Fr h₀ env.locals h (fun y=>if y=x then some v else m₁ y)->News h₀ env.locals h ((I,oI)::news₁) ->
     wpAny (model prog w) A (execs body env) (TEnd h₀ env.locals I oI (J (i+1)) {s with heap:=h,toks:=tk} Q) E {s with heap:=h,toks:=tk})
   (done:∀ h' tk m' news',Fr h₀ env.locals h' m'->News h₀ env.locals h' news'->J n m' news'->Q .next {s with heap:=h',toks:=tk}) :
   LoopAtV prog w A h₀ env x body Q E (.ref I) s:=by
 k_extra "s"
 refine ⟨I,fp,[I],n,P,St,m₀,news,J,rfl,W,hLf,fun b hb=>by rw [mS hb];exact hI0,fun p hp hI=>hnw p hp (mS hI),hst,F,N,J0,?_,fun h' tk m' news' F' N' _ hJ=>done h' tk m' news' F' N' hJ⟩
 rintro i v m₁ news₁ s₁ own ⟨hh',tk',rfl⟩ hin hP hJ hoff hown hown2 hall hst' F₁ N₁
 obtain ⟨o,ho⟩:=hob _ _ hst'
 have hio:(I,o)∈own:=hall I hIf hI0 o ho
 have hne:∀ p∈news₁,p.1≠I:=fun p hp q=>hoff p hp (List.mem_singleton.mpr q)
 refine wpAny_mono (turn i v m₁ news₁ hh' tk' o hin hP hJ hne F₁ (news_one hio N₁)) (fun f s₂ p=>?_) fun _ _ e=>e
 have fin:(∃ h' tk m' news',s₂ = {({s with heap:=hh',toks:=tk'}:Shared) with heap:=h',toks:=tk}∧Fr h₀ env.locals h' m'∧News h₀ env.locals h' ((I,o)::news')∧(∀ p∈news',p.1≠I)∧J (i+1) m' news') ->
     LoopStepU h₀ env.locals [I] own (J (i+1)) {s with heap:=hh',toks:=tk'} .next s₂:=by
   rintro ⟨h',tk,m',news',e,F',N',hn,hJ'⟩
   refine ⟨rfl,h',tk,m',news',e,F',fun p hp=>?_,fun p hp q=>hn p hp (mS q),hJ'⟩
   rcases List.mem_append.mp hp with hp | hp
   . have a1:=N₁ p (List.mem_append_left _ hp)
     rcases hfp _ (hown p hp) with q | ⟨q,hq⟩ | ⟨ob,hob'⟩
     . have e1:p=(I,o):=Prod.ext q (by have:=a1.1;rw [q,ho] at this;exact (Option.some.inj this).symm)
       rw [e1];exact N' _ (.head _)
     . rw [a1.2.2] at hq;cases hq
     . have b1:=N₁ _ (List.mem_append_right _ (hob' _ _ _ hJ))
       have e1:p=(p.1,ob):=Prod.ext rfl (by have:=a1.1;rw [b1.1] at this;exact (Option.some.inj this).symm)
       rw [e1];exact N' _ (List.mem_cons_of_mem _ (hob' _ _ _ hJ'))
   . exact N' p (List.mem_cons_of_mem _ hp)
 cases f with
 | ret v=>exact .ret p
 | brk=>exact .brk p
 | next=>exact .next (fin p)
 | cont=>exact .cont (fin p)
 k_extra "f"
theorem iterList {l:Addr} {vs:List Value} {m₀:Str->Option Value} {news:List (Addr×Obj)} (J:Nat->(Str->Option Value)->List (Addr×Obj)->Prop)
   (hh:A.handled=none) (hls:s.heap.IsList l vs.toArray) (hlL:l≠env.locals) (hl:(∃ q,h₀.get? l=some q)∨∃ ob,∀ i m₁ news₁,J i m₁ news₁->(l,ob)∈news₁) (F:Fr h₀ env.locals s.heap m₀) (N:News h₀ env.locals s.heap news) (J0:J 0 m₀ news)
   (turn:∀ I i v m₁ news₁ h tk oI,vs[i]?=some v->J i m₁ news₁->(∀ p∈news₁,p.1≠I)->Fr h₀ env.locals h (fun y=>if y=x then some v else m₁ y)->News h₀ env.locals h ((I,oI)::news₁) ->
     wpAny (model prog w) A (execs body env) (TEnd h₀ env.locals I oI (J (i+1)) {s with heap:=h,toks:=tk} Q) E {s with heap:=h,toks:=tk})
   (done:∀ h' tk m' news',Fr h₀ env.locals h' m'->News h₀ env.locals h' news'->J vs.length m' news'->Q .next {s with heap:=h',toks:=tk}) :
   wpAny (model prog w) A (pyIter (.ref l)) (fun it s₂=>LoopAtV prog w A h₀ env x body Q E it s₂) E s:=by
 k_extra "s"
 obtain ⟨ol,hol,_⟩:=id hls
 have hlt:l<s.heap.objs.size:=Heap.lt_size hol
 refine wpAny_pyIter_list hls ?_
 have W:=Walks.list (prog:=prog) (w:=w) hh s.heap.objs.size l (Nat.ne_of_lt hlt) vs.toArray
 have hlen:vs.toArray.size=vs.length:=by simp
 rw [hlen] at W
 refine iterW (s := {s with heap:=_}) J W (.head _) (fun i h st=>by obtain ⟨⟨o,ho,_⟩,_⟩:=st;exact ⟨o,ho⟩) ?_ (next_is_new F) ?_ ⟨⟨_,Heap.get?_push_size _ rfl,rfl,rfl⟩,hls.at fun o e=>Heap.get?_push_of_some _ e⟩ (F.push _) (fun p hp=>⟨Heap.get?_push_of_some _ (N p hp).1,(N p hp).2⟩) ?_ J0 ?_ ?_
 . intro hm
   rcases mC hm with e | hm
   . exact absurd F.ns.lt (e ▸ Nat.lt_irrefl _)
   . exact hlL (mS hm).symm
 . intro b hb
   rcases mC hb with e | hm
   . exact .inl e
   . rw [mS hm];exact .inr hl
 . intro p hp hI
   exact absurd (Heap.lt_size (N p hp).1) (hI ▸ Nat.lt_irrefl _)
 . intro i v m₁ news₁ h tk oI hi hP hJ hn F₁ N₁
   exact turn _ i v m₁ news₁ h tk oI (by simpa using hP) hJ hn F₁ N₁
 . exact done
 k_extra "f"
theorem iterRange {r:Addr} {a₀ b₀:Int} {t₀ u₀ v₀:Tok} {n:Nat} {m₀:Str->Option Value} {news:List (Addr×Obj)} (J:Nat->(Str->Option Value)->List (Addr×Obj)->Prop)
   (hh:A.handled=none) (hr:IsRange s.heap r a₀ b₀ 1 t₀ u₀ v₀) (hsmall:Builtin.Range.small a₀ b₀ 1=true) (hn:Builtin.Range.rangeSize a₀ b₀ 1=(n:Int)) (F:Fr h₀ env.locals s.heap m₀) (N:News h₀ env.locals s.heap news) (J0:J 0 m₀ news)
   (turn:∀ I i t m₁ news₁ h tk oI,i<n->J i m₁ news₁->(∀ p∈news₁,p.1≠I)->Fr h₀ env.locals h (fun y=>if y=x then some (.int (a₀+i) t) else m₁ y)->News h₀ env.locals h ((I,oI)::news₁) ->
     wpAny (model prog w) A (execs body env) (TEnd h₀ env.locals I oI (J (i+1)) {s with heap:=h,toks:=tk} Q) E {s with heap:=h,toks:=tk})
   (done:∀ h' tk m' news',Fr h₀ env.locals h' m'->News h₀ env.locals h' news'->J n m' news'->Q .next {s with heap:=h',toks:=tk}) :
   wpAny (model prog w) A (pyIter (.ref r)) (fun it s₂=>LoopAtV prog w A h₀ env x body Q E it s₂) E s:=by
 k_extra "s"
 refine wpAny_pyIter_range hr hsmall ?_
 have W:Walks prog w A s.heap.objs.size [s.heap.objs.size] [s.heap.objs.size] n (fun i v=>i<n∧∃ t,v = .int (a₀+i*1) t)
     (fun i h=>IsRangeIter h s.heap.objs.size (a₀+(i:Nat)*1) ((n:Int) - (i:Nat)) 1):=(Walks.range hh _ a₀ 1 n).bound
 refine iterW (s := {s with heap:=_}) J W (.head _) (fun i h st=>⟨_,st⟩) ?_ (next_is_new F) ?_ (by show IsRangeIter _ _ _ _ _;rw [hn];simpa using Heap.get?_push_size _ rfl) (F.push _) (fun p hp=>⟨Heap.get?_push_of_some _ (N p hp).1,(N p hp).2⟩) ?_ J0 ?_ ?_
 . intro hm
   exact absurd F.ns.lt ((mS hm) ▸ Nat.lt_irrefl _)
 . intro b hb
   exact .inl (mS hb)
 . intro p hp hI
   exact absurd (Heap.lt_size (N p hp).1) (hI ▸ Nat.lt_irrefl _)
 . rintro i v m₁ news₁ h tk oI hi ⟨_,t,rfl⟩ hJ hn F₁ N₁
   exact turn _ i t m₁ news₁ h tk oI hi hJ hn (by simpa using F₁) N₁
 . exact done
 k_extra "f"
end
section
variable {h₀ h':Heap} {L I:Addr} {oI:Obj} {Jn:(Str->Option Value)->List (Addr×Obj)->Prop} {s₁:Shared} {Q:Flow->Shared->Prop} {tk:Nat} {m':Str->Option Value} {news':List (Addr×Obj)}
theorem TEnd.intro (F:Fr h₀ L h' m') (N:News h₀ L h' ((I,oI)::news')) (hn:∀ p∈news',p.1≠I) (hJ:Jn m' news'):TEnd h₀ L I oI Jn s₁ Q .next {s₁ with heap:=h',toks:=tk}:=⟨_,_,_,_,rfl,F,N,hn,hJ⟩
theorem TEnd.cont (F:Fr h₀ L h' m') (N:News h₀ L h' ((I,oI)::news')) (hn:∀ p∈news',p.1≠I) (hJ:Jn m' news'):TEnd h₀ L I oI Jn s₁ Q .cont {s₁ with heap:=h',toks:=tk}:=⟨_,_,_,_,rfl,F,N,hn,hJ⟩
end
theorem foldl_take {f:Int->Int->Int} {a:Int} {l:List Int} {i:Nat} {d:Int} (h:l[i]?=some d):(l.take (i+1)).foldl f a=f ((l.take i).foldl f a) d:=by
 rw [List.take_succ,h];simp
theorem IntsAre.at':∀ {vs:List Value} {ds:List Int},IntsAre vs ds->∀ {i:Nat} {v:Value},vs[i]?=some v->∃ d t,ds[i]?=some d∧v = .int d t
 | _,_,.cons d t h,0,v,e=>by simp at e;subst e;exact ⟨d,t,rfl,rfl⟩
 | _,_,.cons _ _ h,i+1,v,e=>by simpa using IntsAre.at' h (by simpa using e)
 | _,_,.nil,i,v,e=>by simp at e
theorem StrsSnoc:∀ {vs:List Value} {ts:List Str} {x:Str} {t:Tok},StrsAre vs ts->StrsAre (vs++[.str x t]) (ts++[x])
 | _,_,x,t,.nil => .cons x t .nil
 | _,_,_,_,.cons y u h => .cons y u (StrsSnoc h)
theorem StrsLen:∀ {vs:List Value} {ts:List Str},StrsAre vs ts->vs.length=ts.length
 | _,_,.nil=>rfl
 | _,_,.cons y u h=>by simp [StrsLen h]
theorem more1 {b h h':Heap} {L r:Addr} {m:Str->Option Value} {news:List (Addr×Obj)} {o:Obj} (kb:KB [] h h') (g:h'.get? r=some o) (ne:h.get? r=none) (F:Fr b L h m) (N:News b L h news):News b L h' ((r,o)::news) :=
 News.more' (tl:=[(r,o)]) F (News.kb0 N kb) fun p hp=>by rw [mS hp];exact ⟨g,ne⟩
def AllNe (d:Nat):List (Addr×Obj)->Prop
 | []=>True
 | p::r=>@Ne Nat p.1 d∧AllNe d r
theorem allNe_of {b h:Heap} {L r:Addr} (ne:h.get? r=none) {news:List (Addr×Obj)} (N:News b L h news):AllNe r news:=by
 k_extra "s"
 induction news with
 | nil=>exact True.intro
 | cons p l ih =>
   refine And.intro (fun e=>?_) (ih fun q hq=>N q (.tail _ hq))
   have z:=(N p (.head _)).1
   rw [show p.1=r from e,ne] at z
   exact absurd z (by simp)
 k_extra "f"
theorem log_ok {a:Int} (h:a.natAbs≤100000):a.natAbs.log2<1920:=by
 by_cases h0:a.natAbs=0
 . rw [h0];decide
 . exact (Nat.log2_lt h0).mpr (Nat.lt_of_le_of_lt h (by decide))
end
section
open PySem PySem.W PyProof.Rows PySem.Calls PySem.Spec
section
variable {w:World} {A:Around} {E:Value->Shared->Prop} {s:Shared} {b h h':Heap} {L d:Addr} {m:Str->Option Value} {news:List (Addr×Obj)} {o:Obj} {kvs:List (Str×Value)}
theorem dcopy {Q:Value->Shared->Prop} (F:Fr b L s.heap m) (N:News b L s.heap news) (hT:b.NoLimit) (hb:b.get? d=some o) (hd:o.IsDictOf (PySem.strKind PG w) kvs) (lo:(d == sysModules)=false) (hsz:kvs.length≤100)
   (k:∀ d' h' o',Fr b L h' m->News b L h' ((d',o')::news)->AllNe d' news->(d' == sysModules)=false->o'.IsDictOf (PySem.strKind PG w) kvs->Q (.ref d') {s with heap:=h'}) :
   wpAny (model PG w) A (call (.type "dict") [.ref d]) Q E s:=by
 k_extra "s"
 refine kt_call_dict lo (Heap.dictOf_iff.mpr ⟨o,F.keep _ _ hb,hd⟩) (by rw [sizeLine_eq];omega) fun h' hm hs=>?_
 obtain ⟨o',ho',hd'⟩:=Heap.dictOf_iff.mp hm
 have N1:=News.push F N {cls := .type "dict",data := .dict #[]}
 exact k _ h' o' ((F.push _).change hs (N1 _ (.head _)).2.1 (N1.fresh (.head _))) (N1.setHead N.apart hs ho') (allNe_of (Heap.get?_none_of_le (Nat.le_refl _)) N) (F.notModules (modules_low hT)) hd'
 k_extra "f"
theorem more2 {u dx:Addr} {ou od:Obj} (kb:KB [] h h') (nu:h.get? u=none) (nd:h.get? dx=none) (gu:h'.get? u=some ou) (gd:h'.get? dx=some od) (F:Fr b L h m) (N:News b L h news) :
   Fr b L h' m∧News b L h' ((u,ou)::(dx,od)::news)∧AllNe u news∧AllNe dx news :=
 ⟨F.keeps kb.stays,News.more' (tl:=[(u,ou),(dx,od)]) F (News.kb0 N kb) fun p hp=>(by
   cases hp with
   | head=>exact ⟨gu,nu⟩
   | tail _ hp=>rw [mS hp];exact ⟨gd,nd⟩),allNe_of nu N,allNe_of nd N⟩
theorem dtruthy {Q:Bool->Shared->Prop} (N:News b L s.heap news) (hp:(d,o)∈news) (hd:o.IsDictOf (PySem.strKind PG w) kvs) (lo:(d == sysModules)=false) (hsz:kvs.length≤100) (h:Q (!kvs.isEmpty) {s with toks:=s.toks+1+1}) :
   wpAny (model PG w) A (truthy (.ref d)) Q E s:=by
 k_extra "s"
 refine wpAny_truthy_dict lo (kda_dict N hp hd) (by omega) ?_
 cases kvs with
 | nil=>exact h
 | cons p r=>exact h
 k_extra "f"
theorem dset {k:Str} {t:Tok} {v:Value} {g:Obj->List (Addr×Obj)} {Q:Unit->Shared->Prop} (F:Fr b L s.heap m) (N:News b L s.heap news) (U:UpdF d o news g) (hd:o.IsDictOf (PySem.strKind PG w) kvs) (hsz:kvs.length≤100)
   (h:∀ h' o',Fr b L h' m->News b L h' (g o')->o'.IsDictOf (PySem.strKind PG w) (stored kvs k v)->Q () {s with heap:=h',toks:=s.toks+1}):wpAny (model PG w) A (setItem (.ref d) (.str k t) v) Q E s :=
 kda_set F N U hd (strKind_is _ _ _ _) (by rw [sizeLine_eq];omega) h
end
section
variable {prog:Program} {w:World} {A:Around} {E:Value->Shared->Prop} {s:Shared} {env:Env} {h₀:Heap} {x:Str} {body:List Stmt} {Q:Flow->Shared->Prop}
theorem iterTup {l:Addr} {vs:List Value} {m₀:Str->Option Value} {news:List (Addr×Obj)} (J:Nat->(Str->Option Value)->List (Addr×Obj)->Prop)
   (hh:A.handled=none) (hls:s.heap.IsTuple l vs.toArray) (hlL:l≠env.locals) (hl:(∃ q,h₀.get? l=some q)∨∃ ob,∀ i m₁ news₁,J i m₁ news₁->(l,ob)∈news₁) (F:Fr h₀ env.locals s.heap m₀) (N:News h₀ env.locals s.heap news) (J0:J 0 m₀ news)
   (turn:∀ I i v m₁ news₁ h tk oI,vs[i]?=some v->J i m₁ news₁->(∀ p∈news₁,p.1≠I)->Fr h₀ env.locals h (fun y=>if y=x then some v else m₁ y)->News h₀ env.locals h ((I,oI)::news₁) ->
     wpAny (model prog w) A (execs body env) (TEnd h₀ env.locals I oI (J (i+1)) {s with heap:=h,toks:=tk} Q) E {s with heap:=h,toks:=tk})
   (done:∀ h' tk m' news',Fr h₀ env.locals h' m'->News h₀ env.locals h' news'->J vs.length m' news'->Q .next {s with heap:=h',toks:=tk}) :
   wpAny (model prog w) A (pyIter (.ref l)) (fun it s₂=>LoopAtV prog w A h₀ env x body Q E it s₂) E s:=by
 k_extra "s"
 obtain ⟨ol,hol,_⟩:=id hls
 have hlt:l<s.heap.objs.size:=Heap.lt_size hol
 refine wpAny_pyIter_tuple hls ?_
 have W:=Walks.tuple (prog:=prog) (w:=w) hh s.heap.objs.size l (Nat.ne_of_lt hlt) vs.toArray
 have hlen:vs.toArray.size=vs.length:=by simp
 rw [hlen] at W
 refine iterW (s := {s with heap:=_}) J W (.head _) (fun i h st=>by obtain ⟨⟨o,ho,_⟩,_⟩:=st;exact ⟨o,ho⟩) ?_ (next_is_new F) ?_ ⟨⟨_,Heap.get?_push_size _ rfl,rfl,rfl⟩,hls.at fun o e=>Heap.get?_push_of_some _ e⟩ (F.push _) (fun p hp=>⟨Heap.get?_push_of_some _ (N p hp).1,(N p hp).2⟩) ?_ J0 ?_ ?_
 . intro hm
   rcases mC hm with e | hm
   . exact absurd F.ns.lt (e ▸ Nat.lt_irrefl _)
   . exact hlL (mS hm).symm
 . intro b hb
   rcases mC hb with e | hm
   . exact .inl e
   . rw [mS hm];exact .inr hl
 . intro p hp hI
   exact absurd (Heap.lt_size (N p hp).1) (hI ▸ Nat.lt_irrefl _)
 . intro i v m₁ news₁ h tk oI hi hP hJ hn F₁ N₁
   exact turn _ i v m₁ news₁ h tk oI (by simpa using hP) hJ hn F₁ N₁
 . exact done
 k_extra "f"
end
theorem For_b {prog:Program} {w:World} {A:Around} {s:Shared} {env:Env} {b:Heap} {m:Str->Option Value} {E:Value->Shared->Prop} {Q:Flow->Shared->Prop} {x:Str} {px pos:Pos} {iter:Expr} {body:List Stmt} (_F:Fr b env.locals s.heap m) (hx:env.kindOf x=some .local)
   (hp:(env.scope.kind == .class || (env.scope.kind == .module && env.locals != env.globals))=false)
   (h:wpAny (model prog w) A (eval iter env) (fun xv s₁=>wpAny (model prog w) A (pyIter xv) (fun it s₂=>LoopAtV prog w A b env x body Q E it s₂) E s₁) E s)
   (hs:∀ x,foldedSetIterable iter env x=pure x:=by intro _;rfl)
   (hE:PassesOwn (model prog w) A env E:=by passes_own) :
   wpAny (model prog w) A (exec (.For (.Name x px) iter body [] pos) env) Q E s:=For_invV b hx hp h hs hE
theorem ItsM.ofInts {H:HM}:∀ {vs:List Value} {ds:List Int},IntsAre vs ds->ItsM H vs (ds.map PyData.int)
 | _,_,.nil => .nil
 | _,_,.cons d t h => .cons (.int d t) (ItsM.ofInts h)
abbrev H4 (B:Heap) (nw:List (Addr×Obj)):HM:=fun a o=>(a,o)∈nw∨B.get? a=some o
def Fresh (s h':Heap) (nw:List (Addr×Obj)):Prop:=∀ p∈nw,h'.get? p.1=some p.2∧s.get? p.1=none
theorem Fresh.nil {s h':Heap}:Fresh s h' []:=fun _ h=>nomatch h
theorem Fresh.cons {s h':Heap} {a:Addr} {o:Obj} {nw:List (Addr×Obj)} (g:h'.get? a=some o) (n:s.get? a=none) (F:Fresh s h' nw):Fresh s h' ((a,o)::nw):=fun p hp=>by
 rcases mC hp with rfl | hp
 . exact ⟨g,n⟩
 . exact F p hp
theorem nmem2 {a r dx:Nat} (h1:@Ne Nat r a) (h2:@Ne Nat dx a):a∉[r,dx]:=fun z=>by
 rcases mC z with z | z
 . exact h1 z.symm
 . exact h2 (mS z).symm
end
section
open PySem PySem.W PyProof.Rows PyProof.Rows.LCg PySem.Calls PySem.Spec
theorem strKind_inv {prog:Program} {w:World} {k:Str} {v:Value} (h:(PySem.strKind prog w).is k v=true):∃ t,v = .str k t:=Value.isStrOf_shape h
def DEnd (h₀:Heap) (L:Addr) (m:Str->Option Value) (s₁:Shared) (I:Addr) (oI:Obj) (C:Addr) (oC:Obj) (D:Addr) (oD:Obj) (rest:Value->Value->List (Addr×Obj)->Prop) (key y:Value) (s₂:Shared):Prop :=
 ∃ h' tk news',s₂ = {s₁ with heap:=h',toks:=tk}∧Fr h₀ L h' m∧News h₀ L h' ((I,oI)::(C,oC)::(D,oD)::news')∧Off3 I C D news'∧rest key y news'
section
variable {prog:Program} {w:World} {A:Around} {E:Value->Shared->Prop} {s:Shared} {h₀:Heap} {L:Addr} {m:Str->Option Value} {env:Env}
theorem dblock_U {kx vx iter:Expr} {x:Str} {px:Pos} {scope:Scope} {cl:List (Str×Addr)} {pos:Pos} {s₂:Shared} {I:Addr} {fp:List Addr} {n:Nat} {P:Nat->Value->Prop} {St:Nat->Heap->Prop} {news:List (Addr×Obj)}
   (J:Nat->List (Str×Value)->List (Addr×Obj)->Prop) {RR:Value->Addr->Result->Shared->Prop}
   (W:Walks prog w A I fp [I] n P St) (hsz:n≤sizeLine) (hIo:∀ i h,St i h->∃ o,h.get? I=some o)
   (hSt:∀ i h h' o nw,St i h->h.get? I=some o->h'.get? I=some o->(∀ b o,h₀.get? b=some o->h'.get? b=some o)->News h₀ L h' nw->(∃ kvs,J i kvs nw∨J (i - 1) kvs nw)->St i h')
   (hcell:∀ y∈scope.names,y.2 ≠ .cell) (hkind:scope.kind = .function) (hx:scope.names.lookup x=some .local) (hst:St 0 s₂.heap) (hfp:∀ b∈fp,b<s₂.heap.objs.size)
   (F:Fr h₀ L s₂.heap m) (N:News h₀ L s₂.heap news) (hIL:L≠I) (hI₀:h₀.get? I=none) (off:∀ p∈news,p.1≠I) (J0:J 0 [] news)
   (turn:∀ i v kvs news I oI oC oD C D m₂ h tk (E':Value->Shared->Prop),i<n->P i v->J i kvs news->NsObj oC m₂->m₂ x=some v->Fr h₀ L h m->News h₀ L h ((I,oI)::(C,oC)::(D,oD)::news)->Off3 I C D news->((@Ne Nat I C)∧(@Ne Nat I D)∧(@Ne Nat C D)) ->
     wpAny (model prog w) A (eval kx (compEnvC scope cl C env)) (fun key s₃=>wpAny (model prog w) A (eval vx (compEnvC scope cl C env)) (fun y s₄ =>
       DEnd h₀ L m {s₂ with heap:=h,toks:=tk} I oI C oC D oD (fun key y news'=>∃ k,(PySem.strKind prog w).is k key=true∧J (i+1) (stored kvs k y) news') key y s₄) E' s₃) E' {s₂ with heap:=h,toks:=tk})
   (hJl:∀ i kvs news,J i kvs news->kvs.length≤i)
   (hbig:h₀.NoLimit)
   (hRR:∀ D C h tk m' oD kvs news',(D == sysModules)=false->Fr h₀ L h m->News h₀ L h ((D,oD)::news')->oD.IsDictOf (PySem.strKind prog w) kvs->Off1 D news'->h.Ns C m'->h₀.get? C=none->h₀.get? D=none->C≠L->D≠L->C≠D->(∀ p∈news',p.1≠C)->J n kvs news'->RR (.ref D) C (.ok .next) {s₂ with heap:=h,toks:=tk}) :
   wpAny (model prog w) A newDict (fun acc s₃=>wpAny (model prog w) A (newFunctionEnv scope env.globals cl [] env.qual none .none (some env)) (fun cenv s₄ =>
     codeAny (model prog w) A (.compStart (.DictComp kx vx [⟨.Name x px,iter,[],0⟩] scope pos) 0 (.ref I) acc {cenv with scope:=relabel scope env}) (RR acc cenv.locals) s₄) E s₃) E s₂:=by
 k_extra "s"
 refine wpAny_newObj_type (wpAny_newFunctionEnv hcell (by intro y hy;simp at hy) (fun h₁ hns₁ hsb₁=>?_) hkind)
 dsimp only at hns₁ hsb₁ ⊢
 have hnew:(s₂.heap.push {cls := .type "dict",dict:=none,data := .dict #[]}).DictOf (PySem.strKind prog w) s₂.heap.objs.size []:=Heap.DictOf.new s₂.heap
 generalize hH2:s₂.heap.push {cls := .type "dict",dict:=none,data := .dict #[]}=H2 at hns₁ hsb₁ hnew ⊢
 have hC:H2.objs.size=s₂.heap.objs.size+1:=by rw [← hH2,Heap.size_push]
 have hDC:s₂.heap.objs.size≠H2.objs.size:=by rw [hC];exact Nat.ne_of_lt (Nat.lt_succ_self _)
 have below:∀ b,b<s₂.heap.objs.size->b≠H2.objs.size∧b≠s₂.heap.objs.size:=fun b hb=>⟨by rw [hC];exact Nat.ne_of_lt (Nat.lt_succ_of_lt hb),Nat.ne_of_lt hb⟩
 have hDf:s₂.heap.objs.size∉fp:=fun hm=>Nat.lt_irrefl _ (hfp _ hm)
 have hCf:H2.objs.size∉fp:=fun hm=>by have:=hfp _ hm;rw [hC] at this;exact Nat.lt_irrefl _ (Nat.lt_of_succ_lt this)
 have hIf:I∈fp:=W.sub I (List.mem_singleton.mpr rfl)
 have hIlt:I<s₂.heap.objs.size:=hfp I hIf
 have old:∀ b o,s₂.heap.get? b=some o->h₁.get? b=some o:=fun b o e=>hsb₁.extBut b o (below b (Heap.lt_size e)).1 (Heap.get?_push_of_some _ (hH2 ▸ Heap.get?_push_of_some _ e))
 have hacc:h₁.DictOf (PySem.strKind prog w) s₂.heap.objs.size []:=hnew.at fun o e=>hsb₁.extBut _ _ hDC (Heap.get?_push_of_some _ e)
 have hst₁:St 0 h₁:=W.frame _ _ _ hst fun b _ o e=>old b o e
 have fresh:∀ a,s₂.heap.objs.size≤a->s₂.heap.get? a=none:=fun a ha=>by
   cases e:s₂.heap.get? a with
   | none=>rfl
   | some o'=>exact absurd (Heap.lt_size e) (Nat.not_lt.mpr ha)
 have fresh₀:∀ a,s₂.heap.objs.size≤a->h₀.get? a=none:=fun a ha=>by
   cases e:h₀.get? a with
   | none=>rfl
   | some o'=>have:=F.keep a o' e;rw [fresh a ha] at this;cases this
 have hD₀:h₀.get? s₂.heap.objs.size=none:=fresh₀ _ (Nat.le_refl _)
 have hC₀:h₀.get? H2.objs.size=none:=fresh₀ _ (by rw [hC];exact Nat.le_succ _)
 have hLlt:L<s₂.heap.objs.size:=F.ns.lt
 have hDL:s₂.heap.objs.size≠L:=Ne.symm (below L hLlt).2
 have hCL:H2.objs.size≠L:=Ne.symm (below L hLlt).1
 have hCI:I≠H2.objs.size:=(below I hIlt).1
 have hDI:I≠s₂.heap.objs.size:=(below I hIlt).2
 have off₀:Off3 I H2.objs.size s₂.heap.objs.size news:=Off3.of fun p hp=>⟨off p hp,(below _ (Heap.lt_size (N p hp).1)).1,(below _ (Heap.lt_size (N p hp).1)).2⟩
 have loop:∀ s₃:Shared,s₃ = {s₂ with heap:=h₁,toks:=s₂.toks+([]:List (Str×Value)).length} ->
     codeAny (model prog w) A (.compLoop (.DictComp kx vx [⟨.Name x px,iter,[],0⟩] scope pos) 0 (.ref I) (.ref s₂.heap.objs.size) (compEnvC scope cl H2.objs.size env))
       (RR (.ref s₂.heap.objs.size) H2.objs.size) s₃:=by
   rintro s₃ rfl
   refine codeAny_compLoop_testsD
     (fun k s'=>∃ h' tk i kvs m' oD news',s' = {s₂ with heap:=h',toks:=tk}∧i≤n∧k=n+1 - i∧St i h'∧Fr h₀ L h' m∧h'.Ns H2.objs.size m'∧News h₀ L h' ((s₂.heap.objs.size,oD)::news')∧oD.IsDictOf (PySem.strKind prog w) kvs ∧
       Off3 I H2.objs.size s₂.heap.objs.size news'∧J i kvs news') ?_ (n+1)
     ?_
   . rintro k s' ⟨h',tk,i,kvs,m',oD,news',rfl,hi,rfl,hst',F',hn',N',hd',off',hJ'⟩
     by_cases hlt:i<n
     . refine W.item i _ _ _ hlt hst' fun v h₂ tk₂ hPv hst₂ hk₂=>?_
       refine wpAny_assign_Name (wpAny_storeName_local (lookup_relabel_local hx) (hn'.at' fun o e=>hk₂ _ o (by simpa using Ne.symm hCI) e) (fun h₃ hn₃ hs₃=>?_) (by simp [compEnvC,relabel,hkind]))
       refine wpAny_tests_nil ?_
       simp only [if_true]
       have hst₃:St (i+1) h₃:=W.frame _ _ _ hst₂ fun b hb o e=>hs₃.extBut b o (fun q=>hCf (by have q':b=H2.objs.size:=q;rw [← q'];exact hb)) e
       obtain ⟨oI,heI⟩:=hIo _ _ hst₃
       obtain ⟨oC,heC,hoC⟩:=ns_obj hn₃
       have F₃:Fr h₀ L h₃ m:=(fr_but F' hk₂ hIL hI₀).change hs₃ hCL hC₀
       have off3:=off'.mem
       have N₂:News h₀ L h₂ ((s₂.heap.objs.size,oD)::news'):=news_but N' hk₂ fun p hp=>by
         rcases mC hp with rfl | hp
         . exact Ne.symm hDI
         . exact (off3 p hp).1
       have N₃:News h₀ L h₃ ((I,oI)::(H2.objs.size,oC)::(s₂.heap.objs.size,oD)::news'):=fun p hp=>by
         rcases mC hp with rfl | hp
         . exact ⟨heI,Ne.symm hIL,hI₀⟩
         . rcases mC hp with rfl | hp
           . exact ⟨heC,hCL,hC₀⟩
           . have z:=N₂ p hp
             refine ⟨hs₃.extBut _ _ ?_ z.1,z.2⟩
             rcases mC hp with rfl | hp
             . exact hDC
             . exact (off3 p hp).2.1
       refine wpAny_mono (turn i v kvs news' I oI oC oD H2.objs.size s₂.heap.objs.size _ h₃ _ _ hlt hPv hJ' hoC (by simp) F₃ N₃ off' ⟨hCI,hDI,Ne.symm hDC⟩) (fun key s₄ h₄=>?_) fun _ _ e=>e
       refine wpAny_mono h₄ (fun y s₅ h₅=>?_) fun _ _ e=>e
       obtain ⟨h₅,tk₅,news₄,rfl,F₄,N₄,off₄,kk,hkk,hJ₄⟩:=h₅
       have zI:=(N₄ (I,oI) List.mem_cons_self).1
       have zC:=(N₄ (H2.objs.size,oC) (List.mem_cons_of_mem _ List.mem_cons_self)).1
       have zD:=(N₄ (s₂.heap.objs.size,oD) (List.mem_cons_of_mem _ (List.mem_cons_of_mem _ List.mem_cons_self))).1
       have N₄':News h₀ L h₅ news₄:=fun p hp=>N₄ p (List.mem_cons_of_mem _ (List.mem_cons_of_mem _ (List.mem_cons_of_mem _ hp)))
       have hst₄:St (i+1) h₅:=hSt _ _ _ _ _ hst₃ heI zI F₄.keep N₄' ⟨_,.inl hJ₄⟩
       have hkl:=hJl _ _ _ hJ'
       refine wpAny_dictSet_pairs (hsz:=by omega) hkk (Heap.dictOf_iff.mpr ⟨oD,zD,hd'⟩) fun h₆ hl₆ hs₆=>?_
       obtain ⟨oD',hD₆,hd₆⟩:=Heap.dictOf_iff.mp hl₆
       have off4:=off₄.mem
       refine ⟨n+1 - (i+1),by omega,h₆,_,i+1,_,_,oD',news₄,rfl,hlt,rfl,W.frame _ _ _ hst₄ fun b hb o e=>hs₆.extBut b o (fun q=>hDf (q ▸ hb)) e,F₄.change hs₆ hDL hD₀,
         (hoC.ns zC).sameBut hs₆ (Ne.symm hDC),fun p hp=>?_,hd₆,off₄,hJ₄⟩
       rcases mC hp with rfl | hp
       . exact ⟨hD₆,hDL,hD₀⟩
       . exact ⟨hs₆.extBut _ _ (off4 p hp).2.2 (N₄' p hp).1,(N₄' p hp).2⟩
     . obtain rfl:i=n:=Nat.le_antisymm hi (Nat.not_lt.mp hlt)
       refine W.done _ _ _ hst' fun h₂ tk₂ hk₂=>?_
       have off3:=off'.mem
       exact hRR _ _ h₂ tk₂ _ oD kvs news' (F.notModules (modules_low hbig)) (fr_but F' hk₂ hIL hI₀) (news_but N' hk₂ fun p hp=>by
         rcases mC hp with rfl | hp
         . exact Ne.symm hDI
         . exact (off3 p hp).1) hd' off'.one (hn'.at' fun o e=>hk₂ _ o (by simpa using Ne.symm hCI) e) hC₀ hD₀ hCL hDL (Ne.symm hDC) (fun p hp=>(off3 p hp).2.1) hJ'
   . obtain ⟨oD,hoD,hd0⟩:=Heap.dictOf_iff.mp hacc
     refine ⟨h₁,_,0,[],_,oD,news,rfl,Nat.zero_le _,rfl,hst₁,F.keeps old,hns₁,fun p hp=>?_,hd0,off₀,J0⟩
     rcases mC hp with rfl | hp
     . exact ⟨hoD,hDL,hD₀⟩
     . exact ⟨old _ _ (N p hp).1,(N p hp).2⟩
 exact codeAny_compStart_dict (loop _ rfl) (W.self 0 _ _ _ hst₁ (loop _ rfl))
 k_extra "f"
def DSrc (prog:Program) (w:World) (A:Around) (h₀:Heap) (L:Addr) (m:Str->Option Value) (env:Env) (kx vx:Expr) (x:Str) (scope:Scope) (cl:List (Str×Addr)) (J:Nat->List (Str×Value)->List (Addr×Obj)->Prop) (Q:Value->Shared->Prop) (xv:Value) (s₁:Shared):Prop :=
 ∃ d o kvs news,xv = .ref d∧A.handled=none∧Fr h₀ L s₁.heap m∧News h₀ L s₁.heap news∧h₀.get? d=some o∧o.IsDictOf (PySem.strKind prog w) kvs∧(d == sysModules)=false∧kvs.length≤100∧J 0 [] news ∧
     (∀ i out news,J i out news->out.length≤i) ∧
     (∀ s₂:Shared,(∃ g,s₂ = {s₁ with heap:=g})->∀ i k v0 t out news I oI oC oD C D m₂ h tk (E':Value->Shared->Prop),kvs[i]?=some (k,v0)->J i out news->NsObj oC m₂->m₂ x=some (.str k t)->Fr h₀ L h m->News h₀ L h ((I,oI)::(C,oC)::(D,oD)::news)->Off3 I C D news->((@Ne Nat I C)∧(@Ne Nat I D)∧(@Ne Nat C D)) ->
       wpAny (model prog w) A (eval kx (compEnvC scope cl C env)) (fun key s₃=>wpAny (model prog w) A (eval vx (compEnvC scope cl C env)) (fun y s₄ =>
         DEnd h₀ L m {s₂ with heap:=h,toks:=tk} I oI C oC D oD (fun key y news'=>∃ k,(PySem.strKind prog w).is k key=true∧J (i+1) (stored out k y) news') key y s₄) E' s₃) E' {s₂ with heap:=h,toks:=tk}) ∧
     (∀ D h tk oD out news',(D == sysModules)=false->Fr h₀ L h m->News h₀ L h ((D,oD)::news')->oD.IsDictOf (PySem.strKind prog w) out->Off1 D news'->J kvs.length out news'->Q (.ref D) {s₁ with heap:=h,toks:=tk})
theorem DictComp_K (hbig:h₀.NoLimit) {kx vx iter:Expr} {x:Str} {px:Pos} {scope:Scope} {cl:List (Str×Addr)} {pos:Pos} {Q:Value->Shared->Prop}
   (J:Nat->List (Str×Value)->List (Addr×Obj)->Prop)
   (hclos:closureFor scope env=pure cl) (hcell:∀ y∈scope.names,y.2 ≠ .cell) (hkind:scope.kind = .function)
   (hnames:∀ y∈scope.names,y.2 = .local->scope.names.lookup y.1=some .local) (hx:scope.names.lookup x=some .local)
   (h:wpAny (model prog w) A (eval iter env) (DSrc prog w A h₀ L m env kx vx x scope cl J Q) E s)
   (hs:∀ x,foldedSetIterable iter env x=pure x:=by intro _;rfl) :
   wpAny (model prog w) A (eval (.DictComp kx vx [⟨.Name x px,iter,[],0⟩] scope pos) env) Q E s:=by
 k_extra "s"
 rw [arm_eval_DictComp]
 refine wpAny_comprehension_free (use:=none) rfl hs hclos hkind hnames (wpAny_mono h (fun xv s₁ h₁=>?_) fun _ _ e=>e)
 obtain ⟨d,o,kvs,news,rfl,hh,F,N,hd,hod,lo,hsz,J0,hJl,turn,fin⟩:=h₁
 have hd1:=F.keep _ _ hd
 obtain ⟨ep,hat⟩:=(Heap.dictOf_iff.mpr ⟨o,hd1,hod⟩:s₁.heap.DictOf (PySem.strKind prog w) d kvs).dictAt
 have hlt:d<s₁.heap.objs.size:=Heap.lt_size hd1
 refine wpAny_pyIter_dict lo hat ?_
 have up:∀ b o,s₁.heap.get? b=some o->(s₁.heap.push {cls := .type "dict_keyiterator",data := .fields #[.ref d,.int 0 0,.int kvs.length 0,.int ep 0]}).get? b=some o:=fun b o e=>Heap.get?_push_of_some _ e
 have hatb:∀ h':Heap,(∀ b o,h₀.get? b=some o->h'.get? b=some o)->h'.DictAt (PySem.strKind prog w) d kvs ep:=fun h' k=>by
   obtain ⟨o1,es,ho1,r⟩:=hat
   rw [hd1] at ho1;cases ho1
   exact ⟨o,es,k _ _ hd,r⟩
 refine dblock_U J (Walks.dictKeys (knd:=PySem.strKind prog w) hh s₁.heap.objs.size d (Nat.ne_of_lt hlt) kvs ep) (by rw [sizeLine_eq];omega) (fun i h st=>by obtain ⟨o,e,_⟩:=st.1;exact ⟨o,e⟩)
   (fun i h h' oI nw st e e' k N' _=>⟨by obtain ⟨o',q,r⟩:=st.1;rw [e] at q;cases q;exact ⟨oI,e',r⟩,hatb h' k⟩) hcell hkind hx ⟨⟨_,Heap.get?_push_size _ rfl,rfl,rfl⟩,hat.at' fun o e=>up _ _ e⟩ (fun b hb=>?_)
   (F.keeps up) (N.grown up) (Nat.ne_of_lt F.ns.lt) (next_is_new F) (fun p hp=>Nat.ne_of_lt (Heap.lt_size (N p hp).1)) J0 ?_ hJl hbig ?_
 . show b<(s₁.heap.push _).objs.size
   rw [Heap.size_push]
   rcases mC hb with rfl | hb
   . exact Nat.lt_succ_self _
   . rw [mS hb];exact Nat.lt_succ_of_lt hlt
 . intro i v out news' I oI oC oD C D m₂ h tk E' hi hP hJ hoC hm F' N' o3 ne
   obtain ⟨k,x0,hk,hv⟩:=hP
   obtain ⟨t,rfl⟩:=strKind_inv hv
   exact turn {s₁ with heap:=_} ⟨_,rfl⟩ i k x0 t out news' I oI oC oD C D m₂ h tk E' hk hJ hoC hm F' N' o3 ne
 . intro D C h tk m' oD out news' hlo F' N' hdo o1 hn hC₀ hD₀ hCL hDL hCD offC hJ
   refine ⟨m',hn,fun h'' hs''=>fin D h'' tk oD out news' hlo (F'.change hs'' hCL hC₀) (fun p hp=>?_) hdo o1 hJ⟩
   refine ⟨hs''.extBut _ _ ?_ (N' p hp).1,(N' p hp).2⟩
   rcases mC hp with rfl | hp
   . exact Ne.symm hCD
   . exact offC p hp
 k_extra "f"
end
end
section
open PySem PySem.W PyProof.Rows PyProof.Rows.LCg PySem.Calls PySem.Spec
section
variable {prog:Program} {w:World} {A:Around} {E:Value->Shared->Prop} {s:Shared} {env:Env} {h₀:Heap} {x:Str} {body:List Stmt} {Q:Flow->Shared->Prop}
theorem iterDict {d:Addr} {o:Obj} {kvs:List (Str×Value)} {m₀:Str->Option Value} {news:List (Addr×Obj)} (J:Nat->(Str->Option Value)->List (Addr×Obj)->Prop)
   (hh:A.handled=none) (lo:(d == sysModules)=false) (hd:s.heap.get? d=some o) (hod:o.IsDictOf (PySem.strKind prog w) kvs) (hdL:d≠env.locals) (hl:(∃ q,h₀.get? d=some q)∨∃ ob,∀ i m₁ news₁,J i m₁ news₁->(d,ob)∈news₁) (F:Fr h₀ env.locals s.heap m₀) (N:News h₀ env.locals s.heap news) (J0:J 0 m₀ news)
   (turn:∀ I i k v0 t m₁ news₁ h tk oI,kvs[i]?=some (k,v0)->J i m₁ news₁->(∀ p∈news₁,p.1≠I)->Fr h₀ env.locals h (fun y=>if y=x then some (.str k t) else m₁ y)->News h₀ env.locals h ((I,oI)::news₁) ->
     wpAny (model prog w) A (execs body env) (TEnd h₀ env.locals I oI (J (i+1)) {s with heap:=h,toks:=tk} Q) E {s with heap:=h,toks:=tk})
   (done:∀ h' tk m' news',Fr h₀ env.locals h' m'->News h₀ env.locals h' news'->J kvs.length m' news'->Q .next {s with heap:=h',toks:=tk}) :
   wpAny (model prog w) A (pyIter (.ref d)) (fun it s₂=>LoopAtV prog w A h₀ env x body Q E it s₂) E s:=by
 k_extra "s"
 obtain ⟨ep,hat⟩:=(Heap.dictOf_iff.mpr ⟨o,hd,hod⟩:s.heap.DictOf (PySem.strKind prog w) d kvs).dictAt
 have hlt:d<s.heap.objs.size:=Heap.lt_size hd
 refine wpAny_pyIter_dict lo hat ?_
 have W:=Walks.dictKeys (knd:=PySem.strKind prog w) hh s.heap.objs.size d (Nat.ne_of_lt hlt) kvs ep
 refine iterW (s := {s with heap:=_}) J W (.head _) (fun i h st=>by obtain ⟨⟨o,ho,_⟩,_⟩:=st;exact ⟨o,ho⟩) ?_ (next_is_new F) ?_ ⟨⟨_,Heap.get?_push_size _ rfl,rfl,rfl⟩,hat.at' fun o e=>Heap.get?_push_of_some _ e⟩ (F.push _) (fun p hp=>⟨Heap.get?_push_of_some _ (N p hp).1,(N p hp).2⟩) ?_ J0 ?_ ?_
 . intro hm
   rcases mC hm with e | hm
   . exact absurd F.ns.lt (e ▸ Nat.lt_irrefl _)
   . exact hdL (mS hm).symm
 . intro b hb
   rcases mC hb with e | hm
   . exact .inl e
   . rw [mS hm];exact .inr hl
 . intro p hp hI
   exact absurd (Heap.lt_size (N p hp).1) (hI ▸ Nat.lt_irrefl _)
 . intro i v m₁ news₁ h tk oI hi hP hJ hn F₁ N₁
   obtain ⟨k,x0,hk,hv⟩:=hP
   obtain ⟨t,rfl⟩:=strKind_inv hv
   exact turn _ i k x0 t m₁ news₁ h tk oI hk hJ hn F₁ N₁
 . exact done
 k_extra "f"
end
section
variable {prog:Program} {w:World} {A:Around} {E:Value->Shared->Prop} {s:Shared} {env:Env} {h₀:Heap} {target:Expr} {body:List Stmt} {Q:Flow->Shared->Prop}
def TurnsB (prog:Program) (w:World) (A:Around) (h₀:Heap) (env:Env) (target:Expr) (body:List Stmt) (Q:Flow->Shared->Prop) (E:Value->Shared->Prop) (it:Value) (s₂:Shared):Prop:=TurnsAt prog w A h₀ env target body Q E it s₂
theorem For_t {b:Heap} {m:Str->Option Value} {iter:Expr} {pos:Pos} (F:Fr b env.locals s.heap m)
   (h:wpAny (model prog w) A (eval iter env) (fun xv s₁=>wpAny (model prog w) A (pyIter xv) (fun it s₂=>TurnsB prog w A b env target body Q E it s₂) E s₁) E s)
   (hs:∀ x,foldedSetIterable iter env x=pure x:=by intro _;rfl)
   (hE:PassesOwn (model prog w) A env E:=by passes_own) :
   wpAny (model prog w) A (exec (.For target iter body [] pos) env) Q E s:=For_turns F h hs hE
theorem iterWT {I:Addr} {fp:List Addr} {n:Nat} {P Md:Nat->Value->Heap->Prop} {St:Nat->Heap->Prop} {m₀:Str->Option Value} {news:List (Addr×Obj)} (J:Nat->(Str->Option Value)->List (Addr×Obj)->Prop)
   (W:KTurns prog w A target I fp [I] n P Md St) (hIf:I∈fp) (hob:∀ i h,St i h->∃ o,h.get? I=some o) (hLf:env.locals∉fp) (hI0:h₀.get? I=none)
   (hfp:∀ b∈fp,b=I∨(∃ q,h₀.get? b=some q)∨∃ ob,∀ i m₁ news₁,J i m₁ news₁->(b,ob)∈news₁)
   (hst:St 0 s.heap) (F:Fr h₀ env.locals s.heap m₀) (N:News h₀ env.locals s.heap news) (hnw:∀ p∈news,p.1≠I) (J0:J 0 m₀ news)
   (turn:∀ i v m₁ news₁ h tk oI,i<n->P i v h->J i m₁ news₁->(∀ p∈news₁,p.1≠I)->Fr h₀ env.locals h m₁->News h₀ env.locals h ((I,oI)::news₁) ->
     wpAny (model prog w) A (assign target env v) (fun _ s₃=>wpAny (model prog w) A (execs body env) (TEnd h₀ env.locals I oI (J (i+1)) {s with heap:=h,toks:=tk} Q) E s₃) E {s with heap:=h,toks:=tk})
   (done:∀ h' tk m' news',Fr h₀ env.locals h' m'->News h₀ env.locals h' news'->J n m' news'->Q .next {s with heap:=h',toks:=tk}) :
   TurnsB prog w A h₀ env target body Q E (.ref I) s:=by
 k_extra "s"
 refine ⟨I,fp,[I],n,P,Md,St,m₀,news,J,rfl,W,hLf,fun b hb=>by rw [mS hb];exact hI0,fun p hp hI=>hnw p hp (mS hI),hst,F,N,J0,?_,fun h' tk m' news' F' N' _ hJ=>done h' tk m' news' F' N' hJ⟩
 intro i v m₁ news₁ hh' tk' own hin hP hJ hoff hown hown2 hall hst' F₁ N₁
 obtain ⟨o,ho⟩:=hob _ _ hst'
 have hio:(I,o)∈own:=hall I hIf hI0 o ho
 have hne:∀ p∈news₁,p.1≠I:=fun p hp q=>hoff p hp (List.mem_singleton.mpr q)
 refine wpAny_mono (turn i v m₁ news₁ hh' tk' o hin hP hJ hne F₁ (news_one hio N₁)) (fun _ s₃ h₃=>wpAny_mono h₃ (fun f s₂ p=>?_) fun _ _ e=>e) fun _ _ e=>e
 have fin:(∃ h' tk m' news',s₂ = {({s with heap:=hh',toks:=tk'}:Shared) with heap:=h',toks:=tk}∧Fr h₀ env.locals h' m'∧News h₀ env.locals h' ((I,o)::news')∧(∀ p∈news',p.1≠I)∧J (i+1) m' news') ->
     LoopStepU h₀ env.locals [I] own (J (i+1)) {s with heap:=hh',toks:=tk'} .next s₂:=by
   rintro ⟨h',tk,m',news',e,F',N',hn,hJ'⟩
   refine ⟨rfl,h',tk,m',news',e,F',fun p hp=>?_,fun p hp q=>hn p hp (mS q),hJ'⟩
   rcases List.mem_append.mp hp with hp | hp
   . have a1:=N₁ p (List.mem_append_left _ hp)
     rcases hfp _ (hown p hp) with q | ⟨q,hq⟩ | ⟨ob,hob'⟩
     . have e1:p=(I,o):=Prod.ext q (by have:=a1.1;rw [q,ho] at this;exact (Option.some.inj this).symm)
       rw [e1];exact N' _ (.head _)
     . rw [a1.2.2] at hq;cases hq
     . have b1:=N₁ _ (List.mem_append_right _ (hob' _ _ _ hJ))
       have e1:p=(p.1,ob):=Prod.ext rfl (by have:=a1.1;rw [b1.1] at this;exact (Option.some.inj this).symm)
       rw [e1];exact N' _ (List.mem_cons_of_mem _ (hob' _ _ _ hJ'))
   . exact N' p (List.mem_cons_of_mem _ hp)
 cases f with
 | ret v=>exact .ret p
 | brk=>exact .brk p
 | next=>exact .next (fin p)
 | cont=>exact .cont (fin p)
 k_extra "f"
theorem iterListT {l:Addr} {vs:List Value} {m₀:Str->Option Value} {news:List (Addr×Obj)} (J:Nat->(Str->Option Value)->List (Addr×Obj)->Prop)
   (hh:A.handled=none) (hls:s.heap.IsList l vs.toArray) (hlL:l≠env.locals) (hl:(∃ q,h₀.get? l=some q)∨∃ ob,∀ i m₁ news₁,J i m₁ news₁->(l,ob)∈news₁) (F:Fr h₀ env.locals s.heap m₀) (N:News h₀ env.locals s.heap news) (J0:J 0 m₀ news)
   (turn:∀ I i v m₁ news₁ h tk oI,vs[i]?=some v->J i m₁ news₁->(∀ p∈news₁,p.1≠I)->Fr h₀ env.locals h m₁->News h₀ env.locals h ((I,oI)::news₁) ->
     wpAny (model prog w) A (assign target env v) (fun _ s₃=>wpAny (model prog w) A (execs body env) (TEnd h₀ env.locals I oI (J (i+1)) {s with heap:=h,toks:=tk} Q) E s₃) E {s with heap:=h,toks:=tk})
   (done:∀ h' tk m' news',Fr h₀ env.locals h' m'->News h₀ env.locals h' news'->J vs.length m' news'->Q .next {s with heap:=h',toks:=tk}) :
   wpAny (model prog w) A (pyIter (.ref l)) (fun it s₂=>TurnsB prog w A h₀ env target body Q E it s₂) E s:=by
 k_extra "s"
 obtain ⟨ol,hol,_⟩:=id hls
 have hlt:l<s.heap.objs.size:=Heap.lt_size hol
 refine wpAny_pyIter_list hls ?_
 have W:=KTurns.ofWalks (target:=target) (Walks.list (prog:=prog) (w:=w) hh s.heap.objs.size l (Nat.ne_of_lt hlt) vs.toArray) fun i v s Q E st q=>letGo_listiter st.1 q
 have hlen:vs.toArray.size=vs.length:=by simp
 rw [hlen] at W
 refine iterWT (s := {s with heap:=_}) J W (.head _) (fun i h st=>by obtain ⟨⟨o,ho,_⟩,_⟩:=st;exact ⟨o,ho⟩) ?_ (next_is_new F) ?_ ⟨⟨_,Heap.get?_push_size _ rfl,rfl,rfl⟩,hls.at fun o e=>Heap.get?_push_of_some _ e⟩ (F.push _) (fun p hp=>⟨Heap.get?_push_of_some _ (N p hp).1,(N p hp).2⟩) ?_ J0 ?_ ?_
 . intro hm
   rcases mC hm with e | hm
   . exact absurd F.ns.lt (e ▸ Nat.lt_irrefl _)
   . exact hlL (mS hm).symm
 . intro b hb
   rcases mC hb with e | hm
   . exact .inl e
   . rw [mS hm];exact .inr hl
 . intro p hp hI
   exact absurd (Heap.lt_size (N p hp).1) (hI ▸ Nat.lt_irrefl _)
 . intro i v m₁ news₁ h tk oI hi hP hJ hn F₁ N₁
   exact turn _ i v m₁ news₁ h tk oI (by simpa using hP) hJ hn F₁ N₁
 . exact done
 k_extra "f"
end
end
section
open PySem PySem.W PyProof.Rows PySem.Calls
section
open PyProof.Rows.LCg
variable {prog:Program} {w:World} {A:Around} {E:Value->Shared->Prop} {s:Shared} {h₀:Heap} {L:Addr} {m:Str->Option Value} {env:Env}
theorem dblock_T {ct kx vx iter:Expr} {x:Str} {px:Pos} {scope:Scope} {cl:List (Str×Addr)} {pos:Pos} {s₂:Shared} {I:Addr} {fp:List Addr} {n:Nat} {P:Nat->Value->Prop} {St:Nat->Heap->Prop} {news:List (Addr×Obj)}
   (J:Nat->List (Str×Value)->List (Addr×Obj)->Prop) {RR:Value->Addr->Result->Shared->Prop}
   (W:Walks prog w A I fp [I] n P St) (hsz:n≤sizeLine) (hIo:∀ i h,St i h->∃ o,h.get? I=some o)
   (hSt:∀ i h h' o nw,St i h->h.get? I=some o->h'.get? I=some o->(∀ b o,h₀.get? b=some o->h'.get? b=some o)->News h₀ L h' nw->(∃ kvs,J i kvs nw∨J (i - 1) kvs nw)->St i h')
   (hcell:∀ y∈scope.names,y.2 ≠ .cell) (hkind:scope.kind = .function) (hx:scope.names.lookup x=some .local) (hst:St 0 s₂.heap) (hfp:∀ b∈fp,b<s₂.heap.objs.size)
   (F:Fr h₀ L s₂.heap m) (N:News h₀ L s₂.heap news) (hIL:L≠I) (hI₀:h₀.get? I=none) (off:∀ p∈news,p.1≠I) (J0:J 0 [] news)
   (turn:∀ i v kvs news I oI oC oD C D m₂ h tk (E':Value->Shared->Prop),i<n->P i v->J i kvs news->NsObj oC m₂->m₂ x=some v->Fr h₀ L h m->News h₀ L h ((I,oI)::(C,oC)::(D,oD)::news)->Off3 I C D news->((@Ne Nat I C)∧(@Ne Nat I D)∧(@Ne Nat C D)) ->
     wpAny (model prog w) A (isTrue ct (compEnvC scope cl C env) (eval ct (compEnvC scope cl C env))) (fun ok s'=>if ok=true then
       wpAny (model prog w) A (eval kx (compEnvC scope cl C env)) (fun key s₃=>wpAny (model prog w) A (eval vx (compEnvC scope cl C env)) (fun y s₄ =>
       DEnd h₀ L m {s₂ with heap:=h,toks:=tk} I oI C oC D oD (fun key y news'=>∃ k,(PySem.strKind prog w).is k key=true∧J (i+1) (stored kvs k y) news') key y s₄) E' s₃) E' s'
       else DEnd h₀ L m {s₂ with heap:=h,toks:=tk} I oI C oC D oD (fun _ _ news'=>J (i+1) kvs news') Value.none Value.none s') E' {s₂ with heap:=h,toks:=tk})
   (hJl:∀ i kvs news,J i kvs news->kvs.length≤i)
   (hbig:h₀.NoLimit)
   (hRR:∀ D C h tk m' oD kvs news',(D == sysModules)=false->Fr h₀ L h m->News h₀ L h ((D,oD)::news')->oD.IsDictOf (PySem.strKind prog w) kvs->Off1 D news'->h.Ns C m'->h₀.get? C=none->h₀.get? D=none->C≠L->D≠L->C≠D->(∀ p∈news',p.1≠C)->J n kvs news'->RR (.ref D) C (.ok .next) {s₂ with heap:=h,toks:=tk}) :
   wpAny (model prog w) A newDict (fun acc s₃=>wpAny (model prog w) A (newFunctionEnv scope env.globals cl [] env.qual none .none (some env)) (fun cenv s₄ =>
     codeAny (model prog w) A (.compStart (.DictComp kx vx [⟨.Name x px,iter,[ct],0⟩] scope pos) 0 (.ref I) acc {cenv with scope:=relabel scope env}) (RR acc cenv.locals) s₄) E s₃) E s₂:=by
 k_extra "s"
 refine wpAny_newObj_type (wpAny_newFunctionEnv hcell (by intro y hy;simp at hy) (fun h₁ hns₁ hsb₁=>?_) hkind)
 dsimp only at hns₁ hsb₁ ⊢
 have hnew:(s₂.heap.push {cls := .type "dict",dict:=none,data := .dict #[]}).DictOf (PySem.strKind prog w) s₂.heap.objs.size []:=Heap.DictOf.new s₂.heap
 generalize hH2:s₂.heap.push {cls := .type "dict",dict:=none,data := .dict #[]}=H2 at hns₁ hsb₁ hnew ⊢
 have hC:H2.objs.size=s₂.heap.objs.size+1:=by rw [← hH2,Heap.size_push]
 have hDC:s₂.heap.objs.size≠H2.objs.size:=by rw [hC];exact Nat.ne_of_lt (Nat.lt_succ_self _)
 have below:∀ b,b<s₂.heap.objs.size->b≠H2.objs.size∧b≠s₂.heap.objs.size:=fun b hb=>⟨by rw [hC];exact Nat.ne_of_lt (Nat.lt_succ_of_lt hb),Nat.ne_of_lt hb⟩
 have hDf:s₂.heap.objs.size∉fp:=fun hm=>Nat.lt_irrefl _ (hfp _ hm)
 have hCf:H2.objs.size∉fp:=fun hm=>by have:=hfp _ hm;rw [hC] at this;exact Nat.lt_irrefl _ (Nat.lt_of_succ_lt this)
 have hIf:I∈fp:=W.sub I (List.mem_singleton.mpr rfl)
 have hIlt:I<s₂.heap.objs.size:=hfp I hIf
 have old:∀ b o,s₂.heap.get? b=some o->h₁.get? b=some o:=fun b o e=>hsb₁.extBut b o (below b (Heap.lt_size e)).1 (Heap.get?_push_of_some _ (hH2 ▸ Heap.get?_push_of_some _ e))
 have hacc:h₁.DictOf (PySem.strKind prog w) s₂.heap.objs.size []:=hnew.at fun o e=>hsb₁.extBut _ _ hDC (Heap.get?_push_of_some _ e)
 have hst₁:St 0 h₁:=W.frame _ _ _ hst fun b _ o e=>old b o e
 have fresh:∀ a,s₂.heap.objs.size≤a->s₂.heap.get? a=none:=fun a ha=>by
   cases e:s₂.heap.get? a with
   | none=>rfl
   | some o'=>exact absurd (Heap.lt_size e) (Nat.not_lt.mpr ha)
 have fresh₀:∀ a,s₂.heap.objs.size≤a->h₀.get? a=none:=fun a ha=>by
   cases e:h₀.get? a with
   | none=>rfl
   | some o'=>have:=F.keep a o' e;rw [fresh a ha] at this;cases this
 have hD₀:h₀.get? s₂.heap.objs.size=none:=fresh₀ _ (Nat.le_refl _)
 have hC₀:h₀.get? H2.objs.size=none:=fresh₀ _ (by rw [hC];exact Nat.le_succ _)
 have hLlt:L<s₂.heap.objs.size:=F.ns.lt
 have hDL:s₂.heap.objs.size≠L:=Ne.symm (below L hLlt).2
 have hCL:H2.objs.size≠L:=Ne.symm (below L hLlt).1
 have hCI:I≠H2.objs.size:=(below I hIlt).1
 have hDI:I≠s₂.heap.objs.size:=(below I hIlt).2
 have off₀:Off3 I H2.objs.size s₂.heap.objs.size news:=Off3.of fun p hp=>⟨off p hp,(below _ (Heap.lt_size (N p hp).1)).1,(below _ (Heap.lt_size (N p hp).1)).2⟩
 have loop:∀ s₃:Shared,s₃ = {s₂ with heap:=h₁,toks:=s₂.toks+([]:List (Str×Value)).length} ->
     codeAny (model prog w) A (.compLoop (.DictComp kx vx [⟨.Name x px,iter,[ct],0⟩] scope pos) 0 (.ref I) (.ref s₂.heap.objs.size) (compEnvC scope cl H2.objs.size env))
       (RR (.ref s₂.heap.objs.size) H2.objs.size) s₃:=by
   rintro s₃ rfl
   refine codeAny_compLoop_testsD
     (fun k s'=>∃ h' tk i kvs m' oD news',s' = {s₂ with heap:=h',toks:=tk}∧i≤n∧k=n+1 - i∧St i h'∧Fr h₀ L h' m∧h'.Ns H2.objs.size m'∧News h₀ L h' ((s₂.heap.objs.size,oD)::news')∧oD.IsDictOf (PySem.strKind prog w) kvs ∧
       Off3 I H2.objs.size s₂.heap.objs.size news'∧J i kvs news') ?_ (n+1)
     ?_
   . rintro k s' ⟨h',tk,i,kvs,m',oD,news',rfl,hi,rfl,hst',F',hn',N',hd',off',hJ'⟩
     by_cases hlt:i<n
     . refine W.item i _ _ _ hlt hst' fun v h₂ tk₂ hPv hst₂ hk₂=>?_
       refine wpAny_assign_Name (wpAny_storeName_local (lookup_relabel_local hx) (hn'.at' fun o e=>hk₂ _ o (by simpa using Ne.symm hCI) e) (fun h₃ hn₃ hs₃=>?_) (by simp [compEnvC,relabel,hkind]))
       refine wpAny_tests_one ?_
       have hst₃:St (i+1) h₃:=W.frame _ _ _ hst₂ fun b hb o e=>hs₃.extBut b o (fun q=>hCf (by have q':b=H2.objs.size:=q;rw [← q'];exact hb)) e
       obtain ⟨oI,heI⟩:=hIo _ _ hst₃
       obtain ⟨oC,heC,hoC⟩:=ns_obj hn₃
       have F₃:Fr h₀ L h₃ m:=(fr_but F' hk₂ hIL hI₀).change hs₃ hCL hC₀
       have off3:=off'.mem
       have N₂:News h₀ L h₂ ((s₂.heap.objs.size,oD)::news'):=news_but N' hk₂ fun p hp=>by
         rcases mC hp with rfl | hp
         . exact Ne.symm hDI
         . exact (off3 p hp).1
       have N₃:News h₀ L h₃ ((I,oI)::(H2.objs.size,oC)::(s₂.heap.objs.size,oD)::news'):=fun p hp=>by
         rcases mC hp with rfl | hp
         . exact ⟨heI,Ne.symm hIL,hI₀⟩
         . rcases mC hp with rfl | hp
           . exact ⟨heC,hCL,hC₀⟩
           . have z:=N₂ p hp
             refine ⟨hs₃.extBut _ _ ?_ z.1,z.2⟩
             rcases mC hp with rfl | hp
             . exact hDC
             . exact (off3 p hp).2.1
       refine wpAny_mono (turn i v kvs news' I oI oC oD H2.objs.size s₂.heap.objs.size _ h₃ _ _ hlt hPv hJ' hoC (by simp) F₃ N₃ off' ⟨hCI,hDI,Ne.symm hDC⟩) (fun ok s₀ h₀₀=>?_) fun _ _ e=>e
       cases ok with
       | true =>
         simp only [if_true] at h₀₀ ⊢
         refine wpAny_mono h₀₀ (fun key s₄ h₄=>?_) fun _ _ e=>e
         refine wpAny_mono h₄ (fun y s₅ h₅=>?_) fun _ _ e=>e
         obtain ⟨h₅,tk₅,news₄,rfl,F₄,N₄,off₄,kk,hkk,hJ₄⟩:=h₅
         have zI:=(N₄ (I,oI) List.mem_cons_self).1
         have zC:=(N₄ (H2.objs.size,oC) (List.mem_cons_of_mem _ List.mem_cons_self)).1
         have zD:=(N₄ (s₂.heap.objs.size,oD) (List.mem_cons_of_mem _ (List.mem_cons_of_mem _ List.mem_cons_self))).1
         have N₄':News h₀ L h₅ news₄:=fun p hp=>N₄ p (List.mem_cons_of_mem _ (List.mem_cons_of_mem _ (List.mem_cons_of_mem _ hp)))
         have hst₄:St (i+1) h₅:=hSt _ _ _ _ _ hst₃ heI zI F₄.keep N₄' ⟨_,.inl hJ₄⟩
         have hkl:=hJl _ _ _ hJ'
         refine wpAny_dictSet_pairs (hsz:=by omega) hkk (Heap.dictOf_iff.mpr ⟨oD,zD,hd'⟩) fun h₆ hl₆ hs₆=>?_
         obtain ⟨oD',hD₆,hd₆⟩:=Heap.dictOf_iff.mp hl₆
         have off4:=off₄.mem
         refine ⟨n+1 - (i+1),by omega,h₆,_,i+1,_,_,oD',news₄,rfl,hlt,rfl,W.frame _ _ _ hst₄ fun b hb o e=>hs₆.extBut b o (fun q=>hDf (q ▸ hb)) e,F₄.change hs₆ hDL hD₀,
           (hoC.ns zC).sameBut hs₆ (Ne.symm hDC),fun p hp=>?_,hd₆,off₄,hJ₄⟩
         rcases mC hp with rfl | hp
         . exact ⟨hD₆,hDL,hD₀⟩
         . exact ⟨hs₆.extBut _ _ (off4 p hp).2.2 (N₄' p hp).1,(N₄' p hp).2⟩
       | false =>
         simp only [Bool.false_eq_true,if_false] at h₀₀ ⊢
         obtain ⟨h₅,tk₅,news₄,rfl,F₄,N₄,off₄,hJ₄⟩:=h₀₀
         have zI:=(N₄ (I,oI) List.mem_cons_self).1
         have zC:=(N₄ (H2.objs.size,oC) (List.mem_cons_of_mem _ List.mem_cons_self)).1
         have N₄':News h₀ L h₅ news₄:=fun p hp=>N₄ p (List.mem_cons_of_mem _ (List.mem_cons_of_mem _ (List.mem_cons_of_mem _ hp)))
         have hst₄:St (i+1) h₅:=hSt _ _ _ _ _ hst₃ heI zI F₄.keep N₄' ⟨_,.inl hJ₄⟩
         refine ⟨n+1 - (i+1),by omega,h₅,_,i+1,_,_,oD,news₄,rfl,hlt,rfl,hst₄,F₄,hoC.ns zC,fun p hp=>?_,hd',off₄,hJ₄⟩
         rcases mC hp with rfl | hp
         . exact N₄ _ (List.mem_cons_of_mem _ (List.mem_cons_of_mem _ List.mem_cons_self))
         . exact N₄' p hp
     . obtain rfl:i=n:=Nat.le_antisymm hi (Nat.not_lt.mp hlt)
       refine W.done _ _ _ hst' fun h₂ tk₂ hk₂=>?_
       have off3:=off'.mem
       exact hRR _ _ h₂ tk₂ _ oD kvs news' (F.notModules (modules_low hbig)) (fr_but F' hk₂ hIL hI₀) (news_but N' hk₂ fun p hp=>by
         rcases mC hp with rfl | hp
         . exact Ne.symm hDI
         . exact (off3 p hp).1) hd' off'.one (hn'.at' fun o e=>hk₂ _ o (by simpa using Ne.symm hCI) e) hC₀ hD₀ hCL hDL (Ne.symm hDC) (fun p hp=>(off3 p hp).2.1) hJ'
   . obtain ⟨oD,hoD,hd0⟩:=Heap.dictOf_iff.mp hacc
     refine ⟨h₁,_,0,[],_,oD,news,rfl,Nat.zero_le _,rfl,hst₁,F.keeps old,hns₁,fun p hp=>?_,hd0,off₀,J0⟩
     rcases mC hp with rfl | hp
     . exact ⟨hoD,hDL,hD₀⟩
     . exact ⟨old _ _ (N p hp).1,(N p hp).2⟩
 exact codeAny_compStart_dict (loop _ rfl) (W.self 0 _ _ _ hst₁ (loop _ rfl))
 k_extra "f"
def DSrcT (prog:Program) (w:World) (A:Around) (h₀:Heap) (L:Addr) (m:Str->Option Value) (env:Env) (ct kx vx:Expr) (x:Str) (scope:Scope) (cl:List (Str×Addr)) (J:Nat->List (Str×Value)->List (Addr×Obj)->Prop) (Q:Value->Shared->Prop) (xv:Value) (s₁:Shared):Prop :=
 ∃ d o kvs news,xv = .ref d∧A.handled=none∧Fr h₀ L s₁.heap m∧News h₀ L s₁.heap news∧(∀ i out news,(J i out news∨J (i - 1) out news)->(d,o)∈news)∧o.IsDictOf (PySem.strKind prog w) kvs∧(d == sysModules)=false∧kvs.length≤100∧J 0 [] news ∧
     (∀ i out news,J i out news->out.length≤i) ∧
     (∀ s₂:Shared,(∃ g,s₂ = {s₁ with heap:=g})->∀ i k v0 t out news I oI oC oD C D m₂ h tk (E':Value->Shared->Prop),kvs[i]?=some (k,v0)->J i out news->NsObj oC m₂->m₂ x=some (.str k t)->Fr h₀ L h m->News h₀ L h ((I,oI)::(C,oC)::(D,oD)::news)->Off3 I C D news->((@Ne Nat I C)∧(@Ne Nat I D)∧(@Ne Nat C D)) ->
       wpAny (model prog w) A (isTrue ct (compEnvC scope cl C env) (eval ct (compEnvC scope cl C env))) (fun ok s'=>if ok=true then
       wpAny (model prog w) A (eval kx (compEnvC scope cl C env)) (fun key s₃=>wpAny (model prog w) A (eval vx (compEnvC scope cl C env)) (fun y s₄ =>
         DEnd h₀ L m {s₂ with heap:=h,toks:=tk} I oI C oC D oD (fun key y news'=>∃ k,(PySem.strKind prog w).is k key=true∧J (i+1) (stored out k y) news') key y s₄) E' s₃) E' s'
       else DEnd h₀ L m {s₂ with heap:=h,toks:=tk} I oI C oC D oD (fun _ _ news'=>J (i+1) out news') Value.none Value.none s') E' {s₂ with heap:=h,toks:=tk}) ∧
     (∀ D h tk oD out news',(D == sysModules)=false->Fr h₀ L h m->News h₀ L h ((D,oD)::news')->oD.IsDictOf (PySem.strKind prog w) out->Off1 D news'->J kvs.length out news'->Q (.ref D) {s₁ with heap:=h,toks:=tk})
theorem DictComp_T (hbig:h₀.NoLimit) {ct kx vx iter:Expr} {x:Str} {px:Pos} {scope:Scope} {cl:List (Str×Addr)} {pos:Pos} {Q:Value->Shared->Prop}
   (J:Nat->List (Str×Value)->List (Addr×Obj)->Prop)
   (hclos:closureFor scope env=pure cl) (hcell:∀ y∈scope.names,y.2 ≠ .cell) (hkind:scope.kind = .function)
   (hnames:∀ y∈scope.names,y.2 = .local->scope.names.lookup y.1=some .local) (hx:scope.names.lookup x=some .local)
   (h:wpAny (model prog w) A (eval iter env) (DSrcT prog w A h₀ L m env ct kx vx x scope cl J Q) E s)
   (hs:∀ x,foldedSetIterable iter env x=pure x:=by intro _;rfl) :
   wpAny (model prog w) A (eval (.DictComp kx vx [⟨.Name x px,iter,[ct],0⟩] scope pos) env) Q E s:=by
 k_extra "s"
 rw [arm_eval_DictComp]
 refine wpAny_comprehension_free (use:=none) rfl hs hclos hkind hnames (wpAny_mono h (fun xv s₁ h₁=>?_) fun _ _ e=>e)
 obtain ⟨d,o,kvs,news,rfl,hh,F,N,hJd,hod,lo,hsz,J0,hJl,turn,fin⟩:=h₁
 have hd1:=(N _ (hJd 0 [] news (.inl J0))).1
 obtain ⟨ep,hat⟩:=(Heap.dictOf_iff.mpr ⟨o,hd1,hod⟩:s₁.heap.DictOf (PySem.strKind prog w) d kvs).dictAt
 have hlt:d<s₁.heap.objs.size:=Heap.lt_size hd1
 refine wpAny_pyIter_dict lo hat ?_
 have up:∀ b o,s₁.heap.get? b=some o->(s₁.heap.push {cls := .type "dict_keyiterator",data := .fields #[.ref d,.int 0 0,.int kvs.length 0,.int ep 0]}).get? b=some o:=fun b o e=>Heap.get?_push_of_some _ e
 have hatb:∀ h':Heap,h'.get? d=some o->h'.DictAt (PySem.strKind prog w) d kvs ep:=fun h' k=>by
   obtain ⟨o1,es,ho1,r⟩:=hat
   rw [hd1] at ho1;cases ho1
   exact ⟨o,es,k,r⟩
 refine dblock_T J (Walks.dictKeys (knd:=PySem.strKind prog w) hh s₁.heap.objs.size d (Nat.ne_of_lt hlt) kvs ep) (by rw [sizeLine_eq];omega) (fun i h st=>by obtain ⟨o,e,_⟩:=st.1;exact ⟨o,e⟩)
   (fun i h h' oI nw st e e' k N' hj=>⟨by obtain ⟨o',q,r⟩:=st.1;rw [e] at q;cases q;exact ⟨oI,e',r⟩,hatb h' (N' _ (by obtain ⟨out,hj⟩:=hj;exact hJd i out nw hj)).1⟩) hcell hkind hx ⟨⟨_,Heap.get?_push_size _ rfl,rfl,rfl⟩,hat.at' fun o e=>up _ _ e⟩ (fun b hb=>?_)
   (F.keeps up) (N.grown up) (Nat.ne_of_lt F.ns.lt) (next_is_new F) (fun p hp=>Nat.ne_of_lt (Heap.lt_size (N p hp).1)) J0 ?_ hJl hbig ?_
 . show b<(s₁.heap.push _).objs.size
   rw [Heap.size_push]
   rcases mC hb with rfl | hb
   . exact Nat.lt_succ_self _
   . rw [mS hb];exact Nat.lt_succ_of_lt hlt
 . intro i v out news' I oI oC oD C D m₂ h tk E' hi hP hJ hoC hm F' N' o3 ne
   obtain ⟨k,x0,hk,hv⟩:=hP
   obtain ⟨t,rfl⟩:=strKind_inv hv
   exact turn {s₁ with heap:=_} ⟨_,rfl⟩ i k x0 t out news' I oI oC oD C D m₂ h tk E' hk hJ hoC hm F' N' o3 ne
 . intro D C h tk m' oD out news' hlo F' N' hdo o1 hn hC₀ hD₀ hCL hDL hCD offC hJ
   refine ⟨m',hn,fun h'' hs''=>fin D h'' tk oD out news' hlo (F'.change hs'' hCL hC₀) (fun p hp=>?_) hdo o1 hJ⟩
   refine ⟨hs''.extBut _ _ ?_ (N' p hp).1,(N' p hp).2⟩
   rcases mC hp with rfl | hp
   . exact Ne.symm hCD
   . exact offC p hp
 k_extra "f"
end
end
section
open PySem PySem.W PyProof.Rows PySem.Calls
theorem EnvEq.left {C:Str->Prop} {n:Str} {L R:Str->Option Value} {v:Option Value} (hc:∀ y,C y->¬ y=n) (h:EnvEq C L R):EnvEq C (fun y=>if y=n then v else L y) R:=fun y c=>by
 show (if y=n then v else L y)=R y
 rw [if_neg (hc y c)]
 exact h y c
theorem EnvEq.stop {C:Str->Prop} {L:Str->Option Value}:EnvEq C L L:=fun _ _=>rfl
end
section
open PySem PySem.W PyProof.Rows PyProof.Rows.LCg PySem.Calls PySem.Spec
section
variable {prog:Program} {w:World} {A:Around} {E:Value->Shared->Prop} {s:Shared} {K:Frag} {h₀:Heap} {L a:Addr} {m mg mb:Str->Option Value} {cn:Str} {cs:Scope} {ccd:Value} {cl:List (Str×Addr)} {p:Program} {loose:List Str}
theorem CallK0 {f:Str} {pf pc:Pos} {fv:Value} {Q:Value->Shared->Prop} (F:Fr h₀ L s.heap m) (X:K.In h₀) (T:TopRead p loose mg mb h₀) (hk:cs.kind = .function) (hxf:(envX cn cs L a ccd cl).kindOf f=some .globalImplicit) (hdf:(f == ("__debug__" : Str))=false)
    (e:nsIn K mainGlobals f=some (some fv)) (kp:keepIn K fv=true) (h:wpAny (model prog w) A (call fv []) Q E s) :
   wpAny (model prog w) A (eval (.Call (.Name f pf) [] [] pc) (envX cn cs L a ccd cl)) Q E s:=by
 refine Call_ (nameX_K F X T e ?_ hk hxf hdf)
 exact callWith_K0 (X.keeps F.keep) kp h
theorem CallK1 {f:Str} {pf pc:Pos} {fv:Value} {Q:Value->Shared->Prop} {x1:Str} {p1:Pos} {v1:Value} (F:Fr h₀ L s.heap m) (X:K.In h₀) (T:TopRead p loose mg mb h₀) (hk:cs.kind = .function) (hxf:(envX cn cs L a ccd cl).kindOf f=some .globalImplicit) (hdf:(f == ("__debug__" : Str))=false) (hx1:(envX cn cs L a ccd cl).kindOf x1=some .local) (hd1:(x1 == ("__debug__" : Str))=false)
   (hv1:m x1=some v1) (e:nsIn K mainGlobals f=some (some fv)) (kp:keepIn K fv=true) (h:wpAny (model prog w) A (call fv [v1]) Q E s) :
   wpAny (model prog w) A (eval (.Call (.Name f pf) [(.Name x1 p1)] [] pc) (envX cn cs L a ccd cl)) Q E s:=by
 refine Call_ (nameX_K F X T e ?_ hk hxf hdf)
 exact callWith_K X kp (args_cons (nameX_L F hv1 (args_nil ⟨X.keeps F.keep,h⟩) hk hx1 hd1) rfl)
theorem CallK2 {f:Str} {pf pc:Pos} {fv:Value} {Q:Value->Shared->Prop} {x1:Str} {p1:Pos} {v1:Value} {x2:Str} {p2:Pos} {v2:Value} (F:Fr h₀ L s.heap m) (X:K.In h₀) (T:TopRead p loose mg mb h₀) (hk:cs.kind = .function) (hxf:(envX cn cs L a ccd cl).kindOf f=some .globalImplicit) (hdf:(f == ("__debug__" : Str))=false) (hx1:(envX cn cs L a ccd cl).kindOf x1=some .local) (hd1:(x1 == ("__debug__" : Str))=false) (hx2:(envX cn cs L a ccd cl).kindOf x2=some .local) (hd2:(x2 == ("__debug__" : Str))=false)
   (hv1:m x1=some v1) (hv2:m x2=some v2) (e:nsIn K mainGlobals f=some (some fv)) (kp:keepIn K fv=true) (h:wpAny (model prog w) A (call fv [v1,v2]) Q E s) :
   wpAny (model prog w) A (eval (.Call (.Name f pf) [(.Name x1 p1),(.Name x2 p2)] [] pc) (envX cn cs L a ccd cl)) Q E s:=by
 refine Call_ (nameX_K F X T e ?_ hk hxf hdf)
 exact callWith_K X kp (args_cons (nameX_L F hv1 (args_cons (nameX_L F hv2 (args_nil ⟨X.keeps F.keep,h⟩) hk hx2 hd2) rfl) hk hx1 hd1) rfl)
theorem CallK3 {f:Str} {pf pc:Pos} {fv:Value} {Q:Value->Shared->Prop} {x1:Str} {p1:Pos} {v1:Value} {x2:Str} {p2:Pos} {v2:Value} {x3:Str} {p3:Pos} {v3:Value} (F:Fr h₀ L s.heap m) (X:K.In h₀) (T:TopRead p loose mg mb h₀) (hk:cs.kind = .function) (hxf:(envX cn cs L a ccd cl).kindOf f=some .globalImplicit) (hdf:(f == ("__debug__" : Str))=false) (hx1:(envX cn cs L a ccd cl).kindOf x1=some .local) (hd1:(x1 == ("__debug__" : Str))=false) (hx2:(envX cn cs L a ccd cl).kindOf x2=some .local) (hd2:(x2 == ("__debug__" : Str))=false) (hx3:(envX cn cs L a ccd cl).kindOf x3=some .local) (hd3:(x3 == ("__debug__" : Str))=false)
   (hv1:m x1=some v1) (hv2:m x2=some v2) (hv3:m x3=some v3) (e:nsIn K mainGlobals f=some (some fv)) (kp:keepIn K fv=true) (h:wpAny (model prog w) A (call fv [v1,v2,v3]) Q E s) :
   wpAny (model prog w) A (eval (.Call (.Name f pf) [(.Name x1 p1),(.Name x2 p2),(.Name x3 p3)] [] pc) (envX cn cs L a ccd cl)) Q E s:=by
 refine Call_ (nameX_K F X T e ?_ hk hxf hdf)
 exact callWith_K X kp (args_cons (nameX_L F hv1 (args_cons (nameX_L F hv2 (args_cons (nameX_L F hv3 (args_nil ⟨X.keeps F.keep,h⟩) hk hx3 hd3) rfl) hk hx2 hd2) rfl) hk hx1 hd1) rfl)
theorem CallK4 {f:Str} {pf pc:Pos} {fv:Value} {Q:Value->Shared->Prop} {x1:Str} {p1:Pos} {v1:Value} {x2:Str} {p2:Pos} {v2:Value} {x3:Str} {p3:Pos} {v3:Value} {x4:Str} {p4:Pos} {v4:Value} (F:Fr h₀ L s.heap m) (X:K.In h₀) (T:TopRead p loose mg mb h₀) (hk:cs.kind = .function) (hxf:(envX cn cs L a ccd cl).kindOf f=some .globalImplicit) (hdf:(f == ("__debug__" : Str))=false) (hx1:(envX cn cs L a ccd cl).kindOf x1=some .local) (hd1:(x1 == ("__debug__" : Str))=false) (hx2:(envX cn cs L a ccd cl).kindOf x2=some .local) (hd2:(x2 == ("__debug__" : Str))=false) (hx3:(envX cn cs L a ccd cl).kindOf x3=some .local) (hd3:(x3 == ("__debug__" : Str))=false) (hx4:(envX cn cs L a ccd cl).kindOf x4=some .local) (hd4:(x4 == ("__debug__" : Str))=false)
   (hv1:m x1=some v1) (hv2:m x2=some v2) (hv3:m x3=some v3) (hv4:m x4=some v4) (e:nsIn K mainGlobals f=some (some fv)) (kp:keepIn K fv=true) (h:wpAny (model prog w) A (call fv [v1,v2,v3,v4]) Q E s) :
   wpAny (model prog w) A (eval (.Call (.Name f pf) [(.Name x1 p1),(.Name x2 p2),(.Name x3 p3),(.Name x4 p4)] [] pc) (envX cn cs L a ccd cl)) Q E s:=by
 refine Call_ (nameX_K F X T e ?_ hk hxf hdf)
 exact callWith_K X kp (args_cons (nameX_L F hv1 (args_cons (nameX_L F hv2 (args_cons (nameX_L F hv3 (args_cons (nameX_L F hv4 (args_nil ⟨X.keeps F.keep,h⟩) hk hx4 hd4) rfl) hk hx3 hd3) rfl) hk hx2 hd2) rfl) hk hx1 hd1) rfl)
theorem CallK5 {f:Str} {pf pc:Pos} {fv:Value} {Q:Value->Shared->Prop} {x1:Str} {p1:Pos} {v1:Value} {x2:Str} {p2:Pos} {v2:Value} {x3:Str} {p3:Pos} {v3:Value} {x4:Str} {p4:Pos} {v4:Value} {x5:Str} {p5:Pos} {v5:Value} (F:Fr h₀ L s.heap m) (X:K.In h₀) (T:TopRead p loose mg mb h₀) (hk:cs.kind = .function) (hxf:(envX cn cs L a ccd cl).kindOf f=some .globalImplicit) (hdf:(f == ("__debug__" : Str))=false) (hx1:(envX cn cs L a ccd cl).kindOf x1=some .local) (hd1:(x1 == ("__debug__" : Str))=false) (hx2:(envX cn cs L a ccd cl).kindOf x2=some .local) (hd2:(x2 == ("__debug__" : Str))=false) (hx3:(envX cn cs L a ccd cl).kindOf x3=some .local) (hd3:(x3 == ("__debug__" : Str))=false) (hx4:(envX cn cs L a ccd cl).kindOf x4=some .local) (hd4:(x4 == ("__debug__" : Str))=false) (hx5:(envX cn cs L a ccd cl).kindOf x5=some .local) (hd5:(x5 == ("__debug__" : Str))=false)
   (hv1:m x1=some v1) (hv2:m x2=some v2) (hv3:m x3=some v3) (hv4:m x4=some v4) (hv5:m x5=some v5) (e:nsIn K mainGlobals f=some (some fv)) (kp:keepIn K fv=true) (h:wpAny (model prog w) A (call fv [v1,v2,v3,v4,v5]) Q E s) :
   wpAny (model prog w) A (eval (.Call (.Name f pf) [(.Name x1 p1),(.Name x2 p2),(.Name x3 p3),(.Name x4 p4),(.Name x5 p5)] [] pc) (envX cn cs L a ccd cl)) Q E s:=by
 k_extra "s"
 refine Call_ (nameX_K F X T e ?_ hk hxf hdf)
 exact callWith_K X kp (args_cons (nameX_L F hv1 (args_cons (nameX_L F hv2 (args_cons (nameX_L F hv3 (args_cons (nameX_L F hv4 (args_cons (nameX_L F hv5 (args_nil ⟨X.keeps F.keep,h⟩) hk hx5 hd5) rfl) hk hx4 hd4) rfl) hk hx3 hd3) rfl) hk hx2 hd2) rfl) hk hx1 hd1) rfl)
 k_extra "f"
theorem args_nameL {x1:Str} {p1 pos:Pos} {v1:Value} {rest:List Expr} {Q:List Value->Shared->Prop} (F:Fr h₀ L s.heap m) (hk:cs.kind = .function) (hx1:(envX cn cs L a ccd cl).kindOf x1=some .local) (hd1:(x1 == ("__debug__" : Str))=false) (hv1:m x1=some v1)
   (h:wpAny (model prog w) A (spliced (backTo pos (starEach rest (envX cn cs L a ccd cl)))) (fun vs s₂=>Q (v1::vs) s₂) E s):wpAny (model prog w) A (spliced (backTo pos (starEach (.Name x1 p1::rest) (envX cn cs L a ccd cl)))) Q E s:=args_cons (nameX_L F hv1 h hk hx1 hd1) rfl
theorem attr_nameL {x1 attr:Str} {p1 pos:Pos} {v1:Value} {Q:Value->Shared->Prop} (F:Fr h₀ L s.heap m) (hk:cs.kind = .function) (hx1:(envX cn cs L a ccd cl).kindOf x1=some .local) (hd1:(x1 == ("__debug__" : Str))=false) (hv1:m x1=some v1)
   (h:wpAny (model prog w) A (getAttr v1 attr true) Q E s):wpAny (model prog w) A (eval (.Attribute (.Name x1 p1) attr pos) (envX cn cs L a ccd cl)) Q E s:=Attribute_Name_ (nameX_L F hv1 h hk hx1 hd1)
theorem cmp_nameL {x1:Str} {p1 pos:Pos} {v1:Value} {op:CmpOp} {r:Expr} {whole:Sem Value} {Q:Bool->Shared->Prop} (F:Fr h₀ L s.heap m) (hk:cs.kind = .function) (hx1:(envX cn cs L a ccd cl).kindOf x1=some .local) (hd1:(x1 == ("__debug__" : Str))=false) (hv1:m x1=some v1)
   (h:wpAny (model prog w) A (eval r (envX cn cs L a ccd cl)) (fun b s₂=>wpAny (model prog w) A (compareOp op v1 b) (fun c s₃=>wpAny (model prog w) A (truthy c) Q E s₃) E s₂) E s) (hm:behindInMarks op r=false) :
   wpAny (model prog w) A (isTrue (.Compare (.Name x1 p1) [op] [r] pos) (envX cn cs L a ccd cl) whole) Q E s:=wpAny_isTrue_Compare1 (nameX_L F hv1 h hk hx1 hd1) hm
theorem cmp_nameN {x1:Str} {p1 p2 pos:Pos} {k2:Nat} {v1:Value} {op:CmpOp} {whole:Sem Value} {Q:Bool->Shared->Prop} (F:Fr h₀ L s.heap m) (hk:cs.kind = .function) (hx1:(envX cn cs L a ccd cl).kindOf x1=some .local) (hd1:(x1 == ("__debug__" : Str))=false) (hv1:m x1=some v1)
   (h:wpAny (model prog w) A (compareOp op v1 .none) (fun c s₃=>wpAny (model prog w) A (truthy c) Q E s₃) E s) (hm:behindInMarks op (.Constant .none k2 p2)=false) :
   wpAny (model prog w) A (isTrue (.Compare (.Name x1 p1) [op] [.Constant .none k2 p2] pos) (envX cn cs L a ccd cl) whole) Q E s:=cmp_nameL F hk hx1 hd1 hv1 (wpAny_Constant_none h) hm
theorem cmp_nameI {x1:Str} {p1 p2 pos:Pos} {k2:Nat} {i:Int} {v1:Value} {op:CmpOp} {whole:Sem Value} {Q:Bool->Shared->Prop} (F:Fr h₀ L s.heap m) (hk:cs.kind = .function) (hx1:(envX cn cs L a ccd cl).kindOf x1=some .local) (hd1:(x1 == ("__debug__" : Str))=false) (hv1:m x1=some v1)
   (h:wpAny (model prog w) A (compareOp op v1 (.int i s.toks)) (fun c s₃=>wpAny (model prog w) A (truthy c) Q E s₃) E {s with toks:=s.toks+1}) (hm:behindInMarks op (.Constant (.int i) k2 p2)=false) :
   wpAny (model prog w) A (isTrue (.Compare (.Name x1 p1) [op] [.Constant (.int i) k2 p2] pos) (envX cn cs L a ccd cl) whole) Q E s:=cmp_nameL F hk hx1 hd1 hv1 (wpAny_Constant_int h) hm
theorem bin_nameL {x1:Str} {p1 pos:Pos} {v1:Value} {op:Operator} {r:Expr} {Q:Value->Shared->Prop} (F:Fr h₀ L s.heap m) (hk:cs.kind = .function) (hx1:(envX cn cs L a ccd cl).kindOf x1=some .local) (hd1:(x1 == ("__debug__" : Str))=false) (hv1:m x1=some v1)
   (h:wpAny (model prog w) A (eval r (envX cn cs L a ccd cl)) (fun b s₂=>wpAny (model prog w) A (binaryOp op v1 b) Q E s₂) E s):wpAny (model prog w) A (eval (.BinOp (.Name x1 p1) op r pos) (envX cn cs L a ccd cl)) Q E s:=wpAny_BinOp (nameX_L F hv1 h hk hx1 hd1)
theorem ret_nameL {x1:Str} {p1 pos:Pos} {v1:Value} {Q:Flow->Shared->Prop} (F:Fr h₀ L s.heap m) (hk:cs.kind = .function) (hx1:(envX cn cs L a ccd cl).kindOf x1=some .local) (hd1:(x1 == ("__debug__" : Str))=false) (hv1:m x1=some v1) (h:Q (.ret v1) s) :
   wpAny (model prog w) A (exec (.Return (some (.Name x1 p1)) pos) (envX cn cs L a ccd cl)) Q E s:=wpAny_Return_some (nameX_L F hv1 h hk hx1 hd1)
theorem execs_one {M:Model} {env:Env} {st:Stmt} {Q:Flow->Shared->Prop} (h:wpAny M A (exec st env) Q E s):wpAny M A (execs [st] env) Q E s :=
 wpAny_execs_cons (wpAny_mono h (fun f s' q=>by cases f<;>first | exact wpAny_execs_nil q | exact q) fun _ _ e=>e)
end
theorem sub_nil {α:Type} {p:α} {M:List α}:p∈([]:List α)->p∈M:=fun h=>nomatch h
theorem sub_cons {α:Type} {p a:α} {l M:List α} (h:a∈M) (t:p∈l->p∈M):p∈a::l->p∈M:=fun hp=>by
 cases hp with
 | head=>exact h
 | tail _ q=>exact t q
end
section
open PySem PySem.W PyProof.Rows PySem.Calls
noncomputable def qT:Nat->(Params->Frag->List Obj)->Params->Frag->List Obj
 | 0,r,P,F=>r P F
 | n+1,r,P,F=>match F with | x::F'=>x.2::qT n r P F' | []=>r P []
noncomputable def qD:Nat->(Params->Frag->List Obj)->Params->Frag->List Obj
 | 0,r,P,F=>r P F
 | n+1,r,P,F=>match F with | _::F'=>qD n r P F' | []=>r P []
noncomputable def qO (o:Params->Obj) (r:Params->Frag->List Obj) (P:Params) (F:Frag):List Obj:=o P::r P F
noncomputable abbrev qB:List Stmt:=behindTheImports PG
noncomputable def qE:Env := {scope:=(PG.main).scope,locals:=mainNs,globals:=mainNs,cells:=[],code := .ref 13,frame:=some 14}
noncomputable abbrev qC:Code:=Code.body qB qE
noncomputable abbrev qF:List Frame:=[topFrame ⟨0,0,0,0⟩]
noncomputable def q11_1:Params->Obj:=fun P => .mk (.type "tuple") none (.seq #[]) #[]
noncomputable def q12_1:Params->Obj:=fun P => .mk .none none (.fields #[]) #[]
noncomputable def q13_1:Params->Obj:=fun P => .mk (.type "code") none (.fields #[.str (.ofString "<module>") 182,.str (.ofString "<module>") 183,.str (.ofString "/claim/cut.py") 184,.int 1 0,.int 0 0,.int 0 0,.int 0 0,.int 0 0,.ref 11,.bool false,.int 181 0,.ref 12,.none,.none,.none,.none,.int 185 0,.int 1 0,.str (.ofString "/claim/cut.py") 186]) #[]
noncomputable def q14_1:Params->Obj:=fun P => .mk (.type "frame") none .plain #[some (.ref 13),some (.ref 3),some (.ref 3),none,some (.str (.ofString "__main__") 164),none,some (.ref 0)]
noncomputable def qH1:Params->Heap:=fun P=>Heap.mk (Array.mk ((qO boot_o_0<|qO boot_o_1<|qD 1<|qO boot_o_2<|qD 1<|qO boot_o_3<|qO boot_o_4<|qO boot_o_5<|qO boot_o_6<|qO boot_o_7<|qO boot_o_8<|qO boot_o_9<|qO boot_o_10<|qO q11_1<|qO q12_1<|qO q13_1<|qO q14_1<|fun _ _=>[]) P (KF P))) (Life.mk [] [] [] 0 [] [] false #[] [] 0 false false false 0 [2000,10,10] false 0 true [] [] 0 false)
noncomputable def qS1 (w:World) (os:OsState):Shared:=⟨qH1 w.params,Array.mk [],⟨0,0,0,0⟩,187,os⟩
noncomputable def q3_2:Params->Obj:=fun P => .mk (.type "dict") none (.dict #[.mk (PyData.keyHash P (.ofString "__name__")) (.str (.ofString "__name__") 165) (.str (.ofString "vectorcove.errors") 212),.mk (PyData.keyHash P (.ofString "__doc__")) (.str (.ofString "__doc__") 166) .none,.mk (PyData.keyHash P (.ofString "__package__")) (.str (.ofString "__package__") 167) .none,.mk (PyData.keyHash P (.ofString "__loader__")) (.str (.ofString "__loader__") 168) (.builtin "__main__.__loader__#opaque"),.mk (PyData.keyHash P (.ofString "__spec__")) (.str (.ofString "__spec__") 169) .none,.mk (PyData.keyHash P (.ofString "__annotations__")) (.str (.ofString "__annotations__") 170) (.ref 6),.mk (PyData.keyHash P (.ofString "__builtins__")) (.str (.ofString "__builtins__") 171) (.ref 4),.mk (PyData.keyHash P (.ofString "__file__")) (.str (.ofString "__file__") 173) (.str (.ofString "/claim/cut.py") 172),.mk (PyData.keyHash P (.ofString "__cached__")) (.str (.ofString "__cached__") 174) .none,.mk (PyData.keyHash P (.ofString "_wall")) (.str (.ofString "_wall") 193) (.ref 21),.mk (PyData.keyHash P (.ofString "get_attr")) (.str (.ofString "get_attr") 203) (.ref 28),.mk (PyData.keyHash P (.ofString "dim_of")) (.str (.ofString "dim_of") 211) (.ref 35)] 12) #[]
noncomputable def q12_2:Params->Obj:=fun P => .mk .none none (.fields #[.int 1 0,.int 0 0,.ref 20,.int 5 0,.int 0 0,.ref 27,.int 9 0,.int 0 0,.ref 34]) #[]
noncomputable def q16_2:Params->Obj:=fun P => .mk .none none (.fields #[]) #[]
noncomputable def q19_2:Params->Obj:=fun P => .mk .none none (.func (.mk (.ofString "_wall") (.ofString "_wall") fp21 (.stmts fb21) fs21 0 [] .none .none .none .none none .none .none 0)) #[]
noncomputable def q23_2:Params->Obj:=fun P => .mk .none none (.fields #[]) #[]
noncomputable def q26_2:Params->Obj:=fun P => .mk .none none (.func (.mk (.ofString "get_attr") (.ofString "get_attr") fp28 (.stmts fb28) fs28 0 [] .none .none .none .none none .none .none 0)) #[]
noncomputable def q30_2:Params->Obj:=fun P => .mk .none none (.fields #[]) #[]
noncomputable def q33_2:Params->Obj:=fun P => .mk .none none (.func (.mk (.ofString "dim_of") (.ofString "dim_of") fp35 (.stmts fb35) fs35 0 [] .none .none .none .none none .none .none 0)) #[]
noncomputable def qH2:Params->Heap:=fun P=>Heap.mk (Array.mk ((qO boot_o_0<|qO boot_o_1<|qD 1<|qO boot_o_2<|qD 1<|qO q3_2<|qO boot_o_4<|qO boot_o_5<|qO boot_o_6<|qO boot_o_7<|qO boot_o_8<|qO boot_o_9<|qO boot_o_10<|qO q11_1<|qO q12_2<|qO q13_1<|qO q14_1<|qT 1<|qO q16_2<|qT 2<|qO q19_2<|qT 3<|qO q23_2<|qT 2<|qO q26_2<|qT 3<|qO q30_2<|qT 2<|qO q33_2<|qT 2<|fun _ _=>[]) P (KF P))) (Life.mk [] [] [] 0 [] [] false #[] [] 0 false false false 0 [2000,10,10] false 0 true [] [] 0 false)
noncomputable def qS2 (w:World) (os:OsState):Shared:=⟨qH2 w.params,Array.mk [],⟨0,0,0,0⟩,214,os⟩
noncomputable def q3_3:Params->Obj:=fun P => .mk (.type "dict") none (.dict #[.mk (PyData.keyHash P (.ofString "__name__")) (.str (.ofString "__name__") 165) (.str (.ofString "vectorcove.errors") 212),.mk (PyData.keyHash P (.ofString "__doc__")) (.str (.ofString "__doc__") 166) .none,.mk (PyData.keyHash P (.ofString "__package__")) (.str (.ofString "__package__") 167) .none,.mk (PyData.keyHash P (.ofString "__loader__")) (.str (.ofString "__loader__") 168) (.builtin "__main__.__loader__#opaque"),.mk (PyData.keyHash P (.ofString "__spec__")) (.str (.ofString "__spec__") 169) .none,.mk (PyData.keyHash P (.ofString "__annotations__")) (.str (.ofString "__annotations__") 170) (.ref 6),.mk (PyData.keyHash P (.ofString "__builtins__")) (.str (.ofString "__builtins__") 171) (.ref 4),.mk (PyData.keyHash P (.ofString "__file__")) (.str (.ofString "__file__") 173) (.str (.ofString "/claim/cut.py") 172),.mk (PyData.keyHash P (.ofString "__cached__")) (.str (.ofString "__cached__") 174) .none,.mk (PyData.keyHash P (.ofString "_wall")) (.str (.ofString "_wall") 193) (.ref 21),.mk (PyData.keyHash P (.ofString "get_attr")) (.str (.ofString "get_attr") 203) (.ref 28),.mk (PyData.keyHash P (.ofString "dim_of")) (.str (.ofString "dim_of") 211) (.ref 35),.mk (PyData.keyHash P (.ofString "CoveError")) (.str (.ofString "CoveError") 233) (.ref 45)] 13) #[]
noncomputable def q12_3:Params->Obj:=fun P => .mk .none none (.fields #[.int 1 0,.int 0 0,.ref 20,.int 5 0,.int 0 0,.ref 27,.int 9 0,.int 0 0,.ref 34,.int 15 0,.int 0 0,.ref 41]) #[]
noncomputable def q37_3:Params->Obj:=fun P => .mk (.type "builtin_function_or_method") none (.fields #[.builtin "type.__prepare__",.type "type"]) #[]
noncomputable def q38_3:Params->Obj:=fun P => .mk (.type "dict") none (.dict #[.mk (PyData.keyHash P (.ofString "__module__")) (.str (.ofString "__module__") 221) (.str (.ofString "vectorcove.errors") 212),.mk (PyData.keyHash P (.ofString "__qualname__")) (.str (.ofString "__qualname__") 223) (.str (.ofString "CoveError") 222),.mk (PyData.keyHash P (.ofString "__firstlineno__")) (.str (.ofString "__firstlineno__") 225) (.int 15 224),.mk (PyData.keyHash P (.ofString "__static_attributes__")) (.str (.ofString "__static_attributes__") 226) (.ref 43)] 4) #[]
noncomputable def q39_3:Params->Obj:=fun P => .mk (.type "tuple") none (.seq #[]) #[]
noncomputable def q40_3:Params->Obj:=fun P => .mk .none none (.fields #[]) #[]
noncomputable def q41_3:Params->Obj:=fun P => .mk (.type "code") none (.fields #[.str (.ofString "CoveError") 216,.str (.ofString "CoveError") 217,.str (.ofString "/claim/cut.py") 218,.int 15 0,.int 0 0,.int 0 0,.int 0 0,.int 0 0,.ref 39,.bool false,.int 181 0,.ref 40,.none,.none,.none,.none,.int 219 0,.int 15 0,.str (.ofString "/claim/cut.py") 220]) #[]
noncomputable def q42_3:Params->Obj:=fun P => .mk (.type "frame") none .plain #[some (.ref 41),some (.ref 3),some (.ref 38),none,some (.str (.ofString "vectorcove.errors") 212),none,some (.ref 0)]
noncomputable def q45_3:Params->Obj:=fun P => .mk (.type "type") none (.cls (.mk (.ofString "CoveError") [.type "Exception"] [.ref 45,.type "Exception",.type "BaseException",.type "object"] 44 (.ofString "CoveError") true [] [] false none false)) #[some (.ref 36),none,some (.str (.ofString "CoveError") 214),some (.str (.ofString "CoveError") 222),some (.builtin "Exception.__new__"),some (.bool true)]
noncomputable def q47_3:Params->Obj:=fun P => .mk (.type "super") none (.fields #[.ref 45,.ref 45,.ref 45]) #[]
noncomputable def q48_3:Params->Obj:=fun P => .mk (.type "builtin_function_or_method") none (.fields #[.builtin "object.__init_subclass__",.ref 45]) #[]
noncomputable def qH3:Params->Heap:=fun P=>Heap.mk (Array.mk ((qO boot_o_0<|qO boot_o_1<|qT 1<|qD 1<|qO q3_3<|qO boot_o_4<|qO boot_o_5<|qO boot_o_6<|qO boot_o_7<|qO boot_o_8<|qO boot_o_9<|qO boot_o_10<|qO q11_1<|qO q12_3<|qO q13_1<|qO q14_1<|qT 1<|qO q16_2<|qT 2<|qO q19_2<|qT 3<|qO q23_2<|qT 2<|qO q26_2<|qT 3<|qO q30_2<|qT 2<|qO q33_2<|qT 3<|qO q37_3<|qO q38_3<|qO q39_3<|qO q40_3<|qO q41_3<|qO q42_3<|qT 2<|qD 1<|qO q45_3<|qT 1<|qO q47_3<|qO q48_3<|fun _ _=>[]) P (KF P))) (Life.mk [] [] [] 0 [] [] false #[] [] 0 false false false 0 [2000,10,10] false 0 true [] [] 0 false)
noncomputable def qS3 (w:World) (os:OsState):Shared:=⟨qH3 w.params,Array.mk [],⟨0,0,0,0⟩,234,os⟩
noncomputable def q3_4:Params->Obj:=fun P => .mk (.type "dict") none (.dict #[.mk (PyData.keyHash P (.ofString "__name__")) (.str (.ofString "__name__") 165) (.str (.ofString "vectorcove.errors") 212),.mk (PyData.keyHash P (.ofString "__doc__")) (.str (.ofString "__doc__") 166) .none,.mk (PyData.keyHash P (.ofString "__package__")) (.str (.ofString "__package__") 167) .none,.mk (PyData.keyHash P (.ofString "__loader__")) (.str (.ofString "__loader__") 168) (.builtin "__main__.__loader__#opaque"),.mk (PyData.keyHash P (.ofString "__spec__")) (.str (.ofString "__spec__") 169) .none,.mk (PyData.keyHash P (.ofString "__annotations__")) (.str (.ofString "__annotations__") 170) (.ref 6),.mk (PyData.keyHash P (.ofString "__builtins__")) (.str (.ofString "__builtins__") 171) (.ref 4),.mk (PyData.keyHash P (.ofString "__file__")) (.str (.ofString "__file__") 173) (.str (.ofString "/claim/cut.py") 172),.mk (PyData.keyHash P (.ofString "__cached__")) (.str (.ofString "__cached__") 174) .none,.mk (PyData.keyHash P (.ofString "_wall")) (.str (.ofString "_wall") 193) (.ref 21),.mk (PyData.keyHash P (.ofString "get_attr")) (.str (.ofString "get_attr") 203) (.ref 28),.mk (PyData.keyHash P (.ofString "dim_of")) (.str (.ofString "dim_of") 211) (.ref 35),.mk (PyData.keyHash P (.ofString "CoveError")) (.str (.ofString "CoveError") 233) (.ref 45),.mk (PyData.keyHash P (.ofString "Refusal")) (.str (.ofString "Refusal") 258) (.ref 65)] 14) #[]
noncomputable def q12_4:Params->Obj:=fun P => .mk .none none (.fields #[.int 1 0,.int 0 0,.ref 20,.int 5 0,.int 0 0,.ref 27,.int 9 0,.int 0 0,.ref 34,.int 15 0,.int 0 0,.ref 41,.int 17 0,.int 0 0,.ref 54]) #[]
noncomputable def q50_4:Params->Obj:=fun P => .mk (.type "builtin_function_or_method") none (.fields #[.builtin "type.__prepare__",.type "type"]) #[]
noncomputable def q51_4:Params->Obj:=fun P => .mk (.type "dict") none (.dict #[.mk (PyData.keyHash P (.ofString "__module__")) (.str (.ofString "__module__") 241) (.str (.ofString "vectorcove.errors") 212),.mk (PyData.keyHash P (.ofString "__qualname__")) (.str (.ofString "__qualname__") 243) (.str (.ofString "Refusal") 242),.mk (PyData.keyHash P (.ofString "__firstlineno__")) (.str (.ofString "__firstlineno__") 245) (.int 17 244),.mk (PyData.keyHash P (.ofString "__init__")) (.str (.ofString "__init__") 253) (.ref 62),.mk (PyData.keyHash P (.ofString "__static_attributes__")) (.str (.ofString "__static_attributes__") 255) (.ref 63)] 5) #[]
noncomputable def q52_4:Params->Obj:=fun P => .mk (.type "tuple") none (.seq #[]) #[]
noncomputable def q53_4:Params->Obj:=fun P => .mk .none none (.fields #[.int 19 0,.int 4 0,.ref 61]) #[]
noncomputable def q54_4:Params->Obj:=fun P => .mk (.type "code") none (.fields #[.str (.ofString "Refusal") 236,.str (.ofString "Refusal") 237,.str (.ofString "/claim/cut.py") 238,.int 17 0,.int 0 0,.int 0 0,.int 0 0,.int 0 0,.ref 52,.bool false,.int 181 0,.ref 53,.none,.none,.none,.none,.int 239 0,.int 17 0,.str (.ofString "/claim/cut.py") 240]) #[]
noncomputable def q55_4:Params->Obj:=fun P => .mk (.type "frame") none .plain #[some (.ref 54),some (.ref 3),some (.ref 51),none,some (.str (.ofString "vectorcove.errors") 212),none,some (.ref 0)]
noncomputable def q57_4:Params->Obj:=fun P => .mk .none none (.fields #[]) #[]
noncomputable def q60_4:Params->Obj:=fun P => .mk .none none (.func (.mk (.ofString "__init__") (.ofString "Refusal.__init__") fp62 (.stmts fb62) fs62 0 [] .none .none .none .none none .none .none 0)) #[]
noncomputable def q66_4:Params->Obj:=fun P => .mk (.type "super") none (.fields #[.ref 65,.ref 65,.ref 65]) #[]
noncomputable def q67_4:Params->Obj:=fun P => .mk (.type "builtin_function_or_method") none (.fields #[.builtin "object.__init_subclass__",.ref 65]) #[]
noncomputable def qH4:Params->Heap:=fun P=>Heap.mk (Array.mk ((qO boot_o_0<|qO boot_o_1<|qT 1<|qD 1<|qO q3_4<|qO boot_o_4<|qO boot_o_5<|qO boot_o_6<|qO boot_o_7<|qO boot_o_8<|qO boot_o_9<|qO boot_o_10<|qO q11_1<|qO q12_4<|qO q13_1<|qO q14_1<|qT 1<|qO q16_2<|qT 2<|qO q19_2<|qT 3<|qO q23_2<|qT 2<|qO q26_2<|qT 3<|qO q30_2<|qT 2<|qO q33_2<|qT 3<|qO q37_3<|qO q38_3<|qO q39_3<|qO q40_3<|qO q41_3<|qO q42_3<|qT 4<|qO q47_3<|qO q48_3<|qT 1<|qO q50_4<|qO q51_4<|qO q52_4<|qO q53_4<|qO q54_4<|qO q55_4<|qT 1<|qO q57_4<|qT 2<|qO q60_4<|qT 5<|qO q66_4<|qO q67_4<|fun _ _=>[]) P (KF P))) (Life.mk [] [] [] 0 [] [] false #[] [] 0 false false false 0 [2000,10,10] false 0 true [] [] 0 false)
noncomputable def qS4 (w:World) (os:OsState):Shared:=⟨qH4 w.params,Array.mk [],⟨0,0,0,0⟩,259,os⟩
noncomputable def q3_5:Params->Obj:=fun P => .mk (.type "dict") none (.dict #[.mk (PyData.keyHash P (.ofString "__name__")) (.str (.ofString "__name__") 165) (.str (.ofString "vectorcove.values") 259),.mk (PyData.keyHash P (.ofString "__doc__")) (.str (.ofString "__doc__") 166) .none,.mk (PyData.keyHash P (.ofString "__package__")) (.str (.ofString "__package__") 167) .none,.mk (PyData.keyHash P (.ofString "__loader__")) (.str (.ofString "__loader__") 168) (.builtin "__main__.__loader__#opaque"),.mk (PyData.keyHash P (.ofString "__spec__")) (.str (.ofString "__spec__") 169) .none,.mk (PyData.keyHash P (.ofString "__annotations__")) (.str (.ofString "__annotations__") 170) (.ref 6),.mk (PyData.keyHash P (.ofString "__builtins__")) (.str (.ofString "__builtins__") 171) (.ref 4),.mk (PyData.keyHash P (.ofString "__file__")) (.str (.ofString "__file__") 173) (.str (.ofString "/claim/cut.py") 172),.mk (PyData.keyHash P (.ofString "__cached__")) (.str (.ofString "__cached__") 174) .none,.mk (PyData.keyHash P (.ofString "_wall")) (.str (.ofString "_wall") 193) (.ref 21),.mk (PyData.keyHash P (.ofString "get_attr")) (.str (.ofString "get_attr") 203) (.ref 28),.mk (PyData.keyHash P (.ofString "dim_of")) (.str (.ofString "dim_of") 211) (.ref 35),.mk (PyData.keyHash P (.ofString "CoveError")) (.str (.ofString "CoveError") 233) (.ref 45),.mk (PyData.keyHash P (.ofString "Refusal")) (.str (.ofString "Refusal") 258) (.ref 65),.mk (PyData.keyHash P (.ofString "Null")) (.str (.ofString "Null") 289) (.ref 84)] 15) #[]
noncomputable def q12_5:Params->Obj:=fun P => .mk .none none (.fields #[.int 1 0,.int 0 0,.ref 20,.int 5 0,.int 0 0,.ref 27,.int 9 0,.int 0 0,.ref 34,.int 15 0,.int 0 0,.ref 41,.int 17 0,.int 0 0,.ref 54,.int 22 0,.int 0 0,.ref 73]) #[]
noncomputable def q68_5:Params->Obj:=fun P => .mk (.type "tuple") none (.seq #[]) #[]
noncomputable def q69_5:Params->Obj:=fun P => .mk (.type "builtin_function_or_method") none (.fields #[.builtin "type.__prepare__",.type "type"]) #[]
noncomputable def q70_5:Params->Obj:=fun P => .mk (.type "dict") none (.dict #[.mk (PyData.keyHash P (.ofString "__module__")) (.str (.ofString "__module__") 268) (.str (.ofString "vectorcove.values") 259),.mk (PyData.keyHash P (.ofString "__qualname__")) (.str (.ofString "__qualname__") 270) (.str (.ofString "Null") 269),.mk (PyData.keyHash P (.ofString "__firstlineno__")) (.str (.ofString "__firstlineno__") 272) (.int 22 271),.mk (PyData.keyHash P (.ofString "__init__")) (.str (.ofString "__init__") 279) (.ref 81),.mk (PyData.keyHash P (.ofString "__static_attributes__")) (.str (.ofString "__static_attributes__") 282) (.ref 82)] 5) #[]
noncomputable def q71_5:Params->Obj:=fun P => .mk (.type "tuple") none (.seq #[]) #[]
noncomputable def q72_5:Params->Obj:=fun P => .mk .none none (.fields #[.int 24 0,.int 4 0,.ref 80]) #[]
noncomputable def q73_5:Params->Obj:=fun P => .mk (.type "code") none (.fields #[.str (.ofString "Null") 263,.str (.ofString "Null") 264,.str (.ofString "/claim/cut.py") 265,.int 22 0,.int 0 0,.int 0 0,.int 0 0,.int 0 0,.ref 71,.bool false,.int 181 0,.ref 72,.none,.none,.none,.none,.int 266 0,.int 22 0,.str (.ofString "/claim/cut.py") 267]) #[]
noncomputable def q74_5:Params->Obj:=fun P => .mk (.type "frame") none .plain #[some (.ref 73),some (.ref 3),some (.ref 70),none,some (.str (.ofString "vectorcove.values") 259),none,some (.ref 0)]
noncomputable def q76_5:Params->Obj:=fun P => .mk .none none (.fields #[]) #[]
noncomputable def q79_5:Params->Obj:=fun P => .mk .none none (.func (.mk (.ofString "__init__") (.ofString "Null.__init__") fp81 (.stmts fb81) fs81 0 [] .none .none .none .none none .none .none 0)) #[]
noncomputable def q87_5:Params->Obj:=fun P => .mk (.type "super") none (.fields #[.ref 84,.ref 84,.ref 84]) #[]
noncomputable def q88_5:Params->Obj:=fun P => .mk (.type "builtin_function_or_method") none (.fields #[.builtin "object.__init_subclass__",.ref 84]) #[]
noncomputable def qH5:Params->Heap:=fun P=>Heap.mk (Array.mk ((qO boot_o_0<|qO boot_o_1<|qT 1<|qD 1<|qO q3_5<|qO boot_o_4<|qO boot_o_5<|qO boot_o_6<|qO boot_o_7<|qO boot_o_8<|qO boot_o_9<|qO boot_o_10<|qO q11_1<|qO q12_5<|qO q13_1<|qO q14_1<|qT 1<|qO q16_2<|qT 2<|qO q19_2<|qT 3<|qO q23_2<|qT 2<|qO q26_2<|qT 3<|qO q30_2<|qT 2<|qO q33_2<|qT 3<|qO q37_3<|qO q38_3<|qO q39_3<|qO q40_3<|qO q41_3<|qO q42_3<|qT 4<|qO q47_3<|qO q48_3<|qT 1<|qO q50_4<|qO q51_4<|qO q52_4<|qO q53_4<|qO q54_4<|qO q55_4<|qT 1<|qO q57_4<|qT 2<|qO q60_4<|qT 5<|qO q66_4<|qO q67_4<|qO q68_5<|qO q69_5<|qO q70_5<|qO q71_5<|qO q72_5<|qO q73_5<|qO q74_5<|qT 1<|qO q76_5<|qT 2<|qO q79_5<|qT 7<|qO q87_5<|qO q88_5<|fun _ _=>[]) P (KF P))) (Life.mk [] [] [] 0 [] [] false #[] [] 0 false false false 0 [2000,10,10] false 0 true [] [] 0 false)
noncomputable def qS5 (w:World) (os:OsState):Shared:=⟨qH5 w.params,Array.mk [],⟨0,0,0,0⟩,290,os⟩
noncomputable def q3_6:Params->Obj:=fun P => .mk (.type "dict") none (.dict #[.mk (PyData.keyHash P (.ofString "__name__")) (.str (.ofString "__name__") 165) (.str (.ofString "vectorcove.values") 259),.mk (PyData.keyHash P (.ofString "__doc__")) (.str (.ofString "__doc__") 166) .none,.mk (PyData.keyHash P (.ofString "__package__")) (.str (.ofString "__package__") 167) .none,.mk (PyData.keyHash P (.ofString "__loader__")) (.str (.ofString "__loader__") 168) (.builtin "__main__.__loader__#opaque"),.mk (PyData.keyHash P (.ofString "__spec__")) (.str (.ofString "__spec__") 169) .none,.mk (PyData.keyHash P (.ofString "__annotations__")) (.str (.ofString "__annotations__") 170) (.ref 6),.mk (PyData.keyHash P (.ofString "__builtins__")) (.str (.ofString "__builtins__") 171) (.ref 4),.mk (PyData.keyHash P (.ofString "__file__")) (.str (.ofString "__file__") 173) (.str (.ofString "/claim/cut.py") 172),.mk (PyData.keyHash P (.ofString "__cached__")) (.str (.ofString "__cached__") 174) .none,.mk (PyData.keyHash P (.ofString "_wall")) (.str (.ofString "_wall") 193) (.ref 21),.mk (PyData.keyHash P (.ofString "get_attr")) (.str (.ofString "get_attr") 203) (.ref 28),.mk (PyData.keyHash P (.ofString "dim_of")) (.str (.ofString "dim_of") 211) (.ref 35),.mk (PyData.keyHash P (.ofString "CoveError")) (.str (.ofString "CoveError") 233) (.ref 45),.mk (PyData.keyHash P (.ofString "Refusal")) (.str (.ofString "Refusal") 258) (.ref 65),.mk (PyData.keyHash P (.ofString "Null")) (.str (.ofString "Null") 289) (.ref 84),.mk (PyData.keyHash P (.ofString "Vector")) (.str (.ofString "Vector") 331) (.ref 113)] 16) #[]
noncomputable def q12_6:Params->Obj:=fun P => .mk .none none (.fields #[.int 1 0,.int 0 0,.ref 20,.int 5 0,.int 0 0,.ref 27,.int 9 0,.int 0 0,.ref 34,.int 15 0,.int 0 0,.ref 41,.int 17 0,.int 0 0,.ref 54,.int 22 0,.int 0 0,.ref 73,.int 27 0,.int 0 0,.ref 94]) #[]
noncomputable def q89_6:Params->Obj:=fun P => .mk (.type "tuple") none (.seq #[]) #[]
noncomputable def q90_6:Params->Obj:=fun P => .mk (.type "builtin_function_or_method") none (.fields #[.builtin "type.__prepare__",.type "type"]) #[]
noncomputable def q91_6:Params->Obj:=fun P => .mk (.type "dict") none (.dict #[.mk (PyData.keyHash P (.ofString "__module__")) (.str (.ofString "__module__") 297) (.str (.ofString "vectorcove.values") 259),.mk (PyData.keyHash P (.ofString "__qualname__")) (.str (.ofString "__qualname__") 299) (.str (.ofString "Vector") 298),.mk (PyData.keyHash P (.ofString "__firstlineno__")) (.str (.ofString "__firstlineno__") 301) (.int 27 300),.mk (PyData.keyHash P (.ofString "__init__")) (.str (.ofString "__init__") 311) (.ref 103),.mk (PyData.keyHash P (.ofString "copy")) (.str (.ofString "copy") 318) (.ref 110),.mk (PyData.keyHash P (.ofString "__static_attributes__")) (.str (.ofString "__static_attributes__") 324) (.ref 111)] 6) #[]
noncomputable def q92_6:Params->Obj:=fun P => .mk (.type "tuple") none (.seq #[]) #[]
noncomputable def q93_6:Params->Obj:=fun P => .mk .none none (.fields #[.int 29 0,.int 4 0,.ref 102,.int 36 0,.int 4 0,.ref 109]) #[]
noncomputable def q94_6:Params->Obj:=fun P => .mk (.type "code") none (.fields #[.str (.ofString "Vector") 292,.str (.ofString "Vector") 293,.str (.ofString "/claim/cut.py") 294,.int 27 0,.int 0 0,.int 0 0,.int 0 0,.int 0 0,.ref 92,.bool false,.int 181 0,.ref 93,.none,.none,.none,.none,.int 295 0,.int 27 0,.str (.ofString "/claim/cut.py") 296]) #[]
noncomputable def q95_6:Params->Obj:=fun P => .mk (.type "frame") none .plain #[some (.ref 94),some (.ref 3),some (.ref 91),none,some (.str (.ofString "vectorcove.values") 259),none,some (.ref 0)]
noncomputable def q98_6:Params->Obj:=fun P => .mk .none none (.fields #[]) #[]
noncomputable def q101_6:Params->Obj:=fun P => .mk .none none (.func (.mk (.ofString "__init__") (.ofString "Vector.__init__") fp103 (.stmts fb103) fs103 0 [] .none .none .none .none none .none .none 0)) #[]
noncomputable def q105_6:Params->Obj:=fun P => .mk .none none (.fields #[]) #[]
noncomputable def q108_6:Params->Obj:=fun P => .mk .none none (.func (.mk (.ofString "copy") (.ofString "Vector.copy") fp110 (.stmts fb110) fs110 0 [] .none .none .none .none none .none .none 0)) #[]
noncomputable def q116_6:Params->Obj:=fun P => .mk (.type "super") none (.fields #[.ref 113,.ref 113,.ref 113]) #[]
noncomputable def q117_6:Params->Obj:=fun P => .mk (.type "builtin_function_or_method") none (.fields #[.builtin "object.__init_subclass__",.ref 113]) #[]
noncomputable def qH6:Params->Heap:=fun P=>Heap.mk (Array.mk ((qO boot_o_0<|qO boot_o_1<|qT 1<|qD 1<|qO q3_6<|qO boot_o_4<|qO boot_o_5<|qO boot_o_6<|qO boot_o_7<|qO boot_o_8<|qO boot_o_9<|qO boot_o_10<|qO q11_1<|qO q12_6<|qO q13_1<|qO q14_1<|qT 1<|qO q16_2<|qT 2<|qO q19_2<|qT 3<|qO q23_2<|qT 2<|qO q26_2<|qT 3<|qO q30_2<|qT 2<|qO q33_2<|qT 3<|qO q37_3<|qO q38_3<|qO q39_3<|qO q40_3<|qO q41_3<|qO q42_3<|qT 4<|qO q47_3<|qO q48_3<|qT 1<|qO q50_4<|qO q51_4<|qO q52_4<|qO q53_4<|qO q54_4<|qO q55_4<|qT 1<|qO q57_4<|qT 2<|qO q60_4<|qT 5<|qO q66_4<|qO q67_4<|qO q68_5<|qO q69_5<|qO q70_5<|qO q71_5<|qO q72_5<|qO q73_5<|qO q74_5<|qT 1<|qO q76_5<|qT 2<|qO q79_5<|qT 7<|qO q87_5<|qO q88_5<|qO q89_6<|qO q90_6<|qO q91_6<|qO q92_6<|qO q93_6<|qO q94_6<|qO q95_6<|qT 2<|qO q98_6<|qT 2<|qO q101_6<|qT 3<|qO q105_6<|qT 2<|qO q108_6<|qT 7<|qO q116_6<|qO q117_6<|fun _ _=>[]) P (KF P))) (Life.mk [] [] [] 0 [] [] false #[] [] 0 false false false 0 [2000,10,10] false 0 true [] [] 0 false)
noncomputable def qS6 (w:World) (os:OsState):Shared:=⟨qH6 w.params,Array.mk [],⟨0,0,0,0⟩,332,os⟩
noncomputable def q3_7:Params->Obj:=fun P => .mk (.type "dict") none (.dict #[.mk (PyData.keyHash P (.ofString "__name__")) (.str (.ofString "__name__") 165) (.str (.ofString "vectorcove.arith") 340),.mk (PyData.keyHash P (.ofString "__doc__")) (.str (.ofString "__doc__") 166) .none,.mk (PyData.keyHash P (.ofString "__package__")) (.str (.ofString "__package__") 167) .none,.mk (PyData.keyHash P (.ofString "__loader__")) (.str (.ofString "__loader__") 168) (.builtin "__main__.__loader__#opaque"),.mk (PyData.keyHash P (.ofString "__spec__")) (.str (.ofString "__spec__") 169) .none,.mk (PyData.keyHash P (.ofString "__annotations__")) (.str (.ofString "__annotations__") 170) (.ref 6),.mk (PyData.keyHash P (.ofString "__builtins__")) (.str (.ofString "__builtins__") 171) (.ref 4),.mk (PyData.keyHash P (.ofString "__file__")) (.str (.ofString "__file__") 173) (.str (.ofString "/claim/cut.py") 172),.mk (PyData.keyHash P (.ofString "__cached__")) (.str (.ofString "__cached__") 174) .none,.mk (PyData.keyHash P (.ofString "_wall")) (.str (.ofString "_wall") 193) (.ref 21),.mk (PyData.keyHash P (.ofString "get_attr")) (.str (.ofString "get_attr") 203) (.ref 28),.mk (PyData.keyHash P (.ofString "dim_of")) (.str (.ofString "dim_of") 211) (.ref 35),.mk (PyData.keyHash P (.ofString "CoveError")) (.str (.ofString "CoveError") 233) (.ref 45),.mk (PyData.keyHash P (.ofString "Refusal")) (.str (.ofString "Refusal") 258) (.ref 65),.mk (PyData.keyHash P (.ofString "Null")) (.str (.ofString "Null") 289) (.ref 84),.mk (PyData.keyHash P (.ofString "Vector")) (.str (.ofString "Vector") 331) (.ref 113),.mk (PyData.keyHash P (.ofString "length")) (.str (.ofString "length") 339) (.ref 124),.mk (PyData.keyHash P (.ofString "recycle_length")) (.str (.ofString "recycle_length") 349) (.ref 131),.mk (PyData.keyHash P (.ofString "note_recycling")) (.str (.ofString "note_recycling") 358) (.ref 138),.mk (PyData.keyHash P (.ofString "product")) (.str (.ofString "product") 367) (.ref 145),.mk (PyData.keyHash P (.ofString "result_dim")) (.str (.ofString "result_dim") 380) (.ref 152),.mk (PyData.keyHash P (.ofString "note_array_of_one")) (.str (.ofString "note_array_of_one") 392) (.ref 159),.mk (PyData.keyHash P (.ofString "common_length")) (.str (.ofString "common_length") 401) (.ref 166)] 23) #[]
noncomputable def q12_7:Params->Obj:=fun P => .mk .none none (.fields #[.int 1 0,.int 0 0,.ref 20,.int 5 0,.int 0 0,.ref 27,.int 9 0,.int 0 0,.ref 34,.int 15 0,.int 0 0,.ref 41,.int 17 0,.int 0 0,.ref 54,.int 22 0,.int 0 0,.ref 73,.int 27 0,.int 0 0,.ref 94,.int 38 0,.int 0 0,.ref 123,.int 50 0,.int 0 0,.ref 130,.int 54 0,.int 0 0,.ref 137,.int 57 0,.int 0 0,.ref 144,.int 62 0,.int 0 0,.ref 151,.int 82 0,.int 0 0,.ref 158,.int 88 0,.int 0 0,.ref 165]) #[]
noncomputable def q119_7:Params->Obj:=fun P => .mk .none none (.fields #[]) #[]
noncomputable def q122_7:Params->Obj:=fun P => .mk .none none (.func (.mk (.ofString "length") (.ofString "length") fp124 (.stmts fb124) fs124 0 [] .none .none .none .none none .none .none 0)) #[]
noncomputable def q126_7:Params->Obj:=fun P => .mk .none none (.fields #[]) #[]
noncomputable def q129_7:Params->Obj:=fun P => .mk .none none (.func (.mk (.ofString "recycle_length") (.ofString "recycle_length") fp131 (.stmts fb131) fs131 0 [] .none .none .none .none none .none .none 0)) #[]
noncomputable def q133_7:Params->Obj:=fun P => .mk .none none (.fields #[]) #[]
noncomputable def q136_7:Params->Obj:=fun P => .mk .none none (.func (.mk (.ofString "note_recycling") (.ofString "note_recycling") fp138 (.stmts fb138) fs138 0 [] .none .none .none .none none .none .none 0)) #[]
noncomputable def q140_7:Params->Obj:=fun P => .mk .none none (.fields #[]) #[]
noncomputable def q143_7:Params->Obj:=fun P => .mk .none none (.func (.mk (.ofString "product") (.ofString "product") fp145 (.stmts fb145) fs145 0 [] .none .none .none .none none .none .none 0)) #[]
noncomputable def q147_7:Params->Obj:=fun P => .mk .none none (.fields #[]) #[]
noncomputable def q150_7:Params->Obj:=fun P => .mk .none none (.func (.mk (.ofString "result_dim") (.ofString "result_dim") fp152 (.stmts fb152) fs152 0 [] .none .none .none .none none .none .none 0)) #[]
noncomputable def q154_7:Params->Obj:=fun P => .mk .none none (.fields #[]) #[]
noncomputable def q157_7:Params->Obj:=fun P => .mk .none none (.func (.mk (.ofString "note_array_of_one") (.ofString "note_array_of_one") fp159 (.stmts fb159) fs159 0 [] .none .none .none .none none .none .none 0)) #[]
noncomputable def q161_7:Params->Obj:=fun P => .mk .none none (.fields #[]) #[]
noncomputable def q164_7:Params->Obj:=fun P => .mk .none none (.func (.mk (.ofString "common_length") (.ofString "common_length") fp166 (.stmts fb166) fs166 0 [] .none .none .none .none none .none .none 0)) #[]
noncomputable def qH7:Params->Heap:=fun P=>Heap.mk (Array.mk ((qO boot_o_0<|qO boot_o_1<|qT 1<|qD 1<|qO q3_7<|qO boot_o_4<|qO boot_o_5<|qO boot_o_6<|qO boot_o_7<|qO boot_o_8<|qO boot_o_9<|qO boot_o_10<|qO q11_1<|qO q12_7<|qO q13_1<|qO q14_1<|qT 1<|qO q16_2<|qT 2<|qO q19_2<|qT 3<|qO q23_2<|qT 2<|qO q26_2<|qT 3<|qO q30_2<|qT 2<|qO q33_2<|qT 3<|qO q37_3<|qO q38_3<|qO q39_3<|qO q40_3<|qO q41_3<|qO q42_3<|qT 4<|qO q47_3<|qO q48_3<|qT 1<|qO q50_4<|qO q51_4<|qO q52_4<|qO q53_4<|qO q54_4<|qO q55_4<|qT 1<|qO q57_4<|qT 2<|qO q60_4<|qT 5<|qO q66_4<|qO q67_4<|qO q68_5<|qO q69_5<|qO q70_5<|qO q71_5<|qO q72_5<|qO q73_5<|qO q74_5<|qT 1<|qO q76_5<|qT 2<|qO q79_5<|qT 7<|qO q87_5<|qO q88_5<|qO q89_6<|qO q90_6<|qO q91_6<|qO q92_6<|qO q93_6<|qO q94_6<|qO q95_6<|qT 2<|qO q98_6<|qT 2<|qO q101_6<|qT 3<|qO q105_6<|qT 2<|qO q108_6<|qT 7<|qO q116_6<|qO q117_6<|qT 1<|qO q119_7<|qT 2<|qO q122_7<|qT 3<|qO q126_7<|qT 2<|qO q129_7<|qT 3<|qO q133_7<|qT 2<|qO q136_7<|qT 3<|qO q140_7<|qT 2<|qO q143_7<|qT 3<|qO q147_7<|qT 2<|qO q150_7<|qT 3<|qO q154_7<|qT 2<|qO q157_7<|qT 3<|qO q161_7<|qT 2<|qO q164_7<|qT 2<|fun _ _=>[]) P (KF P))) (Life.mk [] [] [] 0 [] [] false #[] [] 0 false false false 0 [2000,10,10] false 0 true [] [] 0 false)
noncomputable def qS7 (w:World) (os:OsState):Shared:=⟨qH7 w.params,Array.mk [],⟨0,0,0,0⟩,402,os⟩
noncomputable def q3_8:Params->Obj:=fun P => .mk (.type "dict") none (.dict #[.mk (PyData.keyHash P (.ofString "__name__")) (.str (.ofString "__name__") 165) (.str (.ofString "vectorcove.logic") 440),.mk (PyData.keyHash P (.ofString "__doc__")) (.str (.ofString "__doc__") 166) .none,.mk (PyData.keyHash P (.ofString "__package__")) (.str (.ofString "__package__") 167) .none,.mk (PyData.keyHash P (.ofString "__loader__")) (.str (.ofString "__loader__") 168) (.builtin "__main__.__loader__#opaque"),.mk (PyData.keyHash P (.ofString "__spec__")) (.str (.ofString "__spec__") 169) .none,.mk (PyData.keyHash P (.ofString "__annotations__")) (.str (.ofString "__annotations__") 170) (.ref 6),.mk (PyData.keyHash P (.ofString "__builtins__")) (.str (.ofString "__builtins__") 171) (.ref 4),.mk (PyData.keyHash P (.ofString "__file__")) (.str (.ofString "__file__") 173) (.str (.ofString "/claim/cut.py") 172),.mk (PyData.keyHash P (.ofString "__cached__")) (.str (.ofString "__cached__") 174) .none,.mk (PyData.keyHash P (.ofString "_wall")) (.str (.ofString "_wall") 193) (.ref 21),.mk (PyData.keyHash P (.ofString "get_attr")) (.str (.ofString "get_attr") 203) (.ref 28),.mk (PyData.keyHash P (.ofString "dim_of")) (.str (.ofString "dim_of") 211) (.ref 35),.mk (PyData.keyHash P (.ofString "CoveError")) (.str (.ofString "CoveError") 233) (.ref 45),.mk (PyData.keyHash P (.ofString "Refusal")) (.str (.ofString "Refusal") 258) (.ref 65),.mk (PyData.keyHash P (.ofString "Null")) (.str (.ofString "Null") 289) (.ref 84),.mk (PyData.keyHash P (.ofString "Vector")) (.str (.ofString "Vector") 331) (.ref 113),.mk (PyData.keyHash P (.ofString "length")) (.str (.ofString "length") 339) (.ref 124),.mk (PyData.keyHash P (.ofString "recycle_length")) (.str (.ofString "recycle_length") 349) (.ref 131),.mk (PyData.keyHash P (.ofString "note_recycling")) (.str (.ofString "note_recycling") 358) (.ref 138),.mk (PyData.keyHash P (.ofString "product")) (.str (.ofString "product") 367) (.ref 145),.mk (PyData.keyHash P (.ofString "result_dim")) (.str (.ofString "result_dim") 380) (.ref 152),.mk (PyData.keyHash P (.ofString "note_array_of_one")) (.str (.ofString "note_array_of_one") 392) (.ref 159),.mk (PyData.keyHash P (.ofString "common_length")) (.str (.ofString "common_length") 401) (.ref 166),.mk (PyData.keyHash P (.ofString "attribute")) (.str (.ofString "attribute") 409) (.ref 173),.mk (PyData.keyHash P (.ofString "shape_attrs")) (.str (.ofString "shape_attrs") 422) (.ref 180),.mk (PyData.keyHash P (.ofString "keep_all")) (.str (.ofString "keep_all") 430) (.ref 187),.mk (PyData.keyHash P (.ofString "is_na")) (.str (.ofString "is_na") 439) (.ref 194),.mk (PyData.keyHash P (.ofString "and_items")) (.str (.ofString "and_items") 449) (.ref 201),.mk (PyData.keyHash P (.ofString "or_items")) (.str (.ofString "or_items") 457) (.ref 208)] 29) #[]
noncomputable def q12_8:Params->Obj:=fun P => .mk .none none (.fields #[.int 1 0,.int 0 0,.ref 20,.int 5 0,.int 0 0,.ref 27,.int 9 0,.int 0 0,.ref 34,.int 15 0,.int 0 0,.ref 41,.int 17 0,.int 0 0,.ref 54,.int 22 0,.int 0 0,.ref 73,.int 27 0,.int 0 0,.ref 94,.int 38 0,.int 0 0,.ref 123,.int 50 0,.int 0 0,.ref 130,.int 54 0,.int 0 0,.ref 137,.int 57 0,.int 0 0,.ref 144,.int 62 0,.int 0 0,.ref 151,.int 82 0,.int 0 0,.ref 158,.int 88 0,.int 0 0,.ref 165,.int 93 0,.int 0 0,.ref 172,.int 97 0,.int 0 0,.ref 179,.int 113 0,.int 0 0,.ref 186,.int 118 0,.int 0 0,.ref 193,.int 121 0,.int 0 0,.ref 200,.int 127 0,.int 0 0,.ref 207]) #[]
noncomputable def q168_8:Params->Obj:=fun P => .mk .none none (.fields #[]) #[]
noncomputable def q171_8:Params->Obj:=fun P => .mk .none none (.func (.mk (.ofString "attribute") (.ofString "attribute") fp173 (.stmts fb173) fs173 0 [] .none .none .none .none none .none .none 0)) #[]
noncomputable def q175_8:Params->Obj:=fun P => .mk .none none (.fields #[]) #[]
noncomputable def q178_8:Params->Obj:=fun P => .mk .none none (.func (.mk (.ofString "shape_attrs") (.ofString "shape_attrs") fp180 (.stmts fb180) fs180 0 [] .none .none .none .none none .none .none 0)) #[]
noncomputable def q182_8:Params->Obj:=fun P => .mk .none none (.fields #[]) #[]
noncomputable def q185_8:Params->Obj:=fun P => .mk .none none (.func (.mk (.ofString "keep_all") (.ofString "keep_all") fp187 (.stmts fb187) fs187 0 [] .none .none .none .none none .none .none 0)) #[]
noncomputable def q189_8:Params->Obj:=fun P => .mk .none none (.fields #[]) #[]
noncomputable def q192_8:Params->Obj:=fun P => .mk .none none (.func (.mk (.ofString "is_na") (.ofString "is_na") fp194 (.stmts fb194) fs194 0 [] .none .none .none .none none .none .none 0)) #[]
noncomputable def q196_8:Params->Obj:=fun P => .mk .none none (.fields #[]) #[]
noncomputable def q199_8:Params->Obj:=fun P => .mk .none none (.func (.mk (.ofString "and_items") (.ofString "and_items") fp201 (.stmts fb201) fs201 0 [] .none .none .none .none none .none .none 0)) #[]
noncomputable def q203_8:Params->Obj:=fun P => .mk .none none (.fields #[]) #[]
noncomputable def q206_8:Params->Obj:=fun P => .mk .none none (.func (.mk (.ofString "or_items") (.ofString "or_items") fp208 (.stmts fb208) fs208 0 [] .none .none .none .none none .none .none 0)) #[]
noncomputable def qH8:Params->Heap:=fun P=>Heap.mk (Array.mk ((qO boot_o_0<|qO boot_o_1<|qT 1<|qD 1<|qO q3_8<|qO boot_o_4<|qO boot_o_5<|qO boot_o_6<|qO boot_o_7<|qO boot_o_8<|qO boot_o_9<|qO boot_o_10<|qO q11_1<|qO q12_8<|qO q13_1<|qO q14_1<|qT 1<|qO q16_2<|qT 2<|qO q19_2<|qT 3<|qO q23_2<|qT 2<|qO q26_2<|qT 3<|qO q30_2<|qT 2<|qO q33_2<|qT 3<|qO q37_3<|qO q38_3<|qO q39_3<|qO q40_3<|qO q41_3<|qO q42_3<|qT 4<|qO q47_3<|qO q48_3<|qT 1<|qO q50_4<|qO q51_4<|qO q52_4<|qO q53_4<|qO q54_4<|qO q55_4<|qT 1<|qO q57_4<|qT 2<|qO q60_4<|qT 5<|qO q66_4<|qO q67_4<|qO q68_5<|qO q69_5<|qO q70_5<|qO q71_5<|qO q72_5<|qO q73_5<|qO q74_5<|qT 1<|qO q76_5<|qT 2<|qO q79_5<|qT 7<|qO q87_5<|qO q88_5<|qO q89_6<|qO q90_6<|qO q91_6<|qO q92_6<|qO q93_6<|qO q94_6<|qO q95_6<|qT 2<|qO q98_6<|qT 2<|qO q101_6<|qT 3<|qO q105_6<|qT 2<|qO q108_6<|qT 7<|qO q116_6<|qO q117_6<|qT 1<|qO q119_7<|qT 2<|qO q122_7<|qT 3<|qO q126_7<|qT 2<|qO q129_7<|qT 3<|qO q133_7<|qT 2<|qO q136_7<|qT 3<|qO q140_7<|qT 2<|qO q143_7<|qT 3<|qO q147_7<|qT 2<|qO q150_7<|qT 3<|qO q154_7<|qT 2<|qO q157_7<|qT 3<|qO q161_7<|qT 2<|qO q164_7<|qT 3<|qO q168_8<|qT 2<|qO q171_8<|qT 3<|qO q175_8<|qT 2<|qO q178_8<|qT 3<|qO q182_8<|qT 2<|qO q185_8<|qT 3<|qO q189_8<|qT 2<|qO q192_8<|qT 3<|qO q196_8<|qT 2<|qO q199_8<|qT 3<|qO q203_8<|qT 2<|qO q206_8<|qT 2<|fun _ _=>[]) P (KF P))) (Life.mk [] [] [] 0 [] [] false #[] [] 0 false false false 0 [2000,10,10] false 0 true [] [] 0 false)
noncomputable def qS8 (w:World) (os:OsState):Shared:=⟨qH8 w.params,Array.mk [],⟨0,0,0,0⟩,458,os⟩
noncomputable def q3_9:Params->Obj:=fun P => .mk (.type "dict") none (.dict #[.mk (PyData.keyHash P (.ofString "__name__")) (.str (.ofString "__name__") 165) (.str (.ofString "vectorcove.logic") 440),.mk (PyData.keyHash P (.ofString "__doc__")) (.str (.ofString "__doc__") 166) .none,.mk (PyData.keyHash P (.ofString "__package__")) (.str (.ofString "__package__") 167) .none,.mk (PyData.keyHash P (.ofString "__loader__")) (.str (.ofString "__loader__") 168) (.builtin "__main__.__loader__#opaque"),.mk (PyData.keyHash P (.ofString "__spec__")) (.str (.ofString "__spec__") 169) .none,.mk (PyData.keyHash P (.ofString "__annotations__")) (.str (.ofString "__annotations__") 170) (.ref 6),.mk (PyData.keyHash P (.ofString "__builtins__")) (.str (.ofString "__builtins__") 171) (.ref 4),.mk (PyData.keyHash P (.ofString "__file__")) (.str (.ofString "__file__") 173) (.str (.ofString "/claim/cut.py") 172),.mk (PyData.keyHash P (.ofString "__cached__")) (.str (.ofString "__cached__") 174) .none,.mk (PyData.keyHash P (.ofString "_wall")) (.str (.ofString "_wall") 193) (.ref 21),.mk (PyData.keyHash P (.ofString "get_attr")) (.str (.ofString "get_attr") 203) (.ref 28),.mk (PyData.keyHash P (.ofString "dim_of")) (.str (.ofString "dim_of") 211) (.ref 35),.mk (PyData.keyHash P (.ofString "CoveError")) (.str (.ofString "CoveError") 233) (.ref 45),.mk (PyData.keyHash P (.ofString "Refusal")) (.str (.ofString "Refusal") 258) (.ref 65),.mk (PyData.keyHash P (.ofString "Null")) (.str (.ofString "Null") 289) (.ref 84),.mk (PyData.keyHash P (.ofString "Vector")) (.str (.ofString "Vector") 331) (.ref 113),.mk (PyData.keyHash P (.ofString "length")) (.str (.ofString "length") 339) (.ref 124),.mk (PyData.keyHash P (.ofString "recycle_length")) (.str (.ofString "recycle_length") 349) (.ref 131),.mk (PyData.keyHash P (.ofString "note_recycling")) (.str (.ofString "note_recycling") 358) (.ref 138),.mk (PyData.keyHash P (.ofString "product")) (.str (.ofString "product") 367) (.ref 145),.mk (PyData.keyHash P (.ofString "result_dim")) (.str (.ofString "result_dim") 380) (.ref 152),.mk (PyData.keyHash P (.ofString "note_array_of_one")) (.str (.ofString "note_array_of_one") 392) (.ref 159),.mk (PyData.keyHash P (.ofString "common_length")) (.str (.ofString "common_length") 401) (.ref 166),.mk (PyData.keyHash P (.ofString "attribute")) (.str (.ofString "attribute") 409) (.ref 173),.mk (PyData.keyHash P (.ofString "shape_attrs")) (.str (.ofString "shape_attrs") 422) (.ref 180),.mk (PyData.keyHash P (.ofString "keep_all")) (.str (.ofString "keep_all") 430) (.ref 187),.mk (PyData.keyHash P (.ofString "is_na")) (.str (.ofString "is_na") 439) (.ref 194),.mk (PyData.keyHash P (.ofString "and_items")) (.str (.ofString "and_items") 449) (.ref 201),.mk (PyData.keyHash P (.ofString "or_items")) (.str (.ofString "or_items") 457) (.ref 208),.mk (PyData.keyHash P (.ofString "not_item")) (.str (.ofString "not_item") 464) (.ref 215),.mk (PyData.keyHash P (.ofString "xor_items")) (.str (.ofString "xor_items") 472) (.ref 222),.mk (PyData.keyHash P (.ofString "truth_item")) (.str (.ofString "truth_item") 480) (.ref 229),.mk (PyData.keyHash P (.ofString "truth_items")) (.str (.ofString "truth_items") 486) (.ref 234),.mk (PyData.keyHash P (.ofString "logic_operand")) (.str (.ofString "logic_operand") 493) (.ref 241),.mk (PyData.keyHash P (.ofString "logic_pairs")) (.str (.ofString "logic_pairs") 499) (.ref 246),.mk (PyData.keyHash P (.ofString "logic_and")) (.str (.ofString "logic_and") 508) (.ref 253),.mk (PyData.keyHash P (.ofString "logic_or")) (.str (.ofString "logic_or") 517) (.ref 260)] 37) #[]
noncomputable def q12_9:Params->Obj:=fun P => .mk .none none (.fields #[.int 1 0,.int 0 0,.ref 20,.int 5 0,.int 0 0,.ref 27,.int 9 0,.int 0 0,.ref 34,.int 15 0,.int 0 0,.ref 41,.int 17 0,.int 0 0,.ref 54,.int 22 0,.int 0 0,.ref 73,.int 27 0,.int 0 0,.ref 94,.int 38 0,.int 0 0,.ref 123,.int 50 0,.int 0 0,.ref 130,.int 54 0,.int 0 0,.ref 137,.int 57 0,.int 0 0,.ref 144,.int 62 0,.int 0 0,.ref 151,.int 82 0,.int 0 0,.ref 158,.int 88 0,.int 0 0,.ref 165,.int 93 0,.int 0 0,.ref 172,.int 97 0,.int 0 0,.ref 179,.int 113 0,.int 0 0,.ref 186,.int 118 0,.int 0 0,.ref 193,.int 121 0,.int 0 0,.ref 200,.int 127 0,.int 0 0,.ref 207,.int 133 0,.int 0 0,.ref 214,.int 137 0,.int 0 0,.ref 221,.int 141 0,.int 0 0,.ref 228,.int 149 0,.int 0 0,.ref 233,.int 151 0,.int 0 0,.ref 240,.int 157 0,.int 0 0,.ref 245,.int 165 0,.int 0 0,.ref 252,.int 167 0,.int 0 0,.ref 259]) #[]
noncomputable def q210_9:Params->Obj:=fun P => .mk .none none (.fields #[]) #[]
noncomputable def q213_9:Params->Obj:=fun P => .mk .none none (.func (.mk (.ofString "not_item") (.ofString "not_item") fp215 (.stmts fb215) fs215 0 [] .none .none .none .none none .none .none 0)) #[]
noncomputable def q217_9:Params->Obj:=fun P => .mk .none none (.fields #[]) #[]
noncomputable def q220_9:Params->Obj:=fun P => .mk .none none (.func (.mk (.ofString "xor_items") (.ofString "xor_items") fp222 (.stmts fb222) fs222 0 [] .none .none .none .none none .none .none 0)) #[]
noncomputable def q224_9:Params->Obj:=fun P => .mk .none none (.fields #[]) #[]
noncomputable def q227_9:Params->Obj:=fun P => .mk .none none (.func (.mk (.ofString "truth_item") (.ofString "truth_item") fp229 (.stmts fb229) fs229 0 [] .none .none .none .none none .none .none 0)) #[]
noncomputable def q231_9:Params->Obj:=fun P => .mk .none none (.fields #[]) #[]
noncomputable def q232_9:Params->Obj:=fun P => .mk .none none (.func (.mk (.ofString "truth_items") (.ofString "truth_items") fp234 (.stmts fb234) fs234 0 [] .none .none .none .none none .none .none 0)) #[]
noncomputable def q236_9:Params->Obj:=fun P => .mk .none none (.fields #[]) #[]
noncomputable def q239_9:Params->Obj:=fun P => .mk .none none (.func (.mk (.ofString "logic_operand") (.ofString "logic_operand") fp241 (.stmts fb241) fs241 0 [] .none .none .none .none none .none .none 0)) #[]
noncomputable def q243_9:Params->Obj:=fun P => .mk .none none (.fields #[]) #[]
noncomputable def q244_9:Params->Obj:=fun P => .mk .none none (.func (.mk (.ofString "logic_pairs") (.ofString "logic_pairs") fp246 (.stmts fb246) fs246 0 [] .none .none .none .none none .none .none 0)) #[]
noncomputable def q248_9:Params->Obj:=fun P => .mk .none none (.fields #[]) #[]
noncomputable def q251_9:Params->Obj:=fun P => .mk .none none (.func (.mk (.ofString "logic_and") (.ofString "logic_and") fp253 (.stmts fb253) fs253 0 [] .none .none .none .none none .none .none 0)) #[]
noncomputable def q255_9:Params->Obj:=fun P => .mk .none none (.fields #[]) #[]
noncomputable def q258_9:Params->Obj:=fun P => .mk .none none (.func (.mk (.ofString "logic_or") (.ofString "logic_or") fp260 (.stmts fb260) fs260 0 [] .none .none .none .none none .none .none 0)) #[]
noncomputable def qH9:Params->Heap:=fun P=>Heap.mk (Array.mk ((qO boot_o_0<|qO boot_o_1<|qT 1<|qD 1<|qO q3_9<|qO boot_o_4<|qO boot_o_5<|qO boot_o_6<|qO boot_o_7<|qO boot_o_8<|qO boot_o_9<|qO boot_o_10<|qO q11_1<|qO q12_9<|qO q13_1<|qO q14_1<|qT 1<|qO q16_2<|qT 2<|qO q19_2<|qT 3<|qO q23_2<|qT 2<|qO q26_2<|qT 3<|qO q30_2<|qT 2<|qO q33_2<|qT 3<|qO q37_3<|qO q38_3<|qO q39_3<|qO q40_3<|qO q41_3<|qO q42_3<|qT 4<|qO q47_3<|qO q48_3<|qT 1<|qO q50_4<|qO q51_4<|qO q52_4<|qO q53_4<|qO q54_4<|qO q55_4<|qT 1<|qO q57_4<|qT 2<|qO q60_4<|qT 5<|qO q66_4<|qO q67_4<|qO q68_5<|qO q69_5<|qO q70_5<|qO q71_5<|qO q72_5<|qO q73_5<|qO q74_5<|qT 1<|qO q76_5<|qT 2<|qO q79_5<|qT 7<|qO q87_5<|qO q88_5<|qO q89_6<|qO q90_6<|qO q91_6<|qO q92_6<|qO q93_6<|qO q94_6<|qO q95_6<|qT 2<|qO q98_6<|qT 2<|qO q101_6<|qT 3<|qO q105_6<|qT 2<|qO q108_6<|qT 7<|qO q116_6<|qO q117_6<|qT 1<|qO q119_7<|qT 2<|qO q122_7<|qT 3<|qO q126_7<|qT 2<|qO q129_7<|qT 3<|qO q133_7<|qT 2<|qO q136_7<|qT 3<|qO q140_7<|qT 2<|qO q143_7<|qT 3<|qO q147_7<|qT 2<|qO q150_7<|qT 3<|qO q154_7<|qT 2<|qO q157_7<|qT 3<|qO q161_7<|qT 2<|qO q164_7<|qT 3<|qO q168_8<|qT 2<|qO q171_8<|qT 3<|qO q175_8<|qT 2<|qO q178_8<|qT 3<|qO q182_8<|qT 2<|qO q185_8<|qT 3<|qO q189_8<|qT 2<|qO q192_8<|qT 3<|qO q196_8<|qT 2<|qO q199_8<|qT 3<|qO q203_8<|qT 2<|qO q206_8<|qT 3<|qO q210_9<|qT 2<|qO q213_9<|qT 3<|qO q217_9<|qT 2<|qO q220_9<|qT 3<|qO q224_9<|qT 2<|qO q227_9<|qT 3<|qO q231_9<|qO q232_9<|qT 3<|qO q236_9<|qT 2<|qO q239_9<|qT 3<|qO q243_9<|qO q244_9<|qT 3<|qO q248_9<|qT 2<|qO q251_9<|qT 3<|qO q255_9<|qT 2<|qO q258_9<|qT 2<|fun _ _=>[]) P (KF P))) (Life.mk [] [] [] 0 [] [] false #[] [] 0 false false false 0 [2000,10,10] false 0 true [] [] 0 false)
noncomputable def qS9 (w:World) (os:OsState):Shared:=⟨qH9 w.params,Array.mk [],⟨0,0,0,0⟩,518,os⟩
noncomputable def q3_10:Params->Obj:=fun P => .mk (.type "dict") none (.dict #[.mk (PyData.keyHash P (.ofString "__name__")) (.str (.ofString "__name__") 165) (.str (.ofString "law_nz0479_01") 565),.mk (PyData.keyHash P (.ofString "__doc__")) (.str (.ofString "__doc__") 166) .none,.mk (PyData.keyHash P (.ofString "__package__")) (.str (.ofString "__package__") 167) .none,.mk (PyData.keyHash P (.ofString "__loader__")) (.str (.ofString "__loader__") 168) (.builtin "__main__.__loader__#opaque"),.mk (PyData.keyHash P (.ofString "__spec__")) (.str (.ofString "__spec__") 169) .none,.mk (PyData.keyHash P (.ofString "__annotations__")) (.str (.ofString "__annotations__") 170) (.ref 6),.mk (PyData.keyHash P (.ofString "__builtins__")) (.str (.ofString "__builtins__") 171) (.ref 4),.mk (PyData.keyHash P (.ofString "__file__")) (.str (.ofString "__file__") 173) (.str (.ofString "/claim/cut.py") 172),.mk (PyData.keyHash P (.ofString "__cached__")) (.str (.ofString "__cached__") 174) .none,.mk (PyData.keyHash P (.ofString "_wall")) (.str (.ofString "_wall") 193) (.ref 21),.mk (PyData.keyHash P (.ofString "get_attr")) (.str (.ofString "get_attr") 203) (.ref 28),.mk (PyData.keyHash P (.ofString "dim_of")) (.str (.ofString "dim_of") 211) (.ref 35),.mk (PyData.keyHash P (.ofString "CoveError")) (.str (.ofString "CoveError") 233) (.ref 45),.mk (PyData.keyHash P (.ofString "Refusal")) (.str (.ofString "Refusal") 258) (.ref 65),.mk (PyData.keyHash P (.ofString "Null")) (.str (.ofString "Null") 289) (.ref 84),.mk (PyData.keyHash P (.ofString "Vector")) (.str (.ofString "Vector") 331) (.ref 113),.mk (PyData.keyHash P (.ofString "length")) (.str (.ofString "length") 339) (.ref 124),.mk (PyData.keyHash P (.ofString "recycle_length")) (.str (.ofString "recycle_length") 349) (.ref 131),.mk (PyData.keyHash P (.ofString "note_recycling")) (.str (.ofString "note_recycling") 358) (.ref 138),.mk (PyData.keyHash P (.ofString "product")) (.str (.ofString "product") 367) (.ref 145),.mk (PyData.keyHash P (.ofString "result_dim")) (.str (.ofString "result_dim") 380) (.ref 152),.mk (PyData.keyHash P (.ofString "note_array_of_one")) (.str (.ofString "note_array_of_one") 392) (.ref 159),.mk (PyData.keyHash P (.ofString "common_length")) (.str (.ofString "common_length") 401) (.ref 166),.mk (PyData.keyHash P (.ofString "attribute")) (.str (.ofString "attribute") 409) (.ref 173),.mk (PyData.keyHash P (.ofString "shape_attrs")) (.str (.ofString "shape_attrs") 422) (.ref 180),.mk (PyData.keyHash P (.ofString "keep_all")) (.str (.ofString "keep_all") 430) (.ref 187),.mk (PyData.keyHash P (.ofString "is_na")) (.str (.ofString "is_na") 439) (.ref 194),.mk (PyData.keyHash P (.ofString "and_items")) (.str (.ofString "and_items") 449) (.ref 201),.mk (PyData.keyHash P (.ofString "or_items")) (.str (.ofString "or_items") 457) (.ref 208),.mk (PyData.keyHash P (.ofString "not_item")) (.str (.ofString "not_item") 464) (.ref 215),.mk (PyData.keyHash P (.ofString "xor_items")) (.str (.ofString "xor_items") 472) (.ref 222),.mk (PyData.keyHash P (.ofString "truth_item")) (.str (.ofString "truth_item") 480) (.ref 229),.mk (PyData.keyHash P (.ofString "truth_items")) (.str (.ofString "truth_items") 486) (.ref 234),.mk (PyData.keyHash P (.ofString "logic_operand")) (.str (.ofString "logic_operand") 493) (.ref 241),.mk (PyData.keyHash P (.ofString "logic_pairs")) (.str (.ofString "logic_pairs") 499) (.ref 246),.mk (PyData.keyHash P (.ofString "logic_and")) (.str (.ofString "logic_and") 508) (.ref 253),.mk (PyData.keyHash P (.ofString "logic_or")) (.str (.ofString "logic_or") 517) (.ref 260),.mk (PyData.keyHash P (.ofString "logic_xor")) (.str (.ofString "logic_xor") 526) (.ref 267),.mk (PyData.keyHash P (.ofString "logic_not")) (.str (.ofString "logic_not") 532) (.ref 272),.mk (PyData.keyHash P (.ofString "checked_items")) (.str (.ofString "checked_items") 540) (.ref 279),.mk (PyData.keyHash P (.ofString "all_of")) (.str (.ofString "all_of") 552) (.ref 287),.mk (PyData.keyHash P (.ofString "any_of")) (.str (.ofString "any_of") 564) (.ref 295),.mk (PyData.keyHash P (.ofString "_law_row")) (.str (.ofString "_law_row") 577) (.ref 302),.mk (PyData.keyHash P (.ofString "_law_next")) (.str (.ofString "_law_next") 584) (.ref 309)] 44) #[]
noncomputable def q12_10:Params->Obj:=fun P => .mk .none none (.fields #[.int 1 0,.int 0 0,.ref 20,.int 5 0,.int 0 0,.ref 27,.int 9 0,.int 0 0,.ref 34,.int 15 0,.int 0 0,.ref 41,.int 17 0,.int 0 0,.ref 54,.int 22 0,.int 0 0,.ref 73,.int 27 0,.int 0 0,.ref 94,.int 38 0,.int 0 0,.ref 123,.int 50 0,.int 0 0,.ref 130,.int 54 0,.int 0 0,.ref 137,.int 57 0,.int 0 0,.ref 144,.int 62 0,.int 0 0,.ref 151,.int 82 0,.int 0 0,.ref 158,.int 88 0,.int 0 0,.ref 165,.int 93 0,.int 0 0,.ref 172,.int 97 0,.int 0 0,.ref 179,.int 113 0,.int 0 0,.ref 186,.int 118 0,.int 0 0,.ref 193,.int 121 0,.int 0 0,.ref 200,.int 127 0,.int 0 0,.ref 207,.int 133 0,.int 0 0,.ref 214,.int 137 0,.int 0 0,.ref 221,.int 141 0,.int 0 0,.ref 228,.int 149 0,.int 0 0,.ref 233,.int 151 0,.int 0 0,.ref 240,.int 157 0,.int 0 0,.ref 245,.int 165 0,.int 0 0,.ref 252,.int 167 0,.int 0 0,.ref 259,.int 169 0,.int 0 0,.ref 266,.int 171 0,.int 0 0,.ref 271,.int 183 0,.int 0 0,.ref 278,.int 191 0,.int 0 0,.ref 286,.int 198 0,.int 0 0,.ref 294,.int 206 0,.int 0 0,.ref 301,.int 219 0,.int 0 0,.ref 308]) #[]
noncomputable def q262_10:Params->Obj:=fun P => .mk .none none (.fields #[]) #[]
noncomputable def q265_10:Params->Obj:=fun P => .mk .none none (.func (.mk (.ofString "logic_xor") (.ofString "logic_xor") fp267 (.stmts fb267) fs267 0 [] .none .none .none .none none .none .none 0)) #[]
noncomputable def q269_10:Params->Obj:=fun P => .mk .none none (.fields #[]) #[]
noncomputable def q270_10:Params->Obj:=fun P => .mk .none none (.func (.mk (.ofString "logic_not") (.ofString "logic_not") fp272 (.stmts fb272) fs272 0 [] .none .none .none .none none .none .none 0)) #[]
noncomputable def q274_10:Params->Obj:=fun P => .mk .none none (.fields #[]) #[]
noncomputable def q277_10:Params->Obj:=fun P => .mk .none none (.func (.mk (.ofString "checked_items") (.ofString "checked_items") fp279 (.stmts fb279) fs279 0 [] .none .none .none .none none .none .none 0)) #[]
noncomputable def q282_10:Params->Obj:=fun P => .mk .none none (.fields #[]) #[]
noncomputable def q285_10:Params->Obj:=fun P => .mk .none none (.func (.mk (.ofString "all_of") (.ofString "all_of") fp287 (.stmts fb287) fs287 0 [] .none .none .none .none none .none .none 0)) #[]
noncomputable def q290_10:Params->Obj:=fun P => .mk .none none (.fields #[]) #[]
noncomputable def q293_10:Params->Obj:=fun P => .mk .none none (.func (.mk (.ofString "any_of") (.ofString "any_of") fp295 (.stmts fb295) fs295 0 [] .none .none .none .none none .none .none 0)) #[]
noncomputable def q297_10:Params->Obj:=fun P => .mk .none none (.fields #[]) #[]
noncomputable def q300_10:Params->Obj:=fun P => .mk .none none (.func (.mk (.ofString "_law_row") (.ofString "_law_row") fp302 (.stmts fb302) fs302 0 [] .none .none .none .none none .none .none 0)) #[]
noncomputable def q304_10:Params->Obj:=fun P => .mk .none none (.fields #[]) #[]
noncomputable def q307_10:Params->Obj:=fun P => .mk .none none (.func (.mk (.ofString "_law_next") (.ofString "_law_next") fp309 (.stmts fb309) fs309 0 [] .none .none .none .none none .none .none 0)) #[]
noncomputable def qH10:Params->Heap:=fun P=>Heap.mk (Array.mk ((qO boot_o_0<|qO boot_o_1<|qT 1<|qD 1<|qO q3_10<|qO boot_o_4<|qO boot_o_5<|qO boot_o_6<|qO boot_o_7<|qO boot_o_8<|qO boot_o_9<|qO boot_o_10<|qO q11_1<|qO q12_10<|qO q13_1<|qO q14_1<|qT 1<|qO q16_2<|qT 2<|qO q19_2<|qT 3<|qO q23_2<|qT 2<|qO q26_2<|qT 3<|qO q30_2<|qT 2<|qO q33_2<|qT 3<|qO q37_3<|qO q38_3<|qO q39_3<|qO q40_3<|qO q41_3<|qO q42_3<|qT 4<|qO q47_3<|qO q48_3<|qT 1<|qO q50_4<|qO q51_4<|qO q52_4<|qO q53_4<|qO q54_4<|qO q55_4<|qT 1<|qO q57_4<|qT 2<|qO q60_4<|qT 5<|qO q66_4<|qO q67_4<|qO q68_5<|qO q69_5<|qO q70_5<|qO q71_5<|qO q72_5<|qO q73_5<|qO q74_5<|qT 1<|qO q76_5<|qT 2<|qO q79_5<|qT 7<|qO q87_5<|qO q88_5<|qO q89_6<|qO q90_6<|qO q91_6<|qO q92_6<|qO q93_6<|qO q94_6<|qO q95_6<|qT 2<|qO q98_6<|qT 2<|qO q101_6<|qT 3<|qO q105_6<|qT 2<|qO q108_6<|qT 7<|qO q116_6<|qO q117_6<|qT 1<|qO q119_7<|qT 2<|qO q122_7<|qT 3<|qO q126_7<|qT 2<|qO q129_7<|qT 3<|qO q133_7<|qT 2<|qO q136_7<|qT 3<|qO q140_7<|qT 2<|qO q143_7<|qT 3<|qO q147_7<|qT 2<|qO q150_7<|qT 3<|qO q154_7<|qT 2<|qO q157_7<|qT 3<|qO q161_7<|qT 2<|qO q164_7<|qT 3<|qO q168_8<|qT 2<|qO q171_8<|qT 3<|qO q175_8<|qT 2<|qO q178_8<|qT 3<|qO q182_8<|qT 2<|qO q185_8<|qT 3<|qO q189_8<|qT 2<|qO q192_8<|qT 3<|qO q196_8<|qT 2<|qO q199_8<|qT 3<|qO q203_8<|qT 2<|qO q206_8<|qT 3<|qO q210_9<|qT 2<|qO q213_9<|qT 3<|qO q217_9<|qT 2<|qO q220_9<|qT 3<|qO q224_9<|qT 2<|qO q227_9<|qT 3<|qO q231_9<|qO q232_9<|qT 3<|qO q236_9<|qT 2<|qO q239_9<|qT 3<|qO q243_9<|qO q244_9<|qT 3<|qO q248_9<|qT 2<|qO q251_9<|qT 3<|qO q255_9<|qT 2<|qO q258_9<|qT 3<|qO q262_10<|qT 2<|qO q265_10<|qT 3<|qO q269_10<|qO q270_10<|qT 3<|qO q274_10<|qT 2<|qO q277_10<|qT 4<|qO q282_10<|qT 2<|qO q285_10<|qT 4<|qO q290_10<|qT 2<|qO q293_10<|qT 3<|qO q297_10<|qT 2<|qO q300_10<|qT 3<|qO q304_10<|qT 2<|qO q307_10<|qT 2<|fun _ _=>[]) P (KF P))) (Life.mk [] [] [] 0 [] [] false #[] [] 0 false false false 0 [2000,10,10] false 0 true [] [] 0 false)
noncomputable def qS10 (w:World) (os:OsState):Shared:=⟨qH10 w.params,Array.mk [],⟨0,0,0,0⟩,585,os⟩
noncomputable def q3_11:Params->Obj:=fun P => .mk (.type "dict") none (.dict #[.mk (PyData.keyHash P (.ofString "__name__")) (.str (.ofString "__name__") 165) (.str (.ofString "law_nz0479_01") 565),.mk (PyData.keyHash P (.ofString "__doc__")) (.str (.ofString "__doc__") 166) .none,.mk (PyData.keyHash P (.ofString "__package__")) (.str (.ofString "__package__") 167) .none,.mk (PyData.keyHash P (.ofString "__loader__")) (.str (.ofString "__loader__") 168) (.builtin "__main__.__loader__#opaque"),.mk (PyData.keyHash P (.ofString "__spec__")) (.str (.ofString "__spec__") 169) .none,.mk (PyData.keyHash P (.ofString "__annotations__")) (.str (.ofString "__annotations__") 170) (.ref 6),.mk (PyData.keyHash P (.ofString "__builtins__")) (.str (.ofString "__builtins__") 171) (.ref 4),.mk (PyData.keyHash P (.ofString "__file__")) (.str (.ofString "__file__") 173) (.str (.ofString "/claim/cut.py") 172),.mk (PyData.keyHash P (.ofString "__cached__")) (.str (.ofString "__cached__") 174) .none,.mk (PyData.keyHash P (.ofString "_wall")) (.str (.ofString "_wall") 193) (.ref 21),.mk (PyData.keyHash P (.ofString "get_attr")) (.str (.ofString "get_attr") 203) (.ref 28),.mk (PyData.keyHash P (.ofString "dim_of")) (.str (.ofString "dim_of") 211) (.ref 35),.mk (PyData.keyHash P (.ofString "CoveError")) (.str (.ofString "CoveError") 233) (.ref 45),.mk (PyData.keyHash P (.ofString "Refusal")) (.str (.ofString "Refusal") 258) (.ref 65),.mk (PyData.keyHash P (.ofString "Null")) (.str (.ofString "Null") 289) (.ref 84),.mk (PyData.keyHash P (.ofString "Vector")) (.str (.ofString "Vector") 331) (.ref 113),.mk (PyData.keyHash P (.ofString "length")) (.str (.ofString "length") 339) (.ref 124),.mk (PyData.keyHash P (.ofString "recycle_length")) (.str (.ofString "recycle_length") 349) (.ref 131),.mk (PyData.keyHash P (.ofString "note_recycling")) (.str (.ofString "note_recycling") 358) (.ref 138),.mk (PyData.keyHash P (.ofString "product")) (.str (.ofString "product") 367) (.ref 145),.mk (PyData.keyHash P (.ofString "result_dim")) (.str (.ofString "result_dim") 380) (.ref 152),.mk (PyData.keyHash P (.ofString "note_array_of_one")) (.str (.ofString "note_array_of_one") 392) (.ref 159),.mk (PyData.keyHash P (.ofString "common_length")) (.str (.ofString "common_length") 401) (.ref 166),.mk (PyData.keyHash P (.ofString "attribute")) (.str (.ofString "attribute") 409) (.ref 173),.mk (PyData.keyHash P (.ofString "shape_attrs")) (.str (.ofString "shape_attrs") 422) (.ref 180),.mk (PyData.keyHash P (.ofString "keep_all")) (.str (.ofString "keep_all") 430) (.ref 187),.mk (PyData.keyHash P (.ofString "is_na")) (.str (.ofString "is_na") 439) (.ref 194),.mk (PyData.keyHash P (.ofString "and_items")) (.str (.ofString "and_items") 449) (.ref 201),.mk (PyData.keyHash P (.ofString "or_items")) (.str (.ofString "or_items") 457) (.ref 208),.mk (PyData.keyHash P (.ofString "not_item")) (.str (.ofString "not_item") 464) (.ref 215),.mk (PyData.keyHash P (.ofString "xor_items")) (.str (.ofString "xor_items") 472) (.ref 222),.mk (PyData.keyHash P (.ofString "truth_item")) (.str (.ofString "truth_item") 480) (.ref 229),.mk (PyData.keyHash P (.ofString "truth_items")) (.str (.ofString "truth_items") 486) (.ref 234),.mk (PyData.keyHash P (.ofString "logic_operand")) (.str (.ofString "logic_operand") 493) (.ref 241),.mk (PyData.keyHash P (.ofString "logic_pairs")) (.str (.ofString "logic_pairs") 499) (.ref 246),.mk (PyData.keyHash P (.ofString "logic_and")) (.str (.ofString "logic_and") 508) (.ref 253),.mk (PyData.keyHash P (.ofString "logic_or")) (.str (.ofString "logic_or") 517) (.ref 260),.mk (PyData.keyHash P (.ofString "logic_xor")) (.str (.ofString "logic_xor") 526) (.ref 267),.mk (PyData.keyHash P (.ofString "logic_not")) (.str (.ofString "logic_not") 532) (.ref 272),.mk (PyData.keyHash P (.ofString "checked_items")) (.str (.ofString "checked_items") 540) (.ref 279),.mk (PyData.keyHash P (.ofString "all_of")) (.str (.ofString "all_of") 552) (.ref 287),.mk (PyData.keyHash P (.ofString "any_of")) (.str (.ofString "any_of") 564) (.ref 295),.mk (PyData.keyHash P (.ofString "_law_row")) (.str (.ofString "_law_row") 577) (.ref 302),.mk (PyData.keyHash P (.ofString "_law_next")) (.str (.ofString "_law_next") 584) (.ref 309),.mk (PyData.keyHash P (.ofString "_law_reduced")) (.str (.ofString "_law_reduced") 594) (.ref 316),.mk (PyData.keyHash P (.ofString "_law_double")) (.str (.ofString "_law_double") 604) (.ref 323),.mk (PyData.keyHash P (.ofString "_law_shaped")) (.str (.ofString "_law_shaped") 613) (.ref 330),.mk (PyData.keyHash P (.ofString "_law_dressed")) (.str (.ofString "_law_dressed") 619) (.ref 335),.mk (PyData.keyHash P (.ofString "_law_dims")) (.str (.ofString "_law_dims") 626) (.ref 342),.mk (PyData.keyHash P (.ofString "_law_seen")) (.str (.ofString "_law_seen") 632) (.ref 347),.mk (PyData.keyHash P (.ofString "_law_shape")) (.str (.ofString "_law_shape") 649) (.ref 354),.mk (PyData.keyHash P (.ofString "_law_attrs")) (.str (.ofString "_law_attrs") 667) (.ref 361)] 52) #[]
noncomputable def q12_11:Params->Obj:=fun P => .mk .none none (.fields #[.int 1 0,.int 0 0,.ref 20,.int 5 0,.int 0 0,.ref 27,.int 9 0,.int 0 0,.ref 34,.int 15 0,.int 0 0,.ref 41,.int 17 0,.int 0 0,.ref 54,.int 22 0,.int 0 0,.ref 73,.int 27 0,.int 0 0,.ref 94,.int 38 0,.int 0 0,.ref 123,.int 50 0,.int 0 0,.ref 130,.int 54 0,.int 0 0,.ref 137,.int 57 0,.int 0 0,.ref 144,.int 62 0,.int 0 0,.ref 151,.int 82 0,.int 0 0,.ref 158,.int 88 0,.int 0 0,.ref 165,.int 93 0,.int 0 0,.ref 172,.int 97 0,.int 0 0,.ref 179,.int 113 0,.int 0 0,.ref 186,.int 118 0,.int 0 0,.ref 193,.int 121 0,.int 0 0,.ref 200,.int 127 0,.int 0 0,.ref 207,.int 133 0,.int 0 0,.ref 214,.int 137 0,.int 0 0,.ref 221,.int 141 0,.int 0 0,.ref 228,.int 149 0,.int 0 0,.ref 233,.int 151 0,.int 0 0,.ref 240,.int 157 0,.int 0 0,.ref 245,.int 165 0,.int 0 0,.ref 252,.int 167 0,.int 0 0,.ref 259,.int 169 0,.int 0 0,.ref 266,.int 171 0,.int 0 0,.ref 271,.int 183 0,.int 0 0,.ref 278,.int 191 0,.int 0 0,.ref 286,.int 198 0,.int 0 0,.ref 294,.int 206 0,.int 0 0,.ref 301,.int 219 0,.int 0 0,.ref 308,.int 221 0,.int 0 0,.ref 315,.int 227 0,.int 0 0,.ref 322,.int 236 0,.int 0 0,.ref 329,.int 245 0,.int 0 0,.ref 334,.int 260 0,.int 0 0,.ref 341,.int 262 0,.int 0 0,.ref 346,.int 266 0,.int 0 0,.ref 353,.int 286 0,.int 0 0,.ref 360]) #[]
noncomputable def q311_11:Params->Obj:=fun P => .mk .none none (.fields #[]) #[]
noncomputable def q314_11:Params->Obj:=fun P => .mk .none none (.func (.mk (.ofString "_law_reduced") (.ofString "_law_reduced") fp316 (.stmts fb316) fs316 0 [] .none .none .none .none none .none .none 0)) #[]
noncomputable def q318_11:Params->Obj:=fun P => .mk .none none (.fields #[]) #[]
noncomputable def q321_11:Params->Obj:=fun P => .mk .none none (.func (.mk (.ofString "_law_double") (.ofString "_law_double") fp323 (.stmts fb323) fs323 0 [] .none .none .none .none none .none .none 0)) #[]
noncomputable def q325_11:Params->Obj:=fun P => .mk .none none (.fields #[]) #[]
noncomputable def q328_11:Params->Obj:=fun P => .mk .none none (.func (.mk (.ofString "_law_shaped") (.ofString "_law_shaped") fp330 (.stmts fb330) fs330 0 [] .none .none .none .none none .none .none 0)) #[]
noncomputable def q332_11:Params->Obj:=fun P => .mk .none none (.fields #[]) #[]
noncomputable def q333_11:Params->Obj:=fun P => .mk .none none (.func (.mk (.ofString "_law_dressed") (.ofString "_law_dressed") fp335 (.stmts fb335) fs335 0 [] .none .none .none .none none .none .none 0)) #[]
noncomputable def q337_11:Params->Obj:=fun P => .mk .none none (.fields #[]) #[]
noncomputable def q340_11:Params->Obj:=fun P => .mk .none none (.func (.mk (.ofString "_law_dims") (.ofString "_law_dims") fp342 (.stmts fb342) fs342 0 [] .none .none .none .none none .none .none 0)) #[]
noncomputable def q344_11:Params->Obj:=fun P => .mk .none none (.fields #[]) #[]
noncomputable def q345_11:Params->Obj:=fun P => .mk .none none (.func (.mk (.ofString "_law_seen") (.ofString "_law_seen") fp347 (.stmts fb347) fs347 0 [] .none .none .none .none none .none .none 0)) #[]
noncomputable def q349_11:Params->Obj:=fun P => .mk .none none (.fields #[]) #[]
noncomputable def q352_11:Params->Obj:=fun P => .mk .none none (.func (.mk (.ofString "_law_shape") (.ofString "_law_shape") fp354 (.stmts fb354) fs354 0 [] .none .none .none .none none .none .none 0)) #[]
noncomputable def q356_11:Params->Obj:=fun P => .mk .none none (.fields #[]) #[]
noncomputable def q359_11:Params->Obj:=fun P => .mk .none none (.func (.mk (.ofString "_law_attrs") (.ofString "_law_attrs") fp361 (.stmts fb361) fs361 0 [] .none .none .none .none none .none .none 0)) #[]
noncomputable def qH11:Params->Heap:=fun P=>Heap.mk (Array.mk ((qO boot_o_0<|qO boot_o_1<|qT 1<|qD 1<|qO q3_11<|qO boot_o_4<|qO boot_o_5<|qO boot_o_6<|qO boot_o_7<|qO boot_o_8<|qO boot_o_9<|qO boot_o_10<|qO q11_1<|qO q12_11<|qO q13_1<|qO q14_1<|qT 1<|qO q16_2<|qT 2<|qO q19_2<|qT 3<|qO q23_2<|qT 2<|qO q26_2<|qT 3<|qO q30_2<|qT 2<|qO q33_2<|qT 3<|qO q37_3<|qO q38_3<|qO q39_3<|qO q40_3<|qO q41_3<|qO q42_3<|qT 4<|qO q47_3<|qO q48_3<|qT 1<|qO q50_4<|qO q51_4<|qO q52_4<|qO q53_4<|qO q54_4<|qO q55_4<|qT 1<|qO q57_4<|qT 2<|qO q60_4<|qT 5<|qO q66_4<|qO q67_4<|qO q68_5<|qO q69_5<|qO q70_5<|qO q71_5<|qO q72_5<|qO q73_5<|qO q74_5<|qT 1<|qO q76_5<|qT 2<|qO q79_5<|qT 7<|qO q87_5<|qO q88_5<|qO q89_6<|qO q90_6<|qO q91_6<|qO q92_6<|qO q93_6<|qO q94_6<|qO q95_6<|qT 2<|qO q98_6<|qT 2<|qO q101_6<|qT 3<|qO q105_6<|qT 2<|qO q108_6<|qT 7<|qO q116_6<|qO q117_6<|qT 1<|qO q119_7<|qT 2<|qO q122_7<|qT 3<|qO q126_7<|qT 2<|qO q129_7<|qT 3<|qO q133_7<|qT 2<|qO q136_7<|qT 3<|qO q140_7<|qT 2<|qO q143_7<|qT 3<|qO q147_7<|qT 2<|qO q150_7<|qT 3<|qO q154_7<|qT 2<|qO q157_7<|qT 3<|qO q161_7<|qT 2<|qO q164_7<|qT 3<|qO q168_8<|qT 2<|qO q171_8<|qT 3<|qO q175_8<|qT 2<|qO q178_8<|qT 3<|qO q182_8<|qT 2<|qO q185_8<|qT 3<|qO q189_8<|qT 2<|qO q192_8<|qT 3<|qO q196_8<|qT 2<|qO q199_8<|qT 3<|qO q203_8<|qT 2<|qO q206_8<|qT 3<|qO q210_9<|qT 2<|qO q213_9<|qT 3<|qO q217_9<|qT 2<|qO q220_9<|qT 3<|qO q224_9<|qT 2<|qO q227_9<|qT 3<|qO q231_9<|qO q232_9<|qT 3<|qO q236_9<|qT 2<|qO q239_9<|qT 3<|qO q243_9<|qO q244_9<|qT 3<|qO q248_9<|qT 2<|qO q251_9<|qT 3<|qO q255_9<|qT 2<|qO q258_9<|qT 3<|qO q262_10<|qT 2<|qO q265_10<|qT 3<|qO q269_10<|qO q270_10<|qT 3<|qO q274_10<|qT 2<|qO q277_10<|qT 4<|qO q282_10<|qT 2<|qO q285_10<|qT 4<|qO q290_10<|qT 2<|qO q293_10<|qT 3<|qO q297_10<|qT 2<|qO q300_10<|qT 3<|qO q304_10<|qT 2<|qO q307_10<|qT 3<|qO q311_11<|qT 2<|qO q314_11<|qT 3<|qO q318_11<|qT 2<|qO q321_11<|qT 3<|qO q325_11<|qT 2<|qO q328_11<|qT 3<|qO q332_11<|qO q333_11<|qT 3<|qO q337_11<|qT 2<|qO q340_11<|qT 3<|qO q344_11<|qO q345_11<|qT 3<|qO q349_11<|qT 2<|qO q352_11<|qT 3<|qO q356_11<|qT 2<|qO q359_11<|qT 2<|fun _ _=>[]) P (KF P))) (Life.mk [] [] [] 0 [] [] false #[] [] 0 false false false 0 [2000,10,10] false 0 true [] [] 0 false)
noncomputable def qS11 (w:World) (os:OsState):Shared:=⟨qH11 w.params,Array.mk [],⟨0,0,0,0⟩,668,os⟩
noncomputable def q12_12:Params->Obj:=fun P => .mk .none none (.fields #[.int 1 0,.int 0 0,.ref 20,.int 5 0,.int 0 0,.ref 27,.int 9 0,.int 0 0,.ref 34,.int 15 0,.int 0 0,.ref 41,.int 17 0,.int 0 0,.ref 54,.int 22 0,.int 0 0,.ref 73,.int 27 0,.int 0 0,.ref 94,.int 38 0,.int 0 0,.ref 123,.int 50 0,.int 0 0,.ref 130,.int 54 0,.int 0 0,.ref 137,.int 57 0,.int 0 0,.ref 144,.int 62 0,.int 0 0,.ref 151,.int 82 0,.int 0 0,.ref 158,.int 88 0,.int 0 0,.ref 165,.int 93 0,.int 0 0,.ref 172,.int 97 0,.int 0 0,.ref 179,.int 113 0,.int 0 0,.ref 186,.int 118 0,.int 0 0,.ref 193,.int 121 0,.int 0 0,.ref 200,.int 127 0,.int 0 0,.ref 207,.int 133 0,.int 0 0,.ref 214,.int 137 0,.int 0 0,.ref 221,.int 141 0,.int 0 0,.ref 228,.int 149 0,.int 0 0,.ref 233,.int 151 0,.int 0 0,.ref 240,.int 157 0,.int 0 0,.ref 245,.int 165 0,.int 0 0,.ref 252,.int 167 0,.int 0 0,.ref 259,.int 169 0,.int 0 0,.ref 266,.int 171 0,.int 0 0,.ref 271,.int 183 0,.int 0 0,.ref 278,.int 191 0,.int 0 0,.ref 286,.int 198 0,.int 0 0,.ref 294,.int 206 0,.int 0 0,.ref 301,.int 219 0,.int 0 0,.ref 308,.int 221 0,.int 0 0,.ref 315,.int 227 0,.int 0 0,.ref 322,.int 236 0,.int 0 0,.ref 329,.int 245 0,.int 0 0,.ref 334,.int 260 0,.int 0 0,.ref 341,.int 262 0,.int 0 0,.ref 346,.int 266 0,.int 0 0,.ref 353,.int 286 0,.int 0 0,.ref 360,.int 298 0,.int 0 0,.ref 365,.int 310 0,.int 0 0,.ref 372,.int 319 0,.int 0 0,.ref 379,.int 321 0,.int 0 0,.ref 386,.int 323 0,.int 0 0,.ref 393,.int 325 0,.int 0 0,.ref 400,.int 327 0,.int 0 0,.ref 407,.int 332 0,.int 0 0,.ref 412]) #[]
noncomputable def q363_12:Params->Obj:=fun P => .mk .none none (.fields #[]) #[]
noncomputable def q364_12:Params->Obj:=fun P => .mk .none none (.func (.mk (.ofString "_law_vector") (.ofString "_law_vector") fp366 (.stmts fb366) fs366 0 [] .none .none .none .none none .none .none 0)) #[]
noncomputable def q368_12:Params->Obj:=fun P => .mk .none none (.fields #[]) #[]
noncomputable def q371_12:Params->Obj:=fun P => .mk .none none (.func (.mk (.ofString "_law_truths") (.ofString "_law_truths") fp373 (.stmts fb373) fs373 0 [] .none .none .none .none none .none .none 0)) #[]
noncomputable def q375_12:Params->Obj:=fun P => .mk .none none (.fields #[]) #[]
noncomputable def q378_12:Params->Obj:=fun P => .mk .none none (.func (.mk (.ofString "_law_and") (.ofString "_law_and") fp380 (.stmts fb380) fs380 0 [] .none .none .none .none none .none .none 0)) #[]
noncomputable def q382_12:Params->Obj:=fun P => .mk .none none (.fields #[]) #[]
noncomputable def q385_12:Params->Obj:=fun P => .mk .none none (.func (.mk (.ofString "_law_not") (.ofString "_law_not") fp387 (.stmts fb387) fs387 0 [] .none .none .none .none none .none .none 0)) #[]
noncomputable def q389_12:Params->Obj:=fun P => .mk .none none (.fields #[]) #[]
noncomputable def q392_12:Params->Obj:=fun P => .mk .none none (.func (.mk (.ofString "_law_or") (.ofString "_law_or") fp394 (.stmts fb394) fs394 0 [] .none .none .none .none none .none .none 0)) #[]
noncomputable def q396_12:Params->Obj:=fun P => .mk .none none (.fields #[]) #[]
noncomputable def q399_12:Params->Obj:=fun P => .mk .none none (.func (.mk (.ofString "_law_xor") (.ofString "_law_xor") fp401 (.stmts fb401) fs401 0 [] .none .none .none .none none .none .none 0)) #[]
noncomputable def q403_12:Params->Obj:=fun P => .mk .none none (.fields #[]) #[]
noncomputable def q406_12:Params->Obj:=fun P => .mk .none none (.func (.mk (.ofString "_law_kept") (.ofString "_law_kept") fp408 (.stmts fb408) fs408 0 [] .none .none .none .none none .none .none 0)) #[]
noncomputable def q410_12:Params->Obj:=fun P => .mk .none none (.fields #[]) #[]
noncomputable def q411_12:Params->Obj:=fun P => .mk .none none (.func (.mk (.ofString "law") (.ofString "law") fp413 (.stmts fb413) fs413 0 [] .none .none .none .none none .none .none 0)) #[]
noncomputable def qH12:Params->Heap:=fun P=>Heap.mk (Array.mk ((qO boot_o_0<|qO boot_o_1<|qT 2<|qO boot_o_4<|qO boot_o_5<|qO boot_o_6<|qO boot_o_7<|qO boot_o_8<|qO boot_o_9<|qO boot_o_10<|qO q11_1<|qO q12_12<|qO q13_1<|qO q14_1<|qT 1<|qO q16_2<|qT 2<|qO q19_2<|qT 3<|qO q23_2<|qT 2<|qO q26_2<|qT 3<|qO q30_2<|qT 2<|qO q33_2<|qT 3<|qO q37_3<|qO q38_3<|qO q39_3<|qO q40_3<|qO q41_3<|qO q42_3<|qT 4<|qO q47_3<|qO q48_3<|qT 1<|qO q50_4<|qO q51_4<|qO q52_4<|qO q53_4<|qO q54_4<|qO q55_4<|qT 1<|qO q57_4<|qT 2<|qO q60_4<|qT 5<|qO q66_4<|qO q67_4<|qO q68_5<|qO q69_5<|qO q70_5<|qO q71_5<|qO q72_5<|qO q73_5<|qO q74_5<|qT 1<|qO q76_5<|qT 2<|qO q79_5<|qT 7<|qO q87_5<|qO q88_5<|qO q89_6<|qO q90_6<|qO q91_6<|qO q92_6<|qO q93_6<|qO q94_6<|qO q95_6<|qT 2<|qO q98_6<|qT 2<|qO q101_6<|qT 3<|qO q105_6<|qT 2<|qO q108_6<|qT 7<|qO q116_6<|qO q117_6<|qT 1<|qO q119_7<|qT 2<|qO q122_7<|qT 3<|qO q126_7<|qT 2<|qO q129_7<|qT 3<|qO q133_7<|qT 2<|qO q136_7<|qT 3<|qO q140_7<|qT 2<|qO q143_7<|qT 3<|qO q147_7<|qT 2<|qO q150_7<|qT 3<|qO q154_7<|qT 2<|qO q157_7<|qT 3<|qO q161_7<|qT 2<|qO q164_7<|qT 3<|qO q168_8<|qT 2<|qO q171_8<|qT 3<|qO q175_8<|qT 2<|qO q178_8<|qT 3<|qO q182_8<|qT 2<|qO q185_8<|qT 3<|qO q189_8<|qT 2<|qO q192_8<|qT 3<|qO q196_8<|qT 2<|qO q199_8<|qT 3<|qO q203_8<|qT 2<|qO q206_8<|qT 3<|qO q210_9<|qT 2<|qO q213_9<|qT 3<|qO q217_9<|qT 2<|qO q220_9<|qT 3<|qO q224_9<|qT 2<|qO q227_9<|qT 3<|qO q231_9<|qO q232_9<|qT 3<|qO q236_9<|qT 2<|qO q239_9<|qT 3<|qO q243_9<|qO q244_9<|qT 3<|qO q248_9<|qT 2<|qO q251_9<|qT 3<|qO q255_9<|qT 2<|qO q258_9<|qT 3<|qO q262_10<|qT 2<|qO q265_10<|qT 3<|qO q269_10<|qO q270_10<|qT 3<|qO q274_10<|qT 2<|qO q277_10<|qT 4<|qO q282_10<|qT 2<|qO q285_10<|qT 4<|qO q290_10<|qT 2<|qO q293_10<|qT 3<|qO q297_10<|qT 2<|qO q300_10<|qT 3<|qO q304_10<|qT 2<|qO q307_10<|qT 3<|qO q311_11<|qT 2<|qO q314_11<|qT 3<|qO q318_11<|qT 2<|qO q321_11<|qT 3<|qO q325_11<|qT 2<|qO q328_11<|qT 3<|qO q332_11<|qO q333_11<|qT 3<|qO q337_11<|qT 2<|qO q340_11<|qT 3<|qO q344_11<|qO q345_11<|qT 3<|qO q349_11<|qT 2<|qO q352_11<|qT 3<|qO q356_11<|qT 2<|qO q359_11<|qT 3<|qO q363_12<|qO q364_12<|qT 3<|qO q368_12<|qT 2<|qO q371_12<|qT 3<|qO q375_12<|qT 2<|qO q378_12<|qT 3<|qO q382_12<|qT 2<|qO q385_12<|qT 3<|qO q389_12<|qT 2<|qO q392_12<|qT 3<|qO q396_12<|qT 2<|qO q399_12<|qT 3<|qO q403_12<|qT 2<|qO q406_12<|qT 3<|qO q410_12<|qO q411_12<|qT 2<|fun _ _=>[]) P (KF P))) (Life.mk [] [] [] 0 [] [] false #[] [] 0 false false false 0 [2000,10,10] false 0 true [] [] 0 false)
noncomputable def qS12 (w:World) (os:OsState):Shared:=⟨qH12 w.params,Array.mk [],⟨0,0,0,0⟩,728,os⟩
noncomputable def qS0 (w:World) (os:OsState):Shared:=⟨boot_heap w.params,Array.mk [],boot_drawn,boot_toks,os⟩
noncomputable def qL0:List Stmt:=qB
noncomputable def qL1:List Stmt:=qL0.drop 5
noncomputable def qL2:List Stmt:=qL1.drop 1
noncomputable def qL3:List Stmt:=qL2.drop 1
noncomputable def qL4:List Stmt:=qL3.drop 2
noncomputable def qL5:List Stmt:=qL4.drop 1
noncomputable def qL6:List Stmt:=qL5.drop 8
noncomputable def qL7:List Stmt:=qL6.drop 8
noncomputable def qL8:List Stmt:=qL7.drop 8
noncomputable def qL9:List Stmt:=qL8.drop 8
noncomputable def qL10:List Stmt:=qL9.drop 8
noncomputable def qL11:List Stmt:=qL10.drop 8
section
variable {tb:String->Option Builtin} {p:Program} {w:World} {n₀:Nat} {ann:Option Value} {env:Env} {q:Pos}
theorem piece_at {n N:Nat} {s s' r:Shared} {l:List Stmt} {k:Nat} {c:Code} {pos p':Pos} (h:segRun tb p w n₀ ann 1 n s (piecesOf (l.take k) env c pos [topFrame q])=some (.next,s',c,p'))
   (z:topRun tb p w n₀ ann N s' (restOf (l.drop k) env c p' [topFrame q])=some r):topRun tb p w n₀ ann (n+N) s (restOf l env c pos [topFrame q])=some r:=by
 have:=piece_app h z
 rwa [List.take_append_drop] at this
end
theorem kwq:True:=by
 k_with "q" => first | (rewrite [Fast.te14374325043358763698,Fast.te14364793385576792824];kernel_rfl) | kernel_rfl
 exact True.intro
theorem qpre (w:World) (os:OsState):topGo treeTable PG w 11 (some (.ref 6)) 12 (qS0 w os) (topStub PG)=some (qS1 w os,⟨denote treeTable qC,qC,⟨0,0,0,0⟩,qF⟩):=by kernel_rfl
theorem qblock (w:World) (os:OsState):segRun treeTable PG w 11 (some (.ref 6)) 1 1 (qS1 w os) (blockOf qB qE qC ⟨0,0,0,0⟩ qF)=some (.next,qS1 w os,qC,⟨0,0,0,0⟩):=by kernel_rfl
theorem qseg0 (w:World) (os:OsState):segRun treeTable PG w 11 (some (.ref 6)) 1 108 (qS1 w os) (piecesOf (qL0.take 5) qE qC ⟨0,0,0,0⟩ qF)=some (.next,qS2 w os,qC,⟨14,0,14,8⟩):=by k_extra "q"
theorem qseg1 (w:World) (os:OsState):segRun treeTable PG w 11 (some (.ref 6)) 1 197 (qS2 w os) (piecesOf (qL1.take 1) qE qC ⟨14,0,14,8⟩ qF)=some (.next,qS3 w os,qC,⟨15,0,16,8⟩):=by k_extra "q"
theorem qseg2 (w:World) (os:OsState):segRun treeTable PG w 11 (some (.ref 6)) 1 246 (qS3 w os) (piecesOf (qL2.take 1) qE qC ⟨15,0,16,8⟩ qF)=some (.next,qS4 w os,qC,⟨17,0,20,30⟩):=by k_extra "q"
theorem qseg3 (w:World) (os:OsState):segRun treeTable PG w 11 (some (.ref 6)) 1 232 (qS4 w os) (piecesOf (qL3.take 2) qE qC ⟨17,0,20,30⟩ qF)=some (.next,qS5 w os,qC,⟨22,0,26,25⟩):=by k_extra "q"
theorem qseg4 (w:World) (os:OsState):segRun treeTable PG w 11 (some (.ref 6)) 1 261 (qS5 w os) (piecesOf (qL4.take 1) qE qC ⟨22,0,26,25⟩ qF)=some (.next,qS6 w os,qC,⟨27,0,37,16⟩):=by k_extra "q"
theorem qseg5 (w:World) (os:OsState):segRun treeTable PG w 11 (some (.ref 6)) 1 232 (qS6 w os) (piecesOf (qL5.take 8) qE qC ⟨27,0,37,16⟩ qF)=some (.next,qS7 w os,qC,⟨88,0,92,47⟩):=by k_extra "q"
theorem qseg6 (w:World) (os:OsState):segRun treeTable PG w 11 (some (.ref 6)) 1 203 (qS7 w os) (piecesOf (qL6.take 8) qE qC ⟨88,0,92,47⟩ qF)=some (.next,qS8 w os,qC,⟨127,0,132,12⟩):=by k_extra "q"
theorem qseg7 (w:World) (os:OsState):segRun treeTable PG w 11 (some (.ref 6)) 1 233 (qS8 w os) (piecesOf (qL7.take 8) qE qC ⟨127,0,132,12⟩ qF)=some (.next,qS9 w os,qC,⟨167,0,168,45⟩):=by k_extra "q"
theorem qseg8 (w:World) (os:OsState):segRun treeTable PG w 11 (some (.ref 6)) 1 229 (qS9 w os) (piecesOf (qL8.take 8) qE qC ⟨167,0,168,45⟩ qF)=some (.next,qS10 w os,qC,⟨219,0,220,40⟩):=by k_extra "q"
theorem qseg9 (w:World) (os:OsState):segRun treeTable PG w 11 (some (.ref 6)) 1 256 (qS10 w os) (piecesOf (qL9.take 8) qE qC ⟨219,0,220,40⟩ qF)=some (.next,qS11 w os,qC,⟨286,0,297,16⟩):=by k_extra "q"
theorem qseg10 (w:World) (os:OsState):segRun treeTable PG w 11 (some (.ref 6)) 1 233 (qS11 w os) (piecesOf (qL10.take 8) qE qC ⟨286,0,297,16⟩ qF)=some (.next,qS12 w os,qC,⟨332,0,389,15⟩):=by k_extra "q"
theorem qfin (w:World) (os:OsState):topRun treeTable PG w 11 (some (.ref 6)) 2 (qS12 w os) (restOf qL11 qE qC ⟨332,0,389,15⟩ qF)=some (qS12 w os):=by kernel_rfl
theorem qrun (w:World) (os:OsState):topRun treeTable PG w 11 (some (.ref 6)) (12+(1+(108+(197+(246+(232+(261+(232+(203+(233+(229+(256+(233+(2)))))))))))))) (qS0 w os) (topStub PG)=some (qS12 w os):=by
 k_extra "s"
 refine go_top (qpre w os) (piece_block (qblock w os) ?_)
 refine piece_at (qseg0 w os) ?_
 refine piece_at (qseg1 w os) ?_
 refine piece_at (qseg2 w os) ?_
 refine piece_at (qseg3 w os) ?_
 refine piece_at (qseg4 w os) ?_
 refine piece_at (qseg5 w os) ?_
 refine piece_at (qseg6 w os) ?_
 refine piece_at (qseg7 w os) ?_
 refine piece_at (qseg8 w os) ?_
 refine piece_at (qseg9 w os) ?_
 refine piece_at (qseg10 w os) ?_
 exact qfin w os
 k_extra "f"
theorem qboot (w:World):(fencedOpening treeTable PG w 4964).map (fun s=>(s.heap,s.gens,s.drawn,s.toks))=some (boot_heap w.params,Array.mk [],boot_drawn,boot_toks):=boot_open (by kernel_rfl) (by rfl) (fun s=>by kernel_rfl) w
theorem qsize (w:World):((boot_heap w.params).isNs mainGlobals && (Array.mk []:Array GenState).size == 0,(boot_heap w.params).objs.size,(boot_heap w.params).nsMap mainGlobals "__annotations__")=(true,11,some (.ref 6)):=by kernel_rfl
theorem qlook1 (w:World) (os:OsState):(staticsOk (importedModules PG.main.body) (boot_heap w.params) (qH12 w.params) && namesBound PG (qH12 w.params) && gensDone (qS12 w os) && laidKept (boot_heap w.params) (qH12 w.params))=true:=by kernel_rfl
theorem qlook2 (w:World) (os:OsState):openSeen VW [Str.ofString "all_of",Str.ofString "any_of"] (importedModules PG.main.body) (fun s=>xlAt VW [] s && recOk (RowW.records PySem.Challenge.rw_nz0479_01.row.toRowW) s) true (qS12 w os)=openGood VW [Str.ofString "all_of",Str.ofString "any_of"]:=by kernel_rfl
theorem qlook3 (w:World) (os:OsState):Hook.obs HK (qS12 w os)=Hook.val HK w:=by kernel_rfl
theorem qleft:LeftO PG VW [Str.ofString "all_of",Str.ofString "any_of"] (fun s=>xlAt VW [] s && recOk (RowW.records PySem.Challenge.rw_nz0479_01.row.toRowW) s) (Hook.obs HK) (Hook.val HK) 4964 :=
 LeftO.of_pieces (M:=2445) qboot qsize qrun (by rfl) (fun w=>funext fun os=>looks_pair (qlook1 w os) (looks_pair (qlook2 w os) (qlook3 w os)))
end
section
local macro_rules | `(tactic| walk_at $s:str)=>do let t:=Lean.Syntax.mkStrLit ("!" ++ s.getString);`(tactic| k_extra $t)
local macro_rules | `(tactic| k_inst) => `(tactic| k_extra "k_inst")
local macro_rules | `(tactic| k_ne) => `(tactic| k_extra "k_ne")
local macro_rules | `(tactic| k_all) => `(tactic| k_extra "k_all")
local macro_rules | `(tactic| k_steps) => `(tactic| k_extra "k_steps")
local macro_rules | `(tactic| size_fits) => `(tactic| k_extra "size_fits")
local macro_rules | `(tactic| k_lt $h:ident) => `(tactic| (replace $h := allLt_of $h; k_extra "lt"))
open PySem PySem.W PyProof.Rows PySem.Calls
theorem fillK (b:Heap) (w:World):(KF w.params).In b->PySem.Challenge.rw_nz0479_01.row.prog=PySem.Challenge.rw_nz0479_01.row.prog->True:=by k_fill;exact fun _ _=>trivial
theorem kw3:True:=by
 k_with "my room" => (first | omega | (simp only [Around.deeper_units,Around.in1_units,depth_deeper,depth_in1,Around.in1_depth,Around.mark_units] at *;omega))
 k_with "my get" => (k_dflt (refine' News.get ?A2 ?B2;(case A2=>assumption);(case B2=>k_mem)))
 exact True.intro
theorem kw21:True:=by
 k_with "my reads" => (first | with_reducible assumption | exact Reads.none | exact Reads.bool _ | exact Reads.int _ _ | exact Reads.str _ _ | k_dflt (exact Reads.keeps (Fr.keep (by assumption)) (by with_reducible assumption)) | k_dflt (exact reads_of_ints (News.isList (by assumption) (by k_mem)) (by first | with_reducible assumption | exact IntsAre.nil)))
 k_with "my shaped" => (first | with_reducible assumption | exact shaped_ints _ | kernel_rfl! | rfl)
 k_with "!compareOp NotEq ref ref" => ((k_here;k_dflt (refine' ne_dataH ?A6 ?B6 ?C6 ?D6 ?E6 ?_;(case A6=>k_extra "my reads");(case B6=>k_extra "my reads");(case C6=>k_extra "my shaped");(case D6=>k_extra "my shaped");(case E6=>k_extra "my room"))))
 k_with "!compareOp Eq ref ref" => ((k_here;k_dflt (refine' eq_dataH ?A7 ?B7 ?C7 ?D7 ?E7 ?_;(case A7=>k_extra "my reads");(case B7=>k_extra "my reads");(case C7=>k_extra "my shaped");(case D7=>k_extra "my shaped");(case E7=>k_extra "my room"))))
 k_with "!compareOp NotEq ref ref" => ((k_here;k_dflt (refine' ne_intsK ?A8 ?B8 ?C8 ?D8 ?E8 ?_;(case A8=>is_list);(case B8=>first | with_reducible assumption | exact IntsAre.nil);(case C8=>is_list);(case D8=>first | with_reducible assumption | exact IntsAre.nil);(case E8=>k_extra "my room"))))
 k_with "!compareOp Eq ref ref" => ((k_here;k_dflt (refine' eq_intsK ?A9 ?B9 ?C9 ?D9 ?E9 ?_;(case A9=>is_list);(case B9=>first | with_reducible assumption | exact IntsAre.nil);(case C9=>is_list);(case D9=>first | with_reducible assumption | exact IntsAre.nil);(case E9=>k_extra "my room"))))
 k_with "my room" => ((have hRm:=Rm.u (by assumption);simp only [Around.deeper_units,Around.in1_units] at *;omega))
 k_with "my readsAll" => (first | exact ReadsAll.nil | (refine' ReadsAll.cons ?Ab ?Bb;(case Ab=>k_extra "my reads");(case Bb=>k_extra "my readsAll")))
 k_with "my reads" => (k_dflt (refine' Reads.tuple ?Ac ?Bc ?Cc ?Dc;(case Ac=>k_extra "my get");(case Bc=>k_dflt (exact rfl));(case Cc=>k_dflt (exact rfl));(case Dc=>k_extra "my readsAll")))
 k_with "my bool" => (first | (show _=true;kernel_rfl!) | (show _=false;kernel_rfl!))
 k_with "!compareOp In" => ((k_here;k_dflt (refine' in_tup _ ?Ae ?Be ?Ce ?De ?Ee ?Fe ?Ge ?_;(case Ae=>k_extra "my reads");(case Be=>k_extra "my reads");(case Ce=>kernel_rfl!);(case De=>kernel_rfl!);(case Ee=>exact Nat.le_of_ble_eq_true (by kernel_rfl!));(case Fe=>k_extra "my room");(case Ge=>k_extra "my bool"))))
 k_with "!compareOp NotIn" => ((k_here;k_dflt (refine' notin_tup _ ?Af ?Bf ?Cf ?Df ?Ef ?Ff ?Gf ?_;(case Af=>k_extra "my reads");(case Bf=>k_extra "my reads");(case Cf=>kernel_rfl!);(case Df=>kernel_rfl!);(case Ef=>exact Nat.le_of_ble_eq_true (by kernel_rfl!));(case Ff=>k_extra "my room");(case Gf=>k_extra "my bool"))))
 k_with "my gd" => (first | exact ⟨by assumption,by assumption⟩ | k_dflt (exact Gd.keeps ⟨by assumption,by assumption⟩ (Fr.keep (by assumption))))
 k_with "my rm" => (first | exact Rm.le (by assumption) (by decide) | exact Rm.le (Rm.deeper (by assumption)) (by decide) | exact Rm.le (Rm.deeper (Rm.deeper (by assumption))) (by decide))
 k_with "my kb0" => ((intros;(with_reducible rename KB _ _ _=>kb9);(have F9:=Fr.kb0 (by assumption) kb9);(have N9:=News.kb0 (by assumption) kb9);clear kb9;(try k_sweep);(revert F9 N9;intro _ _)))
 k_with "k_inst" => (k_dflt (exact instStays (Fr.keep (by assumption)) (by with_reducible assumption)))
 k_with "!eval Call" => (((with_reducible show wpAny _ _ (eval (PySem.Expr.Call (PySem.Expr.Name _ _) _ [] _) _) _ _ _);(with_reducible refine' Call_ ?_ ?Ak);(case Ak=>kernel_rfl!)))
 exact True.intro
theorem Rm.roomJ {A:Around} {n k:Nat} (r:Rm A n) (h:k≤100):A.units+k<cLine:=by have:=r.u;omega
theorem kw23:True:=by
 k_with "my room" => (first | exact Rm.roomJ (by with_reducible assumption) (by decide) | exact Rm.roomJ (Rm.deeper (by with_reducible assumption)) (by decide) | exact Rm.roomJ (Rm.in1 (Rm.deeper (by with_reducible assumption))) (by decide) | exact Rm.roomJ (Rm.in1 (by with_reducible assumption)) (by decide))
 exact True.intro
theorem ltSJ {a b:Nat} (h:a<b):a<b+1:=Nat.lt_succ_of_lt h
theorem kw42:True:=by
 k_with "my noNe" => (((repeat (with_reducible rename ((_≠_)∧_)∧_=>hc9;clear hc9));repeat (with_reducible rename (_≠_)∧_=>hc9;clear hc9));(repeat (with_reducible rename @Ne Nat _ _=>hc9;clear hc9)))
 k_with "my la" => (first | with_reducible exact Nat.lt_succ_self _ | with_reducible assumption | ((with_reducible show _<@HAdd.hAdd Nat Nat Nat _ _ _);with_reducible refine ltSJ ?_;k_extra "my la"))
 k_with "my proj" => ((with_reducible rename ((_≠_)∧_)∧_=>hc9;(have hcA:=And.left hc9);(have hcB:=And.right hc9);clear hc9;k_extra "my proj"))
 k_with "my proj" => ((with_reducible rename (_≠_)∧_=>hc9;first | with_reducible exact hc9.1 | with_reducible exact hc9.1.symm | with_reducible exact hc9.2.1 | with_reducible exact hc9.2.1.symm | with_reducible exact hc9.2.2.1 | with_reducible exact hc9.2.2.1.symm | with_reducible exact hc9.2.2.2.1 | with_reducible exact hc9.2.2.2.1.symm | with_reducible exact hc9.2.2.2.2.1 | with_reducible exact hc9.2.2.2.2.1.symm | with_reducible exact hc9.2.2.2.2.2.1 | with_reducible exact hc9.2.2.2.2.2.1.symm | with_reducible exact hc9.2.2.2.2.2.2 | with_reducible exact hc9.2.2.2.2.2.2.symm | with_reducible exact hc9.2.2.2.2.2.2.1 | with_reducible exact hc9.2.2.2.2.2.2.1.symm | with_reducible exact hc9.2 | with_reducible exact hc9.2.symm | with_reducible exact hc9.2.2 | with_reducible exact hc9.2.2.symm | with_reducible exact hc9.2.2.2 | with_reducible exact hc9.2.2.2.symm | with_reducible exact hc9.2.2.2.2 | with_reducible exact hc9.2.2.2.2.symm | with_reducible exact hc9.2.2.2.2.2 | with_reducible exact hc9.2.2.2.2.2.symm | (clear hc9;k_extra "my proj")))
 k_with "k_ne" => ((refine neN ?_;(try dsimp only);first | with_reducible assumption | (with_reducible exact Ne.symm (by with_reducible assumption)) | (with_reducible refine Nat.ne_of_lt ?_;k_extra "my la") | (with_reducible refine Nat.ne_of_gt ?_;k_extra "my la") | (k_extra "my noNe";omega) | k_extra "my proj" | omega))
 k_with "!ite" => ((with_reducible first | refine ite_tt ?_ | refine ite_ff ?_))
 k_with "my subt" => (first | assumption | (refine' List.Mem.tail _ ?_;k_extra "my subt"))
 k_with "my sub" => (first | exact sub_nil | (refine' sub_cons ?_ ?_;(focus k_mem);k_extra "my sub") | (intro hz9;k_extra "my subt"))
 k_with "!newList" => ((k_here;k_dflt (refine' newList_K ?Aw ?Bw ?_;(case Aw=>k_asm);(case Bw=>k_asm);k_whole);intro l8 h8 F8 N8 l9;(try k_lt l9);(try k_sweep);(revert l8 h8 F8 N8 l9;intro _ _ _ _ _)))
 k_with "!eval Call Name cons nil" => (((fail_if_success plain_pass);k_here;k_dflt (first | ((first | (with_reducible show wpAny _ _ (eval (PySem.Expr.Call (PySem.Expr.Name _ _) [PySem.Expr.Name _ _] [] _) (envOf _ _ _ _ _)) _ _ _) | (with_reducible show wpAny _ _ (eval (PySem.Expr.Call (PySem.Expr.Name _ _) [PySem.Expr.Name _ _] [] _) (envOfC _ _ _ _ _)) _ _ _));refine' CallK1 ?Ax ?Cx ?Bx ?Lx ?Kx ?Ix ?Sx ?Dx ?Nx ?Jx ?Mx ?_;(case Kx=>kernel_rfl!);(case Sx=>kernel_rfl!);(case Lx=>exact rfl);(case Ix=>kernel_rfl!);(case Dx=>kernel_rfl!);(case Ax=>k_asm);(case Cx=>k_asm);(case Bx=>k_asm);(case Jx=>k_is);(case Mx=>k_is);(case Nx=>exact rfl);k_whole) | ((first | (with_reducible show wpAny _ _ (eval (PySem.Expr.Call (PySem.Expr.Name _ _) [PySem.Expr.Name _ _,PySem.Expr.Name _ _] [] _) (envOf _ _ _ _ _)) _ _ _) | (with_reducible show wpAny _ _ (eval (PySem.Expr.Call (PySem.Expr.Name _ _) [PySem.Expr.Name _ _,PySem.Expr.Name _ _] [] _) (envOfC _ _ _ _ _)) _ _ _));refine' CallK2 ?Ax ?Cx ?Bx ?Lx ?Kx ?Ix ?Sx ?Dx ?Tx ?Ex ?Nx ?Ox ?Jx ?Mx ?_;(case Kx=>kernel_rfl!);(case Sx=>kernel_rfl!);(case Tx=>kernel_rfl!);(case Lx=>exact rfl);(case Ix=>kernel_rfl!);(case Dx=>kernel_rfl!);(case Ex=>kernel_rfl!);(case Ax=>k_asm);(case Cx=>k_asm);(case Bx=>k_asm);(case Jx=>k_is);(case Mx=>k_is);(case Nx=>exact rfl);(case Ox=>exact rfl);k_whole) | ((first | (with_reducible show wpAny _ _ (eval (PySem.Expr.Call (PySem.Expr.Name _ _) [PySem.Expr.Name _ _,PySem.Expr.Name _ _,PySem.Expr.Name _ _] [] _) (envOf _ _ _ _ _)) _ _ _) | (with_reducible show wpAny _ _ (eval (PySem.Expr.Call (PySem.Expr.Name _ _) [PySem.Expr.Name _ _,PySem.Expr.Name _ _,PySem.Expr.Name _ _] [] _) (envOfC _ _ _ _ _)) _ _ _));refine' CallK3 ?Ax ?Cx ?Bx ?Lx ?Kx ?Ix ?Sx ?Dx ?Tx ?Ex ?Ux ?Fx ?Nx ?Ox ?Px ?Jx ?Mx ?_;(case Kx=>kernel_rfl!);(case Sx=>kernel_rfl!);(case Tx=>kernel_rfl!);(case Ux=>kernel_rfl!);(case Lx=>exact rfl);(case Ix=>kernel_rfl!);(case Dx=>kernel_rfl!);(case Ex=>kernel_rfl!);(case Fx=>kernel_rfl!);(case Ax=>k_asm);(case Cx=>k_asm);(case Bx=>k_asm);(case Jx=>k_is);(case Mx=>k_is);(case Nx=>exact rfl);(case Ox=>exact rfl);(case Px=>exact rfl);k_whole) | ((first | (with_reducible show wpAny _ _ (eval (PySem.Expr.Call (PySem.Expr.Name _ _) [PySem.Expr.Name _ _,PySem.Expr.Name _ _,PySem.Expr.Name _ _,PySem.Expr.Name _ _] [] _) (envOf _ _ _ _ _)) _ _ _) | (with_reducible show wpAny _ _ (eval (PySem.Expr.Call (PySem.Expr.Name _ _) [PySem.Expr.Name _ _,PySem.Expr.Name _ _,PySem.Expr.Name _ _,PySem.Expr.Name _ _] [] _) (envOfC _ _ _ _ _)) _ _ _));refine' CallK4 ?Ax ?Cx ?Bx ?Lx ?Kx ?Ix ?Sx ?Dx ?Tx ?Ex ?Ux ?Fx ?Vx ?Gx ?Nx ?Ox ?Px ?Qx ?Jx ?Mx ?_;(case Kx=>kernel_rfl!);(case Sx=>kernel_rfl!);(case Tx=>kernel_rfl!);(case Ux=>kernel_rfl!);(case Vx=>kernel_rfl!);(case Lx=>exact rfl);(case Ix=>kernel_rfl!);(case Dx=>kernel_rfl!);(case Ex=>kernel_rfl!);(case Fx=>kernel_rfl!);(case Gx=>kernel_rfl!);(case Ax=>k_asm);(case Cx=>k_asm);(case Bx=>k_asm);(case Jx=>k_is);(case Mx=>k_is);(case Nx=>exact rfl);(case Ox=>exact rfl);(case Px=>exact rfl);(case Qx=>exact rfl);k_whole) | ((first | (with_reducible show wpAny _ _ (eval (PySem.Expr.Call (PySem.Expr.Name _ _) [PySem.Expr.Name _ _,PySem.Expr.Name _ _,PySem.Expr.Name _ _,PySem.Expr.Name _ _,PySem.Expr.Name _ _] [] _) (envOf _ _ _ _ _)) _ _ _) | (with_reducible show wpAny _ _ (eval (PySem.Expr.Call (PySem.Expr.Name _ _) [PySem.Expr.Name _ _,PySem.Expr.Name _ _,PySem.Expr.Name _ _,PySem.Expr.Name _ _,PySem.Expr.Name _ _] [] _) (envOfC _ _ _ _ _)) _ _ _));refine' CallK5 ?Ax ?Cx ?Bx ?Lx ?Kx ?Ix ?Sx ?Dx ?Tx ?Ex ?Ux ?Fx ?Vx ?Gx ?Wx ?Hx ?Nx ?Ox ?Px ?Qx ?Rx ?Jx ?Mx ?_;(case Kx=>kernel_rfl!);(case Sx=>kernel_rfl!);(case Tx=>kernel_rfl!);(case Ux=>kernel_rfl!);(case Vx=>kernel_rfl!);(case Wx=>kernel_rfl!);(case Lx=>exact rfl);(case Ix=>kernel_rfl!);(case Dx=>kernel_rfl!);(case Ex=>kernel_rfl!);(case Fx=>kernel_rfl!);(case Gx=>kernel_rfl!);(case Hx=>kernel_rfl!);(case Ax=>k_asm);(case Cx=>k_asm);(case Bx=>k_asm);(case Jx=>k_is);(case Mx=>k_is);(case Nx=>exact rfl);(case Ox=>exact rfl);(case Px=>exact rfl);(case Qx=>exact rfl);(case Rx=>exact rfl);k_whole))))
 k_with "!eval Call Name nil nil" => (((fail_if_success plain_pass);k_here;(first | (with_reducible show wpAny _ _ (eval (PySem.Expr.Call _ _ [] _) (envOf _ _ _ _ _)) _ _ _) | (with_reducible show wpAny _ _ (eval (PySem.Expr.Call _ _ [] _) (envOfC _ _ _ _ _)) _ _ _));k_dflt (refine' CallK0 ?Ay ?Cy ?By ?Gy ?Fy ?Dy ?Ey ?Hy ?_;(case Fy=>kernel_rfl!);(case Gy=>exact rfl);(case Dy=>kernel_rfl!);(case Ay=>k_asm);(case Cy=>k_asm);(case By=>k_asm);(case Ey=>k_is);(case Hy=>k_is);k_whole)))
 k_with "!spliced" => (((fail_if_success plain_pass);k_here;(first | (with_reducible show wpAny _ _ (spliced (backTo _ (starEach (PySem.Expr.Name _ _::_) (envOf _ _ _ _ _)))) _ _ _) | (with_reducible show wpAny _ _ (spliced (backTo _ (starEach (PySem.Expr.Name _ _::_) (envOfC _ _ _ _ _)))) _ _ _));k_dflt (refine' args_nameL ?Az ?Cz ?Ez ?Bz ?Dz ?_;(case Ez=>kernel_rfl!);(case Bz=>kernel_rfl!);(case Cz=>exact rfl);(case Az=>k_asm);(case Dz=>exact rfl);k_whole)))
 k_with "!eval Attribute Name" => (((fail_if_success plain_pass);k_here;(first | (with_reducible show wpAny _ _ (eval (PySem.Expr.Attribute (PySem.Expr.Name _ _) _ _) (envOf _ _ _ _ _)) _ _ _) | (with_reducible show wpAny _ _ (eval (PySem.Expr.Attribute (PySem.Expr.Name _ _) _ _) (envOfC _ _ _ _ _)) _ _ _));k_dflt (refine' attr_nameL ?A10 ?C10 ?E10 ?B10 ?D10 ?_;(case E10=>kernel_rfl!);(case B10=>kernel_rfl!);(case C10=>exact rfl);(case A10=>k_asm);(case D10=>exact rfl);k_whole)))
 k_with "!isTrue Compare" => (((fail_if_success plain_pass);k_here;(first | (with_reducible show wpAny _ _ (isTrue (PySem.Expr.Compare (PySem.Expr.Name _ _) [_] [_] _) (envOf _ _ _ _ _) _) _ _ _) | (with_reducible show wpAny _ _ (isTrue (PySem.Expr.Compare (PySem.Expr.Name _ _) [_] [_] _) (envOfC _ _ _ _ _) _) _ _ _));k_dflt (refine' cmp_nameL ?A11 ?C11 ?F11 ?B11 ?E11 ?_ ?D11;(case F11=>kernel_rfl!);(case B11=>kernel_rfl!);(case C11=>exact rfl);(case A11=>k_asm);(case E11=>exact rfl);(case D11=>with_unfolding_all rfl);k_whole)))
 k_with "!isTrue Compare" => (((fail_if_success plain_pass);k_here;(first | (with_reducible show wpAny _ _ (isTrue (PySem.Expr.Compare (PySem.Expr.Name _ _) [_] [PySem.Expr.Constant PySem.Const.none _ _] _) (envOf _ _ _ _ _) _) _ _ _) | (with_reducible show wpAny _ _ (isTrue (PySem.Expr.Compare (PySem.Expr.Name _ _) [_] [PySem.Expr.Constant PySem.Const.none _ _] _) (envOfC _ _ _ _ _) _) _ _ _));k_dflt (refine' cmp_nameN ?A12 ?C12 ?F12 ?B12 ?E12 ?_ ?D12;(case F12=>kernel_rfl!);(case B12=>kernel_rfl!);(case C12=>exact rfl);(case A12=>k_asm);(case E12=>exact rfl);(case D12=>with_unfolding_all rfl);k_whole)))
 k_with "!isTrue Compare" => (((fail_if_success plain_pass);k_here;(first | (with_reducible show wpAny _ _ (isTrue (PySem.Expr.Compare (PySem.Expr.Name _ _) [_] [PySem.Expr.Constant (PySem.Const.int _) _ _] _) (envOf _ _ _ _ _) _) _ _ _) | (with_reducible show wpAny _ _ (isTrue (PySem.Expr.Compare (PySem.Expr.Name _ _) [_] [PySem.Expr.Constant (PySem.Const.int _) _ _] _) (envOfC _ _ _ _ _) _) _ _ _));k_dflt (refine' cmp_nameI ?A13 ?C13 ?F13 ?B13 ?E13 ?_ ?D13;(case F13=>kernel_rfl!);(case B13=>kernel_rfl!);(case C13=>exact rfl);(case A13=>k_asm);(case E13=>exact rfl);(case D13=>with_unfolding_all rfl);k_whole)))
 k_with "!eval BinOp" => (((fail_if_success plain_pass);k_here;(first | (with_reducible show wpAny _ _ (eval (PySem.Expr.BinOp (PySem.Expr.Name _ _) _ _ _) (envOf _ _ _ _ _)) _ _ _) | (with_reducible show wpAny _ _ (eval (PySem.Expr.BinOp (PySem.Expr.Name _ _) _ _ _) (envOfC _ _ _ _ _)) _ _ _));k_dflt (refine' bin_nameL ?A14 ?C14 ?E14 ?B14 ?D14 ?_;(case E14=>kernel_rfl!);(case B14=>kernel_rfl!);(case C14=>exact rfl);(case A14=>k_asm);(case D14=>exact rfl);k_whole)))
 k_with "!exec Return some" => (((fail_if_success plain_pass);k_here;(first | (with_reducible show wpAny _ _ (exec (PySem.Stmt.Return (some (PySem.Expr.Name _ _)) _) (envOf _ _ _ _ _)) _ _ _) | (with_reducible show wpAny _ _ (exec (PySem.Stmt.Return (some (PySem.Expr.Name _ _)) _) (envOfC _ _ _ _ _)) _ _ _));k_dflt (refine' ret_nameL ?A15 ?C15 ?E15 ?B15 ?D15 ?_;(case E15=>kernel_rfl!);(case B15=>kernel_rfl!);(case C15=>exact rfl);(case A15=>k_asm);(case D15=>exact rfl);k_whole);(try dsimp only)))
 exact True.intro
variable {w:World} {A:Around} {E:Value->Shared->Prop} {s:Shared} {mean:ExcName->Option Value} {mg mb:Str->Option Value}
section
section
variable {Q:Value->Shared->Prop}
theorem and_ct {x y:Value} {a b:Option Bool} (G:Gd w mean mg mb s.heap) (R:Rm A 2) (hx:TvV x a) (hy:TvV y b)
   (hQ:∀ h' tk v,KB [] s.heap h'->TvV v (and3 a b)->Q v {s with heap:=h',toks:=tk}) :
   wpAny (model PG w) A (call (.ref 201) [x,y]) Q E s:=by
 k_extra "s"
 refine enter [] G (fun _ _ e=>e) (fun p hp=>nomatch hp) (by k_dflt k_is) (by k_dflt k_is) (by have:=R.d;omega) (binds:=[("a",x),("b",y)]) (BindsTo.of_eq rfl) (locs rfl) ?_
 intro b L h₁ F N X T hst hkb hK hlt
 (try dsimp only)
 cases hx<;>cases hy<;>k_steps
 all_goals exact hQ _ _ _ (hK _ _ (by assumption)) (by first | exact .none | exact .t _ | exact .f _)
 k_extra "f"
theorem or_ct {x y:Value} {a b:Option Bool} (G:Gd w mean mg mb s.heap) (R:Rm A 2) (hx:TvV x a) (hy:TvV y b)
   (hQ:∀ h' tk v,KB [] s.heap h'->TvV v (or3 a b)->Q v {s with heap:=h',toks:=tk}) :
   wpAny (model PG w) A (call (.ref 208) [x,y]) Q E s:=by
 k_extra "s"
 refine enter [] G (fun _ _ e=>e) (fun p hp=>nomatch hp) (by k_dflt k_is) (by k_dflt k_is) (by have:=R.d;omega) (binds:=[("a",x),("b",y)]) (BindsTo.of_eq rfl) (locs rfl) ?_
 intro b L h₁ F N X T hst hkb hK hlt
 (try dsimp only)
 cases hx<;>cases hy<;>k_steps
 all_goals exact hQ _ _ _ (hK _ _ (by assumption)) (by first | exact .none | exact .t _ | exact .f _)
 k_extra "f"
theorem not_ct {x:Value} {a:Option Bool} (G:Gd w mean mg mb s.heap) (R:Rm A 2) (hx:TvV x a)
   (hQ:∀ h' tk v,KB [] s.heap h'->TvV v (not3 a)->Q v {s with heap:=h',toks:=tk}) :
   wpAny (model PG w) A (call (.ref 215) [x]) Q E s:=by
 k_extra "s"
 refine enter [] G (fun _ _ e=>e) (fun p hp=>nomatch hp) (by k_dflt k_is) (by k_dflt k_is) (by have:=R.d;omega) (binds:=[("a",x)]) (BindsTo.of_eq rfl) (locs rfl) ?_
 intro b L h₁ F N X T hst hkb hK hlt
 (try dsimp only)
 cases hx<;>k_steps
 all_goals exact hQ _ _ _ (hK _ _ (by assumption)) (by first | exact .none | exact .t _ | exact .f _)
 k_extra "f"
theorem xor_ct {x y:Value} {a b:Option Bool} (G:Gd w mean mg mb s.heap) (R:Rm A 2) (hx:TvV x a) (hy:TvV y b)
   (hQ:∀ h' tk v,KB [] s.heap h'->TvV v (xor3 a b)->Q v {s with heap:=h',toks:=tk}) :
   wpAny (model PG w) A (call (.ref 222) [x,y]) Q E s:=by
 k_extra "s"
 refine enter [] G (fun _ _ e=>e) (fun p hp=>nomatch hp) (by k_dflt k_is) (by k_dflt k_is) (by have:=R.d;omega) (binds:=[("a",x),("b",y)]) (BindsTo.of_eq rfl) (locs rfl) ?_
 intro b L h₁ F N X T hst hkb hK hlt
 (try dsimp only)
 cases hx<;>cases hy<;>k_steps
 all_goals exact hQ _ _ _ (hK _ _ (by assumption)) (by first | exact .none | exact .t _ | exact .f _)
 k_extra "f"
theorem land_ct {x y:Value} {a b:Option Bool} (G:Gd w mean mg mb s.heap) (R:Rm A 2) (hx:TvV x a) (hy:TvV y b)
   (hQ:∀ h' tk v,KB [] s.heap h'->TvV v (and3 a b)->Q v {s with heap:=h',toks:=tk}) :
   wpAny (model PG w) A (call (.ref 380) [x,y]) Q E s:=by
 k_extra "s"
 refine enter [] G (fun _ _ e=>e) (fun p hp=>nomatch hp) (by k_dflt k_is) (by k_dflt k_is) (by have:=R.d;omega) (binds:=[("a",x),("b",y)]) (BindsTo.of_eq rfl) (locs rfl) ?_
 intro b L h₁ F N X T hst hkb hK hlt
 (try dsimp only)
 cases hx<;>cases hy<;>k_steps
 all_goals exact hQ _ _ _ (hK _ _ (by assumption)) (by first | exact .none | exact .t _ | exact .f _)
 k_extra "f"
theorem lnot_ct {x:Value} {a:Option Bool} (G:Gd w mean mg mb s.heap) (R:Rm A 2) (hx:TvV x a)
   (hQ:∀ h' tk v,KB [] s.heap h'->TvV v (not3 a)->Q v {s with heap:=h',toks:=tk}) :
   wpAny (model PG w) A (call (.ref 387) [x]) Q E s:=by
 k_extra "s"
 refine enter [] G (fun _ _ e=>e) (fun p hp=>nomatch hp) (by k_dflt k_is) (by k_dflt k_is) (by have:=R.d;omega) (binds:=[("a",x)]) (BindsTo.of_eq rfl) (locs rfl) ?_
 intro b L h₁ F N X T hst hkb hK hlt
 (try dsimp only)
 cases hx<;>k_steps
 all_goals exact hQ _ _ _ (hK _ _ (by assumption)) (by first | exact .none | exact .t _ | exact .f _)
 k_extra "f"
theorem lxor_ct {x y:Value} {a b:Option Bool} (G:Gd w mean mg mb s.heap) (R:Rm A 2) (hx:TvV x a) (hy:TvV y b)
   (hQ:∀ h' tk v,KB [] s.heap h'->TvV v (xor3 a b)->Q v {s with heap:=h',toks:=tk}) :
   wpAny (model PG w) A (call (.ref 401) [x,y]) Q E s:=by
 k_extra "s"
 refine enter [] G (fun _ _ e=>e) (fun p hp=>nomatch hp) (by k_dflt k_is) (by k_dflt k_is) (by have:=R.d;omega) (binds:=[("a",x),("b",y)]) (BindsTo.of_eq rfl) (locs rfl) ?_
 intro b L h₁ F N X T hst hkb hK hlt
 (try dsimp only)
 cases hx<;>cases hy<;>k_steps
 all_goals exact hQ _ _ _ (hK _ _ (by assumption)) (by first | exact .none | exact .t _ | exact .f _)
 k_extra "f"
end
end
section
section
variable {Q:Value->Shared->Prop}
theorem isna_ct {v:Value} {d:PyData} (G:Gd w mean mg mb s.heap) (R:Rm A 2) (hd:OkIt .dbl d) (hv:ItM (hm s.heap) v d)
   (hQ:∀ h' tk,KB [] s.heap h'->Q (.bool (decide (tru d=none))) {s with heap:=h',toks:=tk}) :
   wpAny (model PG w) A (call (.ref 194) [v]) Q E s:=by
 k_extra "s"
 refine enter [] G (fun _ _ e=>e) (fun p hp=>nomatch hp) (by k_dflt k_is) (by k_dflt k_is) (by have:=R.d;omega) (binds:=[("x",v)]) (BindsTo.of_eq rfl) (locs rfl) ?_
 intro b L h₁ F N X T hst hkb hK hlt
 (try dsimp only)
 cases hd
 . cases hv
   k_steps
   exact hQ _ _ (hK _ _ (by assumption))
 . rename_i x y
   cases hv
   rename_i hT
   have hT2:IsTup b _ _:=⟨_,hst _ _ hT,rfl,_,rfl⟩
   k_steps
   . have e:decide (tru (.tuple [.int x,.int y])=none)=(y == 0):=by
       have h1:x=0:=by with_reducible assumption
       subst h1
       by_cases hy:y=0<;>simp [tru,hy]
     dsimp only;rw [← e];exact hQ _ _ (hK _ _ (by assumption))
   . have e:decide (tru (.tuple [.int x,.int y])=none)=(x == 0):=by
       have h1:x≠0:=by with_reducible assumption
       simp [tru,h1]
     dsimp only;rw [← e];exact hQ _ _ (hK _ _ (by assumption))
 k_extra "f"
theorem kw44:True:=by
 k_with "c194" => ((k_here;k_dflt (refine' isna_ct ?C17 ?D17 ?A17 ?B17 ?_;(case C17=>k_extra "my gd");(case D17=>k_extra "my rm");(case A17=>assumption);(case B17=>exact ItM.mono (by assumption) fun a o e=>Fr.keep (by assumption) _ _ e));k_extra "my kb0"))
 exact True.intro
theorem truth_ct {k:Kd} {t0:Tok} {v:Value} {d:PyData} (G:Gd w mean mg mb s.heap) (R:Rm A 4) (hd:OkIt k d) (hv:ItM (hm s.heap) v d)
   (hQ:∀ h' tk r,KB [] s.heap h'->TvV r (tru d)->Q r {s with heap:=h',toks:=tk}) :
   wpAny (model PG w) A (call (.ref 229) [.str k.str t0,v]) Q E s:=by
 k_extra "s"
 refine enter [] G (fun _ _ e=>e) (fun p hp=>nomatch hp) (by k_dflt k_is) (by k_dflt k_is) (by have:=R.d;omega) (binds:=[("kind",.str k.str t0),("item",v)]) (BindsTo.of_eq rfl) (locs rfl) ?_
 intro b L h₁ F N X T hst hkb hK hlt
 (try dsimp only)
 have hv':ItM (hm b) v d:=hv.mono fun a o e=>hst _ _ e
 have hd':=hd
 cases hd
 case none =>
   cases hv;cases k<;>dsimp only [Kd.str] at *
   . k_steps;exact hQ _ _ _ (hK _ _ (by assumption)) .none
   . k_steps;exact hQ _ _ _ (hK _ _ (by assumption)) .none
   . k_steps;all_goals ((try dsimp only);refine hQ _ _ _ (hK _ _ (by assumption)) ?_;first | exact tvn (by first | rfl | assumption | simp_all [tru]) | exact tvt (by simp_all [tru]) | exact tvf (by simp_all [tru]))
 case lgl i =>
   cases hv;dsimp only [Kd.str] at *
   k_steps;all_goals ((try dsimp only);refine hQ _ _ _ (hK _ _ (by assumption)) ?_;first | exact tvn (by first | rfl | assumption | simp_all [tru]) | exact tvt (by simp_all [tru]) | exact tvf (by simp_all [tru]))
 case itg i =>
   cases hv;dsimp only [Kd.str] at *
   k_steps;all_goals ((try dsimp only);refine hQ _ _ _ (hK _ _ (by assumption)) ?_;first | exact tvn (by first | rfl | assumption | simp_all [tru]) | exact tvt (by simp_all [tru]) | exact tvf (by simp_all [tru]))
 case dbl x y =>
   cases hv;rename_i hT
   have hT2:IsTup b _ _:=⟨_,hst _ _ hT,rfl,_,rfl⟩
   dsimp only [Kd.str] at *
   k_steps;all_goals ((try dsimp only);refine hQ _ _ _ (hK _ _ (by assumption)) ?_;first | exact tvn (by first | rfl | assumption | simp_all [tru]) | exact tvt (by simp_all [tru]) | exact tvf (by simp_all [tru]))
 k_extra "f"
end
end
section
theorem G4.g4:True:=True.intro
open G4
theorem kw46:True:=by
 k_with "!eval ListComp" => ((have:=g4;clear this);refine stop ?_)
 exact True.intro
section
variable {Q:Value->Shared->Prop}
theorem kw48:True:=by
 k_with "c229" => ((k_here;k_dflt (refine' truth_ct ?C1b ?D1b ?A1b ?B1b ?_;(case C1b=>k_extra "my gd");(case D1b=>k_extra "my rm");(case A1b=>assumption);(case B1b=>exact ItM.mono (by assumption) fun a o e=>Fr.keep (by assumption) _ _ e));k_extra "my kb0"))
 exact True.intro
inductive TvsV:List Value->List (Option Bool)->Prop
 | nil:TvsV [] []
 | cons {v:Value} {t:Option Bool} {vs:List Value} {ts:List (Option Bool)}:TvV v t->TvsV vs ts->TvsV (v::vs) (t::ts)
theorem TvsV.snoc {vs:List Value} {ts:List (Option Bool)} {v:Value} {t:Option Bool} (x:TvsV vs ts) (y:TvV v t):TvsV (vs++[v]) (ts++[t]):=by
 induction x with
 | nil=>exact .cons y .nil
 | cons h _ ih=>exact .cons h ih
theorem take_snoc {f:PyData->Option Bool} {l:List PyData} {i:Nat} {d:PyData} (h:l[i]?=some d):(l.take (i+1)).map f=(l.take i).map f++[f d]:=by
 rw [List.take_succ,h];simp
theorem titems_ct {u dx ia:Addr} {k:Kd} {av:Value} {items:List PyData} (G:Gd w mean mg mb s.heap) (R:Rm A 7) (hV:VAt w.params (hm s.heap) u dx ia k.str av items) (hok:∀ d∈items,OkIt k d) (hlen:items.length≤1000)
   (hQ:∀ h' tk r vs n,KB [] s.heap h'->h'.get? r=some (listOf (List.toArray vs) n)->s.heap.get? r=none->TvsV vs (items.map tru)->Q (.ref r) {s with heap:=h',toks:=tk}) :
   wpAny (model PG w) A (call (.ref 234) [.ref u]) Q E s:=by
 k_extra "s"
 obtain ⟨tk,ti,ta,ts,tl,kt,n,vs,c,h1,h2,h3,h4⟩:=hV.ex
 refine enterC [] G (fun _ _ e=>e) (fun p hp=>nomatch hp) (by k_dflt k_is) (by k_dflt k_is) (by have:=R.d;omega) (binds:=[("v",.ref u)]) (BindsTo.of_eq rfl) (by rfl) (by decide +kernel) ?_
 intro b L h₁ tk0 cells F N Y X T hst hkb hK hlt
 k_cells Y
 (try simp only [List.cons_append,List.nil_append] at N)
 (try dsimp only)
 have hI:InstAt b u _ _ _:=instOf (hst _ _ h1) (hst _ _ h2)
 have hL:b.IsList ia vs.toArray:=⟨_,hst _ _ h3,rfl,_,rfl⟩
 k_steps
 refine LCg.ListComp_U (F₀:=F) (by with_unfolding_all rfl) (by decide) (by rfl) (by decide) (by rfl) ?_
 k_steps
 refine LCg.CompSrc.base R.h (by assumption) (by assumption) hL (by rw [sizeLine_eq];simp only [List.size_toArray,h4.length];omega) fun g=>?_
 refine comp_inv (n:=vs.toArray.size) (fun i ys news=>news=[(L+1,_)]∧TvsV ys ((items.take i).map tru)) ?turn ?fin _ _ _ _ (Nat.zero_add _) ⟨rfl,.nil⟩
 case turn =>
   rintro i ys _ hi ⟨rfl,hys⟩ v J oJ oC C D m₂ h tk E' hP hoC hmm F N off ne
   obtain ⟨d,hd,hit⟩:=h4.at i v (by simpa using hP)
   have hit':ItM (hm b) v d:=hit.mono fun a o e=>hst _ _ e
   have hokd:OkIt k d:=hok d (List.mem_of_getElem? hd)
   k_steps
   refine LCg.CompEnd.intro (by assumption) (by assumption) [(L+1,_)] (fun _ h=>h) off (.inl hL) ⟨rfl,?_⟩
   have ht:=TvsV.snoc hys (by assumption:TvV _ (tru d))
   rwa [take_snoc hd]
 case fin =>
   rintro ys _ ⟨rfl,hys⟩ D h tk F N off
   refine hQ _ _ _ ys _ (hK _ _ F) (N.get (.head _)) (news_new N hkb (.head _) (by simp)) ?_
   simpa [List.take_of_length_le,h4.length] using hys
 k_extra "f"
end
end
section
section
variable {b₀:Heap} {Q:Value->Shared->Prop}
theorem next_ct {row:Addr} {us:List Value} {l:List Int} {n:Nat} (G:Gd w mean mg mb b₀) (hb:b₀.StaysIn s.heap) (hr:s.heap.get? row=some (listOf us.toArray n)) (hn:b₀.get? row=none)
   (hi:IntsAre us l) (hl:us.length≤200) (hroom:A.depth+2<recursionLimit) (hun:A.units+100<cLine) (hA:A.handled=none)
   (hQ:∀ h' tk t us' n',KB [row] s.heap h'->h'.get? row=some (listOf us'.toArray n')->IntsAre us' (l.dropLast)->Q (.int (l.getLastD 0) t) {s with heap:=h',toks:=tk}) :
   wpAny (model PG w) A (call (.ref 309) [.ref row]) Q E s:=by
 k_extra "s"
 refine enter [(row,listOf us.toArray n)] G hb (fun p hp=>by cases hp with | head=>exact ⟨hr,hn⟩ | tail _ h=>cases h) (by k_dflt k_is) (by k_dflt k_is) (by omega) (binds:=[("row",.ref row)]) (BindsTo.of_eq rfl) (locs rfl) ?_
 intro b L h₁ F N X T hst hkb hK hlt
 (try dsimp only)
 k_steps
 . have hl0:l=[]:=by simpa using ‹decide (l=[])=true›
   subst hl0;cases hi
   exact hQ _ _ _ [] _ (hK _ _ (by assumption)) (News.get (by assumption) (by k_mem)) .nil
 . have hp:0<us.length:=by
     have hl0:l≠[]:=by simpa using ‹decide (l=[])=false›
     rw [IntsAre.length hi];exact List.length_pos_iff.mpr hl0
   k_steps
   exact hQ _ _ _ us.dropLast _ (hK _ _ (by assumption)) (News.get (by assumption) (by k_mem)) (by assumption)
 k_extra "f"
end
end
section
inductive DK {α:Type}:Sem α->Prop
 | pure (a:α):DK (.pure a)
 | raise (e:Value):DK (.raise e)
 | unsupported (x:String):DK (.unsupported x)
 | rule {t:String} {k:Unit->Sem α}:(∀ x,DK (k x))->DK (.rule t k)
 | at_ {p:Pos} {k:Unit->Sem α}:(∀ x,DK (k x))->DK (.at p k)
 | load {a:Addr} {p:Option Value} {k:Obj->Sem α}:(∀ x,DK (k x))->DK (.load a p k)
 | update {a:Addr} {p:Option Value} {f:Obj->Obj} {k:Unit->Sem α}:(∀ o,(f o).dict=o.dict∧(f o).isFreed=o.isFreed)->(∀ x,DK (k x))->DK (.update a p f k)
 | point {l:List Value} {k:Unit->Sem α}:(∀ x,DK (k x))->DK (.point l k)
 | alloc {o:Obj} {k:Addr->Sem α}:(∀ x,DK (k x))->DK (.alloc o k)
 | fresh {k:Tok->Sem α}:(∀ x,DK (k x))->DK (.fresh k)
 | ask {k:Setting->Sem α}:(∀ x,DK (k x))->DK (.ask k)
 | handled {b:Bool} {k:Option Value->Sem α}:(∀ x,DK (k x))->DK (.handled b k)
 | stack {k:List (Code×Pos)->Sem α}:(∀ x,DK (k x))->DK (.stack k)
def DS (h h':Heap):Prop:=∀ b o,h.get? b=some o->∃ o',h'.get? b=some o'∧o'.dict=o.dict
theorem DS.refl (h:Heap):DS h h:=fun _ o e=>⟨o,e,rfl⟩
theorem DS.trans {h h' h'':Heap} (x:DS h h') (y:DS h' h''):DS h h'':=fun b o e=>by
 obtain ⟨o',e',d'⟩:=x b o e
 obtain ⟨o'',e'',d''⟩:=y b o' e'
 exact ⟨o'',e'',d''.trans d'⟩
theorem DS.of_keep {h h':Heap} (k:∀ b o,h.get? b=some o->h'.get? b=some o):DS h h':=fun b o e=>⟨o,k b o e,rfl⟩
theorem DK.bind {α β:Type} {m:Sem α} {f:α->Sem β} (x:DK m) (y:∀ a,DK (f a)):DK (m >>= f):=by
 k_extra "s"
 show DK (m.bind f)
 induction x with
 | pure a=>exact y a
 | raise e=>exact .raise e
 | unsupported e=>exact .unsupported e
 | rule _ ih=>exact .rule ih
 | at_ _ ih=>exact .at_ ih
 | load _ ih=>exact .load ih
 | update h _ ih=>exact .update h ih
 | point _ ih=>exact .point ih
 | alloc _ ih=>exact .alloc ih
 | fresh _ ih=>exact .fresh ih
 | ask _ ih=>exact .ask ih
 | handled _ ih=>exact .handled ih
 | stack _ ih=>exact .stack ih
 k_extra "f"
theorem DK.wp {α:Type} {M:Model} {Γ:Ctx} {t:Sem α} (d:DK t):∀ (Q:α->Pos->Shared->Prop) (E:Value->Pos->Shared->Prop) (p:Pos) (s:Shared),Sem.wp M Γ t Q E p s ->
   Sem.wp M Γ t (fun a p' s'=>Q a p' s'∧DS s.heap s'.heap) (fun e p' s'=>E e p' s'∧DS s.heap s'.heap) p s:=by
 k_extra "s"
 induction d with
 | pure a=>intro Q E p s h;exact ⟨h,.refl _⟩
 | raise e=>intro Q E p s h;exact ⟨h,.refl _⟩
 | unsupported e=>intro Q E p s h;exact h
 | rule _ ih=>intro Q E p s h;exact ih _ _ _ _ _ h
 | at_ _ ih=>intro Q E p s h;exact ih _ _ _ _ _ h
 | load _ ih=>intro Q E p s h;obtain ⟨o,ho,h⟩:=h;exact ⟨o,ho,ih _ _ _ _ _ h⟩
 | @update a pt f k hf _ ih =>
   intro Q E p s h
   obtain ⟨hs,h⟩:=h
   refine ⟨hs,Sem.wp_mono _ _ _ (fun _ _ _ q=>⟨q.1,DS.trans ?_ q.2⟩) (fun _ _ _ q=>⟨q.1,DS.trans ?_ q.2⟩) _ _ (ih _ _ _ _ _ h)⟩
   all_goals
     intro b o e
     by_cases hb:a=b
     . subst hb
       refine ⟨f o,Heap.get?_update_self _ e ?_,(hf o).1⟩
       rw [(hf o).2];exact (Heap.get?_some_iff.mp e).2
     . exact ⟨o,(Heap.get?_update_other _ _ hb).trans e,rfl⟩
 | point _ ih=>intro Q E p s h;exact ih _ _ _ _ _ h
 | alloc _ ih =>
   intro Q E p s h
   refine Sem.wp_mono _ _ _ (fun _ _ _ q=>⟨q.1,DS.trans ?_ q.2⟩) (fun _ _ _ q=>⟨q.1,DS.trans ?_ q.2⟩) _ _ (ih _ _ _ _ _ h)
   all_goals exact DS.of_keep fun b o e=>Heap.get?_push_of_some _ e
 | fresh _ ih=>intro Q E p s h;exact ih _ _ _ _ _ h
 | ask _ ih=>intro Q E p s h;exact ih _ _ _ _ _ h
 | handled _ ih=>intro Q E p s h;exact ih _ _ _ _ _ h
 | stack _ ih=>intro Q E p s h;exact ih _ _ _ _ _ h
 k_extra "f"
theorem DK.any {α:Type} {M:Model} {A:Around} {t:Sem α} {Q:α->Shared->Prop} {E:Value->Shared->Prop} {s:Shared} (d:DK t) (h:wpAny M A t Q E s) :
   wpAny M A t (fun a s'=>Q a s'∧DS s.heap s'.heap) (fun e s'=>E e s'∧DS s.heap s'.heap) s:=fun Γ p hΓ=>d.wp _ _ _ _ (h Γ p hΓ)
theorem G6.g6:True:=True.intro
open G6
theorem kw50:True:=by
 k_with "dk" => ((have:=g6;clear this);repeat' (first | intro _ | exact DK.pure _ | exact DK.raise _ | exact DK.unsupported _ | assumption | refine DK.bind ?_ ?_ | refine DK.load ?_ | refine DK.alloc ?_ | refine DK.stack ?_ | refine DK.rule ?_ | refine DK.fresh ?_ | split))
 exact True.intro
theorem dk_fieldsOf (v:Value):DK (fieldsOf v):=by unfold fieldsOf;k_extra "dk"
theorem dk_field (v:Value) (i:Nat):DK (field v i):=by unfold field;refine DK.bind (dk_fieldsOf v) fun _=>?_;k_extra "dk"
theorem dk_mapFields (f:Array Value->Array Value) (o:Obj):(Obj.mapFields f o).dict=o.dict∧(Obj.mapFields f o).isFreed=o.isFreed:=by
 obtain ⟨c,d,dt,sl⟩:=o
 cases dt<;>exact ⟨rfl,rfl⟩
theorem dk_lookBehind (a:Addr) (p:Option Value):DK (lookBehind a p):=by unfold lookBehind;k_extra "dk"
theorem dk_update {a:Addr} {f:Obj->Obj} (hf:∀ o,(f o).dict=o.dict∧(f o).isFreed=o.isFreed):DK (update a f):=DK.update hf fun _ => .pure _
theorem dk_updateField (a:Addr) (i:Nat) (x:Value):DK (updateField a i x):=by
 k_extra "s"
 unfold updateField
 refine DK.bind (DK.load fun _ => .pure _) fun o=>?_
 split
 . split
   . exact dk_update (dk_mapFields _)
   . exact .unsupported _
 . exact .unsupported _
 k_extra "f"
theorem dk_setField (v:Value) (i:Nat) (x:Value):DK (setField v i x):=by
 k_extra "s"
 unfold setField
 split
 . exact dk_updateField _ _ _
 . exact .unsupported _
 k_extra "f"
theorem dk_setFlight (e:Value) (f:Option Addr):DK (setFlight e f):=by
 k_extra "s"
 unfold setFlight
 refine DK.bind (dk_field _ _) fun tb=>?_
 split
 . exact dk_setField _ _ _
 . exact .pure _
 k_extra "f"
theorem dk_stack:DK stack:=DK.stack fun _ => .pure _
theorem dk_behind (env:Env) (outer:List Env):DK (behindIsImport env outer):=by
 k_extra "s"
 unfold behindIsImport
 split
 . exact .pure _
 . split
   . exact .pure _
   . exact DK.bind (dk_field _ _) fun _ => .pure _
 k_extra "f"
theorem dk_claims:DK underTheClaimsCaller:=by unfold underTheClaimsCaller;exact DK.bind dk_stack fun _ => .pure _
theorem dk_keptBack (env:Env) (i:Bool) (outer:List Env):DK (keptBack env i outer):=by
 k_extra "s"
 unfold keptBack
 split
 . split
   . exact .pure _
   . exact DK.bind dk_claims fun _ => .pure _
 . exact .pure _
 k_extra "f"
theorem dk_ready:∀ l:List Env,DK (readyFrames l)
 | [] => .pure _
 | env::outer=>by
   unfold readyFrames
   split
   . refine DK.bind (DK.load fun _ => .pure _) fun o=>?_
     split
     . exact .pure _
     . refine DK.bind (dk_behind _ _) fun i=>DK.bind (dk_keptBack _ _ _) fun back=>DK.bind (dk_update fun o=>?_) fun _=>dk_ready outer
       obtain ⟨c,d,dt,sl⟩:=o
       cases dt<;>exact ⟨rfl,rfl⟩
   . exact .unsupported _
theorem dk_frameObject (l:List Env):DK (frameObject l):=by
 k_extra "s"
 unfold frameObject
 split
 . exact .pure _
 . exact DK.bind (dk_ready _) fun _ => .pure _
 k_extra "f"
theorem dk_frameOf (env:Env):DK (PySem.frameOf env):=by
 k_extra "s"
 unfold PySem.frameOf
 refine DK.bind (by unfold frameEnvs;exact DK.bind dk_stack fun _ => .pure _) fun l=>DK.bind (dk_frameObject _) fun r=>?_
 split
 . exact .pure _
 . exact .unsupported _
 k_extra "f"
theorem dk_place (f:Addr) (b:Bool):DK (entryPlaceOf f b):=by
 k_extra "s"
 unfold entryPlaceOf
 refine DK.bind dk_stack fun l=>?_
 split
 . exact .pure _
 . exact .pure _
 k_extra "f"
theorem dk_newEntry (a b c d e:Value) (l:List Value):DK (EntryCells.newEntry a b c d e l):=by
 k_extra "s"
 unfold EntryCells.newEntry newFields newObj newObjAsIs
 dsimp only
 k_extra "dk"
 k_extra "f"
theorem dk_noteFrame (e:Value) (env:Env):DK (noteFrame e env):=by
 k_extra "s"
 unfold noteFrame
 split
 . refine DK.bind (dk_field _ _) fun head=>?_
   have fin:∀ x:Addr,DK (do setField e 1 (← EntryCells.newEntry head (← PySem.frameOf env) .none (rawInt x) .none (← entryPlaceOf x (head != .none)))):=fun x =>
     DK.bind (dk_frameOf _) fun _=>DK.bind (dk_place _ _) fun _=>DK.bind (dk_newEntry _ _ _ _ _ _) fun _=>dk_setField _ _ _
   split
   . refine DK.bind (dk_field _ _) fun x=>?_
     split
     . exact .pure _
     . exact DK.bind (dk_setField _ _ _) fun _=>fin _
   . exact fin _
 . exact .unsupported _
 k_extra "f"
theorem dk_leaving (env:Env) (e:Value):DK (leaving env e):=DK.bind (dk_noteFrame _ _) fun _=>dk_setFlight _ _
end
section
section
open PySem.Spec PySem.Builtin PySem.Builtin.ObjectAttr PySem.Builtin.Getset_descriptor
variable {Q:Value->Shared->Prop}
noncomputable abbrev excMade (dx:Option Addr) (t:Addr):Obj := {cls := .ref 65,dict:=dx,data := .fields #[.ref t,.none,.none,.none,.bool false,.none]}
theorem own65 {h:Heap} (X:(KF w.params).In h):∃ dd k0 k1 k2 k3 k5 nm q bs sn sub ab col,h.get? 65=some (excClassObj nm q 65 64 bs [.ref 45,.type "Exception",.type "BaseException",.type "object"] true sn sub ab col dd k0 k1 k2 k3 k5 "Exception.__new__"):=by
 exact ⟨_,_,_,_,_,_,_,_,_,_,_,_,_,X 65 _ (by k_dflt k_is)⟩
theorem tail65 {h:Heap} (X:(KF w.params).In h):OwnTail h [.type "Exception",.type "BaseException",.type "object"] [.ref 45,.type "Exception",.type "BaseException",.type "object"] :=
 tail_of_in X (by kernel_rfl!)
theorem make65 {rest:List Value} {R:Result->Shared->Prop} (X:(KF w.params).In s.heap) (hl:rest.length≤100)
   (h:∀ e t h',KB [] s.heap h'->s.heap.get? e=none->s.heap.get? t=none->e≠t->h'.get? e=some (excMade none t)->h'.get? t=some {cls := .type "tuple",data := .seq rest.toArray} ->
     codeAny (model PG w) (A.under (.builtin "type.__call__" ⟨.ref 65::rest,[]⟩)) (.call (.ref 62) ⟨.ref e::rest,[]⟩) (InitBack e R) {s with heap:=h'}) :
   codeAny (model PG w) A (.call (.ref 65) ⟨rest,[]⟩) R s:=by
 k_extra "s"
 obtain ⟨dd,k0,k1,k2,k3,k5,nm,q,bs,sn,sub,ab,col,hC⟩:=own65 X
 have T:=tail65 X
 have Fn:=PySem.F.excBase_Exception
 obtain ⟨hh,g,d,t,os⟩:=s
 have f1:=tc_lookup
 have f2:=tc_bind (.ref 65)
 have hT:(⟨hh,g,d,t,os⟩:Shared).TypeIs (.ref 65) "type" := ⟨_,hC,rfl⟩
 refine codeAny_of_tree ?_
 show wpAny _ _ (callAny (.ref 65) _) _ _ _
 repeat (any_goals (first | assumption | with_reducible refine wpAny_loadPart_at hC ?_ | wp_step))
 refine ⟨rfl,?_⟩
 refine codeAny_call_builtin_at (Code.quiet_builtin _ (by decide +kernel)) entry_typeCall (wpAny_check_type_call_sub hC ?_)
 repeat (first | with_reducible refine wpAny_loadPart_at hC ?_ | with_reducible refine wpAny_madeBy_exc hC ?_ | wp_step)
 refine codeAny_call_builtin_code (Code.quiet_builtin _ Fn.quiet) (wpAny_check_new_subU Fn (by decide +kernel) T hC ?_)
 refine codeAny_exc_new_subU Fn (by decide +kernel) Fn T hC ?_ (by rw [sizeLine_eq];show rest.length≤_;omega)
 show wpAny _ _ _ _ _ _
 have k1:∀ b o,hh.get? b=some o->((hh.push {cls := .type "tuple",data := .seq rest.toArray}).push (excMade none hh.objs.size)).get? b=some o:=fun b o e=>Heap.get?_push_of_some _ (Heap.get?_push_of_some _ e)
 have hx:((hh.push {cls := .type "tuple",data := .seq rest.toArray}).push (excMade none hh.objs.size)).get? (hh.objs.size+1)=some (excMade none hh.objs.size):=by heap_get
 have ht:((hh.push {cls := .type "tuple",data := .seq rest.toArray}).push (excMade none hh.objs.size)).get? hh.objs.size=some {cls := .type "tuple",data := .seq rest.toArray}:=by heap_get
 have X2:(KF w.params).In ((hh.push {cls := .type "tuple",data := .seq rest.toArray}).push (excMade none hh.objs.size)):=X.keeps k1
 have I:W.InstAt ((hh.push {cls := .type "tuple",data := .seq rest.toArray}).push (excMade none hh.objs.size)) (hh.objs.size+1) (excMade none hh.objs.size) 65 none:=⟨hx,rfl,rfl,trivial⟩
 have Li:Looks (model PG w) ((hh.push {cls := .type "tuple",data := .seq rest.toArray}).push (excMade none hh.objs.size)) (isInstance (.ref (hh.objs.size+1)) (.ref 65)) true:=I.type.andThen (looks_subIn X2 (by kernel_rfl!))
 refine wpAny_bind (Li.here ?_)
 refine wpAny_bind (wpAny_holding (special_fn X2 I (by kernel_rfl!) (by kernel_rfl!) (wpAny_call (codeAny_mono (h (hh.objs.size+1) hh.objs.size _ (fun b o _ e=>k1 b o e) (Heap.get?_none_of_le (Nat.le_succ _)) (Heap.get?_none_of_le (Nat.le_refl _)) (Nat.succ_ne_self _) hx ht) fun r s' z=>?_))))
 rcases r with e | (v | _ | _ | _)<;>first | exact z | exact z.elim | skip
 obtain ⟨rfl,z⟩:=z
 exact wpAny_pure z
 k_extra "f"
theorem refuse65 (self:Value):refuseLoop self "__setattr__" [.ref 65,.ref 45,.type "Exception",.type "BaseException",.type "object"]=pure ():=by
 rw [refuseLoop_ref,refuseLoop_ref];exact PySem.F.store_Exception.passes self
theorem osa65 {x t:Addr} {tk:Tok} {v:Value} {R:Result->Shared->Prop} (X:(KF w.params).In s.heap) (hx:s.heap.get? x=some (excMade none t))
   (h:∀ dx h' tk1,KB [x] s.heap h'->s.heap.get? dx=none->h'.get? x=some (excMade (some dx) t)->h'.get? dx=some (dictOf [⟨PyData.keyHash w.params "message",.str "message" tk1,v⟩] 1)->R (.ok (.ret .none)) {s with heap:=h',toks:=s.toks+1}) :
   codeAny (model PG w) A (.call (.builtin "object.__setattr__") ⟨[.ref x,.str "message" tk,v],[]⟩) R s:=by
 k_extra "s"
 have SF:=PySem.F.store_object
 have I:W.InstAt s.heap x (excMade none t) 65 none:=⟨hx,rfl,rfl,trivial⟩
 have sub:Looks (model PG w) s.heap (isInstance (.ref x) (.type "object")) true:=I.type.andThen (looks_subIn X (by kernel_rfl!))
 refine codeAny_call_builtin SF.slot.plain SF.entry (@check_slot (model PG w) _ _ s "object.__setattr__" "object" "__setattr__" (.ref x) [.str "message" tk,v] [] _ SF.kind SF.split sub (SF.args (.ref x) (.str "message" tk) v) ?_)
 obtain ⟨dd,k0,k1,k2,k3,k5,nm,q,bs,sn,sub',ab,col,hC⟩:=own65 X
 have hm:Looks (model PG w) s.heap (mroOf (.ref 65)) [.ref 65,.ref 45,.type "Exception",.type "BaseException",.type "object"]:=((Looks.ld (part:=none) hC).andThen .now).andThen .now
 rw [osa_eq,refuse_eq]
 refine wpAny_bind (wpAny_bind (I.type.here (wpAny_bind (hm.here ?_))))
 refine wpAny_of_eq (refuse65 _) (wpAny_bind (I.type.here (wpAny_bind ((looks_findIn X (r:=none) (by kernel_rfl!)).here (wpAny_bind (wpAny_pure ?_))))))
 show wpAny _ _ (storeInOwnDict (.ref x) (.ref 65) (.str "message" tk) "message" v false) _ _ _
 obtain ⟨hh,g,dr,tt,os⟩:=s
 dsimp only at hx hC X h ⊢
 have hcd:Looks (model PG w) hh (classData 65) _:=(Looks.ld (part:=none) hC).andThen .now
 have hxs:x≠hh.objs.size:=Nat.ne_of_lt (Heap.lt_size hx)
 have hx1:(hh.push {cls := .type "dict",data := .dict #[]}).get? x=some (excMade none t):=Heap.get?_push_of_some _ hx
 refine wpAny_bind (wpAny_pure (wpAny_bind (wpAny_bind (wpAny_loadPart hx (wpAny_bind (hcd.here ?_))))))
 show wpAny _ _ (alloc {cls := .type "dict",data := .dict #[]} >>= _) _ _ _
 refine wpAny_bind (wpAny_alloc (wpAny_bind (wpAny_update hx1 ?_)))
 refine wpAny_pure (a:=some hh.objs.size) ?_
 show wpAny _ _ (storeInDict hh.objs.size (.str "message" tk) "message" v) _ _ _
 have hgd:((hh.push {cls := .type "dict",data := .dict #[]}).update x fun o => {o with dict:=some hh.objs.size}).get? hh.objs.size=some {cls := .type "dict",data := .dict #[]} :=
   (Heap.get?_update_ne _ _ _ _ hxs.symm).trans (Heap.get?_push_at rfl rfl)
 have hgx:((hh.push {cls := .type "dict",data := .dict #[]}).update x fun o => {o with dict:=some hh.objs.size}).get? x=some (excMade (some hh.objs.size) t):=Heap.get?_update_self _ hx1 rfl
 have hkb:KB [x] hh ((hh.push {cls := .type "dict",data := .dict #[]}).update x fun o => {o with dict:=some hh.objs.size}):=fun b o n e =>
   (Heap.get?_update_ne _ _ _ _ (by simpa using n)).trans (Heap.get?_push_of_some _ e)
 show wpAny _ _ _ _ _ (⟨(hh.push {cls := .type "dict",data := .dict #[]}).update x fun o => {o with dict:=some hh.objs.size},g,dr,tt,os⟩:Shared)
 generalize (hh.push {cls := .type "dict",data := .dict #[]}).update x (fun o => {o with dict:=some hh.objs.size})=h2 at hgd hgx hkb ⊢
 unfold storeInDict newKeyGuard
 refine wpAny_bind (wpAny_pure (wpAny_bind ?_))
 unfold nsSet
 refine wpAny_bind (wpAny_bind (wpAny_askSetting (wpAny_pure (wpAny_bind (wpAny_mkText (wpAny_bind (wpAny_loadPart hgd ?_)))))))
 dsimp only
 rw [if_neg (by rw [aRefKeyMayBeTheName_at];simp)]
 refine wpAny_updatePart hgd ?_
 have hd3:=Heap.get?_update_self (Obj.putName "message" (PyData.keyHash w.params "message") (.str "message" tt) v) hgd (by rw [show ({cls := .type "dict",data := .dict #[]}:Obj)=dictOf [] 0 from rfl,putName_dict];rfl)
 rw [show ({cls := .type "dict",data := .dict #[]}:Obj)=dictOf [] 0 from rfl,putName_dict] at hd3
 refine wpAny_bind (wpAny_lookBehind hd3 (pastItsLine_dict (by rw [sizeLine_eq];exact Nat.le_of_ble_eq_true rfl)) ?_)
 refine wpAny_pure (h hh.objs.size _ tt (fun b o n e=>?_) (Heap.get?_none_of_le (Nat.le_refl _)) ?_ hd3)
 . exact (Heap.get?_update_ne _ _ _ _ (Nat.ne_of_lt (Heap.lt_size e))).trans (hkb b o n e)
 . exact (Heap.get?_update_ne _ _ _ _ hxs).trans hgx
 k_extra "f"
end
end
section
section
variable {b:Heap} {L:Addr} {m:Str->Option Value} {news:List (Addr×Obj)}
abbrev msgEnt (P:Params) (tk1:Tok) (v:Value):List DictEntry:=[⟨PyData.keyHash P "message",.str "message" tk1,v⟩]
theorem set65_K {x t:Addr} {v:Value} {Q:Unit->Shared->Prop} {news':Addr->List (Addr×Obj)} (F:Fr b L s.heap m) (N:News b L s.heap news) (X:(KF w.params).In b) (U:∀ dx,Upd x (excMade none t) (excMade (some dx) t) news (news' dx))
   (h:∀ dx h' tk1,Fr b L h' m->News b L h' ((dx,dictOf (msgEnt w.params tk1 v) 1)::news' dx)->Q () {s with heap:=h',toks:=s.toks+1+1}) :
   wpAny (model PG w) A (setAttr (.ref x) "message" v) Q E s:=by
 k_extra "s"
 have hx:=N.get (upd_mem (U 0))
 have I:W.InstAt s.heap x (excMade none t) 65 none:=⟨hx,rfl,rfl,trivial⟩
 have X2:=X.keeps F.keep
 refine set_plain X2 I (by kernel_rfl!) (osa65 (s := {s with toks:=s.toks+1}) X2 hx fun dx h' tk1 kb nd gx gd=>?_)
 exact h dx h' tk1 (Fr.kb1 F N (U dx) kb) (News.more' (tl:=[(dx,_)]) F (News.kb1 N (U dx) kb gx) (fun p hp=>by rw [mS hp];exact ⟨gd,nd⟩))
 k_extra "f"
end
theorem G8.g8:True:=True.intro
open G8
theorem kw52:True:=by
 k_with "!setAttr ref" => ((have:=g8;clear this);(k_here;k_dflt (refine' set65_K ?A1f ?B1f ?C1f ?D1f ?_;(case A1f=>assumption);(case B1f=>assumption);(case C1f=>assumption);(case D1f=>(intro dx9;k_upd)));intro dx9 h9 tk9 F9 N9;(try k_sweep);(revert dx9 h9 tk9 F9 N9;intro _ _ _ _ _)))
 exact True.intro
section
theorem call65 {msg:Str} {t0:Tok} {Q:Value->Shared->Prop} (G:Gd w mean mg mb s.heap) (R:Rm A 4)
   (hQ:∀ h' tk e t dx tk1,KB [] s.heap h'->s.heap.get? e=none->s.heap.get? dx=none->h'.get? e=some (excMade (some dx) t)->h'.get? dx=some (dictOf (msgEnt w.params tk1 (.str msg t0)) 1)->Q (.ref e) {s with heap:=h',toks:=tk}) :
   wpAny (model PG w) A (call (.ref 65) [.str msg t0]) Q E s:=by
 k_extra "s"
 refine wpAny_call (make65 G.K (by simp) fun e t h' kb ne nt net ge gt=>?_)
 have R2:Rm _ 3:=Rm.make (C:=65) (vals:=[.str msg t0]) (kw:=[]) R
 refine enterK [(e,excMade none t)] G (b₀:=s.heap) kb.stays (fun p hp=>by rw [mS hp];exact ⟨ge,ne⟩) (by k_dflt k_is) (by k_dflt k_is) (by have:=R2.d;omega) (binds:=[("self",.ref e),("message",.str msg t0)]) (BindsTo.of_eq rfl) (locs rfl) ?_
 intro b L h₁ F N X T hst hkb hK hlt
 (try dsimp only)
 k_steps
 refine ⟨rfl,?_⟩
 rename_i dx9 h9 tk9 F9 N9
 refine hQ _ _ e t _ _ (fun b o _ q=>hK _ _ F9 b o ?_ (kb b o (fun z=>nomatch z) q)) ne ?_ (N9.get (.tail _ (.head _))) (N9.get (.head _))
 . intro z
   rw [mS z,ne] at q;cases q
 . have z:=news_new N9 hkb (.head _) (fun z=>?_)
   . cases q:s.heap.get? _ with
     | none=>rfl
     | some o=>have:=kb _ _ (fun z=>nomatch z) q;rw [show h'.get? _=none from z] at this;cases this
   . have y:=N9 _ (.head _)
     have y2:=N9 _ (.tail _ (.head _))
     have z2:=mS z
     dsimp only at y y2 z2
     rw [z2,y2.1] at y
     have:=y.1
     cases this
 k_extra "f"
end
end
section
section
open PySem.Spec
variable {env:Env}
theorem raise65 {M:Model} {x:Sem Value} {Q:Flow->Shared->Prop} (hh:A.handled=none)
   (h:wpAny M A x (fun v s₁=>∃ e t dx,v = .ref e∧(KF w.params).In s₁.heap∧s₁.heap.get? e=some (excMade dx t)∧E (.ref e) s₁) E s) :
   wpAny M A (raiseStmt env (some x) none) Q E s:=by
 k_extra "s"
 unfold raiseStmt
 refine wpAny_bind (wpAny_mono h (fun v s₁ h₁=>?_) fun _ _ x=>x)
 obtain ⟨e,t,dx,rfl,X,he,hE⟩:=h₁
 obtain ⟨dd,k0,k1,k2,k3,k5,nm,q,bs,sn,sub,ab,col,hC⟩:=own65 X
 obtain ⟨hp,g,d,tk,os⟩:=s₁
 have hcB:(Value.ref 65::[.ref 45,.type "Exception",.type "BaseException",.type "object"]).contains (.type "BaseException")=true:=by decide +kernel
 dsimp only at hC he
 repeat (first | with_reducible refine wpAny_loadPart_at he ?_ | with_reducible refine wpAny_loadPart_at hC ?_ | (with_reducible refine wpAny_isSubtype_exc hC ?_;rw [hcB]) | wp_step)
 exact wpAny_raiseNew_none hh hE
 k_extra "f"
theorem raiseS65 {M:Model} {x:Expr} {pos:Pos} {Q:Flow->Shared->Prop} (hh:A.handled=none)
   (h:wpAny M A (eval x env) (fun v s₁=>∃ e t dx,v = .ref e∧(KF w.params).In s₁.heap∧s₁.heap.get? e=some (excMade dx t)∧E (.ref e) s₁) E s) :
   wpAny M A (exec (.Raise (some x) none pos) env) Q E s:=by
 rw [arm_exec_Raise]
 exact wpAny_bind (wpAny_standAt (raise65 (w:=w) hh (wpAny_bind (wpAny_mono h (fun v s q=>wpAny_bind (wpAny_standAt (wpAny_pure q))) fun _ _ q=>q))))
end
end
section
theorem kw59:True:=by
 k_with "my list" => (first | k_dflt (exact listStays (Fr.keep (by assumption)) (by with_reducible assumption)) | is_list)
 k_with "!call builtin:len" => ((k_here;k_dflt (refine' call_len_list ?A1i ?B1i ?_;(case A1i=>k_extra "my list");(case B1i=>(simp only [List.size_toArray];omega)))))
 k_with "!getMethod ref" => ((k_here;(with_reducible show wpAny _ _ (getMethod (Value.ref _) (Str.ofString "get") _) _ _ _);k_dflt (refine' dget_method ?A1j ?B1j ?C1j ?_;(case A1j=>assumption);(case B1j=>with_reducible assumption);(case C1j=>assumption))))
 k_with "!call builtin:dict.get" => ((k_here;k_dflt (refine' dget_call ?A1k ?B1k ?C1k ?D1k ?_;(case A1k=>assumption);(case B1k=>with_reducible assumption);(case C1k=>assumption);(case D1k=>assumption))))
 k_with "my small" => ((rw [sizeLine_eq];(try simp only [List.size_toArray,List.length_map] at *);omega))
 exact True.intro
theorem G10.g10:True:=True.intro
open G10
theorem kw68:True:=by
 k_with "!call type:list" => ((have:=g10;clear this);(k_here;(with_reducible show wpAny _ _ (call (Value.type _) [Value.ref _]) _ _ _);k_dflt (refine' list_copyK ?A1m ?B1m ?C1m ?_ ?D1m;(case A1m=>assumption);(case B1m=>assumption);(case C1m=>k_extra "my list");(case D1m=>k_extra "my small"));intro D9 c9 h9 F9 N9 l9;(try k_lt l9);(try k_sweep);(revert D9 c9 h9 F9 N9 l9;intro _ _ _ _ _ _)))
 k_with "my hh" => (first | exact Rm.h (by assumption) | exact Rm.h (Rm.deeper (by assumption)) | exact Rm.h (Rm.deeper (Rm.deeper (by assumption))))
 k_with "!call builtin:max" => ((have:=g10;clear this);(k_here;k_dflt (refine' max_two_N ?A1p ?B1p ?C1p ?_;(case A1p=>k_extra "my hh");(case B1p=>assumption);(case C1p=>assumption));intro _ _ _ _;(try k_sweep);(try dsimp only)))
 k_with "!call builtin:min" => ((have:=g10;clear this);(k_here;k_dflt (refine' min_two_N ?A1q ?B1q ?C1q ?_;(case A1q=>k_extra "my hh");(case B1q=>assumption);(case C1q=>assumption));intro _ _ _ _;(try k_sweep);(try dsimp only)))
 k_with "my env" => ((funext y9;(repeat' (first | rfl | (rw [if_neg (by first | assumption | decide)]) | (rw [if_pos (by first | assumption | rfl)]) | (split;all_goals try (rename_i e9;subst e9)) | (dsimp only)))))
 k_with "my env" => ((refine EnvEq.start ?_;(repeat' (apply EnvEq.step;(focus (first | with_reducible rfl | kernel_rfl!))));(repeat' (apply EnvEq.left;(focus (intro y9 h;with_reducible (repeat (first | exact h.2 | replace h:=h.1 | fail));done))));exact EnvEq.stop))
 k_with "!unpackItems ref" => ((have:=g10;clear this);(k_here;k_dflt (refine' unpackItemsN_ ?A1t ?B1t ?C1t ?D1t ?E1t ?_;(case A1t=>k_asm);(case B1t=>k_asm);(case C1t=>kun_tup);(case D1t=>k_extra "my hh");(case E1t=>exact rfl);k_whole);intro h' F' N';(try k_sweep);(revert h' F' N';intro _ _ _)))
 k_with "!formatField int" => ((k_here;(with_reducible show wpAny _ _ (formatField (Value.int _ _) _) _ _ _);k_dflt (refine wpAny_formatField_int (log_ok (by first | assumption | omega)) ?_)))
 k_with "!assign Tuple" => ((have:=g10;clear this);(k_here;(with_reducible show wpAny _ _ (assign (PySem.Expr.Tuple _ _ _) _ (Value.ref _)) _ _ _);k_dflt (refine' unpackN_ ?A1v ?B1v ?C1v ?D1v ?E1v ?F1v ?_;(case A1v=>k_asm);(case B1v=>k_asm);(case C1v=>first | with_reducible assumption | (refine News.isTup (by k_asm) (by k_mem)));(case D1v=>k_extra "my hh");(case E1v=>exact rfl);(case F1v=>exact rfl);k_whole);intro h' F' N';(try k_sweep);(revert h' F' N';intro _ _ _)))
 exact True.intro
section
section
variable {Q:Value->Shared->Prop}
theorem length_ct {u:Addr} {v:Vd} (G:Gd w mean mg mb s.heap) (R:Rm A 4) {B:Heap} (hB:B.StaysIn s.heap) (hV:VM w (hm B) u v) (hlen:v.items.length≤1000)
   (hQ:∀ h' tk t,KB [] s.heap h'->Q (.int v.items.length t) {s with heap:=h',toks:=tk}) :
   wpAny (model PG w) A (call (.ref 124) [.ref u]) Q E s:=by
 k_extra "s"
 refine enter [] G (fun _ _ e=>e) (fun p hp=>nomatch hp) (by k_dflt k_is) (by k_dflt k_is) (by have:=R.d;omega) (binds:=[("v",.ref u)]) (BindsTo.of_eq rfl) (locs rfl) ?_
 intro b L h₁ F N X T hst hkb hK hlt
 have hst:=st2 hB hst
 (try dsimp only)
 cases hV with
 | null h1 h2 =>
   have hI:InstAt b u _ _ _:=instOf (hst _ _ h1) (hst _ _ h2)
   k_steps
   exact hQ _ _ _ (hK _ _ (by assumption))
 | vec h0 h1 h2 =>
   obtain ⟨tk,ti,ta,ts,tl,kt,n,vs,c,h1,h2,h3,h4⟩:=h1.ex
   have hI:InstAt b u _ _ _:=instOf (hst _ _ h1) (hst _ _ h2)
   have h0':=beq_eq_false_iff_ne.mpr h0
   have hvn:=h4.length
   dsimp only at hlen hQ
   have hL:b.IsList _ vs.toArray:=⟨_,hst _ _ h3,rfl,_,rfl⟩
   k_steps
   rw [List.size_toArray,hvn]
   exact hQ _ _ _ (hK _ _ (by assumption))
 k_extra "f"
theorem getattr_ct {u:Addr} {v:Vd} {n:Str} {tn:Tok} (G:Gd w mean mg mb s.heap) (R:Rm A 4) {B:Heap} (hB:B.StaysIn s.heap) (hV:VM w (hm B) u v)
   (hQ:∀ h' tk r,KB [] s.heap h'->AvM w.params (hm B) r (attOf v.ats n)->Q r {s with heap:=h',toks:=tk}) :
   wpAny (model PG w) A (call (.ref 28) [.ref u,.str n tn]) Q E s:=by
 k_extra "s"
 refine enter [] G (fun _ _ e=>e) (fun p hp=>nomatch hp) (by k_dflt k_is) (by k_dflt k_is) (by have:=R.d;omega) (binds:=[("v",.ref u),("name",.str n tn)]) (BindsTo.of_eq rfl) (locs rfl) ?_
 intro b L h₁ F N X T hst hkb hK hlt
 have hst:=st2 hB hst
 (try dsimp only)
 cases hV with
 | null h1 h2 =>
   have hI:InstAt b u _ _ _:=instOf (hst _ _ h1) (hst _ _ h2)
   k_steps
   exact hQ _ _ _ (hK _ _ (by assumption)) .none
 | vec h0 h1 h2 =>
   obtain ⟨tk,ti,ta,ts,tl,kt,n,vs,c,h1,h2',h3,h4⟩:=h1.ex
   have hI:InstAt b u _ _ _:=instOf (hst _ _ h1) (hst _ _ h2')
   cases h2 with
   | none =>
     k_steps
     exact hQ _ _ _ (hK _ _ (by assumption)) .none
   | some e1 e2 e3 e4 e5 =>
     have e1':=hst _ _ e1
     k_steps
     exact hQ _ _ _ (hK _ _ (by assumption)) (AvM.of e4 _)
 k_extra "f"
theorem attribute_ct {u:Addr} {v:Vd} {n:Str} {tn:Tok} (G:Gd w mean mg mb s.heap) (R:Rm A 4) {B:Heap} (hB:B.StaysIn s.heap) (hV:VM w (hm B) u v)
   (hQ:∀ h' tk r,KB [] s.heap h'->AvM w.params (hm B) r (attOf v.ats n)->Q r {s with heap:=h',toks:=tk}) :
   wpAny (model PG w) A (call (.ref 173) [.ref u,.str n tn]) Q E s:=by
 k_extra "s"
 refine enter [] G (fun _ _ e=>e) (fun p hp=>nomatch hp) (by k_dflt k_is) (by k_dflt k_is) (by have:=R.d;omega) (binds:=[("v",.ref u),("name",.str n tn)]) (BindsTo.of_eq rfl) (locs rfl) ?_
 intro b L h₁ F N X T hst hkb hK hlt
 have hst:=st2 hB hst
 (try dsimp only)
 cases hV with
 | null h1 h2 =>
   have hI:InstAt b u _ _ _:=instOf (hst _ _ h1) (hst _ _ h2)
   k_steps
   exact hQ _ _ _ (hK _ _ (by assumption)) .none
 | vec h0 h1 h2 =>
   obtain ⟨tk,ti,ta,ts,tl,kt,n,vs,c,h1,h2',h3,h4⟩:=h1.ex
   have hI:InstAt b u _ _ _:=instOf (hst _ _ h1) (hst _ _ h2')
   cases h2 with
   | none =>
     k_steps
     exact hQ _ _ _ (hK _ _ (by assumption)) .none
   | some e1 e2 e3 e4 e5 =>
     have e1':=hst _ _ e1
     k_steps
     exact hQ _ _ _ (hK _ _ (by assumption)) (AvM.of e4 _)
 k_extra "f"
end
end
section
theorem kw77:True:=by
 k_with "my vm" => (with_reducible assumption)
 k_with "my stays" => (first | k_dflt (exact Fr.keep (by assumption)) | k_dflt (exact fun _ _ e=>e) | k_dflt (exact st2 (by assumption) (Fr.keep (by assumption))))
 k_with "my len" => (first | with_reducible assumption | omega)
 k_with "c124" => ((k_here;k_dflt (refine' length_ct ?D20 ?E20 ?C20 ?A20 ?B20 ?_;(case D20=>k_extra "my gd");(case E20=>k_extra "my rm");(case A20=>k_extra "my vm");(case C20=>k_extra "my stays");(case B20=>k_extra "my len"));k_extra "my kb0"))
 k_with "my av" => (((with_reducible rename AvM _ _ _ _=>av9);(generalize hx9:attOf _ _=x9 at av9);(cases av9)<;>(try k_extra "my va")))
 k_with "my va" => (((with_reducible rename VAt _ _ _ _ _ _ _ _=>va9);(obtain ⟨tk9,ti9,ta9,ts9,tl9,kt9,n9,vs9,c9,g1,g2,g3,g4⟩:=VAt.ex va9);(have hI9:=instOf' g1 g2);(have hL9:=isListOf' g3)))
 k_with "c28" => ((k_here;k_dflt (refine' getattr_ct ?C23 ?D23 ?B23 ?A23 ?_;(case C23=>k_extra "my gd");(case D23=>k_extra "my rm");(case A23=>k_extra "my vm");(case B23=>k_extra "my stays"));k_extra "my kb0";k_extra "my av"))
 k_with "c173" => ((k_here;k_dflt (refine' attribute_ct ?C24 ?D24 ?B24 ?A24 ?_;(case C24=>k_extra "my gd");(case D24=>k_extra "my rm");(case A24=>k_extra "my vm");(case B24=>k_extra "my stays"));k_extra "my kb0";k_extra "my av"))
 exact True.intro
section
def DimOk (v:Vd):Prop:=∀ k its,attOf v.ats "dim" = some (k,its)->∃ ds:List Int,its=ds.map .int∧ds.length≤2
theorem DimOk.len {v:Vd} {k:Str} {its:List PyData} (D:DimOk v) (e:attOf v.ats "dim" = some (k,its)):its.length≤2:=by
 obtain ⟨ds,rfl,h⟩:=D _ _ e
 simpa using h
inductive DimM (h h0:Heap):Value->Option (Str×List PyData)->Prop
 | none:DimM h h0 .none none
 | some {r:Addr} {vs:List Value} {n:Nat} {k:Str} {ds:List Int}:h.get? r=some (listOf (List.toArray vs) n)->h0.get? r = .none->IntsAre vs ds->ds.length≤2->DimM h h0 (.ref r) (some (k,ds.map .int))
theorem kw79:True:=by
 k_with "my small" => ((have q9:=DimOk.len (by assumption) (by assumption);have z9:=ItsM.length (by assumption);rw [sizeLine_eq,List.size_toArray];omega))
 exact True.intro
section
variable {Q:Value->Shared->Prop}
theorem dimof_ct {u:Addr} {v:Vd} (G:Gd w mean mg mb s.heap) (R:Rm A 6) {B:Heap} (hB:B.StaysIn s.heap) (hV:VM w (hm B) u v) (hD:DimOk v)
   (hQ:∀ h' tk r,KB [] s.heap h'->DimM h' s.heap r (attOf v.ats "dim")->Q r {s with heap:=h',toks:=tk}) :
   wpAny (model PG w) A (call (.ref 35) [.ref u]) Q E s:=by
 k_extra "s"
 refine enter [] G (fun _ _ e=>e) (fun p hp=>nomatch hp) (by k_dflt k_is) (by k_dflt k_is) (by have:=R.d;omega) (binds:=[("v",.ref u)]) (BindsTo.of_eq rfl) (locs rfl) ?_
 intro b L h₁ F N X T hst hkb hK hlt
 have hVb:=hV.stays (st2 hB hst)
 (try dsimp only)
 k_steps
 . have hx:attOf v.ats "dim" = none:=by assumption
   exact hQ _ _ _ (hK _ _ (by assumption)) (by rw [hx];exact .none)
 . rename attOf v.ats _=some _=>hx
   obtain ⟨ds,rfl,hl⟩:=hD _ _ hx
   exact hQ _ _ _ (hK _ _ (by assumption)) (by rw [hx];exact .some (News.get (by assumption) (.head _)) (news_new (by assumption) hkb (.head _) (by simp)) (ItsM.ints (by assumption)) hl)
 k_extra "f"
theorem dimof_none {u:Addr} {v:Vd} (G:Gd w mean mg mb s.heap) (R:Rm A 6) {B:Heap} (hB:B.StaysIn s.heap) (hV:VM w (hm B) u v) (hx:attOf v.ats "dim" = none)
   (hQ:∀ h' tk,KB [] s.heap h'->Q .none {s with heap:=h',toks:=tk}) :
   wpAny (model PG w) A (call (.ref 35) [.ref u]) Q E s :=
 dimof_ct G R hB hV (fun k its e=>by rw [hx] at e;cases e) fun h' tk r kb dm=>by rw [hx] at dm;cases dm;exact hQ _ _ kb
theorem dimof_some {u:Addr} {v:Vd} {k:Str} {ds:List Int} (G:Gd w mean mg mb s.heap) (R:Rm A 6) {B:Heap} (hB:B.StaysIn s.heap) (hV:VM w (hm B) u v) (hx:attOf v.ats "dim" = some (k,ds.map .int)) (hl:ds.length≤2)
   (hQ:∀ h' tk r vs n,KB [] s.heap h'->h'.get? r=some (listOf (List.toArray vs) n)->s.heap.get? r=none->IntsAre vs ds->Q (.ref r) {s with heap:=h',toks:=tk}) :
   wpAny (model PG w) A (call (.ref 35) [.ref u]) Q E s:=by
 k_extra "s"
 have inj:∀ {a b:List Int},a.map PyData.int=b.map PyData.int->a=b:=fun {a b} e=>by
   have:=congrArg (List.map fun d=>match d with | PyData.int i=>i | _=>0) e
   simpa [List.map_map,Function.comp_def] using this
 refine dimof_ct G R hB hV (fun k' its e=>⟨ds,?_,hl⟩) fun h' tk r kb dm=>?_
 . rw [hx] at e;injection e with e;injection e with e1 e2;exact e2.symm
 . rw [hx] at dm
   generalize hz:some (k,List.map PyData.int ds)=z at dm
   cases dm with
   | none=>cases hz
   | some g ne hi _ =>
     injection hz with hz;injection hz with h1 h2
     cases inj h2
     exact hQ _ _ _ _ _ kb g ne hi
 k_extra "f"
end
end
section
section
variable {Q:Value->Shared->Prop} {b₀:Heap}
theorem recycle_ct {n m:Int} {tn tm:Tok} (G:Gd w mean mg mb s.heap) (R:Rm A 4)
   (hQ:∀ h' tk t x,KB [] s.heap h'->x=(if n=0∨m=0 then 0 else max n m)->Q (.int x t) {s with heap:=h',toks:=tk}) :
   wpAny (model PG w) A (call (.ref 131) [.int n tn,.int m tm]) Q E s:=by
 k_extra "s"
 refine enter [] G (fun _ _ e=>e) (fun p hp=>nomatch hp) (by k_dflt k_is) (by k_dflt k_is) (by have:=R.d;omega) (binds:=[("n",.int n tn),("m",.int m tm)]) (BindsTo.of_eq rfl) (locs rfl) ?_
 intro b L h₁ F N X T hst hkb hK hlt
 (try dsimp only)
 k_steps
 all_goals (refine hQ _ _ _ _ (hK _ _ (by assumption)) ?_;(repeat' split)<;>omega)
 k_extra "f"
theorem G14.g14:True:=True.intro
open G14
theorem kw81:True:=by
 k_with "!exec For" => ((have:=g14;clear this);refine stop ?_)
 exact True.intro
theorem product_ct {r:Addr} {vs:List Value} {ds:List Int} {n:Nat} {B:Heap} (G:Gd w mean mg mb s.heap) (R:Rm A 4) (hB:B.StaysIn s.heap) (hr:B.get? r=some (listOf (List.toArray vs) n)) (hi:IntsAre vs ds) (hbits:∀ d∈ds,Builtin.Int.intBits d≤64)
   (hQ:∀ h' tk t,KB [] s.heap h'->Q (.int (ds.foldl (· * ·) 1) t) {s with heap:=h',toks:=tk}) :
   wpAny (model PG w) A (call (.ref 145) [.ref r]) Q E s:=by
 k_extra "s"
 refine enter [] G (fun _ _ e=>e) (fun p hp=>nomatch hp) (by k_dflt k_is) (by k_dflt k_is) (by have:=R.d;omega) (binds:=[("numbers",.ref r)]) (BindsTo.of_eq rfl) (locs rfl) ?_
 intro b L h₁ F N X T hst hkb hK hlt
 have hg:=st2 hB hst _ _ hr
 have hL:=isListOf hg
 (try dsimp only)
 k_steps
 refine For_invV b (by rfl) (by rfl) ?_
 k_steps
 rename_i hh9 F9 N9
 refine iterList (fun i m news=>news=[]∧∃ vv t,m=fun y=>if y=Str.ofString "found" then some (.int ((ds.take i).foldl (· * ·) 1) t) else if y=Str.ofString "value" then vv else List.lookup y [(Str.ofString "numbers",Value.ref r)].reverse) R.h (listStays F9.keep hL) (fun e=>?_) (.inl ⟨_,hg⟩) F9 N9 ?_ ?turn ?done
 . exact absurd (Nat.lt_of_lt_of_le (Heap.lt_size hg) F9.above) (by rw [e];exact Nat.lt_irrefl _)
 . refine' ⟨rfl,none,_,_⟩
   rotate_left
   k_extra "my env"
 case turn =>
   rintro I i v m₁ _ h tk oI hv ⟨rfl,vv,t,rfl⟩ hn F N
   obtain ⟨d,tv,hd,rfl⟩:=Mine.IntsAre.at' hi hv
   have hbd:=hbits d (List.mem_of_getElem? hd)
   k_steps
   refine TEnd.intro (by assumption) (by assumption) (by assumption) ?_
   rw [foldl_take hd]
   refine' ⟨rfl,some _,_,_⟩
   rotate_left 2
   k_extra "my env"
 case done =>
   rintro h' tk m' _ F' N' ⟨rfl,vv,t,rfl⟩
   k_steps
   rw [List.take_of_length_le (Nat.le_of_eq hi.length.symm)]
   exact hQ _ _ _ (hK _ _ (by assumption))
 k_extra "f"
theorem mx9 (n m:Int):(if m > n then m else n)=max n m:=by split<;>omega
theorem mn9 (n m:Int):(if m<n then m else n)=min n m:=by split<;>omega
abbrev noteRec:Str := "longer object length is not a multiple of shorter object length"
theorem noterec_ct {n m:Int} {tn tm:Tok} {nt:Addr} {xs:List Value} {ts:List Str} {c:Nat} (G:Gd w mean mg mb b₀) (hb:b₀.StaysIn s.heap) (R:Rm A 4) (hn:s.heap.get? nt=some (listOf (List.toArray xs) c)) (hn0:b₀.get? nt=none) (hs:StrsAre xs ts) (hl:xs.length≤100)
   (hQ:∀ h' tk xs' c',KB [nt] s.heap h'->h'.get? nt=some (listOf (List.toArray xs') c')->StrsAre xs' (ts++if 0<n∧0<m∧(max n m).fmod (min n m)≠0 then [noteRec] else [])->Q .none {s with heap:=h',toks:=tk}) :
   wpAny (model PG w) A (call (.ref 138) [.int n tn,.int m tm,.ref nt]) Q E s:=by
 k_extra "s"
 refine enter [(nt,listOf xs.toArray c)] G hb (fun p hp=>by cases hp with | head=>exact ⟨hn,hn0⟩ | tail _ h=>cases h) (by k_dflt k_is) (by k_dflt k_is) (by have:=R.d;omega) (binds:=[("n",.int n tn),("m",.int m tm),("notes",.ref nt)]) (BindsTo.of_eq rfl) (locs rfl) ?_
 intro b L h₁ F N X T hst hkb hK hlt
 (try dsimp only)
 k_steps
 all_goals (first | rw [mx9,mn9] at * | skip)
 . refine hQ _ _ _ _ (hK _ _ (by assumption)) (News.get (by assumption) (.head _)) ?_
   rw [if_pos ⟨by assumption,by assumption,by assumption⟩]
   simpa using StrsSnoc hs
 all_goals (refine hQ _ _ _ _ (hK _ _ (by assumption)) (News.get (by assumption) (.head _)) ?_;rw [if_neg (by omega),List.append_nil];exact hs)
 k_extra "f"
end
end
section
theorem kw85:True:=by
 k_with "my att" => (first | with_reducible assumption)
 k_with "c35" => ((k_here;k_dflt (refine' dimof_none ?D2b ?E2b ?C2b ?A2b ?B2b ?_;(case D2b=>k_extra "my gd");(case E2b=>k_extra "my rm");(case A2b=>k_extra "my vm");(case C2b=>k_extra "my stays");(case B2b=>k_extra "my att"));k_extra "my kb0"))
 exact True.intro
theorem G15.g15:True:=True.intro
open G15
theorem kw89:True:=by
 k_with "my new1" => ((have:=g15;clear this);((with_reducible rename Heap.get? _ _=none=>ne9);(with_reducible rename Heap.get? _ _=some _=>ge9);(with_reducible rename KB _ _ _=>kb9);(have N8:=more1 kb9 ge9 ne9 (by assumption) (by assumption));(have F8:=Fr.kb0 (by assumption) kb9);(have l9:=allNe_of ne9 (by assumption));(try simp only [AllNe,and_true] at l9);clear kb9 ge9 ne9;(try k_sweep);(first | (revert N8 F8 l9;intro _ _ _) | (revert N8 F8;intro _ _))))
 k_with "c35" => ((have:=g15;clear this);(k_here;k_dflt (refine' dimof_some ?E2e ?F2e ?D2e ?A2e ?B2e ?C2e ?_;(case E2e=>k_extra "my gd");(case F2e=>k_extra "my rm");(case A2e=>k_extra "my vm");(case D2e=>k_extra "my stays");(case B2e=>k_extra "my att");(case C2e=>k_extra "my len"));intros;k_extra "my new1"))
 k_with "c131" => ((k_here;k_dflt (refine' recycle_ct ?A2f ?B2f ?_;(case A2f=>k_extra "my gd");(case B2f=>k_extra "my rm"));k_extra "my kb0"))
 k_with "c145" => ((k_here;k_dflt (refine' product_ct ?E2g ?F2g ?D2g ?A2g ?B2g ?C2g ?_;(case E2g=>k_extra "my gd");(case F2g=>k_extra "my rm");(case A2g=>k_extra "my get");(case D2g=>exact fun _ _ e=>e);(case B2g=>with_reducible assumption);(case C2g=>with_reducible assumption));k_extra "my kb0"))
 exact True.intro
section
section
variable {Q:Value->Shared->Prop} {b₀:Heap}
def DimIs (v:Vd):Option (List Int)->Prop
 | none=>attOf v.ats "dim" = none
 | some ds=>(∃ k,attOf v.ats "dim" = some (k,ds.map .int))∧ds.length≤2∧(∀ d∈ds,Builtin.Int.intBits d≤64)∧0≤ds.foldl (· * ·) 1∧ds.foldl (· * ·) 1≤1000
abbrev noteOne:Str := "Recycling array of length 1 in array-vector arithmetic is deprecated\n  Use c() or as.vector() instead."
theorem noteone_ct {u v:Addr} {du dv:Vd} {eu ev:Option (List Int)} {nt:Addr} {xs:List Value} {ts:List Str} {c:Nat} {B:Heap} (G:Gd w mean mg mb b₀) (hb:b₀.StaysIn s.heap) (R:Rm A 9) (hB:B.StaysIn b₀) (hU:VM w (hm B) u du) (hV:VM w (hm B) v dv)
   (hu:DimIs du eu) (hv:DimIs dv ev) (hlu:du.items.length≤1000) (hlv:dv.items.length≤1000)
   (hn:s.heap.get? nt=some (listOf (List.toArray xs) c)) (hn0:b₀.get? nt=none) (hs:StrsAre xs ts) (hl:xs.length≤100)
   (hQ:∀ h' tk xs' c',KB [nt] s.heap h'->h'.get? nt=some (listOf (List.toArray xs') c') ->
     StrsAre xs' (ts++if (eu.isSome∧ev=none∧du.items.length=1∧1<dv.items.length)∨(ev.isSome∧eu=none∧dv.items.length=1∧1<du.items.length) then [noteOne] else [])->Q .none {s with heap:=h',toks:=tk}) :
   wpAny (model PG w) A (call (.ref 159) [.ref u,.ref v,.ref nt]) Q E s:=by
 k_extra "s"
 refine enter [(nt,listOf xs.toArray c)] G hb (fun p hp=>by cases hp with | head=>exact ⟨hn,hn0⟩ | tail _ h=>cases h) (by k_dflt k_is) (by k_dflt k_is) (by have:=R.d;omega) (binds:=[("u",.ref u),("v",.ref v),("notes",.ref nt)]) (BindsTo.of_eq rfl) (locs rfl) ?_
 intro b L h₁ F N X T hst hkb hK hlt
 have hU:=hU.stays (st2 hB hst)
 have hV:=hV.stays (st2 hB hst)
 (try dsimp only)
 cases eu with
 | none =>
   have hxu:attOf du.ats "dim" = none:=hu
   cases ev with
   | none =>
     have hxv:attOf dv.ats "dim" = none:=hv
     k_steps
     all_goals (refine hQ _ _ _ _ (hK _ _ (by assumption)) (News.get (by assumption) (by repeat (first | exact .head _ | apply List.Mem.tail))) ?_)
     all_goals first
       | (rw [if_neg (by simp;try omega),List.append_nil];exact hs)
       | (rw [if_pos (by simp;try omega)];simp only [List.concat_eq_append];exact StrsSnoc hs)
   | some dsv =>
     obtain ⟨⟨kv,hxv⟩,hlv2,hbv,hpv,hpv2⟩:=hv
     k_steps
     all_goals (refine hQ _ _ _ _ (hK _ _ (by assumption)) (News.get (by assumption) (by repeat (first | exact .head _ | apply List.Mem.tail))) ?_)
     all_goals first
       | (rw [if_neg (by simp;try omega),List.append_nil];exact hs)
       | (rw [if_pos (by simp;try omega)];simp only [List.concat_eq_append];exact StrsSnoc hs)
 | some dsu =>
   obtain ⟨⟨ku,hxu⟩,hlu2,hbu,hpu,hpu2⟩:=hu
   cases ev with
   | none =>
     have hxv:attOf dv.ats "dim" = none:=hv
     k_steps
     all_goals (refine hQ _ _ _ _ (hK _ _ (by assumption)) (News.get (by assumption) (by repeat (first | exact .head _ | apply List.Mem.tail))) ?_)
     all_goals first
       | (rw [if_neg (by simp;try omega),List.append_nil];exact hs)
       | (rw [if_pos (by simp;try omega)];simp only [List.concat_eq_append];exact StrsSnoc hs)
   | some dsv =>
     obtain ⟨⟨kv,hxv⟩,hlv2,hbv,hpv,hpv2⟩:=hv
     k_steps
     all_goals (refine hQ _ _ _ _ (hK _ _ (by assumption)) (News.get (by assumption) (by repeat (first | exact .head _ | apply List.Mem.tail))) ?_)
     all_goals first
       | (rw [if_neg (by simp;try omega),List.append_nil];exact hs)
       | (rw [if_pos (by simp;try omega)];simp only [List.concat_eq_append];exact StrsSnoc hs)
 k_extra "f"
end
end
section
open PySem.Spec
abbrev frs (l:List Env):List Addr:=l.filterMap (·.frame)
def OutF (h:Heap) (l:List Env):Prop:=h.FunFrames ({}:Heap) l
theorem OutF.mem {h:Heap} {l:List Env} (x:OutF h l) {b:Addr} (hb:b∈frs l):∃ o,h.get? b=some o∧∀ vs,o.data ≠ .fields vs:=(Heap.FunFrames.mem x hb).2
theorem OutF.at {h h' base:Heap} (k:∀ b o,h.get? b=some o->(∀ vs,o.data ≠ .fields vs)->∃ o',h'.get? b=some o'∧o'.data=o.data):∀ {l:List Env},OutF h l->(∀ b∈frs l,base.get? b=none)->h'.FunFrames base l
 | [],_,_=>trivial
 | env::r,⟨hk,⟨L,o,hf,_,ho,hd⟩,hr⟩,hb=>by
   obtain ⟨o',ho',hd'⟩:=k L o ho hd
   refine ⟨hk,⟨L,o',hf,hb L (by simp [frs,hf]),ho',fun vs=>hd' ▸ hd vs⟩,OutF.at k hr fun b m=>hb b ?_⟩
   show b∈(env::r).filterMap (·.frame)
   rw [List.filterMap_cons,hf];exact List.mem_cons_of_mem _ m
theorem OutF.keeps {h h':Heap} {l:List Env} (x:OutF h l) (k:∀ b o,h.get? b=some o->h'.get? b=some o):OutF h' l :=
 OutF.at (fun b o e _=>⟨o,k b o e,rfl⟩) x fun b _=>by simp [Heap.get?]
structure Thrown (P:Params) (l:List Env) (h0 h:Heap) (e:Addr) (msg:Str):Prop where
 keep:∀ b o,h0.get? b=some o->b∉frs l->h.get? b=some o
 slots:∀ b o,h0.get? b=some o->(∀ vs,o.data ≠ .fields vs)->∃ sl,h.get? b=some {o with slots:=sl}
 new:h0.get? e=none
 exc:∃ dx t1 tk,h0.get? dx=none∧(∃ oe,h.get? e=some oe∧oe.dict=some dx)∧h.get? dx=some (dictOf (msgEnt P t1 (.str msg tk)) 1)
 traced:h.Traced h0 e (.ref 65)
theorem Thrown.down {P:Params} {env:Env} {l:List Env} {h0 h1 h:Heap} {e L:Addr} {msg:Str} (T:Thrown P (env::l) h0 h e msg) (k:∀ b o,h1.get? b=some o->h0.get? b=some o) (hf:env.frame=some L) (hL:h1.get? L=none) :
   Thrown P l h1 h e msg:=by
 k_extra "s"
 have up:∀ a,h0.get? a=none->h1.get? a=none:=fun a ha=>by
   cases q:h1.get? a with
   | none=>rfl
   | some o=>rw [k _ _ q] at ha;cases ha
 obtain ⟨dx,t1,tk,q1,q2,q3⟩:=T.exc
 obtain ⟨oe,vs,T',oT,ts,r1,r2,r3,r4,r5,r6⟩:=T.traced
 refine ⟨fun b o hb hn=>T.keep b o (k _ _ hb) ?_,fun b o hb hd=>T.slots b o (k _ _ hb) hd,up _ T.new,⟨dx,t1,tk,up _ q1,q2,q3⟩,⟨oe,vs,T',oT,ts,r1,r2,r3,r4,up _ r5,r6⟩⟩
 show b∉(env::l).filterMap (·.frame)
 rw [List.filterMap_cons,hf]
 intro hm
 rcases mC hm with rfl | hm
 . rw [hL] at hb;cases hb
 . exact hn hm
 k_extra "f"
section
variable {w:World} {A:Around} {E:Value->Shared->Prop} {s:Shared} {M:Model} {env:Env} {outer:List Env} {L e dx t:Addr} {msg:Str} {Q:Unit->Shared->Prop} {h0:Heap} {P:Params} {t1 tk:Tok}
theorem leave_first (hfr:A.frames=some (env::outer)) (hf:env.frame=some L) (hO:OutF h0 (env::outer)) (kb:∀ b o,h0.get? b=some o->s.heap.get? b=some o)
   (ne:h0.get? e=none) (nd:h0.get? dx=none) (ge:s.heap.get? e=some (excMade (some dx) t)) (gd:s.heap.get? dx=some (dictOf (msgEnt P t1 (.str msg tk)) 1))
   (hQ:∀ h',Thrown P (env::outer) h0 h' e msg->Q () {s with heap:=h'}):wpAny M A (leaving env (.ref e)) Q E s:=by
 k_extra "s"
 have hnf:∀ b∈frs (env::outer),b≠e:=fun b hb q=>by
   obtain ⟨o,ho,_⟩:=hO.mem hb
   rw [q,ne] at ho;cases ho
 have hnd:∀ b∈frs (env::outer),b≠dx:=fun b hb q=>by
   obtain ⟨o,ho,_⟩:=hO.mem hb
   rw [q,nd] at ho;cases ho
 have hde:dx≠e:=fun q=>by rw [q,ge] at gd;cases gd
 have hfl:s.heap.FunFrames (hideAll s.heap (e::frs (env::outer))) (env::outer):=OutF.at (fun b o q _=>⟨o,kb b o q,rfl⟩) hO fun b hb=>hideAll_none _ (List.mem_cons_of_mem _ hb)
 refine wpAny_mono (DK.any (dk_leaving env (.ref e)) (wpAny_leaving_first (Q:=fun _ s'=>Heap.Left (hideAll s.heap (e::frs (env::outer))) (env::outer) e (.ref 65) s.heap s'.heap∧s' = {s with heap:=s'.heap}) (E:=fun _ _=>False)
   hfr hfl hf ge (fun b o q=>of_hideAll _ q) (hideAll_none _ (.head _)) rfl rfl fun h' hL=>⟨hL,rfl⟩)) (fun _ s' q=>?_) (fun _ _ q=>q.1.elim)
 obtain ⟨⟨⟨k1,k2,k3,k4⟩,hs⟩,ds⟩:=q
 rw [hs]
 have keep:∀ b o,s.heap.get? b=some o->b≠e->b∉frs (env::outer)->s'.heap.get? b=some o:=fun b o q n1 n2=>k1 b o (hideAll_get _ q (fun z=>(mC z).elim n1 n2))
 refine hQ _ ⟨fun b o q n=>keep b o (kb b o q) (fun z=>by rw [z,ne] at q;cases q) n,fun b o q hd=>k4 b o (kb b o q) hd,ne,?_,?_⟩
 . obtain ⟨oe,q1,q2⟩:=ds e _ ge
   exact ⟨dx,t1,tk,nd,⟨oe,q1,q2⟩,keep dx _ gd hde fun hb=>hnd _ hb rfl⟩
 . obtain ⟨oe,vs,T',oT,ts,r1,r2,r3,r4,r5,r6,r7,r8,r9⟩:=k3
   refine ⟨oe,vs,T',oT,ts,r1,r2,r3,r4,?_,r6,r7,r8,r9⟩
   cases q:h0.get? T' with
   | none=>rfl
   | some o =>
     by_cases hb:T'∈frs (env::outer)
     . obtain ⟨o',ho',hd'⟩:=hO.mem hb
       obtain ⟨sl,hsl⟩:=k4 T' o' (kb _ _ ho') hd'
       rw [r7] at hsl;cases hsl
       exact absurd r8 (hd' _)
     . rw [hideAll_get _ (kb _ _ q) (fun z=>(mC z).elim r6 hb)] at r5;cases r5
 k_extra "f"
theorem leave_next (hfr:A.frames=some (env::outer)) (hf:env.frame=some L) (hO:OutF h0 (env::outer)) (T:Thrown P (env::outer) h0 s.heap e msg)
   (hQ:∀ h',Thrown P (env::outer) h0 h' e msg->Q () {s with heap:=h'}):wpAny M A (leaving env (.ref e)) Q E s:=by
 k_extra "s"
 obtain ⟨oe,vs,T0,oT,ts,a1,a2,a3,a4,a5,a6,a7,a8,a9⟩:=T.traced
 obtain ⟨dx,t1,tk,nd,⟨oe',b1,b2⟩,gd⟩:=T.exc
 have hnd:∀ b∈frs (env::outer),b≠dx:=fun b hb q=>by
   obtain ⟨o,ho,_⟩:=hO.mem hb
   rw [q,nd] at ho;cases ho
 have hde:dx≠e:=fun q=>by rw [q,a1] at gd;cases gd;cases a3
 have hdT:dx≠T0:=fun q=>by rw [q,a7] at gd;cases gd;cases a8
 have hfl:s.heap.FunFrames (hideAll s.heap (e::T0::frs (env::outer))) (env::outer):=OutF.at (fun b o q hd=>by
   obtain ⟨sl,z⟩:=T.slots b o q hd
   exact ⟨_,z,rfl⟩) hO fun b hb=>hideAll_none _ (List.mem_cons_of_mem _ (List.mem_cons_of_mem _ hb))
 refine wpAny_mono (DK.any (dk_leaving env (.ref e)) (wpAny_leaving_next (cls := .ref 65) (Q:=fun _ s'=>Heap.Left (hideAll s.heap (e::T0::frs (env::outer))) (env::outer) e (.ref 65) s.heap s'.heap∧s' = {s with heap:=s'.heap}) (E:=fun _ _=>False)
   hfr hfl hf ⟨oe,vs,T0,oT,ts,a1,a2,a3,a4,hideAll_none _ (.tail _ (.head _)),a6,a7,a8,a9⟩ (fun b o q=>of_hideAll _ q) (hideAll_none _ (.head _)) fun h' hL=>⟨hL,rfl⟩)) (fun _ s' q=>?_) (fun _ _ q=>q.1.elim)
 obtain ⟨⟨⟨k1,k2,k3,k4⟩,hs⟩,ds⟩:=q
 rw [hs]
 have keep:∀ b o,s.heap.get? b=some o->b≠e->b≠T0->b∉frs (env::outer)->s'.heap.get? b=some o:=fun b o q n1 n2 n3 =>
   k1 b o (hideAll_get _ q (fun z=>(mC z).elim n1 fun z=>(mC z).elim n2 n3))
 refine hQ _ ⟨fun b o q n=>keep b o (T.keep b o q n) (fun z=>by rw [z,T.new] at q;cases q) (fun z=>by rw [z,a5] at q;cases q) n,fun b o q hd=>?_,T.new,?_,?_⟩
 . obtain ⟨sl,z⟩:=T.slots b o q hd
   obtain ⟨sl',z'⟩:=k4 b _ z hd
   exact ⟨sl',z'⟩
 . obtain ⟨oe2,q1,q2⟩:=ds e _ b1
   exact ⟨dx,t1,tk,nd,⟨oe2,q1,q2.trans b2⟩,keep dx _ gd hde hdT fun hb=>hnd _ hb rfl⟩
 . obtain ⟨oe,vs,T',oT,ts,r1,r2,r3,r4,r5,r6,r7,r8,r9⟩:=k3
   refine ⟨oe,vs,T',oT,ts,r1,r2,r3,r4,?_,r6,r7,r8,r9⟩
   cases q:h0.get? T' with
   | none=>rfl
   | some o =>
     by_cases hb:T'∈frs (env::outer)
     . obtain ⟨o',ho',hd'⟩:=hO.mem hb
       obtain ⟨sl,hsl⟩:=T.slots T' o' ho' hd'
       obtain ⟨sl',hsl'⟩:=k4 T' _ hsl hd'
       rw [r7] at hsl';cases hsl'
       exact absurd r8 (hd' _)
     . by_cases hT:T'=T0
       . rw [hT,a5] at q;cases q
       . rw [hideAll_get _ (T.keep _ _ q hb) (fun z=>(mC z).elim r6 fun z=>(mC z).elim hT hb)] at r5;cases r5
 k_extra "f"
end
end
section
open PySem.Spec
structure ThrAt (P:Params) (l:List Env) (h0 h:Heap) (e:Addr) (msg:Str) (fl:Value):Prop where
 keep:∀ b o,h0.get? b=some o->b∉frs l->h.get? b=some o
 slots:∀ b o,h0.get? b=some o->(∀ vs,o.data ≠ .fields vs)->∃ sl,h.get? b=some {o with slots:=sl}
 new:h0.get? e=none
 exc:∃ dx t1 tk,h0.get? dx=none∧(∃ oe,h.get? e=some oe∧oe.dict=some dx)∧h.get? dx=some (dictOf (msgEnt P t1 (.str msg tk)) 1)
 traced:∃ a0,h.TracedAtW h0 e (.ref 65) a0 fl
theorem ThrAt.thrown {P:Params} {l:List Env} {h0 h:Heap} {e:Addr} {msg:Str} (T:ThrAt P l h0 h e msg .none):Thrown P l h0 h e msg:=by
 obtain ⟨k1,k2,k3,k4,a0,oe,vs,T0,oT,ts,a1,a2,a3⟩:=T
 exact ⟨k1,k2,k3,k4,oe,vs,T0,oT,ts,a1,a2.1,a3⟩
theorem tracedW_of {h base:Heap} {e:Addr} {cls:Value} (T:h.Traced base e cls):∃ a0,h.TracedW base e cls a0:=by
 obtain ⟨oe,vs,T0,oT,ts,a1,a2,a3,a4,a5⟩:=T
 have hsz:0<vs.size:=Nat.lt_of_succ_lt (Array.getElem?_eq_some_iff.mp a4).1
 exact ⟨vs[0],oe,vs,T0,oT,ts,a1,⟨a2,by rw [Array.getElem?_eq_getElem hsz]⟩,a3,a4,a5⟩
section
variable {w:World} {A:Around} {E:Value->Shared->Prop} {s:Shared} {M:Model} {env:Env} {outer:List Env} {L e dx t:Addr} {msg:Str} {Q:Unit->Shared->Prop} {h0:Heap} {P:Params} {t1 tk:Tok}
theorem note_next (hfr:A.frames=some (env::outer)) (hf:env.frame=some L) (hO:OutF h0 (env::outer)) (T:Thrown P (env::outer) h0 s.heap e msg)
   (hQ:∀ h',ThrAt P (env::outer) h0 h' e msg (rawInt L)->Q () {s with heap:=h'}):wpAny M A (noteFrame (.ref e) env) Q E s:=by
 k_extra "s"
 obtain ⟨a0,oe,vs,T0,oT,ts,a1,a2,a3,a4,a5,a6,a7,a8,a9⟩:=tracedW_of T.traced
 obtain ⟨dx,t1,tk,nd,⟨oe',b1,b2⟩,gd⟩:=T.exc
 have hnd:∀ b∈frs (env::outer),b≠dx:=fun b hb q=>by
   obtain ⟨o,ho,_⟩:=hO.mem hb
   rw [q,nd] at ho;cases ho
 have hde:dx≠e:=fun q=>by rw [q,a1] at gd;cases gd;cases a3
 have hdT:dx≠T0:=fun q=>by rw [q,a7] at gd;cases gd;cases a8
 have hfl:s.heap.FunFrames (hideAll s.heap (e::T0::frs (env::outer))) (env::outer):=OutF.at (fun b o q hd=>by
   obtain ⟨sl,z⟩:=T.slots b o q hd
   exact ⟨_,z,rfl⟩) hO fun b hb=>hideAll_none _ (List.mem_cons_of_mem _ (List.mem_cons_of_mem _ hb))
 refine wpAny_mono (DK.any (dk_noteFrame (.ref e) env) (wpAny_noteFrame_onW (cls := .ref 65) (a0:=a0) (Q:=fun _ s'=>Heap.NotedW (hideAll s.heap (e::T0::frs (env::outer))) (env::outer) e (.ref 65) a0 (rawInt L) s.heap s'.heap∧s' = {s with heap:=s'.heap}) (E:=fun _ _=>False)
   hfr hfl hf ⟨oe,vs,T0,oT,ts,a1,a2,a3,a4,hideAll_none _ (.tail _ (.head _)),a6,a7,a8,a9⟩ (fun b o q=>of_hideAll _ q) (hideAll_none _ (.head _)) fun h' hL=>⟨hL,rfl⟩)) (fun _ s' q=>?_) (fun _ _ q=>q.1.elim)
 obtain ⟨⟨⟨k1,k2,k3,k4⟩,hs⟩,ds⟩:=q
 rw [hs]
 have keep:∀ b o,s.heap.get? b=some o->b≠e->b≠T0->b∉frs (env::outer)->s'.heap.get? b=some o:=fun b o q n1 n2 n3 =>
   k1 b o (hideAll_get _ q (fun z=>(mC z).elim n1 fun z=>(mC z).elim n2 n3))
 refine hQ _ ⟨fun b o q n=>keep b o (T.keep b o q n) (fun z=>by rw [z,T.new] at q;cases q) (fun z=>by rw [z,a5] at q;cases q) n,fun b o q hd=>?_,T.new,?_,a0,?_⟩
 . obtain ⟨sl,z⟩:=T.slots b o q hd
   obtain ⟨sl',z'⟩:=k4 b _ z hd
   exact ⟨sl',z'⟩
 . obtain ⟨oe2,q1,q2⟩:=ds e _ b1
   exact ⟨dx,t1,tk,nd,⟨oe2,q1,q2.trans b2⟩,keep dx _ gd hde hdT fun hb=>hnd _ hb rfl⟩
 . obtain ⟨oe,vs,T',oT,ts,r1,r2,r3,r4,r5,r6,r7,r8,r9⟩:=k3
   refine ⟨oe,vs,T',oT,ts,r1,r2,r3,r4,?_,r6,r7,r8,r9⟩
   cases q:h0.get? T' with
   | none=>rfl
   | some o =>
     by_cases hb:T'∈frs (env::outer)
     . obtain ⟨o',ho',hd'⟩:=hO.mem hb
       obtain ⟨sl,hsl⟩:=T.slots T' o' ho' hd'
       obtain ⟨sl',hsl'⟩:=k4 T' _ hsl hd'
       rw [r7] at hsl';cases hsl'
       exact absurd r8 (hd' _)
     . by_cases hT:T'=T0
       . rw [hT,a5] at q;cases q
       . rw [hideAll_get _ (T.keep _ _ q hb) (fun z=>(mC z).elim r6 fun z=>(mC z).elim hT hb)] at r5;cases r5
 k_extra "f"
theorem land {l:List Env} {fl:Value} (hO:OutF h0 l) (T:ThrAt P l h0 s.heap e msg fl)
   (hQ:∀ h',Thrown P l h0 h' e msg->Q () {s with heap:=h'}):wpAny M A (setFlight (.ref e) none) Q E s:=by
 k_extra "s"
 obtain ⟨a0,oe,vs,T0,oT,ts,a1,a2,a3,a4,a5,a6,a7,a8,a9⟩:=T.traced
 obtain ⟨dx,t1,tk,nd,⟨oe',b1,b2⟩,gd⟩:=T.exc
 have hnd:∀ b∈frs l,b≠dx:=fun b hb q=>by
   obtain ⟨o,ho,_⟩:=hO.mem hb
   rw [q,nd] at ho;cases ho
 have hde:dx≠e:=fun q=>by rw [q,a1] at gd;cases gd;cases a3
 have hdT:dx≠T0:=fun q=>by rw [q,a7] at gd;cases gd;cases a8
 have hfl:s.heap.FunFrames (hideAll s.heap (e::T0::frs l)) l:=OutF.at (fun b o q hd=>by
   obtain ⟨sl,z⟩:=T.slots b o q hd
   exact ⟨_,z,rfl⟩) hO fun b hb=>hideAll_none _ (List.mem_cons_of_mem _ (List.mem_cons_of_mem _ hb))
 refine wpAny_mono (DK.any (dk_setFlight (.ref e) none) (wpAny_setFlight_noneW (cls := .ref 65) (a0:=a0) (base:=hideAll s.heap (e::T0::frs l)) (l:=l)
   (Q:=fun _ s'=>((hideAll s.heap (e::T0::frs l)).StaysIn s'.heap∧s'.heap.TracedW (hideAll s.heap (e::T0::frs l)) e (.ref 65) a0∧(∀ b o,s.heap.get? b=some o->(∀ vs,o.data ≠ .fields vs)->s'.heap.get? b=some o))∧s' = {s with heap:=s'.heap}) (E:=fun _ _=>False)
   (fun b o q=>of_hideAll _ q) hfl ⟨oe,vs,T0,oT,ts,a1,a2,a3,a4,hideAll_none _ (.tail _ (.head _)),a6,a7,a8,a9⟩ fun h' k1 k2 k3 k4=>⟨⟨k1,k3,k4⟩,rfl⟩)) (fun _ s' q=>?_) (fun _ _ q=>q.1.elim)
 obtain ⟨⟨⟨k1,k3,k4⟩,hs⟩,ds⟩:=q
 rw [hs]
 have keep:∀ b o,s.heap.get? b=some o->b≠e->b≠T0->b∉frs l->s'.heap.get? b=some o:=fun b o q n1 n2 n3 =>
   k1 b o (hideAll_get _ q (fun z=>(mC z).elim n1 fun z=>(mC z).elim n2 n3))
 refine hQ _ (ThrAt.thrown ⟨fun b o q n=>keep b o (T.keep b o q n) (fun z=>by rw [z,T.new] at q;cases q) (fun z=>by rw [z,a5] at q;cases q) n,fun b o q hd=>?_,T.new,?_,a0,?_⟩)
 . obtain ⟨sl,z⟩:=T.slots b o q hd
   exact ⟨sl,k4 b _ z hd⟩
 . obtain ⟨oe2,q1,q2⟩:=ds e _ b1
   exact ⟨dx,t1,tk,nd,⟨oe2,q1,q2.trans b2⟩,keep dx _ gd hde hdT fun hb=>hnd _ hb rfl⟩
 . obtain ⟨oe,vs,T',oT,ts,r1,r2,r3,r4,r5,r6,r7,r8,r9⟩:=k3
   refine ⟨oe,vs,T',oT,ts,r1,r2,r3,r4,?_,r6,r7,r8,r9⟩
   cases q:h0.get? T' with
   | none=>rfl
   | some o =>
     by_cases hb:T'∈frs l
     . obtain ⟨o',ho',hd'⟩:=hO.mem hb
       obtain ⟨sl,hsl⟩:=T.slots T' o' ho' hd'
       have hsl':=k4 T' _ hsl hd'
       rw [r7] at hsl';cases hsl'
       exact absurd r8 (hd' _)
     . by_cases hT:T'=T0
       . rw [hT,a5] at q;cases q
       . rw [hideAll_get _ (T.keep _ _ q hb) (fun z=>(mC z).elim r6 fun z=>(mC z).elim hT hb)] at r5;cases r5
 k_extra "f"
theorem note_again {l:List Env} (hf:env.frame=some L) (T:ThrAt P l h0 s.heap e msg (rawInt L)) (h:Q () s):wpAny M A (noteFrame (.ref e) env) Q E s:=by
 obtain ⟨a0,z⟩:=T.traced
 exact wpAny_noteFrame_againW hf z h
theorem leave_again (hf:env.frame=some L) (hO:OutF h0 (env::outer)) (T:ThrAt P (env::outer) h0 s.heap e msg (rawInt L))
   (hQ:∀ h',Thrown P (env::outer) h0 h' e msg->Q () {s with heap:=h'}):wpAny M A (leaving env (.ref e)) Q E s:=by
 unfold leaving
 exact wpAny_bind (note_again hf T (land hO T hQ))
end
end
section
section
open PySem.Spec PySem.Builtin PySem.Builtin.ObjectAttr
theorem msg65 {e dx:Addr} {oe:Obj} {vs:Array Value} {tk1:Tok} {v:Value} {expr:Bool} {Q:Value->Shared->Prop} (X:(KF w.params).In s.heap) (he:s.heap.get? e=some oe) (hc:oe.cls = .ref 65) (hd:oe.data = .fields vs) (hdx:oe.dict=some dx)
   (gd:s.heap.get? dx=some (dictOf (msgEnt w.params tk1 v) 1)) (hv:handedIn v=true) (h:Q v {s with toks:=s.toks+1}):wpAny (model PG w) A (getAttr (.ref e) "message" expr) Q E s:=by
 k_extra "s"
 have I:W.InstAt s.heap e oe 65 (some (dictOf (msgEnt w.params tk1 v) 1)):=⟨he,hc,by unfold notCls;rw [hd],by rw [hdx];exact gd⟩
 have sub:Looks (model PG w) s.heap (isInstance (.ref e) (.type "BaseException")) true:=I.type.andThen (looks_subIn X (by kernel_rfl!))
 have LT:=I.type (M:=model PG w)
 have L1:Looks (model PG w) s.heap (typeLookup (.ref 65) "__getattribute__") (some (.builtin "BaseException.__getattribute__")):=looks_findIn X (by kernel_rfl!)
 have L2:Looks (model PG w) s.heap (typeLookup (.ref 65) "__getattr__") none:=looks_findIn X (by kernel_rfl!)
 have hf:findObj (KF w.params) 65 (some (dictOf (msgEnt w.params tk1 v) 1)) "message" = some (.value v):=findObj_own (attr:=none) (by kernel_rfl!) (by kernel_rfl!) rfl rfl
 have L3:=looks_find (M:=model PG w) X I hf
 have f3:=PySem.F.attr_Exception.ga.bind (.ref e)
 obtain ⟨hh,g,d,t,os⟩:=s
 unfold getAttr getAttrBy
 refine wpAny_bind (wpAny_mkText (wpAny_holding (wpAny_bind (LT.at (wpAny_bind (L1.at ?_))))))
 show wpAny _ _ (getAttrByItsOwn _ _ _ _ _ _) _ _ _
 unfold getAttrByItsOwn hookBefore
 refine wpAny_bind ?_
 show wpAny _ _ (typeLookup (.ref 65) "__getattr__") _ _ _
 refine L2.at ?_
 refine wpAny_bind (wpAny_attempt (wpAny_holding ?_))
 unfold callGetattribute
 rw [if_neg (by cases expr<;>decide)]
 unfold boundAndCalled
 refine wpAny_bind (wpAny_of_eq f3 ?_)
 refine wpAny_call (codeAny_call_builtin PySem.F.attr_Exception.ga.plain PySem.F.entry_bexc_ga (@check_slot (model PG w) _ _ _ "BaseException.__getattribute__" "BaseException" "__getattribute__" (.ref e) [.str "message" t] [] _ (by decide +kernel) (by decide +kernel) sub (PySem.F.args_bexc_ga _ _) ?_))
 unfold Builtin.«object.__getattribute__»
 refine wpAny_bind (wpAny_pure (wpAny_bind (wpAny_pure (wpAny_bind (LT.at (wpAny_bind (L3.at ?_)))))))
 refine wpAny_pure ?_
 show wpAny _ _ (handedOut v) _ _ _
 exact handed_on hv h
 k_extra "f"
end
end
section
theorem G20.g20:True:=True.intro
open G20
theorem kw91:True:=by
 k_with "!callWith ref" => ((have:=g20;clear this);((with_reducible show wpAny _ _ (callWith _ _ _ (backTo _ (starEach [] _)) _) _ _ _);refine stop ?_))
 exact True.intro
section
open PySem.Spec
theorem enter_all {foot:List (Addr×Obj)} {s b b₀ h₁:Heap} {L:Addr} {m:Str->Option Value} (hf:∀ p∈foot,s.get? p.1=some p.2∧b₀.get? p.1=none) (F:Fr b L h₁ m) (N:News b L h₁ foot) (hkb:KB (foot.map (·.1)) s b):∀ a o,s.get? a=some o->h₁.get? a=some o:=fun a o e=>by
 by_cases ha:a∈foot.map (·.1)
 . obtain ⟨p,hp,rfl⟩:=List.mem_map.mp ha
   have:=(hf p hp).1
   rw [e] at this;cases this
   exact (N p hp).1
 . exact F.keep _ _ (hkb _ _ ha e)
theorem Thrown.at' {P:Params} {l:List Env} {h0 h:Heap} {e:Addr} {msg:Str} (T:Thrown P l h0 h e msg):ThrAt P l h0 h e msg .none:=by
 obtain ⟨k1,k2,k3,k4,k5⟩:=T
 exact ⟨k1,k2,k3,k4,tracedW_of k5⟩
variable {Q:Value->Shared->Prop} {b₀:Heap}
theorem kw93:True:=by
 k_with "!getAttr ref" => ((have:=g20;clear this);(k_here;k_dflt (refine' msg65 ?A2k ?B2k ?C2k ?D2k ?E2k ?F2k ?G2k ?_;(case A2k=>exact W.Frag.In.keeps (by assumption) (Fr.keep (by assumption)));(case B2k=>exact News.get (by assumption) (by k_mem));(case C2k=>assumption);(case D2k=>assumption);(case E2k=>assumption);(case F2k=>exact News.get (by assumption) (by k_mem));(case G2k=>rfl))))
 exact True.intro
theorem kept_ct {ask L0:Addr} {o0:Obj} {D:List (Addr×Obj)} {lawenv:Env} {msg:Str} {Post:Value->Heap->Prop} (G:Gd w mean mg mb b₀) (hb:b₀.StaysIn s.heap) (hf:∀ p∈(L0,o0)::D,s.heap.get? p.1=some p.2∧b₀.get? p.1=none)
   (R:Rm A 12) (hfr:A.frames=some [lawenv]) (hl0:lawenv.frame=some L0) (hlk:lawenv.scope.kind ≠ .module) (hLD:L0∉D.map (·.1)) (ho0:∀ vs,o0.data ≠ .fields vs) (hq:FnAt ask s.heap)
   (hask:∀ (env':Env) (L:Addr) (s₁:Shared),env'.frame=some L->env'.scope.kind ≠ .module->(∀ a o,s.heap.get? a=some o->s₁.heap.get? a=some o)->s.heap.get? L=none->(∃ m,s₁.heap.Ns L m) ->
     wpAny (model PG w) (A.deeper env') (call (.ref ask) [])
       (fun v s₂=>∃ h' tk,s₂ = {s₁ with heap:=h',toks:=tk}∧KB (D.map (·.1)) s₁.heap h'∧Post v h')
       (fun x s₂=>∃ e h' tk,s₂ = {s₁ with heap:=h',toks:=tk}∧x = .ref e∧Thrown w.params [env',lawenv] (hideAll s₁.heap (D.map (·.1))) h' e msg) s₁)
   (hret:∀ h' tk v,KB (D.map (·.1)) s.heap h'->Post v h'->Q v {s with heap:=h',toks:=tk})
   (hmsg:∀ h' tk t sl,KB (L0::D.map (·.1)) s.heap h'->h'.get? L0=some {o0 with slots:=sl}->Q (.str msg t) {s with heap:=h',toks:=tk}) :
   wpAny (model PG w) A (call (.ref 408) [.ref ask]) Q E s:=by
 k_extra "s"
 refine enter ((L0,o0)::D) G hb hf (by k_dflt k_is) (by k_dflt k_is) (by have:=R.d;omega) (binds:=[("ask",.ref ask)]) (BindsTo.of_eq rfl) (locs rfl) ?_
 intro b L h₁ F N X T hst hkb hK hlt
 have hall:=enter_all hf F N hkb
 have hLs:s.heap.get? L=none:=by
   cases q:s.heap.get? L with
   | none=>rfl
   | some o =>
     by_cases ha:L∈((L0,o0)::D).map (·.1)
     . obtain ⟨p,hp,e⟩:=List.mem_map.mp ha
       have:=hlt p hp
       rw [e] at this;exact absurd this (Nat.lt_irrefl _)
     . have:=hkb _ _ ha q
       exact absurd (Nat.lt_of_lt_of_le (Heap.lt_size this) F.above) (Nat.lt_irrefl _)
 (try dsimp only)
 k_steps
 refine callWith_F0 (by obtain ⟨a1,a2,a3,a4,a5⟩:=hq;exact ⟨a1,a2,a3,a4,hall _ _ a5⟩) ?_
 refine wpAny_mono (hask (envOf (Str.ofString "_law_kept") fs408 L 408 (Value.ref 407)) L _ rfl (show fs408.kind≠_ from by decide) hall hLs ⟨_,F.ns⟩) (fun v s₂ q=>?_) (fun x s₂ q=>?_)
 . obtain ⟨h',tk',rfl,kb,hp⟩:=q
   exact hret h' tk' v (fun a o n e=>kb a o n (hall _ _ e)) hp
 obtain ⟨e,h2,tk2,rfl,rfl,Th⟩:=q
 dsimp only at Th ⊢
 have hLn:L∉D.map (·.1):=fun q=>by
   obtain ⟨p,hp,e⟩:=List.mem_map.mp q
   have:=hlt p (.tail _ hp)
   rw [e] at this;exact absurd this (Nat.lt_irrefl _)
 obtain ⟨oL,hoL,hnL⟩:=LCg.ns_obj F.ns
 have hgL:(hideAll h₁ (D.map (·.1))).get? L=some oL:=hideAll_get _ hoL hLn
 have hg0:(hideAll h₁ (D.map (·.1))).get? L0=some o0:=hideAll_get _ (N _ (.head _)).1 hLD
 have hndL:∀ vs,oL.data ≠ .fields vs:=fun vs q=>by obtain ⟨es,ep,hd,_⟩:=hnL;rw [hd] at q;cases q
 have hO:OutF (hideAll h₁ (D.map (·.1))) [envOf (Str.ofString "_law_kept") fs408 L 408 (Value.ref 407),lawenv] :=
   ⟨show fs408.kind≠_ from by decide,⟨L,oL,rfl,by simp [Heap.get?],hgL,hndL⟩,hlk,⟨L0,o0,hl0,by simp [Heap.get?],hg0,ho0⟩,trivial⟩
 have hfr':(A.deeper (envOf (Str.ofString "_law_kept") fs408 L 408 (Value.ref 407))).frames=some [envOf (Str.ofString "_law_kept") fs408 L 408 (Value.ref 407),lawenv]:=by
   show A.frames.map _=_;rw [hfr];rfl
 have hbD:∀ a o,b.get? a=some o->(hideAll h₁ (D.map (·.1))).get? a=some o:=fun a o q=>hideAll_get _ (F.keep _ _ q) fun z=>by
   obtain ⟨p,hp,e⟩:=List.mem_map.mp z
   rw [← e,(N p (.tail _ hp)).2.2] at q;cases q
 have hbF:∀ a o,b.get? a=some o->a∉frs [envOf (Str.ofString "_law_kept") fs408 L 408 (Value.ref 407),lawenv]:=fun a o q z=>by
   have z':a∈[L,L0]:=by
     have e:frs [envOf (Str.ofString "_law_kept") fs408 L 408 (Value.ref 407),lawenv]=[L,L0]:=by simp only [frs,List.filterMap_cons,hl0,List.filterMap_nil];rfl
     rwa [e] at z
   rcases mC z' with rfl | z'
   . exact absurd (Nat.lt_of_lt_of_le (Heap.lt_size q) F.above) (Nat.lt_irrefl _)
   . rw [mS z',(N _ (.head _)).2.2] at q;cases q
 refine note_next hfr' rfl hO Th fun h3 T3=>land hO T3 fun h4 T4=>?_
 have after:∀ h4,Thrown w.params [envOf (Str.ofString "_law_kept") fs408 L 408 (Value.ref 407),lawenv] (hideAll h₁ (D.map (·.1))) h4 e msg ->
     Fr b L h4 (fun y=>List.lookup y [(Str.ofString "ask",Value.ref ask)].reverse)∧∃ sl oe vs dx t1 tk,News b L h4 [(L0,{o0 with slots:=sl}),(e,oe),(dx,dictOf (msgEnt w.params t1 (.str msg tk)) 1)]∧oe.cls = .ref 65∧oe.data = .fields vs∧oe.dict=some dx:=fun h4 T4=>by
   obtain ⟨slL,hslL⟩:=T4.slots L oL hgL hndL
   obtain ⟨sl0,hsl0⟩:=T4.slots L0 o0 hg0 ho0
   have F4:Fr b L h4 (fun y=>List.lookup y [(Str.ofString "ask",Value.ref ask)].reverse):=⟨by obtain ⟨es,ep,hd,r⟩:=hnL;exact ⟨_,es,ep,hslL,hd,r⟩,fun a o q=>T4.keep a o (hbD a o q) (hbF a o q),F.above⟩
   obtain ⟨dx,t1,tk,nd,⟨oe,b1,b2⟩,gd⟩:=T4.exc
   obtain ⟨oe',vs,T',oT,ts,r1,r2,r3,_⟩:=T4.traced
   rw [b1] at r1;cases r1
   have nb:∀ a,(hideAll h₁ (D.map (·.1))).get? a=none->b.get? a=none:=fun a z=>by
     cases q:b.get? a with
     | none=>rfl
     | some o=>rw [hbD a o q] at z;cases z
   have nL:∀ a,(hideAll h₁ (D.map (·.1))).get? a=none->a≠L:=fun a z q=>by rw [q,hgL] at z;cases z
   refine ⟨F4,sl0,oe,vs,dx,t1,tk,fun p hp=>?_,r2,r3,b2⟩
   rcases mC hp with rfl | hp
   . exact ⟨hsl0,(N _ (.head _)).2⟩
   rcases mC hp with rfl | hp
   . exact ⟨b1,nL _ T4.new,nb _ T4.new⟩
   . rw [mS hp];exact ⟨gd,nL _ nd,nb _ nd⟩
 obtain ⟨F4,sl,oe,vs,dx,t1,tk4,N4,c1,c2,c3⟩:=after h4 T4
 refine wpAny_handleBy_cons (codeAny_handlers_test ?_) (by intro q;cases q)
 k_steps
 obtain ⟨dd,k0,k1,k2,k3,k5,nm,q,bs,sn,sub,ab,col,hC⟩:=own65 (X.keeps F4.keep)
 refine wpAny_excMatches_sub_self hC (N4 _ (.tail _ (.head _))).1 c1 (by decide +kernel) (codeAny_handlers_suite_as ?_)
 refine land hO T4.at' fun h5 T5=>?_
 clear N4 F4 c1 c2 c3
 obtain ⟨F5,sl,oe,vs,dx,t1,tk4,N5,c1,c2,c3⟩:=after h5 T5
 clear F N
 refine stN F5 N5 (fun h₇ F₇ N₇=>?_) rfl rfl
 k_steps
 exact hmsg _ _ _ _ (hK _ _ (by assumption)) (News.get (by assumption) (by k_mem))
 k_extra "f"
end
end
section
section
variable {w:World} {A:Around} {E:Value->Shared->Prop} {s:Shared} {env:Env} {outer:List Env} {L e dx t:Addr} {msg:Str} {h0 b h hx:Heap} {m:Str->Option Value} {P:Params} {t1 tk:Tok} {M:Model} {Q:Unit->Shared->Prop}
theorem frame_new (F:Fr b L h m):b.get? L=none:=by
 cases q:b.get? L with
 | none=>rfl
 | some o=>exact absurd (Nat.lt_of_lt_of_le (Heap.lt_size q) F.above) (Nat.lt_irrefl _)
theorem frame_outF (hf:env.frame=some L) (hk:env.scope.kind ≠ .module) (hO:OutF hx outer) {oL:Obj} (hL:hx.get? L=some oL) (hd:∀ vs,oL.data ≠ .fields vs):OutF hx (env::outer) :=
 ⟨hk,⟨L,oL,hf,by simp [Heap.get?],hL,hd⟩,hO⟩
theorem frame_obj (F:Fr b L h m):∃ oL,h.get? L=some oL∧∀ vs,oL.data ≠ .fields vs:=by
 obtain ⟨oL,hoL,hnL⟩:=LCg.ns_obj F.ns
 exact ⟨oL,hoL,fun vs q=>by obtain ⟨es,ep,hd,_⟩:=hnL;rw [hd] at q;cases q⟩
theorem frames_up (hfr:A.frames=some outer):(A.deeper env).frames=some (env::outer):=by
 show A.frames.map _=_;rw [hfr];rfl
theorem raise_out (hfr:A.frames=some outer) (hf:env.frame=some L) (hk:env.scope.kind ≠ .module) (hO:OutF h0 outer) (hb:∀ a o,h0.get? a=some o->b.get? a=some o) (F:Fr b L h m) (kb:KB [] h s.heap)
   (ge:s.heap.get? e=some (excMade (some dx) t)) (gd:s.heap.get? dx=some (dictOf (msgEnt P t1 (.str msg tk)) 1)) (ne:h.get? e=none) (nd:h.get? dx=none)
   (hQ:∀ h',Thrown P outer h0 h' e msg->Q () {s with heap:=h'}):wpAny M (A.deeper env) (leaving env (.ref e)) Q E s:=by
 k_extra "s"
 obtain ⟨oL,hL,hLd⟩:=frame_obj F
 have hO2:OutF h (env::outer):=frame_outF hf hk (hO.keeps fun a o q=>F.keep _ _ (hb a o q)) hL hLd
 refine leave_first (frames_up hfr) hf hO2 kb.stays ne nd ge gd fun h' T=>hQ h' ?_
 refine T.down (fun a o q=>F.keep _ _ (hb a o q)) hf ?_
 cases q:h0.get? L with
 | none=>rfl
 | some o=>have:=hb _ _ q;rw [frame_new F] at this;cases this
 k_extra "f"
theorem pass_out {D:List Addr} (hfr:A.frames=some outer) (hf:env.frame=some L) (hk:env.scope.kind ≠ .module) (hO:OutF h0 outer) (hb:∀ a o,h0.get? a=some o->b.get? a=some o) (F:Fr b L h m)
   (hD:∀ d∈D,d≠L∧b.get? d=none) (T:Thrown P (env::outer) (hideAll h D) s.heap e msg)
   (hQ:∀ h',Thrown P outer h0 h' e msg->Q () {s with heap:=h'}):wpAny M (A.deeper env) (leaving env (.ref e)) Q E s:=by
 k_extra "s"
 obtain ⟨oL,hL,hLd⟩:=frame_obj F
 have up:∀ a o,h0.get? a=some o->(hideAll h D).get? a=some o:=fun a o q=>hideAll_get _ (F.keep _ _ (hb a o q)) fun z=>by
   have:=(hD a z).2;rw [hb a o q] at this;cases this
 have hO2:OutF (hideAll h D) (env::outer):=frame_outF hf hk (hO.keeps up) (hideAll_get _ hL fun z=>(hD L z).1 rfl) hLd
 refine leave_next (frames_up hfr) hf hO2 T fun h' T=>hQ h' ?_
 refine T.down up hf ?_
 cases q:h0.get? L with
 | none=>rfl
 | some o=>have:=hb _ _ q;rw [frame_new F] at this;cases this
 k_extra "f"
theorem raiseX {x:Expr} {pos:Pos} {Q:Flow->Shared->Prop} (_X:(KF w.params).In b) (hh:A.handled=none)
   (h:wpAny M A (eval x env) (fun v s₁=>∃ e t dx,v = .ref e∧(KF w.params).In s₁.heap∧s₁.heap.get? e=some (excMade dx t)∧E (.ref e) s₁) E s) :
   wpAny M A (exec (.Raise (some x) none pos) env) Q E s:=raiseS65 hh h
theorem fnews (N:News b L h news) {D:List Addr} (hd:∀ d∈D,∃ o,(d,o)∈news):∀ d∈D,d≠L∧b.get? d=none:=fun d hm=>by
 obtain ⟨o,ho⟩:=hd d hm;exact (N _ ho).2
end
theorem hide_sub {D:List Addr} {s b:Heap} (hkb:KB D s b):∀ a o,(hideAll s D).get? a=some o->b.get? a=some o:=fun a o q=>by
 refine hkb a o (fun z=>?_) (of_hideAll _ q)
 rw [hideAll_none _ z] at q;cases q
theorem news_new2 {foot:List (Addr×Obj)} {b h s:Heap} {L r:Addr} {o:Obj} {news:List (Addr×Obj)} (N:News b L h news) (hkb:KB (foot.map (·.1)) s b) (hp:(r,o)∈news) (hn:r∉foot.map (·.1)):s.get? r=none:=news_new N hkb hp hn
end
section
theorem kw96:True:=by
 k_with "!exec Raise some none" => ((k_here;k_dflt (refine raiseX (by assumption) (by k_extra "my hh") ?_)))
 exact True.intro
theorem G22.g22:True:=True.intro
open G22
theorem kw99:True:=by
 k_with "c65" => ((have:=g22;clear this);(k_here;k_dflt (refine' call65 ?A2n ?B2n ?_;(case A2n=>k_extra "my gd");(case B2n=>k_extra "my rm"));intro h8 tk8 e8 t8 dx8 tk18 kb8 ne8 nd8 ge8 gd8;(try dsimp only at kb8 ne8 nd8 ge8 gd8);(try dsimp only);(revert h8 tk8 e8 t8 dx8 tk18 kb8 ne8 nd8 ge8 gd8;intro _ _ _ _ _ _ _ _ _ _ _)))
 k_with "my raise" => (first | ((with_reducible show wpAny _ _ (leaving _ _) _ _ _);refine raise_out (by assumption) rfl (show ScopeKind.function≠ScopeKind.module from by decide) (by assumption) (by assumption) (by assumption) (by assumption) (by assumption) (by assumption) (by assumption) (by assumption) ?_) | exact W.Frag.In.keeps (by assumption) (Fr.keep (Fr.kb0 (by assumption) (by assumption))))
 k_with "!Exists" => ((k_here;(with_reducible refine ⟨_,_,_,(rfl:Value.ref _=Value.ref _),?_⟩)))
 exact True.intro
section
def rc (n m:Int):Int:=if n=0∨m=0 then 0 else max n m
def prod (ds:List Int):Int:=ds.foldl (· * ·) 1
abbrev msgNC:Str := "non-conformable arrays"
def msgDim (p t:Int):Str:=Str.empty++Str.ofString "dims [product " ++ Str.ofString (toString p)++Str.ofString "] do not match the length of object [" ++ Str.ofString (toString t)++Str.ofString "]"
noncomputable def rdim1 (ds:List Int) (n m:Nat):Except Str (Option (List Int)) :=
 if (n=1∧1<m)∨(m=0∧0<n) then .ok none else if prod ds=rc n m then .ok (some ds) else .error (msgDim (prod ds) (rc n m))
noncomputable def rdim (nu nv:Nat):Option (List Int)->Option (List Int)->Except Str (Option (List Int))
 | some a,some b=>if a=b then .ok (some a) else .error msgNC
 | none,none => .ok none
 | some a,none=>rdim1 a nu nv
 | none,some b=>rdim1 b nv nu
theorem rd1n {ds:List Int} {n m:Nat} (h:(n=1∧1<m)∨(m=0∧0<n)):rdim1 ds n m = .ok none:=by unfold rdim1;rw [if_pos h]
theorem rd1s {ds:List Int} {n m:Nat} (h:¬((n=1∧1<m)∨(m=0∧0<n))) (e:prod ds=rc n m):rdim1 ds n m = .ok (some ds):=by unfold rdim1;rw [if_neg h,if_pos e]
theorem rd1e {ds:List Int} {n m:Nat} (h:¬((n=1∧1<m)∨(m=0∧0<n))) (e:prod ds≠rc n m):rdim1 ds n m = .error (msgDim (prod ds) (rc n m)):=by unfold rdim1;rw [if_neg h,if_neg e]
theorem rd2s {ds dt:List Int} {n m:Nat} (e:ds=dt):rdim n m (some ds) (some dt) = .ok (some ds):=by show (if ds=dt then _ else _)=_;rw [if_pos e]
theorem rd2e {ds dt:List Int} {n m:Nat} (e:¬ds=dt):rdim n m (some ds) (some dt) = .error msgNC:=by show (if ds=dt then _ else _)=_;rw [if_neg e]
theorem execs_app_eq {env:Env}:∀ (l rest:List Stmt),execs (l++rest) env=(execs l env >>= fun f=>match f with | .next=>execs rest env | f=>pure f)
 | [],rest=>by
   rw [PySem.execs_nil,List.nil_append];rfl
 | st::l,rest=>by
   rw [List.cons_append,PySem.execs_cons,PySem.execs_cons,bind_assoc]
   congr 1
   funext f
   cases f with
   | next=>exact execs_app_eq l rest
   | ret v=>rfl
   | brk=>rfl
   | cont=>rfl
theorem execs_app {M:Model} {A:Around} {E:Value->Shared->Prop} {env:Env} {l rest:List Stmt} {Q:Flow->Shared->Prop} {s:Shared} (h:wpAny M A (execs l env) (fun f s'=>match f with | .next=>wpAny M A (execs rest env) Q E s' | f=>Q f s') E s):wpAny M A (execs (l++rest) env) Q E s:=by
 rw [execs_app_eq]
 exact wpAny_bind (wpAny_mono h (fun f s' h=>by cases f<;>first | exact h | exact wpAny_pure h) fun _ _ e=>e)
theorem only1 {b h:Heap} {L a:Addr} {o:Obj} {news:List (Addr×Obj)} (N:News b L h news) (hm:(a,o)∈news):News b L h [(a,o)]:=fun p hp=>by rw [mS hp];exact N _ hm
def Hold (P:Prop):Prop:=P
theorem Hold.mk {P:Prop} (h:P):Hold P:=h
theorem Hold.out {P:Prop} (h:Hold P):P:=h
theorem cut1 {M:Model} {A:Around} {E:Value->Shared->Prop} {s:Shared} {Q:Flow->Shared->Prop} {env:Env} {st:Stmt} {rest:List Stmt} (Mid:Shared->Prop) (h1:wpAny M A (exec st env) (fun f s'=>match f with | .next=>Mid s' | f=>Q f s') E s) (h2:∀ s',Mid s'->wpAny M A (execs rest env) Q E s') :
   wpAny M A (execs (st::rest) env) Q E s:=wpAny_execs_cons (wpAny_mono h1 (fun f s' h=>by cases f<;>first | exact h2 _ h | exact h) fun _ _ e=>e)
noncomputable def take7l:List Stmt->List Stmt
 | a::b::c::d::e::f::g::_=>[a,b,c,d,e,f,g]
 | _=>[]
noncomputable def drop7l:List Stmt->List Stmt
 | _::_::_::_::_::_::_::r=>r
 | l=>l
@[reducible] noncomputable def fc1:List Stmt:=Subtype.val (p:=fun b=>take7l fb152=b) (by k_extra "w")
@[reducible] noncomputable def fc2:List Stmt:=Subtype.val (p:=fun b=>drop7l fb152=b) (by k_extra "w")
theorem fc_eq:fb152=fc1++fc2:=rfl
@[reducible] noncomputable def fc3:List Stmt:=Subtype.val (p:=fun b=>fc2.tail=b) (by k_extra "w")
noncomputable abbrev ENR (L:Addr):Env:=envOf (Str.ofString "result_dim") fs152 L 152 (Value.ref 151)
inductive RMid (s:Shared) (b:Heap) (L u v:Addr) (n m:Nat) (ds:List Int) (s':Shared):Prop
 | mk:∀ h' tk tn tm l vs c rv m',
   (s' = {s with heap:=h',toks:=tk}) ->
   (Fr b L h' m') ->
   (m'=(fun y=>if y=Str.ofString "left" then some (.ref l) else if y=Str.ofString "m" then some (.int (m:Nat) tm) else if y=Str.ofString "n" then some (.int (n:Nat) tn) else if y=Str.ofString "right" then some rv else List.lookup y [(Str.ofString "u",Value.ref u),(Str.ofString "v",Value.ref v)].reverse)) ->
   (News b L h' [(l,listOf (List.toArray vs) c)]) ->
   (IntsAre vs ds) ->
   RMid s b L u v n m ds s'
section
variable {Q:Value->Shared->Prop} {b₀:Heap}
theorem rdim_tail2 {b:Heap} {L u v:Addr} {n m:Nat} {ds:List Int} {outer:List Env} {s':Shared} (G:Gd w mean mg mb s.heap) (R:Rm A 9) (hfr:A.frames=some outer) (hO:OutF s.heap outer)
   (X:(KF w.params).In b) (T:Top TP LO mean mg mb b) (hst:s.heap.StaysIn b) (hkb:KB (List.map (fun x:Addr×Obj=>x.1) []) s.heap b) (hK:∀ h' m',Fr b L h' m'->KB (List.map (fun x:Addr×Obj=>x.1) []) s.heap h')
   (hn:n≤1000) (hm:m≤1000) (hlv2:ds.length≤2) (hbv:∀ d∈ds,Builtin.Int.intBits d≤64) (hpv:0≤ds.foldl (· * ·) 1) (hpv2:ds.foldl (· * ·) 1≤1000)
   (hC:¬((n=1∧1<m)∨(m=0∧0<n))) (hM:RMid s b L u v n m ds s')
   (hQ1:∀ h' tk r vs c,rdim1 ds n m = .ok (some ds)->KB [] s.heap h'->h'.get? r=some (listOf (List.toArray vs) c)->s.heap.get? r=none->IntsAre vs ds->Q (.ref r) {s with heap:=h',toks:=tk})
   (hE:∀ h' tk e msg,rdim1 ds n m = .error msg->Thrown w.params outer s.heap h' e msg->E (.ref e) {s with heap:=h',toks:=tk}) :
   wpAny (model PG w) (A.deeper (ENR L)) (execs fc3 (ENR L)) (fun fl s'=>Q (match fl with | .ret v=>v | _ => .none) s')
     (fun e s'=>wpAny (model PG w) (A.deeper (ENR L)) (leaving (ENR L) e) (fun _ s''=>E e s'') (fun e' s''=>E e' s'') s') s':=by
 k_extra "s"
 obtain ⟨h',tk,tn,tm,l,vs,c,rv,m',rfl,F,rfl,N,hi⟩:=hM
 k_steps
 all_goals first
   | exact hQ1 _ _ _ _ _ (rd1s hC (by unfold prod rc;omega)) (hK _ _ (by assumption)) (News.get (by assumption) (by k_mem)) (news_new2 (by assumption) hkb (by k_mem) (by simp)) (by assumption)
   | (k_extra "my raise";intro h9 T9;refine hE _ _ _ _ ((rd1e hC (by unfold prod rc;omega)).trans (by subst_vars;rfl)) T9;done)
   | k_extra "my raise"
 k_extra "f"
theorem rdim_tail {b:Heap} {L u v:Addr} {n m:Nat} {ds:List Int} {outer:List Env} {s':Shared} (G:Gd w mean mg mb s.heap) (R:Rm A 9) (hfr:A.frames=some outer) (hO:OutF s.heap outer)
   (X:(KF w.params).In b) (T:Top TP LO mean mg mb b) (hst:s.heap.StaysIn b) (hkb:KB (List.map (fun x:Addr×Obj=>x.1) []) s.heap b) (hK:∀ h' m',Fr b L h' m'->KB (List.map (fun x:Addr×Obj=>x.1) []) s.heap h')
   (hn:n≤1000) (hm:m≤1000) (hlv2:ds.length≤2) (hbv:∀ d∈ds,Builtin.Int.intBits d≤64) (hpv:0≤ds.foldl (· * ·) 1) (hpv2:ds.foldl (· * ·) 1≤1000)
   (hM:RMid s b L u v n m ds s')
   (hQ0:∀ h' tk,rdim1 ds n m = .ok none->KB [] s.heap h'->Q .none {s with heap:=h',toks:=tk})
   (hQ1:∀ h' tk r vs c,rdim1 ds n m = .ok (some ds)->KB [] s.heap h'->h'.get? r=some (listOf (List.toArray vs) c)->s.heap.get? r=none->IntsAre vs ds->Q (.ref r) {s with heap:=h',toks:=tk})
   (hE:∀ h' tk e msg,rdim1 ds n m = .error msg->Thrown w.params outer s.heap h' e msg->E (.ref e) {s with heap:=h',toks:=tk}) :
   wpAny (model PG w) (A.deeper (ENR L)) (execs fc2 (ENR L)) (fun fl s'=>Q (match fl with | .ret v=>v | _ => .none) s')
     (fun e s'=>wpAny (model PG w) (A.deeper (ENR L)) (leaving (ENR L) e) (fun _ s''=>E e s'') (fun e' s''=>E e' s'') s') s':=by
 k_extra "s"
 obtain ⟨h',tk,tn,tm,l,vs,c,rv,m',rfl,F,rfl,N,hi⟩:=hM
 refine cut1 (fun s'=>Hold (¬((n=1∧1<m)∨(m=0∧0<n))∧RMid s b L u v n m ds s')) ?_ ?_
 . k_steps
   all_goals first
     | exact hQ0 _ _ (rd1n (by omega)) (hK _ _ (by assumption))
     | exact Hold.mk ⟨by omega,_,_,_,_,_,_,_,_,_,rfl,by assumption,by k_extra "my env",only1 (by assumption) (by k_mem),by assumption⟩
 . intro s1 z
   obtain ⟨hC,z⟩:=z.out
   exact rdim_tail2 G R hfr hO X T hst hkb hK hn hm hlv2 hbv hpv hpv2 hC z hQ1 hE
 k_extra "f"
theorem rdim_ct {u v:Addr} {du dv:Vd} {eu ev:Option (List Int)} {outer:List Env} {B:Heap} (G:Gd w mean mg mb s.heap) (R:Rm A 9) (hfr:A.frames=some outer) (hO:OutF s.heap outer) (hB:B.StaysIn s.heap) (hU:VM w (hm B) u du) (hV:VM w (hm B) v dv)
   (hu:DimIs du eu) (hv:DimIs dv ev) (hlu:du.items.length≤1000) (hlv:dv.items.length≤1000)
   (hQ0:∀ h' tk,rdim du.items.length dv.items.length eu ev = .ok none->KB [] s.heap h'->Q .none {s with heap:=h',toks:=tk})
   (hQ1:∀ h' tk ds r vs c,rdim du.items.length dv.items.length eu ev = .ok (some ds)->KB [] s.heap h'->h'.get? r=some (listOf (List.toArray vs) c)->s.heap.get? r=none->IntsAre vs ds->Q (.ref r) {s with heap:=h',toks:=tk})
   (hE:∀ h' tk e msg,rdim du.items.length dv.items.length eu ev = .error msg->Thrown w.params outer s.heap h' e msg->E (.ref e) {s with heap:=h',toks:=tk}) :
   wpAny (model PG w) A (call (.ref 152) [.ref u,.ref v]) Q E s:=by
 k_extra "s"
 refine enter [] G (fun _ _ e=>e) (fun p hp=>nomatch hp) (by k_dflt k_is) (by k_dflt k_is) (by have:=R.d;omega) (binds:=[("u",.ref u),("v",.ref v)]) (BindsTo.of_eq rfl) (locs rfl) ?_
 intro b L h₁ F N X T hst hkb hK hlt
 have hst2:=st2 hB hst
 have hU:=hU.stays hst2
 have hV:=hV.stays hst2
 (try dsimp only)
 rw [fc_eq]
 cases eu with
 | none =>
   have hxu:attOf du.ats "dim" = none:=hu
   cases ev with
   | none =>
     have hxv:attOf dv.ats "dim" = none:=hv
     refine execs_app (wpAny_mono (Q:=fun f s'=>match f with | .ret v=>Q v s' | _=>False) ?w0 (fun f s' z=>?z0) fun _ _ e=>e)
     case w0=>k_steps;exact hQ0 _ _ rfl (hK _ _ (by assumption))
     case z0=>cases f<;>first | exact z | cases z
   | some dsv =>
     obtain ⟨⟨kv,hxv⟩,hlv2,hbv,hpv,hpv2⟩:=hv
     refine execs_app (wpAny_mono (Q:=fun f s'=>f = .next∧RMid s b L u v dv.items.length du.items.length dsv s') ?w1 (fun f s' z=>?z1) fun _ _ e=>e)
     case w1 =>
       k_steps
       all_goals exact ⟨_,_,_,_,_,_,_,_,_,rfl,by assumption,by k_extra "my env",only1 (by assumption) (by k_mem),by assumption⟩
     case z1 =>
       obtain ⟨rfl,z⟩:=z
       exact rdim_tail G R hfr hO X T hst hkb hK hlv hlu hlv2 hbv hpv hpv2 z (fun h' tk e=>hQ0 h' tk e) (fun h' tk r vs c e=>hQ1 h' tk _ r vs c e) (fun h' tk e msg x=>hE h' tk e msg x)
 | some dsu =>
   obtain ⟨⟨ku,hxu⟩,hlu2,hbu,hpu,hpu2⟩:=hu
   cases ev with
   | none =>
     have hxv:attOf dv.ats "dim" = none:=hv
     refine execs_app (wpAny_mono (Q:=fun f s'=>f = .next∧RMid s b L u v du.items.length dv.items.length dsu s') ?w2 (fun f s' z=>?z2) fun _ _ e=>e)
     case w2 =>
       k_steps
       all_goals exact ⟨_,_,_,_,_,_,_,_,_,rfl,by assumption,by k_extra "my env",only1 (by assumption) (by k_mem),by assumption⟩
     case z2 =>
       obtain ⟨rfl,z⟩:=z
       exact rdim_tail G R hfr hO X T hst hkb hK hlu hlv hlu2 hbu hpu hpu2 z (fun h' tk e=>hQ0 h' tk e) (fun h' tk r vs c e=>hQ1 h' tk _ r vs c e) (fun h' tk e msg x=>hE h' tk e msg x)
   | some dsv =>
     obtain ⟨⟨kv,hxv⟩,hlv2,hbv,hpv,hpv2⟩:=hv
     refine execs_app (wpAny_mono (Q:=fun f s'=>match f with | .ret v=>Q v s' | _=>False) ?w3 (fun f s' z=>?z3) fun _ _ e=>e)
     case w3 =>
       k_steps
       all_goals first
         | exact hQ0 _ _ (rd1n (by omega)) (hK _ _ (by assumption))
         | exact hQ1 _ _ _ _ _ _ (rd2s (by assumption)) (hK _ _ (by assumption)) (News.get (by assumption) (by k_mem)) (news_new2 (by assumption) hkb (by k_mem) (by simp)) (by assumption)
         | exact hQ1 _ _ _ _ _ _ (rd1s (by omega) (by unfold prod rc;omega)) (hK _ _ (by assumption)) (News.get (by assumption) (by k_mem)) (news_new2 (by assumption) hkb (by k_mem) (by simp)) (by assumption)
         | (k_extra "my raise";intro h9 T9;refine hE _ _ _ _ (rd2e (by assumption)) T9;done)
         | (k_extra "my raise";intro h9 T9;refine hE _ _ _ _ ((rd1e (by omega) (by unfold prod rc;omega)).trans (by subst_vars;rfl)) T9;done)
         | k_extra "my raise"
     case z3=>cases f<;>first | exact z | cases z
 k_extra "f"
end
theorem rc_pos {a b i:Nat} (hi:i<(rc (a:Int) b - 0).toNat):0<a∧0<b:=by unfold rc at hi;split at hi<;>omega
end
section
theorem outf_up {b h:Heap} {L:Addr} {m:Str->Option Value} {env:Env} {outer:List Env} (F:Fr b L h m) (hO:OutF b outer) (hf:env.frame=some L) (hk:env.scope.kind ≠ .module):OutF h (env::outer):=by
 obtain ⟨oL,hL,hd⟩:=frame_obj F
 exact frame_outF hf hk (hO.keeps F.keep) hL hd
theorem FN1 {b h h':Heap} {L d:Addr} {m:Str->Option Value} {news news':List (Addr×Obj)} {o o':Obj} (F:Fr b L h m) (N:News b L h news) (U:Upd d o o' news news') (k:KB [d] h h') (g:h'.get? d=some o'):Fr b L h' m∧News b L h' news':=⟨Fr.kb1 F N U k,News.kb1 N U k g⟩
theorem strs_le {xs:List Value} {ts:List Str} {a:Str} {c:Prop} [Decidable c] (h:StrsAre xs (ts++if c then [a] else [])):xs.length≤ts.length+1:=by
 rw [StrsLen h,List.length_append];split<;>simp
theorem kw104:True:=by
 k_with "my outf" => (first | assumption | exact outf_up (by assumption) (by assumption) rfl (show ScopeKind.function≠ScopeKind.module from by decide))
 k_with "my frs" => (first | assumption | exact frames_up (by assumption))
 k_with "my few" => (first | assumption | omega | exact Nat.le_of_ble_eq_true rfl | (have z9:=strs_le (by assumption);omega) | (have z9:=StrsLen (by assumption);omega))
 exact True.intro
theorem G24.g24:True:=True.intro
open G24
theorem kw109:True:=by
 k_with "c152" => ((have:=g24;clear this);(k_here;k_dflt (refine' rdim_ct ?H2v ?I2v ?J2v ?K2v ?G2v ?A2v ?B2v ?C2v ?D2v ?E2v ?F2v ?_ ?_ ?_;(case H2v=>k_extra "my gd");(case I2v=>k_extra "my rm");(case J2v=>k_extra "my frs");(case K2v=>k_extra "my outf");(case A2v=>k_extra "my vm");(case B2v=>k_extra "my vm");(case G2v=>k_extra "my stays");(case C2v=>with_reducible assumption);(case D2v=>with_reducible assumption);(case E2v=>k_extra "my len");(case F2v=>k_extra "my len"));(all_goals intros);(all_goals first | (with_reducible rename Thrown _ _ _ _ _ _=>T9;(try dsimp only at T9);(try dsimp only);(revert T9;intro _)) | ((fail_if_success (fail_if_success (with_reducible rename IntsAre _ _=>i9)));k_extra "my new1") | k_extra "my kb0")))
 k_with "c159" => ((have:=g24;clear this);(k_here;k_dflt (refine' noteone_ct ⟨by assumption,by assumption⟩ ?I2x ?H2x ?G2x ?A2x ?B2x ?C2x ?D2x ?E2x ?F2x ?K2x ?L2x ?M2x ?J2x ?_;(case I2x=>k_extra "my stays");(case H2x=>k_extra "my rm");(case G2x=>exact fun _ _ e=>e);(case A2x=>k_extra "my vm");(case B2x=>k_extra "my vm");(case C2x=>with_reducible assumption);(case D2x=>with_reducible assumption);(case E2x=>k_extra "my len");(case F2x=>k_extra "my len");(case K2x=>k_extra "my get");(case L2x=>exact News.fresh (by assumption) (by k_mem));(case M2x=>with_reducible assumption);(case J2x=>k_extra "my few"));intro h8 tk8 xs8 c8 kb8 g8 hs8;obtain ⟨F9,N9⟩:=FN1 (by assumption) (by assumption) (by k_upd) kb8 g8;(try k_sweep);(revert h8 tk8 xs8 c8 kb8 g8 hs8 F9 N9;intro _ _ _ _ _ _ _ _ _)))
 k_with "c138" => ((have:=g24;clear this);(k_here;k_dflt (refine' noterec_ct ⟨by assumption,by assumption⟩ ?B2y ?A2y ?D2y ?E2y ?F2y ?C2y ?_;(case B2y=>k_extra "my stays");(case A2y=>k_extra "my rm");(case D2y=>k_extra "my get");(case E2y=>exact News.fresh (by assumption) (by k_mem));(case F2y=>with_reducible assumption);(case C2y=>k_extra "my few"));intro h8 tk8 xs8 c8 kb8 g8 hs8;obtain ⟨F9,N9⟩:=FN1 (by assumption) (by assumption) (by k_upd) kb8 g8;(try k_sweep);(revert h8 tk8 xs8 c8 kb8 g8 hs8 F9 N9;intro _ _ _ _ _ _ _ _ _)))
 k_with "my pass" => (((with_reducible show wpAny _ _ (leaving _ _) _ _ _);refine pass_out (D:=[]) (by assumption) rfl (show ScopeKind.function≠ScopeKind.module from by decide) (by assumption) (by assumption) (by assumption) (fun _ h=>nomatch h) (by assumption) ?_))
 k_with "my passD" => (((with_reducible show wpAny _ _ (leaving _ _) _ _ _);refine' pass_out ?A30 ?B30 ?C30 ?D30 ?E30 ?F30 ?G30 ?H30 ?_;(case H30=>assumption);(case A30=>assumption);(case B30=>exact rfl);(case C30=>exact (show ScopeKind.function≠ScopeKind.module from by decide));(case D30=>assumption);(case E30=>assumption);(case F30=>assumption);(case G30=>exact fnews (by assumption) (fun d hd=>by rw [mS hd];exact ⟨_,by k_mem⟩))))
 exact True.intro
section
variable {Q:Value->Shared->Prop} {b₀:Heap}
def one9 (nu nv:Nat) (eu ev:Option (List Int)):Prop:=(eu.isSome∧ev=none∧nu=1∧1<nv)∨(ev.isSome∧eu=none∧nv=1∧1<nu)
instance (nu nv:Nat) (eu ev:Option (List Int)):Decidable (one9 nu nv eu ev):=inferInstanceAs (Decidable (_∨_))
noncomputable def notes9 (nu nv:Nat) (eu ev:Option (List Int)):List Str :=
 (if one9 nu nv eu ev then [noteOne] else [])++if 0<(nu:Int)∧0<(nv:Int)∧(max (nu:Int) nv).fmod (min (nu:Int) nv)≠0 then [noteRec] else []
theorem clen_ct {u v nt:Addr} {du dv:Vd} {eu ev:Option (List Int)} {outer:List Env} {xs:List Value} {ts:List Str} {c:Nat} {B:Heap} (G:Gd w mean mg mb b₀) (hb:b₀.StaysIn s.heap) (R:Rm A 11) (hfr:A.frames=some outer) (hO:OutF b₀ outer) (hB:B.StaysIn b₀) (hU:VM w (hm B) u du) (hV:VM w (hm B) v dv)
   (hu:DimIs du eu) (hv:DimIs dv ev) (hlu:du.items.length≤1000) (hlv:dv.items.length≤1000)
   (hn:s.heap.get? nt=some (listOf (List.toArray xs) c)) (hn0:b₀.get? nt=none) (hs:StrsAre xs ts) (hl:ts.length≤50)
   (hQ:∀ h' tk t xs' c' o,rdim du.items.length dv.items.length eu ev = .ok o->KB [nt] s.heap h'->h'.get? nt=some (listOf (List.toArray xs') c')->StrsAre xs' (ts++notes9 du.items.length dv.items.length eu ev)->Q (.int (rc du.items.length dv.items.length) t) {s with heap:=h',toks:=tk})
   (hE:∀ h' tk e msg,rdim du.items.length dv.items.length eu ev = .error msg->Thrown w.params outer (hideAll s.heap [nt]) h' e msg->E (.ref e) {s with heap:=h',toks:=tk}) :
   wpAny (model PG w) A (call (.ref 166) [.ref u,.ref v,.ref nt]) Q E s:=by
 k_extra "s"
 have hl1:=StrsLen hs
 refine enter [(nt,listOf xs.toArray c)] G hb (fun p hp=>by cases hp with | head=>exact ⟨hn,hn0⟩ | tail _ h=>cases h) (by k_dflt k_is) (by k_dflt k_is) (by have:=R.d;omega) (binds:=[("u",.ref u),("v",.ref v),("notes",.ref nt)]) (BindsTo.of_eq rfl) (locs rfl) ?_
 intro b L h₁ F N X T hst hkb hK hlt
 have hU:=hU.stays (st2 hB hst)
 have hV:=hV.stays (st2 hB hst)
 have hOb:=hO.keeps hst
 (try dsimp only)
 have hO1:OutF (hideAll s.heap [nt]) outer:=hO.keeps (hide_stays hb fun d hd=>by rw [mS hd];exact hn0)
 have hs1:∀ a o,(hideAll s.heap [nt]).get? a=some o->b.get? a=some o:=hide_sub hkb
 k_steps
 all_goals first
   | (k_extra "my pass";intro h9 T9;exact hE _ _ _ _ (by assumption) T9)
   | (with_reducible rename rdim _ _ _ _=_=>hr9
      subst_vars
      exact hQ _ _ _ _ _ _ hr9 (hK _ _ (by assumption)) (News.get (by assumption) (by k_mem)) (by unfold notes9 one9;rw [← List.append_assoc];assumption))
   | trace "OTHER"
 k_extra "f"
end
end
section
section
variable {Q:Value->Shared->Prop}
theorem null_ct (G:Gd w mean mg mb s.heap) (R:Rm A 4)
   (hQ:∀ h' tk u dx tk1 ta kt,KB [] s.heap h'->s.heap.get? u=none->s.heap.get? dx=none->u≠dx->h'.get? u=some (instObj 84 dx)->h'.get? dx=some (dictOf (nullEnts w.params tk1 ta kt) 2)->Q (.ref u) {s with heap:=h',toks:=tk}) :
   wpAny (model PG w) A (call (.ref 84) []) Q E s:=by
 k_extra "s"
 obtain ⟨hh,g,d,t,os⟩:=s
 dsimp only at G hQ
 refine wpAny_call (make_core (makes_of G.K (by kernel_rfl!)) (looks_findIn G.K (r:=some (.ref 81)) (by kernel_rfl!)) (fun self=>bind_fn G.K self (by kernel_rfl!)) (.inl rfl) ?_)
 have R2:Rm _ 3:=Rm.make (C:=84) (vals:=[]) (kw:=[]) R
 have kb:∀ a o,hh.get? a=some o->((hh.push emptyDict).push (instObj 84 hh.objs.size)).get? a=some o:=fun b o e=>Heap.get?_push_of_some _ (Heap.get?_push_of_some _ e)
 have nu:hh.get? (hh.objs.size+1)=none:=Heap.get?_none_of_le (Nat.le_succ _)
 have nd:hh.get? hh.objs.size=none:=Heap.get?_none_of_le (Nat.le_refl _)
 have gu:((hh.push emptyDict).push (instObj 84 hh.objs.size)).get? (hh.objs.size+1)=some (instObj 84 hh.objs.size):=by heap_get
 have gd:((hh.push emptyDict).push (instObj 84 hh.objs.size)).get? hh.objs.size=some emptyDict:=by heap_get
 have nud:hh.objs.size+1≠hh.objs.size:=Nat.succ_ne_self _
 generalize (hh.push emptyDict).push (instObj 84 hh.objs.size)=h1 at *
 generalize hh.objs.size+1=u at *
 generalize hh.objs.size=dx at *
 refine enterK [(u,instObj 84 dx),(dx,dictOf [] 0)] G (b₀:=hh) kb (fun p hp=>?_) (by k_dflt k_is) (by k_dflt k_is) (by have:=R2.d;omega) (binds:=[("self",.ref u)]) (BindsTo.of_eq rfl) (locs rfl) ?_
 . cases hp with
   | head=>exact ⟨gu,nu⟩
   | tail _ h=>rw [mS h];exact ⟨gd,nd⟩
 intro b L h₁ F N X T hst hkb hK hlt
 (try dsimp only)
 k_steps
 refine ⟨rfl,hQ _ _ u dx _ _ _ (fun a o _ e=>hK _ _ (by assumption) a o ?_ (kb _ _ e)) nu nd nud (News.get (by assumption) (.head _)) (News.get (by assumption) (.tail _ (.head _)))⟩
 intro z
 rcases mC z with z | z
 . rw [show a=u from z,nu] at e;cases e
 . rw [show a=dx from mS z,nd] at e;cases e
 k_extra "f"
theorem vec_ct {kv iv:Value} (G:Gd w mean mg mb s.heap) (R:Rm A 4)
   (hQ:∀ h' tk u dx tk1 ti ta ts tl,KB [] s.heap h'->s.heap.get? u=none->s.heap.get? dx=none->u≠dx->h'.get? u=some (instObj 113 dx)->h'.get? dx=some (dictOf (vEnts w.params tk1 ti ta ts tl kv iv .none) 5)->Q (.ref u) {s with heap:=h',toks:=tk}) :
   wpAny (model PG w) A (call (.ref 113) [kv,iv]) Q E s:=by
 k_extra "s"
 obtain ⟨hh,g,d,t,os⟩:=s
 dsimp only at G hQ
 refine wpAny_call (make_core (makes_of G.K (by kernel_rfl!)) (looks_findIn G.K (r:=some (.ref 103)) (by kernel_rfl!)) (fun self=>bind_fn G.K self (by kernel_rfl!)) (.inl rfl) ?_)
 have R2:Rm _ 3:=Rm.make (C:=113) (vals:=[kv,iv]) (kw:=[]) R
 have kb:∀ a o,hh.get? a=some o->((hh.push emptyDict).push (instObj 113 hh.objs.size)).get? a=some o:=fun b o e=>Heap.get?_push_of_some _ (Heap.get?_push_of_some _ e)
 have nu:hh.get? (hh.objs.size+1)=none:=Heap.get?_none_of_le (Nat.le_succ _)
 have nd:hh.get? hh.objs.size=none:=Heap.get?_none_of_le (Nat.le_refl _)
 have gu:((hh.push emptyDict).push (instObj 113 hh.objs.size)).get? (hh.objs.size+1)=some (instObj 113 hh.objs.size):=by heap_get
 have gd:((hh.push emptyDict).push (instObj 113 hh.objs.size)).get? hh.objs.size=some emptyDict:=by heap_get
 have nud:hh.objs.size+1≠hh.objs.size:=Nat.succ_ne_self _
 generalize (hh.push emptyDict).push (instObj 113 hh.objs.size)=h1 at *
 generalize hh.objs.size+1=u at *
 generalize hh.objs.size=dx at *
 have h96:h1.get? 96=some (Obj.mk (Value.type "tuple") none (Data.seq #[Value.none]) #[]):=kb _ _ (G.K 96 _ (by k_dflt k_is))
 refine enterK [(u,instObj 113 dx),(dx,dictOf [] 0)] G (b₀:=hh) kb (fun p hp=>?_) (by k_dflt k_is) (by k_dflt k_is) (by have:=R2.d;omega) (binds:=[("self",.ref u),("kind",kv),("items",iv),("attrs",.none)]) (BindsTo.of_defaults rfl h96 rfl rfl rfl) (locs rfl) ?_
 . cases hp with
   | head=>exact ⟨gu,nu⟩
   | tail _ h=>rw [mS h];exact ⟨gd,nd⟩
 intro b L h₁ F N X T hst hkb hK hlt
 (try dsimp only)
 k_steps
 refine ⟨rfl,hQ _ _ u dx _ _ _ _ _ (fun a o _ e=>hK _ _ (by assumption) a o ?_ (kb _ _ e)) nu nd nud (News.get (by assumption) (.head _)) (News.get (by assumption) (.tail _ (.head _)))⟩
 intro z
 rcases mC z with z | z
 . rw [show a=u from z,nu] at e;cases e
 . rw [show a=dx from mS z,nd] at e;cases e
 k_extra "f"
end
end
section
theorem kw114:True:=by
 k_with "my outf" => (first | assumption | exact outf_up (by assumption) (by assumption) rfl (show ScopeKind.function≠ScopeKind.module from by decide))
 k_with "my frs" => (first | assumption | exact frames_up (by assumption))
 k_with "my few" => (first | assumption | omega | exact Nat.le_of_ble_eq_true rfl | (have z9:=strs_le (by assumption);omega) | (have z9:=StrsLen (by assumption);omega))
 exact True.intro
theorem G26.g26:True:=True.intro
open G26
theorem kw119:True:=by
 k_with "c152" => ((have:=g26;clear this);(k_here;k_dflt (refine' rdim_ct ?H35 ?I35 ?J35 ?K35 ?G35 ?A35 ?B35 ?C35 ?D35 ?E35 ?F35 ?_ ?_ ?_;(case H35=>k_extra "my gd");(case I35=>k_extra "my rm");(case J35=>k_extra "my frs");(case K35=>k_extra "my outf");(case A35=>k_extra "my vm");(case B35=>k_extra "my vm");(case G35=>k_extra "my stays");(case C35=>with_reducible assumption);(case D35=>with_reducible assumption);(case E35=>k_extra "my len");(case F35=>k_extra "my len"));(all_goals intros);(all_goals first | (with_reducible rename Thrown _ _ _ _ _ _=>T9;(try dsimp only at T9);(try dsimp only);(revert T9;intro _)) | ((fail_if_success (fail_if_success (with_reducible rename IntsAre _ _=>i9)));k_extra "my new1") | k_extra "my kb0")))
 k_with "c159" => ((have:=g26;clear this);(k_here;k_dflt (refine' noteone_ct ⟨by assumption,by assumption⟩ ?I37 ?H37 ?G37 ?A37 ?B37 ?C37 ?D37 ?E37 ?F37 ?K37 ?L37 ?M37 ?J37 ?_;(case I37=>k_extra "my stays");(case H37=>k_extra "my rm");(case G37=>exact fun _ _ e=>e);(case A37=>k_extra "my vm");(case B37=>k_extra "my vm");(case C37=>with_reducible assumption);(case D37=>with_reducible assumption);(case E37=>k_extra "my len");(case F37=>k_extra "my len");(case K37=>k_extra "my get");(case L37=>exact News.fresh (by assumption) (by k_mem));(case M37=>with_reducible assumption);(case J37=>k_extra "my few"));intro h8 tk8 xs8 c8 kb8 g8 hs8;obtain ⟨F9,N9⟩:=FN1 (by assumption) (by assumption) (by k_upd) kb8 g8;(try k_sweep);(revert h8 tk8 xs8 c8 kb8 g8 hs8 F9 N9;intro _ _ _ _ _ _ _ _ _)))
 k_with "c138" => ((have:=g26;clear this);(k_here;k_dflt (refine' noterec_ct ⟨by assumption,by assumption⟩ ?B38 ?A38 ?D38 ?E38 ?F38 ?C38 ?_;(case B38=>k_extra "my stays");(case A38=>k_extra "my rm");(case D38=>k_extra "my get");(case E38=>exact News.fresh (by assumption) (by k_mem));(case F38=>with_reducible assumption);(case C38=>k_extra "my few"));intro h8 tk8 xs8 c8 kb8 g8 hs8;obtain ⟨F9,N9⟩:=FN1 (by assumption) (by assumption) (by k_upd) kb8 g8;(try k_sweep);(revert h8 tk8 xs8 c8 kb8 g8 hs8 F9 N9;intro _ _ _ _ _ _ _ _ _)))
 k_with "my pass" => (((with_reducible show wpAny _ _ (leaving _ _) _ _ _);refine pass_out (D:=[]) (by assumption) rfl (show ScopeKind.function≠ScopeKind.module from by decide) (by assumption) (by assumption) (by assumption) (fun _ h=>nomatch h) (by assumption) ?_))
 k_with "my passD" => (((with_reducible show wpAny _ _ (leaving _ _) _ _ _);refine' pass_out ?A3a ?B3a ?C3a ?D3a ?E3a ?F3a ?G3a ?H3a ?_;(case H3a=>assumption);(case A3a=>assumption);(case B3a=>exact rfl);(case C3a=>exact (show ScopeKind.function≠ScopeKind.module from by decide));(case D3a=>assumption);(case E3a=>assumption);(case F3a=>assumption);(case G3a=>exact fnews (by assumption) (fun d hd=>by rw [mS hd];exact ⟨_,by k_mem⟩))))
 exact True.intro
section
theorem G27.g27:True:=True.intro
open G27
theorem kw122:True:=by
 k_with "c113" => ((have:=g27;clear this);(k_here;k_dflt (refine' vec_ct ?A3c ?B3c ?_;(case A3c=>k_extra "my gd");(case B3c=>k_extra "my rm"));intro h8 tk8 u8 d8 t1 t2 t3 t4 t5 kb8 nu8 nd8 ne8 gu8 gd8;obtain ⟨F9,N9,l8,l9⟩:=more2 kb8 nu8 nd8 gu8 gd8 (by assumption) (by assumption);clear kb8 nu8 nd8 gu8 gd8;(try simp only [AllNe,and_true] at l8 l9);(try k_sweep);(try dsimp only);(first | (revert h8 tk8 u8 d8 t1 t2 t3 t4 t5 ne8 F9 N9 l8 l9;intro _ _ _ _ _ _ _ _ _ _ _ _ _ _) | (revert h8 tk8 u8 d8 t1 t2 t3 t4 t5 ne8 F9 N9 l9;intro _ _ _ _ _ _ _ _ _ _ _ _ _) | (revert h8 tk8 u8 d8 t1 t2 t3 t4 t5 ne8 F9 N9 l8;intro _ _ _ _ _ _ _ _ _ _ _ _ _) | (revert h8 tk8 u8 d8 t1 t2 t3 t4 t5 ne8 F9 N9;intro _ _ _ _ _ _ _ _ _ _ _ _))))
 k_with "!call type:dict" => ((have:=g27;clear this);(k_here;(with_reducible show wpAny _ _ (call (Value.type "dict") [Value.ref _]) _ _ _);k_dflt (refine' dcopy ?A3d ?B3d ?C3d ?D3d ?E3d ?F3d ?G3d ?_;(case A3d=>assumption);(case B3d=>assumption);(case C3d=>exact Top.nolimit (by assumption));(case D3d=>assumption);(case E3d=>with_reducible assumption);(case F3d=>assumption);(case G3d=>k_extra "my few"));intro d8 h8 o8 F8 N8 l8 lo8 hd8;(try simp only [AllNe,and_true] at l8);(try k_sweep);(try dsimp only);(first | (revert d8 h8 o8 F8 N8 l8 lo8 hd8;intro _ _ _ _ _ _ _ _) | (revert d8 h8 o8 F8 N8 lo8 hd8;intro _ _ _ _ _ _ _))))
 exact True.intro
section
section
variable {Q:Value->Shared->Prop} {b₀:Heap}
theorem KB.mono2 {r:Addr} {o:Obj} {D:List Addr} {h h':Heap} (x:KB (r::D) h h') (g:h.get? r=some o) (g':h'.get? r=some o):KB D h h':=fun a oa n e=>by
 by_cases q:a=r
 . subst q;rw [g] at e;cases e;exact g'
 . exact x a oa (fun z=>(mC z).elim q n) e
theorem keepall_ct {v r dx ia:Addr} {dv:Vd} {tk ti ta ts tl kt:Tok} {k:Str} {B:Heap} (G:Gd w mean mg mb b₀) (hb:b₀.StaysIn s.heap) (R:Rm A 6) (hB:B.StaysIn b₀) (hV:VM w (hm B) v dv) (hl:dv.ats.length≤10)
   (gr:s.heap.get? r=some (instObj 113 dx)) (gd:s.heap.get? dx=some (dictOf (vEnts w.params tk ti ta ts tl (.str k kt) (.ref ia) .none) 5)) (nr:b₀.get? r=none) (nd:b₀.get? dx=none)
   (hQ:∀ h' tk' av nw,KB [dx] s.heap h'->h'.get? dx=some (dictOf (vEnts w.params tk ti ta ts tl (.str k kt) (.ref ia) av) 5)->nw.length≤4->Fresh s.heap h' nw->AtAt w (H4 B nw) av dv.ats->Q (.ref r) {s with heap:=h',toks:=tk'}) :
   wpAny (model PG w) A (call (.ref 187) [.ref v,.ref r]) Q E s:=by
 k_extra "s"
 have hrd:r≠dx:=fun e=>by rw [e,gd] at gr;cases gr
 refine enter [(r,instObj 113 dx),(dx,dictOf (vEnts w.params tk ti ta ts tl (.str k kt) (.ref ia) .none) 5)] G hb (fun p hp=>?_) (by k_dflt k_is) (by k_dflt k_is) (by have:=R.d;omega) (binds:=[("v",.ref v),("result",.ref r)]) (BindsTo.of_eq rfl) (locs rfl) ?_
 . cases hp with
   | head=>exact ⟨gr,nr⟩
   | tail _ h=>rw [mS h];exact ⟨gd,nd⟩
 intro b L h₁ F N X T hst hkb hK hlt
 have hst2:=st2 hB hst
 unfold vEnts at N
 (try dsimp only)
 cases hV with
 | null h1 h2 =>
   have hI:InstAt b v _ _ _:=instOf (hst2 _ _ h1) (hst2 _ _ h2)
   k_steps
   exact hQ _ _ _ [] ((hK _ _ (by assumption)).mono2 gr (News.get (by assumption) (.head _))) (News.get (by assumption) (.tail _ (.head _))) (Nat.zero_le _) .nil .none
 | vec h0 h1 h2 =>
   obtain ⟨tk,ti,ta,ts,tl,kt,n,vs,c,h1,h2',h3,h4⟩:=h1.ex
   have hI:InstAt b v _ _ _:=instOf (hst2 _ _ h1) (hst2 _ _ h2')
   cases h2 with
   | none =>
     k_steps
     exact hQ _ _ _ [] ((hK _ _ (by assumption)).mono2 gr (News.get (by assumption) (.head _))) (News.get (by assumption) (.tail _ (.head _))) (Nat.zero_le _) .nil .none
   | some e1 e2 e3 e4 e5 =>
     have e1':=hst2 _ _ e1
     have hlk:=e4.length
     dsimp only at hl
     k_steps
     rename_i d8 h8 o8 lo8 hd8 l8 h9 F9 N9
     exact hQ _ _ _ [(d8,o8)] ((hK _ _ F9).mono2 gr (N9.get (by k_mem))) (N9.get (by k_mem)) (Nat.le_of_ble_eq_true rfl) (.cons (N9.get (by k_mem)) (news_new2 N9 hkb (by k_mem) (nmem2 l8.1 l8.2)) .nil)
       (.some (.inl (.head _)) hd8 lo8 (e4.mono fun a o q => .inr q) e5)
 k_extra "f"
end
end
section
theorem G29.g29:True:=True.intro
open G29
theorem kw133:True:=by
 k_with "!setItem ref str" => ((have:=g29;clear this);(k_here;k_dflt (refine' dset ?A3f ?B3f ?C3f ?D3f ?E3f ?_;(case A3f=>k_asm);(case B3f=>k_asm);(case C3f=>k_updF);(case D3f=>with_reducible assumption);(case E3f=>k_extra "my few"));intro h' o' F' N' hd';(try dsimp only at N');(try k_sweep);(revert h' o' F' N' hd';intro _ _ _ _ _)))
 k_with "!truthy ref" => ((k_here;k_dflt (refine' dtruthy ?A3g ?D3g ?B3g ?C3g ?E3g ?_;(case A3g=>k_asm);(case D3g=>k_mem);(case B3g=>with_reducible assumption);(case C3g=>with_reducible assumption);(case E3g=>k_extra "my few"))))
 k_with "!exec For Name Name cons nil" => ((k_here;k_dflt (refine For_b (by assumption) (by rfl) (by rfl) ?_)))
 k_with "!exec For Name Tuple cons nil" => ((k_here;k_dflt (refine For_b (by assumption) (by rfl) (by rfl) ?_)))
 k_with "!exec For Name Call cons nil" => ((k_here;k_dflt (refine For_b (by assumption) (by rfl) (by rfl) ?_)))
 k_with "!exec For Name List cons nil" => ((k_here;k_dflt (refine For_b (by assumption) (by rfl) (by rfl) ?_)))
 k_with "!exec For Name Attribute cons nil" => ((k_here;k_dflt (refine For_b (by assumption) (by rfl) (by rfl) ?_)))
 k_with "!exec For Name Subscript cons nil" => ((k_here;k_dflt (refine For_b (by assumption) (by rfl) (by rfl) ?_)))
 k_with "!exec For Name BinOp cons nil" => ((k_here;k_dflt (refine For_b (by assumption) (by rfl) (by rfl) ?_)))
 k_with "!eval ListComp" => ((k_here;k_dflt (refine LCg.ListComp_U (F₀:=by k_asm) (by with_unfolding_all rfl) (by decide) (by rfl) (by decide) (by rfl) ?_)))
 exact True.intro
section
theorem rdim_none {w:World} {A:Around} {E:Value->Shared->Prop} {s:Shared} {mean:ExcName->Option Value} {mg mb:Str->Option Value} {Q:Value->Shared->Prop} {u v:Addr} {du dv:Vd} {eu ev:Option (List Int)} {outer:List Env} {B:Heap} (hr:rdim du.items.length dv.items.length eu ev = .ok none) (G:Gd w mean mg mb s.heap) (R:Rm A 9) (hfr:A.frames=some outer) (hO:OutF s.heap outer) (hB:B.StaysIn s.heap) (hU:VM w (hm B) u du) (hV:VM w (hm B) v dv)
   (hu:DimIs du eu) (hv:DimIs dv ev) (hlu:du.items.length≤1000) (hlv:dv.items.length≤1000)
   (hQ0:∀ h' tk,KB [] s.heap h'->Q .none {s with heap:=h',toks:=tk}):wpAny (model PG w) A (call (.ref 152) [.ref u,.ref v]) Q E s :=
 rdim_ct G R hfr hO hB hU hV hu hv hlu hlv (fun h' tk _ k=>hQ0 h' tk k) (fun h' tk ds r vs c e=>by rw [hr] at e;cases e) (fun h' tk e msg z=>by rw [hr] at z;cases z)
theorem rdim_some {w:World} {A:Around} {E:Value->Shared->Prop} {s:Shared} {mean:ExcName->Option Value} {mg mb:Str->Option Value} {Q:Value->Shared->Prop} {u v:Addr} {du dv:Vd} {eu ev:Option (List Int)} {ds:List Int} {outer:List Env} {B:Heap} (hr:rdim du.items.length dv.items.length eu ev = .ok (some ds)) (G:Gd w mean mg mb s.heap) (R:Rm A 9) (hfr:A.frames=some outer) (hO:OutF s.heap outer) (hB:B.StaysIn s.heap) (hU:VM w (hm B) u du) (hV:VM w (hm B) v dv)
   (hu:DimIs du eu) (hv:DimIs dv ev) (hlu:du.items.length≤1000) (hlv:dv.items.length≤1000)
   (hQ1:∀ h' tk r vs c,KB [] s.heap h'->h'.get? r=some (listOf (List.toArray vs) c)->s.heap.get? r=none->IntsAre vs ds->vs.length=ds.length->Q (.ref r) {s with heap:=h',toks:=tk}):wpAny (model PG w) A (call (.ref 152) [.ref u,.ref v]) Q E s :=
 rdim_ct G R hfr hO hB hU hV hu hv hlu hlv (fun h' tk e=>by rw [hr] at e;cases e) (fun h' tk ds' r vs c e k1 k2 k3 k4=>by rw [hr] at e;cases e;exact hQ1 h' tk r vs c k1 k2 k3 k4 k4.length) (fun h' tk e msg z=>by rw [hr] at z;cases z)
theorem G30.g30:True:=True.intro
open G30
theorem kw136:True:=by
 k_with "c152" => ((have:=g30;clear this);(k_here;k_dflt (refine' rdim_some ?A3q ?I3q ?J3q ?K3q ?L3q ?H3q ?B3q ?C3q ?D3q ?E3q ?F3q ?G3q ?_;(case A3q=>with_reducible assumption);(case I3q=>k_extra "my gd");(case J3q=>k_extra "my rm");(case K3q=>k_extra "my frs");(case L3q=>k_extra "my outf");(case B3q=>k_extra "my vm");(case C3q=>k_extra "my vm");(case H3q=>k_extra "my stays");(case D3q=>with_reducible assumption);(case E3q=>with_reducible assumption);(case F3q=>k_extra "my len");(case G3q=>k_extra "my len"));intros;k_extra "my new1"))
 k_with "c152" => ((k_here;k_dflt (refine' rdim_none ?A3r ?I3r ?J3r ?K3r ?L3r ?H3r ?B3r ?C3r ?D3r ?E3r ?F3r ?G3r ?_;(case A3r=>with_reducible assumption);(case I3r=>k_extra "my gd");(case J3r=>k_extra "my rm");(case K3r=>k_extra "my frs");(case L3r=>k_extra "my outf");(case B3r=>k_extra "my vm");(case C3r=>k_extra "my vm");(case H3r=>k_extra "my stays");(case D3r=>with_reducible assumption);(case E3r=>with_reducible assumption);(case F3r=>k_extra "my len");(case G3r=>k_extra "my len"));k_extra "my kb0"))
 exact True.intro
section
variable {Q:Value->Shared->Prop} {b₀:Heap}
def namesOf (d:Vd) (e:Option (List Int)) (n:Nat):Option (Str×List PyData):=if d.items.length=n∧e=none then attOf d.ats "names" else none
noncomputable def shNames (u v:Vd) (eu ev:Option (List Int)) (n:Nat):Nat->Option (Str×List PyData)
 | 0=>none
 | 1=>(namesOf v ev n).or none
 | _=>(namesOf u eu n).or ((namesOf v ev n).or none)
def namesAts:Option (Str×List PyData)->List Att
 | some (k,its)=>[("names",k,its)]
 | none=>[]
noncomputable def shAts (u v:Vd) (eu ev:Option (List Int)) (n:Nat):Option (List Int)->List Att
 | some ds=>[("dim","integer",ds.map .int)]
 | none=>namesAts (shNames u v eu ev n 2)
inductive NamesAt (P:Params) (H:HM):List (Str×Value)->Option (Str×List PyData)->Prop
 | none:NamesAt P H [] none
 | some {a dx ia:Addr} {k:Str} {its:List PyData}:VAt P H a dx ia k .none its->NamesAt P H [("names",.ref a)] (Option.some (k,its))
theorem NamesAt.len {P:Params} {H:HM} {kvs:List (Str×Value)} {x:Option (Str×List PyData)} (n:NamesAt P H kvs x):kvs.length≤1:=by cases n<;>simp
theorem NamesAt.put {P:Params} {H:HM} {kvs:List (Str×Value)} {x:Option (Str×List PyData)} {a dx ia:Addr} {k:Str} {its:List PyData} (n:NamesAt P H kvs x) (v:VAt P H a dx ia k .none its):NamesAt P H (stored kvs "names" (.ref a)) (Option.some (k,its)):=by
 k_extra "s"
 cases n with
 | none=>exact .some v
 | some _ =>
   have e:∀ r:Value,stored [(Str.ofString "names",r)] (Str.ofString "names") (.ref a)=[((Str.ofString "names"),Value.ref a)]:=fun r=>by simp [stored]
   rw [e];exact .some v
 k_extra "f"
theorem NamesAt.ats {P:Params} {H:HM} {kvs:List (Str×Value)} {x:Option (Str×List PyData)} (n:NamesAt P H kvs x):AtsM P H kvs (namesAts x):=by
 cases n with
 | none=>exact .nil
 | some v=>exact .cons v .nil
theorem namesOf_none {d:Vd} {e:Option (List Int)} {n:Nat} (h:attOf d.ats "names" = none):namesOf d e n=none:=by unfold namesOf;split<;>first | assumption | rfl
theorem namesOf_ne {d:Vd} {e:Option (List Int)} {n:Nat} (h:d.items.length≠n):namesOf d e n=none:=by unfold namesOf;rw [if_neg fun z=>h z.1]
theorem namesOf_dim {d:Vd} {ds:List Int} {n:Nat}:namesOf d (some ds) n=none:=by unfold namesOf;rw [if_neg fun z=>by cases z.2]
theorem namesOf_some {d:Vd} {n:Nat} {x:Option (Str×List PyData)} (h:d.items.length=n) (e:attOf d.ats "names" = x):namesOf d none n=x:=by unfold namesOf;rw [if_pos ⟨h,rfl⟩];exact e
theorem vmr {w:World} {b h:Heap} {L r dx ia:Addr} {m:Str->Option Value} {news:List (Addr×Obj)} {tk ti ta ts tl kt:Tok} {k:Str} {its:List PyData} {vs:List Value} {c:Nat} (F:Fr b L h m) (N:News b L h news) (m1:(r,instObj 113 dx)∈news) (m2:(dx,dictOf (vEnts w.params tk ti ta ts tl (.str k kt) (.ref ia) .none) 5)∈news)
   (gi:b.get? ia=some (listOf (List.toArray vs) c)) (hi:ItsM (hm b) vs its) (hk:k ≠ "NULL"):VM w (hm h) r ⟨k,its,[]⟩ :=
 .vec (dx:=dx) (ia:=ia) (av := .none) hk ⟨_,_,_,_,_,_,_,_,_,N.get m1,N.get m2,F.keep _ _ gi,hi.mono fun a o q=>F.keep _ _ q⟩ .none
theorem kw138:True:=by
 k_with "my vm" => (first | with_reducible assumption | k_dflt (exact vmr (by assumption) (by assumption) (by k_mem) (by k_mem) (by assumption) (by assumption) (by assumption)))
 exact True.intro
theorem allNe_all {I:Nat}:∀ {news:List (Addr×Obj)},(∀ p∈news,p.1≠I)->AllNe I news
 | [],_=>True.intro
 | _::_,h=>And.intro (h _ (.head _)) (allNe_all fun p hp=>h p (.tail _ hp))
theorem allNe_back {I:Nat}:∀ {news:List (Addr×Obj)},AllNe I news->∀ p∈news,p.1≠I:=by
 k_extra "s"
 intro news h
 induction news with
 | nil=>intro p hp;cases hp
 | cons x l ih =>
   intro p hp
   rcases mC hp with rfl | hp
   . exact h.1
   . exact ih h.2 p hp
 k_extra "f"
theorem drop1 {b h:Heap} {L:Addr} {x:Addr×Obj} {l:List (Addr×Obj)} (N:News b L h (x::l)):News b L h l:=fun p hp=>N p (.tail _ hp)
theorem rdim_le {nu nv:Nat} {du dv:Vd} {eu ev:Option (List Int)} {ds:List Int} (hu:DimIs du eu) (hv:DimIs dv ev) (h:rdim nu nv eu ev = .ok (some ds)):ds.length≤2:=by
 k_extra "s"
 have one:∀ {d:Vd} {a:List Int} {n m:Nat},DimIs d (some a)->rdim1 a n m = .ok (some ds)->ds.length≤2:=fun {d a n m} hd e=>by
   unfold rdim1 at e
   split at e
   . cases e
   . split at e
     . cases e;exact hd.2.1
     . cases e
 cases eu with
 | none=>cases ev with
   | none=>cases h
   | some b=>exact one hv h
 | some a=>cases ev with
   | none=>exact one hu h
   | some b =>
     have h:(if a=b then Except.ok (some a) else Except.error msgNC)=Except.ok (some ds):=h
     split at h
     . cases h;exact hu.2.1
     . cases h
 k_extra "f"
theorem attribute_none {w:World} {A:Around} {E:Value->Shared->Prop} {s:Shared} {mean:ExcName->Option Value} {mg mb:Str->Option Value} {Q:Value->Shared->Prop} {u:Addr} {v:Vd} {n:Str} {tn:Tok} (hx:attOf v.ats n=none) (G:Gd w mean mg mb s.heap) (R:Rm A 4) {B:Heap} (hB:B.StaysIn s.heap) (hV:VM w (hm B) u v)
   (hQ:∀ h' tk,KB [] s.heap h'->Q .none {s with heap:=h',toks:=tk}):wpAny (model PG w) A (call (.ref 173) [.ref u,.str n tn]) Q E s :=
 attribute_ct G R hB hV fun h' tk r k z=>by rw [hx] at z;cases z;exact hQ h' tk k
theorem kw140:True:=by
 k_with "c173" => ((k_here;k_dflt (refine' attribute_none ?A3v ?D3v ?E3v ?C3v ?B3v ?_;(case B3v=>k_extra "my vm");(case A3v=>with_reducible assumption);(case D3v=>k_extra "my gd");(case E3v=>k_extra "my rm");(case C3v=>k_extra "my stays"));k_extra "my kb0"))
 exact True.intro
theorem shape_ct {u v r dx ia:Addr} {du dv:Vd} {eu ev o:Option (List Int)} {tk0 ti ta ts tl kt:Tok} {k:Str} {its:List PyData} {vs:List Value} {c:Nat} {outer:List Env} {B:Heap} (G:Gd w mean mg mb b₀) (hb:b₀.StaysIn s.heap) (R:Rm A 12) (hfr:A.frames=some outer) (hO:OutF b₀ outer) (hB:B.StaysIn b₀)
   (hU:VM w (hm B) u du) (hV:VM w (hm B) v dv) (hu:DimIs du eu) (hv:DimIs dv ev) (hlu:du.items.length≤1000) (hlv:dv.items.length≤1000) (hnu:attOf du.ats "dimnames" = none) (hnv:attOf dv.ats "dimnames" = none)
   (hr:rdim du.items.length dv.items.length eu ev = .ok o)
   (gr:s.heap.get? r=some (instObj 113 dx)) (gd:s.heap.get? dx=some (dictOf (vEnts w.params tk0 ti ta ts tl (.str k kt) (.ref ia) .none) 5)) (nr:b₀.get? r=none) (nd:b₀.get? dx=none)
   (gi:s.heap.get? ia=some (listOf (List.toArray vs) c)) (hi:ItsM (hm b₀) vs its) (hk:k ≠ "NULL") (hli:its.length≤1000)
   (hQ:∀ h' tk' av nw,KB [dx] s.heap h'->h'.get? dx=some (dictOf (vEnts w.params tk0 ti ta ts tl (.str k kt) (.ref ia) av) 5)->nw.length≤4->Fresh s.heap h' nw->AtAt w (H4 B nw) av (shAts du dv eu ev its.length o)->Q .none {s with heap:=h',toks:=tk'}) :
   wpAny (model PG w) A (call (.ref 180) [.ref u,.ref v,.ref r]) Q E s:=by
 k_extra "s"
 have hrd:r≠dx:=fun e=>by rw [e,gd] at gr;cases gr
 refine enter [(r,instObj 113 dx),(dx,dictOf (vEnts w.params tk0 ti ta ts tl (.str k kt) (.ref ia) .none) 5)] G hb (fun p hp=>?_) (by k_dflt k_is) (by k_dflt k_is) (by have:=R.d;omega) (binds:=[("u",.ref u),("v",.ref v),("result",.ref r)]) (BindsTo.of_eq rfl) (locs rfl) ?_
 . cases hp with
   | head=>exact ⟨gr,nr⟩
   | tail _ h=>rw [mS h];exact ⟨gd,nd⟩
 intro b L h₁ F N X T hst hkb hK hlt
 have hst2:=st2 hB hst
 have hOb:=hO.keeps hst
 have gib:b.get? ia=some (listOf (List.toArray vs) c):=hkb _ _ (fun z=>by
   rcases mC z with z | z
   . rw [show ia=r from z,gr] at gi;cases gi
   . rw [show ia=dx from mS z,gd] at gi
     have:=congrArg Obj.cls (Option.some.inj gi)
     injection this with e
     exact absurd e (by decide)) gi
 have hib:ItsM (hm b) vs its:=hi.mono hst
 (try dsimp only)
 cases o with
 | none =>
   k_steps
   rename_i d2 h4 o2 lo2 hs2 fs2 hi2 fi2 l2 h3 h2 tk2 h1 D2 hh F2 N2 l3
   refine iterTup (vs:=[.ref v,.ref u]) (fun i m news=>∃ oD kvs vv vh,NamesAt w.params (hm B) kvs (shNames du dv eu ev its.length i)∧oD.IsDictOf (PySem.strKind PG w) kvs ∧
       news=[(D2,{cls := .type "tuple",data := .seq #[.ref v,.ref u]}),(d2,oD),(r,instObj 113 dx),(dx,dictOf (vEnts w.params tk0 ti ta ts tl (.str k kt) (.ref ia) .none) 5)] ∧
       m=fun y=>if y=Str.ofString "heads" then vh else if y=Str.ofString "operand" then vv else if y=Str.ofString "shape" then some Value.none else if y=Str.ofString "found" then some (Value.ref d2)
         else List.lookup y [(Str.ofString "u",Value.ref u),(Str.ofString "v",Value.ref v),(Str.ofString "result",Value.ref r)].reverse) (by k_extra "my hh") ⟨_,N2.get (.head _),rfl,_,rfl⟩ (N2 _ (.head _)).2.1
       (.inr ⟨_,fun i m news z=>by obtain ⟨_,_,_,_,_,_,rfl,_⟩:=z;exact .head _⟩) F2 N2 ?_ ?turn ?done
   . refine ⟨o2,[],none,none,.none,hs2,rfl,?_⟩
     k_extra "my env"
   case turn =>
     rintro I i vi m₁ _ h tk oI hv9 ⟨oD,kvs,vv,vh,hna,hdD,rfl,rfl⟩ hn F N
     have hop:∃ a d e,vi = .ref a∧VM w (hm B) a d∧DimIs d e∧d.items.length≤1000∧shNames du dv eu ev its.length (i+1)=(namesOf d e its.length).or (shNames du dv eu ev its.length i):=by
       match i,hv9 with
       | 0,h=>exact ⟨v,dv,ev,by simpa using h.symm,hV,hv,hlv,rfl⟩
       | 1,h=>exact ⟨u,du,eu,by simpa using h.symm,hU,hu,hlu,rfl⟩
       | i+2,h=>simp at h
     obtain ⟨a,d,e,rfl,hVa,hda,hla,hsn⟩:=hop
     have hkl:=hna.len
     have hn':=allNe_all hn
     simp only [AllNe,and_true] at hn'
     cases e with
     | none =>
       have hxa:attOf d.ats "dim" = none:=hda
       k_steps
       all_goals (try dsimp only at *)
       all_goals first
         | exact TEnd.intro (by assumption) (by assumption) (by assumption) ⟨_,_,_,_,by rw [hsn,namesOf_none (by assumption)];exact hna,hdD,rfl,by k_extra "my env"⟩
         | exact TEnd.intro (by assumption) (by assumption) (by assumption) ⟨_,_,_,_,by rw [hsn,namesOf_ne (by omega)];exact hna,hdD,rfl,by k_extra "my env"⟩
         | (with_reducible rename attOf _ _=some _=>hx9
            exact TEnd.intro (by assumption) (by assumption) (by exact allNe_back ⟨hn'.1,hn'.2.1,hn'.2.2.1,hn'.2.2.2,True.intro⟩) ⟨_,_,_,_,by rw [hsn,namesOf_some (by omega) hx9];exact hna.put (by assumption),by assumption,rfl,by k_extra "my env"⟩)
         | (trace "OTHER";trace_state)
     | some ds =>
       obtain ⟨⟨kd,hxa⟩,hld,hbd,hpd,hpd2⟩:=hda
       k_steps
       all_goals (try dsimp only at *)
       all_goals first
         | exact TEnd.intro (by assumption) (by assumption) (by assumption) ⟨_,_,_,_,by rw [hsn,namesOf_dim];exact hna,hdD,rfl,by k_extra "my env"⟩
         | exact TEnd.intro (by assumption) (drop1 (by assumption)) (by assumption) ⟨_,_,_,_,by rw [hsn,namesOf_dim];exact hna,hdD,rfl,by k_extra "my env"⟩
         | (trace "OTHER";trace_state)
   case done =>
     rintro h' tk' m' _ F' N' ⟨oD,kvs,vv,vh,hna,hdD,rfl,rfl⟩
     have hkl:=hna.len
     have hkl2:=hna.ats
     unfold vEnts at N'
     have hlen:=hkl2.length
     k_steps
     . have e0:namesAts (shNames du dv eu ev its.length 2)=[]:=List.eq_nil_of_length_eq_zero (hlen.symm.trans (by have e2:kvs.isEmpty=true:=(by assumption);rw [List.isEmpty_iff.mp e2];rfl))
       exact hQ _ _ _ [] ((hK _ _ (by assumption)).mono2 gr (News.get (by assumption) (by k_mem))) (News.get (by assumption) (by k_mem)) (Nat.zero_le _) .nil (by show AtAt w _ .none (namesAts _);rw [e0];exact .none)
     . exact hQ _ _ _ [(d2,oD)] ((hK _ _ (by assumption)).mono2 gr (News.get (by assumption) (by k_mem))) (News.get (by assumption) (by k_mem)) (Nat.le_of_ble_eq_true rfl)
         (.cons (News.get (by assumption) (by k_mem)) (news_new2 (by assumption) hkb (by k_mem) (nmem2 (Nat.ne_of_lt l2.1) (Nat.ne_of_lt l2.2))) .nil)
         (.some (.inl (.head _)) hdD lo2 (hkl2.mono fun a o q => .inr q) (fun z=>by
           have e1:kvs.length=0:=hlen.trans (by rw [show namesAts (shNames du dv eu ev its.length [Value.ref v,Value.ref u].length)=[] from z];rfl)
           have e2:kvs.isEmpty=false:=by assumption
           rw [List.eq_nil_of_length_eq_zero e1] at e2;cases e2))
 | some ds =>
   have hds:ds.length≤2:=rdim_le hu hv hr
   k_steps
   rename_i d2 h5 o1 lo2 hs2 fs2 hi2 fi2 l2 h4 h3 tk1 r2 vs2 c2 iv2 hvl l92 h2 tk2 D9 c9 h9 l91 h8 tk8 u8 d8 t1 t2 t3 t4 t5 ne8 l8 l9 h1 o2 hd2 D2 hh F2 N2 l3
   replace hd2:o2.IsDictOf (PySem.strKind PG w) [(Str.ofString "dim",Value.ref u8)]:=hd2
   clear hs2 fs2 hi2 fi2
   refine iterTup (vs:=[.ref v,.ref u]) (fun i m news=>∃ vv vh,
       news=[(D2,{cls := .type "tuple",data := .seq #[.ref v,.ref u]}),(u8,instObj 113 d8),(d8,dictOf (vEnts w.params t1 t2 t3 t4 t5 (.str "integer" tk2) (.ref D9) .none) 5),(D9,listOf vs2.toArray c9),(r2,listOf vs2.toArray c2),(d2,o2),(r,instObj 113 dx),(dx,dictOf (vEnts w.params tk0 ti ta ts tl (.str k kt) (.ref ia) .none) 5)] ∧
       m=fun y=>if y=Str.ofString "heads" then vh else if y=Str.ofString "operand" then vv else if y=Str.ofString "shape" then some (Value.ref r2) else if y=Str.ofString "found" then some (Value.ref d2)
         else List.lookup y [(Str.ofString "u",Value.ref u),(Str.ofString "v",Value.ref v),(Str.ofString "result",Value.ref r)].reverse) (by k_extra "my hh") ⟨_,N2.get (.head _),rfl,_,rfl⟩ (N2 _ (.head _)).2.1
       (.inr ⟨_,fun i m news z=>by obtain ⟨_,_,rfl,_⟩:=z;exact .head _⟩) F2 N2 ?_ ?turn2 ?done2
   . refine ⟨none,none,rfl,?_⟩
     k_extra "my env"
   case turn2 =>
     rintro I i vi m₁ _ h tk oI hv9 ⟨vv,vh,rfl,rfl⟩ hn F N
     have hop:∃ a d,vi = .ref a∧VM w (hm B) a d∧attOf d.ats "dimnames" = none:=by
       match i,hv9 with
       | 0,h=>exact ⟨v,dv,by simpa using h.symm,hV,hnv⟩
       | 1,h=>exact ⟨u,du,by simpa using h.symm,hU,hnu⟩
       | i+2,h=>simp at h
     obtain ⟨a,d,rfl,hVa,hda⟩:=hop
     k_steps
     all_goals (try dsimp only at *)
     all_goals first
       | exact TEnd.intro (by assumption) (by assumption) (by assumption) ⟨_,_,rfl,by k_extra "my env"⟩
       | (trace "OTHER";trace_state)
   case done2 =>
     rintro h' tk' m' _ F' N' ⟨vv,vh,rfl,rfl⟩
     unfold vEnts at N'
     k_steps
     all_goals first
       | exact absurd (show [(Str.ofString "dim",Value.ref u8)].isEmpty=true by assumption) (by simp)
       | exact hQ _ _ _ [(d2,o2),(u8,instObj 113 d8),(d8,dictOf (vEnts w.params t1 t2 t3 t4 t5 (.str "integer" tk2) (.ref D9) .none) 5),(D9,listOf vs2.toArray c9)] ((hK _ _ (by assumption)).mono2 gr (News.get (by assumption) (by k_mem))) (News.get (by assumption) (by k_mem)) (Nat.le_of_ble_eq_true rfl)
           (.cons (News.get (by assumption) (by k_mem)) (news_new2 (by assumption) hkb (by k_mem) (nmem2 (Nat.ne_of_lt l2.1) (Nat.ne_of_lt l2.2)))
             (.cons (News.get (by assumption) (by k_mem)) (news_new2 (by assumption) hkb (by k_mem) (nmem2 l8.2.2.2.1 l8.2.2.2.2))
               (.cons (News.get (by assumption) (by k_mem)) (news_new2 (by assumption) hkb (by k_mem) (nmem2 l9.2.2.2.1 l9.2.2.2.2))
                 (.cons (News.get (by assumption) (by k_mem)) (news_new2 (by assumption) hkb (by k_mem) (nmem2 (Nat.ne_of_lt l91.2.2.1) (Nat.ne_of_lt l91.2.2.2))) .nil))))
           (.some (.inl (.head _)) hd2 lo2 (.cons (dx:=d8) (ia:=D9) ⟨t1,t2,t3,t4,t5,tk2,5,vs2,c9,.inl (.tail _ (.head _)),.inl (mt2 (.head _)),.inl (mt3 (.head _)),ItsM.ofInts iv2⟩ .nil) (by simp [shAts]))
 k_extra "f"
end
end
section
theorem G31.g31:True:=True.intro
open G31
theorem kw142:True:=by
 k_with "c234" => ((have:=g31;clear this);(k_here;k_dflt (refine' titems_ct ?D3x ?E3x ?A3x ?B3x ?C3x ?_;(case A3x=>exact VAt.stays (by with_reducible assumption) (Fr.keep (by assumption)));(case D3x=>k_extra "my gd");(case E3x=>k_extra "my rm");(case B3x=>with_reducible assumption);(case C3x=>k_extra "my len"));intros;k_extra "my new1"))
 exact True.intro
section
section
variable {Q:Value->Shared->Prop} {b₀:Heap}
inductive Numv:Vd->Prop
 | null:Numv ⟨"NULL",[],[]⟩
 | num (k:Kd) {its:List PyData} {ats:List Att}:(∀ d∈its,OkIt k d)->Numv ⟨k.str,its,ats⟩
abbrev msgOp:Str := "operations are possible only for numeric, logical or complex types"
theorem lop_num {v:Addr} {dv:Vd} {B:Heap} (G:Gd w mean mg mb s.heap) (R:Rm A 9) (hB:B.StaysIn s.heap) (hV:VM w (hm B) v dv) (hk:Numv dv) (hl:dv.items.length≤1000)
   (hQ:∀ h' tk r vs c,KB [] s.heap h'->h'.get? r=some (listOf (List.toArray vs) c)->s.heap.get? r=none->TvsV vs (dv.items.map tru)->Q (.ref r) {s with heap:=h',toks:=tk}) :
   wpAny (model PG w) A (call (.ref 241) [.ref v]) Q E s:=by
 k_extra "s"
 refine enter [] G (fun _ _ e=>e) (fun p hp=>nomatch hp) (by k_dflt k_is) (by k_dflt k_is) (by have:=R.d;omega) (binds:=[("v",.ref v)]) (BindsTo.of_eq rfl) (locs rfl) ?_
 intro b L h₁ F N X T hst hkb hK hlt
 have hst2:=st2 hB hst
 (try dsimp only)
 generalize hz:dv=dz at hV
 cases hV with
 | null h1 h2 =>
   subst hz
   have hI:InstAt b v _ _ _:=instOf (hst2 _ _ h1) (hst2 _ _ h2)
   k_steps
   exact hQ _ _ _ [] _ (hK _ _ (by assumption)) (News.get (by assumption) (by k_mem)) (news_new2 (by assumption) hkb (by k_mem) (by simp)) .nil
 | vec h0 h1 h2 =>
   cases hk with
   | null=>cases hz;exact absurd rfl h0
   | num k hok =>
     cases hz
     have hVb:=h1.stays hst2
     obtain ⟨tk,ti,ta,ts,tl,kt,n,vs,c,h1,h2',h3,h4⟩:=h1.ex
     have hI:InstAt b v _ _ _:=instOf (hst2 _ _ h1) (hst2 _ _ h2')
     dsimp only at hl
     cases k
     all_goals k_steps
     all_goals exact hQ _ _ _ _ _ (hK _ _ (by assumption)) (News.get (by assumption) (by k_mem)) (news_new2 (by assumption) hkb (by k_mem) (by simp)) (by assumption)
 k_extra "f"
theorem lop_chr {v:Addr} {dv:Vd} {outer:List Env} {B:Heap} (G:Gd w mean mg mb s.heap) (R:Rm A 9) (hfr:A.frames=some outer) (hO:OutF s.heap outer) (hB:B.StaysIn s.heap) (hV:VM w (hm B) v dv) (hk:dv.kind = "character")
   (hE:∀ h' tk e,Thrown w.params outer s.heap h' e msgOp->E (.ref e) {s with heap:=h',toks:=tk}) :
   wpAny (model PG w) A (call (.ref 241) [.ref v]) Q E s:=by
 k_extra "s"
 refine enter [] G (fun _ _ e=>e) (fun p hp=>nomatch hp) (by k_dflt k_is) (by k_dflt k_is) (by have:=R.d;omega) (binds:=[("v",.ref v)]) (BindsTo.of_eq rfl) (locs rfl) ?_
 intro b L h₁ F N X T hst hkb hK hlt
 have hst2:=st2 hB hst
 (try dsimp only)
 cases hV with
 | null h1 h2=>exact absurd hk (by decide)
 | vec h0 h1 h2 =>
   dsimp only at hk
   subst hk
   obtain ⟨tk,ti,ta,ts,tl,kt,n,vs,c,h1,h2',h3,h4⟩:=h1.ex
   have hI:InstAt b v _ _ _:=instOf (hst2 _ _ h1) (hst2 _ _ h2')
   k_steps
   all_goals first
     | (k_extra "my raise";intro h9 T9;exact hE _ _ _ T9)
     | k_extra "my raise"
     | trace "OTHER"
 k_extra "f"
end
end
section
theorem G33.g33:True:=True.intro
open G33
theorem kw145:True:=by
 k_with "c152" => ((have:=g33;clear this);(k_here;k_dflt (refine' rdim_some ?A3z ?I3z ?J3z ?K3z ?L3z ?H3z ?B3z ?C3z ?D3z ?E3z ?F3z ?G3z ?_;(case A3z=>with_reducible assumption);(case I3z=>k_extra "my gd");(case J3z=>k_extra "my rm");(case K3z=>k_extra "my frs");(case L3z=>k_extra "my outf");(case B3z=>k_extra "my vm");(case C3z=>k_extra "my vm");(case H3z=>k_extra "my stays");(case D3z=>with_reducible assumption);(case E3z=>with_reducible assumption);(case F3z=>k_extra "my len");(case G3z=>k_extra "my len"));intros;k_extra "my new1"))
 k_with "c152" => ((k_here;k_dflt (refine' rdim_none ?A40 ?I40 ?J40 ?K40 ?L40 ?H40 ?B40 ?C40 ?D40 ?E40 ?F40 ?G40 ?_;(case A40=>with_reducible assumption);(case I40=>k_extra "my gd");(case J40=>k_extra "my rm");(case K40=>k_extra "my frs");(case L40=>k_extra "my outf");(case B40=>k_extra "my vm");(case C40=>k_extra "my vm");(case H40=>k_extra "my stays");(case D40=>with_reducible assumption);(case E40=>with_reducible assumption);(case F40=>k_extra "my len");(case G40=>k_extra "my len"));k_extra "my kb0"))
 exact True.intro
section
section
theorem UpdF.upd {d:Addr} {o:Obj} {news:List (Addr×Obj)} {g:Obj->List (Addr×Obj)} (U:UpdF d o news g) (o':Obj):Upd d o o' news (g o'):=by
 induction U with
 | head h=>exact .head h
 | tail h _ ih=>exact .tail h ih
theorem UpdF.mem {d:Addr} {o:Obj} {news:List (Addr×Obj)} {g:Obj->List (Addr×Obj)} (U:UpdF d o news g):(d,o)∈news:=upd_mem (UpdF.upd U o)
variable {Q:Value->Shared->Prop} {b₀:Heap}
theorem clen_in {env:Env} {outer:List Env} {b:Heap} {L:Addr} {m:Str->Option Value} {news:List (Addr×Obj)} {u v nt:Addr} {du dv:Vd} {eu ev:Option (List Int)} {xs:List Value} {ts:List Str} {c:Nat} {B:Heap} {g:Obj->List (Addr×Obj)}
   (F:Fr b L s.heap m) (N:News b L s.heap news) (U:UpdF nt (listOf (List.toArray xs) c) news g) (X:(KF w.params).In b) (T:Top TP LO mean mg mb b) (R:Rm (A.deeper env) 11) (hfr:A.frames=some outer) (hf:env.frame=some L) (hk:env.scope.kind ≠ .module) (hO:OutF b outer)
   (hB:B.StaysIn b) (hU:VM w (hm B) u du) (hV:VM w (hm B) v dv) (hu:DimIs du eu) (hv:DimIs dv ev) (hlu:du.items.length≤1000) (hlv:dv.items.length≤1000) (hs:StrsAre xs ts) (hl:ts.length≤50)
   (hQ:∀ h' tk t xs' c' o,rdim du.items.length dv.items.length eu ev = .ok o->Fr b L h' m->News b L h' (g (listOf (List.toArray xs') c'))->StrsAre xs' (ts++notes9 du.items.length dv.items.length eu ev)->Q (.int (rc du.items.length dv.items.length) t) {s with heap:=h',toks:=tk})
   (hE:∀ h' tk e msg,rdim du.items.length dv.items.length eu ev = .error msg->Thrown w.params (env::outer) (hideAll s.heap [nt]) h' e msg->E (.ref e) {s with heap:=h',toks:=tk}) :
   wpAny (model PG w) (A.deeper env) (call (.ref 166) [.ref u,.ref v,.ref nt]) Q E s:=by
 k_extra "s"
 have hn:=N _ (UpdF.mem U)
 have hb1:b.StaysIn (hideAll s.heap [nt]):=fun a o q=>hideAll_get _ (F.keep _ _ q) fun z=>by
   rw [mS z,hn.2.2] at q;cases q
 obtain ⟨oL,hL,hd⟩:=frame_obj F
 refine clen_ct (Gd.keeps ⟨X,T⟩ hb1) (fun a o q=>of_hideAll _ q) R (frames_up hfr) (frame_outF hf hk (hO.keeps hb1) (hideAll_get _ hL fun z=>hn.2.1 (mS z).symm) hd) (st2 hB hb1) hU hV hu hv hlu hlv hn.1 (hideAll_none _ (.head _)) hs hl ?_ hE
 intro h' tk t xs' c' o hr kb gn hs'
 exact hQ h' tk t xs' c' o hr (Fr.kb1 F N (UpdF.upd U (listOf (List.toArray xs') c')) kb) (News.kb1 N (UpdF.upd U _) kb gn) hs'
 k_extra "f"
noncomputable def pairT (f:Option Bool->Option Bool->Option Bool) (l r:List (Option Bool)) (n:Nat):List (Option Bool):=(List.range n).map fun i=>f (l.getD (i % l.length) none) (r.getD (i % r.length) none)
theorem pairT_succ {f:Option Bool->Option Bool->Option Bool} {l r:List (Option Bool)} {n:Nat}:pairT f l r (n+1)=pairT f l r n++[f (l.getD (n % l.length) none) (r.getD (n % r.length) none)]:=by
 unfold pairT;rw [List.range_succ,List.map_append];rfl
theorem dom_in {D:List Addr} {s b h:Heap} {L:Addr} {m:Str->Option Value} {news:List (Addr×Obj)} (hkb:KB D s b) (F:Fr b L h m) (N:News b L h news) (hD:∀ d∈D,∃ o,(d,o)∈news):∀ a o,s.get? a=some o->∃ o',h.get? a=some o':=fun a o e=>by
 by_cases ha:a∈D
 . obtain ⟨o',h'⟩:=hD a ha;exact ⟨o',(N _ h').1⟩
 . exact ⟨o,F.keep _ _ (hkb _ _ ha e)⟩
theorem fresh_down {s h h':Heap} {nw:List (Addr×Obj)} (k:∀ a o,s.get? a=some o->∃ o',h.get? a=some o') (F:Fresh h h' nw):Fresh s h' nw:=fun p hp=>⟨(F p hp).1,by
 cases q:s.get? p.1 with
 | none=>rfl
 | some o=>obtain ⟨o',e⟩:=k _ _ q;rw [(F p hp).2] at e;cases e⟩
theorem shape_in {env:Env} {outer:List Env} {b:Heap} {L:Addr} {m:Str->Option Value} {news:List (Addr×Obj)} {u v r dx ia:Addr} {du dv:Vd} {eu ev o:Option (List Int)} {tk0 ti ta ts tl kt:Tok} {k:Str} {its:List PyData} {vs:List Value} {c:Nat} {B s0:Heap} {D0:List Addr} {g:Obj->List (Addr×Obj)}
   (hkb0:KB D0 s0 b) (hD0:∀ d∈D0,∃ o,(d,o)∈news) (F:Fr b L s.heap m) (N:News b L s.heap news) (m1:(r,instObj 113 dx)∈news) (U:UpdF dx (dictOf (vEnts w.params tk0 ti ta ts tl (.str k kt) (.ref ia) .none) 5) news g) (m3:(ia,listOf (List.toArray vs) c)∈news) (X:(KF w.params).In b) (T:Top TP LO mean mg mb b) (R:Rm (A.deeper env) 12) (hfr:A.frames=some outer) (hf:env.frame=some L) (hk:env.scope.kind ≠ .module) (hO:OutF b outer)
   (hB:B.StaysIn b) (hU:VM w (hm B) u du) (hV:VM w (hm B) v dv) (hu:DimIs du eu) (hv:DimIs dv ev) (hlu:du.items.length≤1000) (hlv:dv.items.length≤1000) (hnu:attOf du.ats "dimnames" = none) (hnv:attOf dv.ats "dimnames" = none) (hr:rdim du.items.length dv.items.length eu ev = .ok o)
   (hi:ItsM (hm b) vs its) (hkk:k ≠ "NULL") (hli:its.length≤1000)
   (hQ:∀ h' tk' av nw,Fr b L h' m->News b L h' (g (dictOf (vEnts w.params tk0 ti ta ts tl (.str k kt) (.ref ia) av) 5))->nw.length≤4->Fresh s0 h' nw->AtAt w (H4 B nw) av (shAts du dv eu ev its.length o)->Q .none {s with heap:=h',toks:=tk'}) :
   wpAny (model PG w) (A.deeper env) (call (.ref 180) [.ref u,.ref v,.ref r]) Q E s:=by
 k_extra "s"
 have hn:=N _ m1
 have hd:=N _ (UpdF.mem U)
 have hb1:b.StaysIn (hideAll s.heap [r,dx]):=fun a o q=>hideAll_get _ (F.keep _ _ q) fun z=>by
   rcases mC z with z | z
   . rw [z,hn.2.2] at q;cases q
   . rw [mS z,hd.2.2] at q;cases q
 obtain ⟨oL,hL,hdL⟩:=frame_obj F
 refine shape_ct (Gd.keeps ⟨X,T⟩ hb1) (fun a o q=>of_hideAll _ q) R (frames_up hfr) (frame_outF hf hk (hO.keeps hb1) (hideAll_get _ hL fun z=>?_) hdL) (st2 hB hb1) hU hV hu hv hlu hlv hnu hnv hr hn.1 hd.1 (hideAll_none _ (.head _)) (hideAll_none _ (.tail _ (.head _))) (N _ m3).1 (hi.mono hb1) hkk hli ?_
 . rcases mC z with z | z
   . exact hn.2.1 z.symm
   . exact hd.2.1 (mS z).symm
 . intro h' tk' av nw kb gn hnw fr at'
   exact hQ h' tk' av nw (Fr.kb1 F N (UpdF.upd U (dictOf (vEnts w.params tk0 ti ta ts tl (.str k kt) (.ref ia) av) 5)) kb) (News.kb1 N (UpdF.upd U _) kb gn) hnw (fresh_down (dom_in hkb0 F N hD0) fr) at'
 k_extra "f"
structure Told (w:World) (s h' B:Heap) (r:Addr) (tvs:List (Option Bool)) (ats:List Att):Prop where
 ex:∃ dx ia tk ti ta ts tl kt av vs c nw,Fresh s h' ((r,instObj 113 dx)::(dx,dictOf (vEnts w.params tk ti ta ts tl (.str "logical" kt) (.ref ia) av) 5)::(ia,listOf (List.toArray vs) c)::nw)∧nw.length≤4∧TvsV vs tvs∧AtAt w (H4 B nw) av ats
def OpIs (w:World) (mean:ExcName->Option Value) (mg mb:Str->Option Value) (op:Addr) (f:Option Bool->Option Bool->Option Bool):Prop :=
 ∀ {A:Around} {E:Value->Shared->Prop} {s:Shared} {Q:Value->Shared->Prop} {x y:Value} {a b:Option Bool},Gd w mean mg mb s.heap->Rm A 2->TvV x a->TvV y b->(∀ h' tk v,KB [] s.heap h'->TvV v (f a b)->Q v {s with heap:=h',toks:=tk}) ->
   wpAny (model PG w) A (call (.ref op) [x,y]) Q E s
theorem OpIs.use {op:Addr} {f:Option Bool->Option Bool->Option Bool} (H:OpIs w mean mg mb op f) {x y:Value} {a b:Option Bool} (G:Gd w mean mg mb s.heap) (R:Rm A 2) (hx:TvV x a) (hy:TvV y b) (hQ:∀ h' tk v,KB [] s.heap h'->TvV v (f a b)->Q v {s with heap:=h',toks:=tk}) :
   wpAny (model PG w) A (call (.ref op) [x,y]) Q E s:=H G R hx hy hQ
end
theorem G34.g34:True:=True.intro
open G34
theorem kw148:True:=by
 k_with "c241" => ((have:=g34;clear this);(k_here;k_dflt (refine' lop_num ?E42 ?F42 ?D42 ?A42 ?B42 ?C42 ?_;(case A42=>k_extra "my vm");(case E42=>k_extra "my gd");(case F42=>k_extra "my rm");(case D42=>k_extra "my stays");(case B42=>with_reducible assumption);(case C42=>k_extra "my len"));intros;k_extra "my new1"))
 k_with "c166" => ((have:=g34;clear this);(k_here;k_dflt (refine' clen_in ?K43 ?L43 ?P43 ?Q43 ?O43 ?N43 ?R43 ?A43 ?S43 ?M43 ?J43 ?B43 ?C43 ?D43 ?E43 ?F43 ?G43 ?H43 ?I43 ?_ ?_;(case K43=>k_asm);(case L43=>k_asm);(case P43=>k_updF);(case Q43=>assumption);(case O43=>assumption);(case N43=>k_extra "my rm");(case R43=>assumption);(case A43=>exact rfl);(case S43=>exact (show ScopeKind.function≠ScopeKind.module from by decide));(case M43=>assumption);(case B43=>k_extra "my vm");(case C43=>k_extra "my vm");(case J43=>assumption);(case D43=>with_reducible assumption);(case E43=>with_reducible assumption);(case F43=>k_extra "my len");(case G43=>k_extra "my len");(case H43=>with_reducible assumption);(case I43=>k_extra "my few"));(all_goals intros);(all_goals (try dsimp only at *))))
 exact True.intro
section
variable {Q:Value->Shared->Prop} {b₀:Heap}
theorem TvsV.length {vs:List Value} {ts:List (Option Bool)} (x:TvsV vs ts):vs.length=ts.length:=by
 induction x with
 | nil=>rfl
 | cons _ _ ih=>simp [ih]
theorem TvsV.get {vs:List Value} {ts:List (Option Bool)} (x:TvsV vs ts):∀ (i:Nat),i<ts.length->∃ v,vs[i]?=some v∧TvV v (ts.getD i none):=by
 k_extra "s"
 induction x with
 | nil=>intro i h;simp at h
 | cons h _ ih =>
   intro i e
   cases i with
   | zero=>exact ⟨_,rfl,h⟩
   | succ i=>obtain ⟨v,h1,h2⟩:=ih i (by simpa using e);exact ⟨v,by simpa using h1,by simpa using h2⟩
 k_extra "f"
theorem fmod_nat (i n:Nat):(0+(i:Int)).fmod (n:Int)=((i % n:Nat):Int):=by
 rw [Int.zero_add,Int.fmod_eq_emod_of_nonneg _ (Int.natCast_nonneg n)];rfl
theorem litem {w:World} {A:Around} {E:Value->Shared->Prop} {s:Shared} {value slice:Expr} {l:Addr} {vs:List Value} {ts:List (Option Bool)} {i:Nat} {t:Tok} {Q:Value->Shared->Prop} (hl:s.heap.IsList l vs.toArray) (ht:TvsV vs ts) (hne:(vs.length:Int)≠0) (hsm:vs.length≤1000)
   (h:∀ x,TvV x (ts.getD (i % ts.length) none)->Q x s)
   (hs:∀ k,subscripted slice false (.ref l) (.int k t)=operate [.ref l,.int k t] (getItem (.ref l) (.int k t)):=by intro _;with_unfolding_all rfl) (hg:∀ r,letTemporaryGo value (.ref l) r=pure ():=by intro _;with_unfolding_all rfl) :
   wpAny (model PG w) A (subscriptTail value slice (.ref l) (.int ((0+(i:Int)).fmod ((vs.toArray.size:Nat):Int)) t)) Q E s:=by
 k_extra "s"
 have hlen:=ht.length
 have hp:0<ts.length:=by omega
 obtain ⟨x,hx,tx⟩:=ht.get (i % ts.length) (Nat.mod_lt _ hp)
 have e:(0+(i:Int)).fmod ((vs.toArray.size:Nat):Int)=((i % ts.length:Nat):Int):=by rw [fmod_nat,List.size_toArray,hlen]
 have hlt:=Nat.mod_lt i hp
 rw [e]
 refine item_list hl (Int.natCast_nonneg _) (by omega) ?_ (h x tx) (hs _) hg
 rw [Int.toNat_natCast];simpa using hx
 k_extra "f"
theorem kw150:True:=by
 k_with "!subscriptTail" => ((have:=g34;clear this);(k_here;(with_reducible show wpAny _ _ (subscriptTail _ _ (Value.ref _) (Value.int (Int.fmod _ _) _)) _ _ _);k_dflt (refine' litem ?A45 ?B45 ?C45 ?D45 ?_;(case A45=>is_list);(case B45=>with_reducible assumption);(case C45=>assumption);(case D45=>k_extra "my len"));intro x8 t8;(revert x8 t8;intro _ _)))
 exact True.intro
def tvd:Option Bool->PyData
 | none => .none
 | some b => .int (if b then 1 else 0)
theorem TvsV.its {H:HM} {vs:List Value} {ts:List (Option Bool)} (x:TvsV vs ts):ItsM H vs (ts.map tvd):=by
 k_extra "s"
 induction x with
 | nil=>exact .nil
 | cons h _ ih =>
   refine .cons ?_ ih
   cases h with
   | none=>exact .none
   | f t=>exact .int 0 t
   | t t=>exact .int 1 t
 k_extra "f"
theorem kw152:True:=by
 k_with "my tlen" => (((have z9:=TvsV.length (by assumption));simp only [List.length_map,pairT,List.length_range] at *;unfold rc at *;omega))
 exact True.intro
theorem fnSt {q:Addr} {h h':Heap} (x:FnAt q h) (k:∀ a o,h.get? a=some o->h'.get? a=some o):FnAt q h':=by
 obtain ⟨a,b,c,d,e⟩:=x;exact ⟨a,b,c,d,k _ _ e⟩
theorem kw157:True:=by
 k_with "!callWith ref" => ((have:=g34;clear this);(k_here;(with_reducible refine' callWith_F ?A49 ?_ ?B49 ?C49);(case A49=>k_dflt (exact fnSt (by with_reducible assumption) (Fr.keep (by assumption))));(case B49=>k_dflt rfl);(case C49=>k_dflt rfl)))
 k_with "!And" => ((have:=g34;clear this);(k_here;k_dflt (refine And.intro (fnSt (by with_reducible assumption) (Fr.keep (by assumption))) ?_)))
 k_with "c*" => ((k_here;k_dflt (refine OpIs.use (by with_reducible assumption) (by k_extra "my gd") (by k_extra "my rm") (by with_reducible assumption) (by with_reducible assumption) ?_);k_extra "my kb0"))
 k_with "c180" => ((have:=g34;clear this);(k_here;k_dflt (refine' shape_in ?X4c ?Y4c ?L4c ?M4c ?Z4c ?Q4c ?ZA4c ?R4c ?P4c ?O4c ?S4c ?A4c ?T4c ?N4c ?K4c ?B4c ?C4c ?D4c ?E4c ?F4c ?G4c ?H4c ?I4c ?J4c ?U4c ?V4c ?W4c ?_;(case X4c=>assumption);(case L4c=>k_asm);(case M4c=>k_asm);(case Y4c=>first | (intro d9 hd9;simp only [List.map_cons,List.map_nil,List.mem_singleton] at hd9;rw [hd9];exact ⟨_,by k_mem⟩) | (intro d9 hd9;cases hd9));(case Z4c=>k_mem);(case Q4c=>k_updF);(case ZA4c=>k_mem);(case R4c=>assumption);(case P4c=>assumption);(case O4c=>k_extra "my rm");(case S4c=>assumption);(case A4c=>exact rfl);(case T4c=>exact (show ScopeKind.function≠ScopeKind.module from by decide));(case N4c=>assumption);(case B4c=>k_extra "my vm");(case C4c=>k_extra "my vm");(case K4c=>assumption);(case D4c=>with_reducible assumption);(case E4c=>with_reducible assumption);(case F4c=>k_extra "my len");(case G4c=>k_extra "my len");(case H4c=>assumption);(case I4c=>assumption);(case J4c=>assumption);(case U4c=>exact TvsV.its (by assumption));(case V4c=>decide);(case W4c=>k_extra "my tlen"));intro h8 tk8 av8 nw8 F8 N8 hn8 fr8 at8;(try k_sweep);(try dsimp only);(revert h8 tk8 av8 nw8 F8 N8 hn8 fr8 at8;intro _ _ _ _ _ _ _ _ _)))
 exact True.intro
theorem pairs_num {op:Addr} {f:Option Bool->Option Bool->Option Bool} {u v nt:Addr} {du dv:Vd} {eu ev:Option (List Int)} {xs:List Value} {ts:List Str} {c:Nat} {outer:List Env} {B:Heap} (hop:OpIs w mean mg mb op f) (hfn:FnAt op B) (G:Gd w mean mg mb b₀) (hb:b₀.StaysIn s.heap) (R:Rm A 13) (hfr:A.frames=some outer) (hO:OutF b₀ outer) (hB:B.StaysIn b₀)
   (hU:VM w (hm B) u du) (hV:VM w (hm B) v dv) (hku:Numv du) (hkv:Numv dv) (hu:DimIs du eu) (hv:DimIs dv ev) (hlu:du.items.length≤1000) (hlv:dv.items.length≤1000) (hnu:attOf du.ats "dimnames" = none) (hnv:attOf dv.ats "dimnames" = none)
   (hn:s.heap.get? nt=some (listOf (List.toArray xs) c)) (hn0:b₀.get? nt=none) (hs:StrsAre xs ts) (hl:ts.length≤50)
   (hQ:∀ h' tk r xs' c' o,rdim du.items.length dv.items.length eu ev = .ok o->KB [nt] s.heap h'->h'.get? nt=some (listOf (List.toArray xs') c')->StrsAre xs' (ts++notes9 du.items.length dv.items.length eu ev) ->
     Told w s.heap h' B r (pairT f (du.items.map tru) (dv.items.map tru) (rc du.items.length dv.items.length).toNat) (shAts du dv eu ev (rc du.items.length dv.items.length).toNat o)->Q (.ref r) {s with heap:=h',toks:=tk})
   (hE:∀ h' tk e msg,rdim du.items.length dv.items.length eu ev = .error msg->Thrown w.params outer (hideAll s.heap [nt]) h' e msg->E (.ref e) {s with heap:=h',toks:=tk}) :
   wpAny (model PG w) A (call (.ref 246) [.ref u,.ref v,.ref nt,.ref op]) Q E s:=by
 k_extra "s"
 refine enterC [(nt,listOf xs.toArray c)] G hb (fun p hp=>by cases hp with | head=>exact ⟨hn,hn0⟩ | tail _ h=>cases h) (by k_dflt k_is) (by k_dflt k_is) (by have:=R.d;omega) (binds:=[("u",.ref u),("v",.ref v),("notes",.ref nt),("item_op",.ref op)]) (BindsTo.of_eq rfl) (by rfl) (by decide +kernel) ?_
 intro b L h₁ tk0 cells F N Y X T hst hkb hK hlt
 k_cells Y
 rename_i o11 o12 o3 d11 d12 d3
 replace d3:o3.data = .cell (some (.ref op)):=d3
 (try simp only [List.cons_append,List.nil_append] at N)
 have hst2:=st2 hB hst
 have hOb:=hO.keeps hst
 have hO1:OutF (hideAll s.heap [nt]) outer:=hO.keeps (hide_stays hb fun d hd=>by rw [mS hd];exact hn0)
 have hs1:∀ a o,(hideAll s.heap [nt]).get? a=some o->b.get? a=some o:=hide_sub hkb
 have hll:=StrsLen hs
 have hfb:FnAt op b:=fnSt hfn hst2
 have hnL:@LT.lt Nat _ nt L:=hlt (nt,_) (.head _)
 (try dsimp only)
 k_steps
 . rename_i h6 tk5 r1 vs1 c1 tv1 l91 h5 o1 d1 h4 tk3 r2 vs2 c2 tv2 l92 h3 o2 d2 h2 tk1 t xs' c' o hro hns h1 F1 N1 h0 tk0 t₁ u₁ v₁ hrg F2 N2 kb2
   clear F1 N1
   dsimp only at hrg
   refine LCg.CompSrc.range (by k_extra "my hh") F2 N2 hrg (small_one (by omega) (by omega) (by unfold rc;omega) (by unfold rc;omega)) (rangeSize_nat _ _) (by rw [sizeLine_eq];unfold rc;omega) fun g=>?_
   refine comp_inv (n:=(rc du.items.length dv.items.length - 0).toNat) (fun i ys news=>news=[(r2,listOf vs2.toArray c2),(r1,listOf vs1.toArray c1),(L+1+1+1,o2),(L+1+1,o1),(L+1,o3),(nt,listOf xs'.toArray c')]∧TvsV ys (pairT f (du.items.map tru) (dv.items.map tru) i)) ?turn ?fin _ _ _ _ (Nat.zero_add _) ⟨rfl,.nil⟩
   case turn =>
     rintro i ys _ hi ⟨rfl,hys⟩ v J oJ oC C D m₂ h tk E' ⟨ti,rfl⟩ hoC hmm F N off ne
     have hlen1:vs1.length=du.items.length:=by simpa using tv1.length
     have hlen2:vs2.length=dv.items.length:=by simpa using tv2.length
     have hpos:0<du.items.length∧0<dv.items.length:=by first | exact rc_pos hi | (unfold rc at hi;split at hi<;>omega)
     have hlu1:(vs1.length:Int)≠0:=by omega
     have hlv1:(vs2.length:Int)≠0:=by omega
     k_steps
     refine LCg.CompEnd.intro (by assumption) (by assumption) [(r2,listOf vs2.toArray c2),(r1,listOf vs1.toArray c1),(L+1+1+1,o2),(L+1+1,o1),(L+1,o3),(nt,listOf xs'.toArray c')] (fun _ h=>h) off True.intro ⟨rfl,?_⟩
     rw [pairT_succ]
     exact TvsV.snoc hys (by assumption)
   case fin =>
     rintro ys _ ⟨rfl,hys⟩ D h tk F N off
     have hylen:=hys.length
     k_steps
     rename_i u8 d8 t1 t2 t3 t4 t5 ne8 l8 l9 h7 h8 tk8 av8 nw8 F8 N8 hn8 fr8 at8
     have e0:(rc du.items.length dv.items.length - 0).toNat=(rc du.items.length dv.items.length).toNat:=by rw [Int.sub_zero]
     rw [e0] at hys at8
     rw [List.length_map,show (pairT f (du.items.map tru) (dv.items.map tru) (rc du.items.length dv.items.length).toNat).length=(rc du.items.length dv.items.length).toNat from by simp [pairT]] at at8
     refine' hQ _ _ _ _ _ _ hro (hK _ _ F8) (N8.get (by k_mem)) hns ⟨d8,D,t1,t2,t3,t4,t5,_,av8,ys,_,nw8,?fr,hn8,hys,at8⟩
     case fr=>refine' .cons (N8.get (by k_mem)) (news_new2 N8 hkb (by k_mem) (fun z=>l8.2.2.2.2.2.2 (mS z).symm)) (.cons (N8.get (by k_mem)) (news_new2 N8 hkb (by k_mem) (fun z=>l9.2.2.2.2.2.2 (mS z).symm)) (.cons (N8.get (by k_mem)) (news_new2 N8 hkb (by k_mem) (fun z=>?_)) fr8));exact off.2.2.2.2.2.1 (mS z).symm
 . k_extra "my passD"
   intro h9 T9
   exact hE _ _ _ _ (by assumption) T9
 k_extra "f"
end
end
section
theorem G35.g35:True:=True.intro
open G35
theorem kw159:True:=by
 k_with "c241" => ((have:=g35;clear this);(k_here;k_dflt (refine' lop_num ?E4e ?F4e ?D4e ?A4e ?B4e ?C4e ?_;(case A4e=>k_extra "my vm");(case E4e=>k_extra "my gd");(case F4e=>k_extra "my rm");(case D4e=>k_extra "my stays");(case B4e=>with_reducible assumption);(case C4e=>k_extra "my len"));intros;k_extra "my new1"))
 exact True.intro
section
theorem G36.g36:True:=True.intro
open G36
theorem kw163:True:=by
 k_with "c241" => ((have:=g36;clear this);(k_here;k_dflt (refine' lop_chr ?D4g ?E4g ?F4g ?G4g ?C4g ?A4g ?B4g ?_;(case A4g=>k_extra "my vm");(case D4g=>k_extra "my gd");(case E4g=>k_extra "my rm");(case F4g=>k_extra "my frs");(case G4g=>k_extra "my outf");(case C4g=>k_extra "my stays");(case B4g=>with_reducible assumption));(intro h8 tk8 e8 T8);(try dsimp only at T8);(try dsimp only);(revert h8 tk8 e8 T8;intro _ _ _ _)))
 k_with "!callWith ref" => ((have:=g36;clear this);(k_here;(with_reducible refine' callWith_F ?A4h ?_ ?B4h ?C4h);(case A4h=>k_dflt (exact fnSt (by with_reducible assumption) (Fr.keep (by assumption))));(case B4h=>k_dflt rfl);(case C4h=>k_dflt rfl)))
 k_with "!And" => ((have:=g36;clear this);(k_here;k_dflt (refine And.intro (fnSt (by with_reducible assumption) (Fr.keep (by assumption))) ?_)))
 exact True.intro
section
variable {Q:Value->Shared->Prop} {b₀:Heap}
theorem pairs_chr {op:Addr} {u v nt:Addr} {du dv:Vd} {xs:List Value} {c:Nat} {outer:List Env} {B:Heap} (hfn:FnAt op B) (G:Gd w mean mg mb b₀) (hb:b₀.StaysIn s.heap) (R:Rm A 13) (hfr:A.frames=some outer) (hO:OutF b₀ outer) (hB:B.StaysIn b₀)
   (hU:VM w (hm B) u du) (hV:VM w (hm B) v dv) (hku:du.kind = "character" ∨ (Numv du∧dv.kind = "character")) (hlu:du.items.length≤1000)
   (hn:s.heap.get? nt=some (listOf (List.toArray xs) c)) (hn0:b₀.get? nt=none)
   (hE:∀ h' tk e,Thrown w.params outer (hideAll s.heap [nt]) h' e msgOp->E (.ref e) {s with heap:=h',toks:=tk}) :
   wpAny (model PG w) A (call (.ref 246) [.ref u,.ref v,.ref nt,.ref op]) Q E s:=by
 k_extra "s"
 refine enterC [(nt,listOf xs.toArray c)] G hb (fun p hp=>by cases hp with | head=>exact ⟨hn,hn0⟩ | tail _ h=>cases h) (by k_dflt k_is) (by k_dflt k_is) (by have:=R.d;omega) (binds:=[("u",.ref u),("v",.ref v),("notes",.ref nt),("item_op",.ref op)]) (BindsTo.of_eq rfl) (by rfl) (by decide +kernel) ?_
 intro b L h₁ tk0 cells F N Y X T hst hkb hK hlt
 k_cells Y
 (try simp only [List.cons_append,List.nil_append] at N)
 have hst2:=st2 hB hst
 have hOb:=hO.keeps hst
 have hO1:OutF (hideAll s.heap [nt]) outer:=hO.keeps (hide_stays hb fun d hd=>by rw [mS hd];exact hn0)
 have hs1:∀ a o,(hideAll s.heap [nt]).get? a=some o->b.get? a=some o:=hide_sub hkb
 have hnL:@LT.lt Nat _ nt L:=hlt (nt,_) (.head _)
 (try dsimp only)
 rcases hku with hku | ⟨hku,hkv⟩
 . k_steps
   k_extra "my pass"
   intro h9 T9
   exact hE _ _ _ T9
 . k_steps
   k_extra "my pass"
   intro h9 T9
   exact hE _ _ _ T9
 k_extra "f"
theorem pairs_in {env:Env} {outer:List Env} {b:Heap} {L:Addr} {m:Str->Option Value} {news:List (Addr×Obj)} {op:Addr} {f:Option Bool->Option Bool->Option Bool} {u v nt:Addr} {du dv:Vd} {eu ev:Option (List Int)} {xs:List Value} {ts:List Str} {c:Nat} {B s0:Heap} {D0:List Addr} {g:Obj->List (Addr×Obj)}
   (hkb0:KB D0 s0 b) (hD0:∀ d∈D0,∃ o,(d,o)∈news) (F:Fr b L s.heap m) (N:News b L s.heap news) (U:UpdF nt (listOf (List.toArray xs) c) news g) (X:(KF w.params).In b) (T:Top TP LO mean mg mb b) (R:Rm (A.deeper env) 13) (hfr:A.frames=some outer) (hf:env.frame=some L) (hk:env.scope.kind ≠ .module) (hO:OutF b outer) (hop:OpIs w mean mg mb op f) (hfn:FnAt op B)
   (hB:B.StaysIn b) (hU:VM w (hm B) u du) (hV:VM w (hm B) v dv) (hku:Numv du) (hkv:Numv dv) (hu:DimIs du eu) (hv:DimIs dv ev) (hlu:du.items.length≤1000) (hlv:dv.items.length≤1000) (hnu:attOf du.ats "dimnames" = none) (hnv:attOf dv.ats "dimnames" = none) (hs:StrsAre xs ts) (hl:ts.length≤50)
   (hQ:∀ h' tk r xs' c' o,rdim du.items.length dv.items.length eu ev = .ok o->Fr b L h' m->News b L h' (g (listOf (List.toArray xs') c'))->StrsAre xs' (ts++notes9 du.items.length dv.items.length eu ev) ->
     Told w s0 h' B r (pairT f (du.items.map tru) (dv.items.map tru) (rc du.items.length dv.items.length).toNat) (shAts du dv eu ev (rc du.items.length dv.items.length).toNat o)->Q (.ref r) {s with heap:=h',toks:=tk})
   (hE:∀ h' tk e msg,rdim du.items.length dv.items.length eu ev = .error msg->Thrown w.params (env::outer) (hideAll s.heap [nt]) h' e msg->E (.ref e) {s with heap:=h',toks:=tk}) :
   wpAny (model PG w) (A.deeper env) (call (.ref 246) [.ref u,.ref v,.ref nt,.ref op]) Q E s:=by
 k_extra "s"
 have hn:=N _ (UpdF.mem U)
 have hb1:b.StaysIn (hideAll s.heap [nt]):=fun a o q=>hideAll_get _ (F.keep _ _ q) fun z=>by
   rw [mS z,hn.2.2] at q;cases q
 obtain ⟨oL,hL,hd⟩:=frame_obj F
 refine pairs_num hop hfn (Gd.keeps ⟨X,T⟩ hb1) (fun a o q=>of_hideAll _ q) R (frames_up hfr) (frame_outF hf hk (hO.keeps hb1) (hideAll_get _ hL fun z=>hn.2.1 (mS z).symm) hd) (st2 hB hb1) hU hV hku hkv hu hv hlu hlv hnu hnv hn.1 (hideAll_none _ (.head _)) hs hl ?_ hE
 intro h' tk r xs' c' o hr kb gn hs' tl
 obtain ⟨dx,ia,tk,ti,ta,ts,tl,kt,av,vs,c,nw,fr,r2⟩:=tl.ex
 exact hQ h' _ r xs' c' o hr (Fr.kb1 F N (UpdF.upd U (listOf (List.toArray xs') c')) kb) (News.kb1 N (UpdF.upd U _) kb gn) hs' ⟨dx,ia,tk,ti,ta,ts,tl,kt,av,vs,c,nw,fresh_down (dom_in hkb0 F N hD0) fr,r2⟩
 k_extra "f"
theorem pairs_in_chr {env:Env} {outer:List Env} {b:Heap} {L:Addr} {m:Str->Option Value} {news:List (Addr×Obj)} {op:Addr} {u v nt:Addr} {du dv:Vd} {xs:List Value} {c:Nat} {B:Heap}
   (F:Fr b L s.heap m) (N:News b L s.heap news) (hmn:(nt,listOf (List.toArray xs) c)∈news) (X:(KF w.params).In b) (T:Top TP LO mean mg mb b) (R:Rm (A.deeper env) 13) (hfr:A.frames=some outer) (hf:env.frame=some L) (hk:env.scope.kind ≠ .module) (hO:OutF b outer) (hfn:FnAt op B)
   (hB:B.StaysIn b) (hU:VM w (hm B) u du) (hV:VM w (hm B) v dv) (hku:du.kind = "character" ∨ (Numv du∧dv.kind = "character")) (hlu:du.items.length≤1000)
   (hE:∀ h' tk e,Thrown w.params (env::outer) (hideAll s.heap [nt]) h' e msgOp->E (.ref e) {s with heap:=h',toks:=tk}) :
   wpAny (model PG w) (A.deeper env) (call (.ref 246) [.ref u,.ref v,.ref nt,.ref op]) Q E s:=by
 k_extra "s"
 have hn:=N _ hmn
 have hb1:b.StaysIn (hideAll s.heap [nt]):=fun a o q=>hideAll_get _ (F.keep _ _ q) fun z=>by
   rw [mS z,hn.2.2] at q;cases q
 obtain ⟨oL,hL,hd⟩:=frame_obj F
 exact pairs_chr hfn (Gd.keeps ⟨X,T⟩ hb1) (fun a o q=>of_hideAll _ q) R (frames_up hfr) (frame_outF hf hk (hO.keeps hb1) (hideAll_get _ hL fun z=>hn.2.1 (mS z).symm) hd) (st2 hB hb1) hU hV hku hlu hn.1 (hideAll_none _ (.head _)) hE
 k_extra "f"
end
end
section
theorem G37.g37:True:=True.intro
open G37
theorem kw166:True:=by
 k_with "c246" => ((have:=g37;clear this);(k_here;k_dflt (refine' pairs_in_chr ?G4k ?H4k ?L4k ?M4k ?K4k ?J4k ?N4k ?A4k ?O4k ?I4k ?P4k ?F4k ?B4k ?C4k ?D4k ?E4k ?_;(case G4k=>k_asm);(case H4k=>k_asm);(case L4k=>k_mem);(case M4k=>assumption);(case K4k=>assumption);(case J4k=>k_extra "my rm");(case N4k=>assumption);(case A4k=>exact rfl);(case O4k=>exact (show ScopeKind.function≠ScopeKind.module from by decide));(case I4k=>assumption);(case B4k=>k_extra "my vm");(case C4k=>k_extra "my vm");(case F4k=>assumption);(case P4k=>with_reducible assumption);(case D4k=>assumption);(case E4k=>k_extra "my len"));intro h8 tk8 e8 T8;(revert h8 tk8 e8 T8;intro _ _ _ _)))
 k_with "c246" => ((have:=g37;clear this);(k_here;k_dflt (refine' pairs_in ?Z4l ?ZA4l ?O4l ?P4l ?T4l ?U4l ?S4l ?R4l ?V4l ?E4l ?W4l ?Q4l ?X4l ?Y4l ?N4l ?F4l ?G4l ?A4l ?B4l ?H4l ?I4l ?J4l ?K4l ?C4l ?D4l ?L4l ?M4l ?_ ?_;(case Z4l=>assumption);(case O4l=>k_asm);(case P4l=>k_asm);(case ZA4l=>first | (intro d9 hd9;simp only [List.map_cons,List.map_nil,List.mem_singleton] at hd9;rw [hd9];exact ⟨_,by k_mem⟩) | (intro d9 hd9;cases hd9));(case T4l=>k_updF);(case U4l=>assumption);(case S4l=>assumption);(case R4l=>k_extra "my rm");(case V4l=>assumption);(case E4l=>exact rfl);(case W4l=>exact (show ScopeKind.function≠ScopeKind.module from by decide));(case Q4l=>assumption);(case X4l=>with_reducible assumption);(case F4l=>k_extra "my vm");(case G4l=>k_extra "my vm");(case N4l=>assumption);(case Y4l=>with_reducible assumption);(case A4l=>with_reducible assumption);(case B4l=>with_reducible assumption);(case H4l=>with_reducible assumption);(case I4l=>with_reducible assumption);(case J4l=>k_extra "my len");(case K4l=>k_extra "my len");(case C4l=>assumption);(case D4l=>assumption);(case L4l=>with_reducible assumption);(case M4l=>k_extra "my few"));(all_goals intros);(all_goals (try dsimp only at *))))
 exact True.intro
section
section
variable {Q:Value->Shared->Prop} {b₀:Heap}
noncomputable def AskedNum (w:World) (mean:ExcName->Option Value) (mg mb:Str->Option Value) (fa:Addr) (f:Option Bool->Option Bool->Option Bool):Prop :=
 ∀ {A:Around} {E:Value->Shared->Prop} {s:Shared} {Q:Value->Shared->Prop} {b₀:Heap} {u v nt:Addr} {du dv:Vd} {eu ev:Option (List Int)} {xs:List Value} {ts:List Str} {c:Nat} {outer:List Env} {B:Heap},(G:Gd w mean mg mb b₀)->(hb:b₀.StaysIn s.heap)->(R:Rm A 15)->(hfr:A.frames=some outer)->(hO:OutF b₀ outer)->(hB:B.StaysIn b₀)->(KF w.params).In B ->
   (hU:VM w (hm B) u du)->(hV:VM w (hm B) v dv)->(hku:Numv du)->(hkv:Numv dv)->(hu:DimIs du eu)->(hv:DimIs dv ev)->(hlu:du.items.length≤1000)->(hlv:dv.items.length≤1000)->(hnu:attOf du.ats "dimnames" = none)->(hnv:attOf dv.ats "dimnames" = none) ->
   (hn:s.heap.get? nt=some (listOf (List.toArray xs) c))->(hn0:b₀.get? nt=none)->(hs:StrsAre xs ts)->(hl:ts.length≤50) ->
   (hQ:∀ h' tk r xs' c' o,rdim du.items.length dv.items.length eu ev = .ok o->KB [nt] s.heap h'->h'.get? nt=some (listOf (List.toArray xs') c')->StrsAre xs' (ts++notes9 du.items.length dv.items.length eu ev) ->
     Told w s.heap h' B r (pairT f (du.items.map tru) (dv.items.map tru) (rc du.items.length dv.items.length).toNat) (shAts du dv eu ev (rc du.items.length dv.items.length).toNat o)->Q (.ref r) {s with heap:=h',toks:=tk}) ->
   (hE:∀ h' tk e msg,rdim du.items.length dv.items.length eu ev = .error msg->Thrown w.params outer (hideAll s.heap [nt]) h' e msg->E (.ref e) {s with heap:=h',toks:=tk}) ->
   wpAny (model PG w) A (call (.ref fa) [.ref u,.ref v,.ref nt]) Q E s
def AskedChr (w:World) (mean:ExcName->Option Value) (mg mb:Str->Option Value) (fa:Addr):Prop :=
 ∀ {A:Around} {E:Value->Shared->Prop} {s:Shared} {Q:Value->Shared->Prop} {b₀:Heap} {u v nt:Addr} {du dv:Vd} {xs:List Value} {c:Nat} {outer:List Env} {B:Heap},(G:Gd w mean mg mb b₀)->(hb:b₀.StaysIn s.heap)->(R:Rm A 15)->(hfr:A.frames=some outer)->(hO:OutF b₀ outer)->(hB:B.StaysIn b₀)->(KF w.params).In B ->
   (hU:VM w (hm B) u du)->(hV:VM w (hm B) v dv)->(hku:du.kind = "character" ∨ (Numv du∧dv.kind = "character"))->(hlu:du.items.length≤1000) ->
   (hn:s.heap.get? nt=some (listOf (List.toArray xs) c))->(hn0:b₀.get? nt=none) ->
   (hE:∀ h' tk e,Thrown w.params outer (hideAll s.heap [nt]) h' e msgOp->E (.ref e) {s with heap:=h',toks:=tk}) ->
   wpAny (model PG w) A (call (.ref fa) [.ref u,.ref v,.ref nt]) Q E s
theorem askedn_253:AskedNum w mean mg mb 253 and3:=by
 k_extra "s"
 intro A E s Q b₀ u v nt du dv eu ev xs ts c outer B G hb R hfr hO hB hKB hU hV hku hkv hu hv hlu hlv hnu hnv hn hn0 hs hl hQ hE
 have hop:OpIs w mean mg mb 201 and3:=fun G R hx hy hQ=>and_ct G R hx hy hQ
 have hfn:FnAt 201 B:=⟨_,_,_,_,hKB _ _ (by k_dflt k_is)⟩
 refine enter [(nt,listOf xs.toArray c)] G hb (fun p hp=>by cases hp with | head=>exact ⟨hn,hn0⟩ | tail _ h=>cases h) (by k_dflt k_is) (by k_dflt k_is) (by have:=R.d;omega) (binds:=[("u",.ref u),("v",.ref v),("notes",.ref nt)]) (BindsTo.of_eq rfl) (locs rfl) ?_
 intro b L h₁ F N X T hst hkb hK hlt
 have hst2:=st2 hB hst
 have hOb:=hO.keeps hst
 have hO1:OutF (hideAll s.heap [nt]) outer:=hO.keeps (hide_stays hb fun d hd=>by rw [mS hd];exact hn0)
 have hs1:∀ a o,(hideAll s.heap [nt]).get? a=some o->b.get? a=some o:=hide_sub hkb
 (try dsimp only)
 k_steps
 . exact hQ _ _ _ _ _ _ (by assumption) (hK _ _ (by assumption)) (News.get (by assumption) (by k_mem)) (by assumption) (by assumption)
 . k_extra "my passD"
   intro h9 T9
   exact hE _ _ _ _ (by assumption) T9
 k_extra "f"
theorem askedc_253:AskedChr w mean mg mb 253:=by
 k_extra "s"
 intro A E s Q b₀ u v nt du dv xs c outer B G hb R hfr hO hB hKB hU hV hku hlu hn hn0 hE
 have hfn:FnAt 201 B:=⟨_,_,_,_,hKB _ _ (by k_dflt k_is)⟩
 refine enter [(nt,listOf xs.toArray c)] G hb (fun p hp=>by cases hp with | head=>exact ⟨hn,hn0⟩ | tail _ h=>cases h) (by k_dflt k_is) (by k_dflt k_is) (by have:=R.d;omega) (binds:=[("u",.ref u),("v",.ref v),("notes",.ref nt)]) (BindsTo.of_eq rfl) (locs rfl) ?_
 intro b L h₁ F N X T hst hkb hK hlt
 have hst2:=st2 hB hst
 have hOb:=hO.keeps hst
 have hO1:OutF (hideAll s.heap [nt]) outer:=hO.keeps (hide_stays hb fun d hd=>by rw [mS hd];exact hn0)
 have hs1:∀ a o,(hideAll s.heap [nt]).get? a=some o->b.get? a=some o:=hide_sub hkb
 (try dsimp only)
 k_steps
 k_extra "my passD"
 intro h9 T9
 exact hE _ _ _ T9
 k_extra "f"
theorem askedn_260:AskedNum w mean mg mb 260 or3:=by
 k_extra "s"
 intro A E s Q b₀ u v nt du dv eu ev xs ts c outer B G hb R hfr hO hB hKB hU hV hku hkv hu hv hlu hlv hnu hnv hn hn0 hs hl hQ hE
 have hop:OpIs w mean mg mb 208 or3:=fun G R hx hy hQ=>or_ct G R hx hy hQ
 have hfn:FnAt 208 B:=⟨_,_,_,_,hKB _ _ (by k_dflt k_is)⟩
 refine enter [(nt,listOf xs.toArray c)] G hb (fun p hp=>by cases hp with | head=>exact ⟨hn,hn0⟩ | tail _ h=>cases h) (by k_dflt k_is) (by k_dflt k_is) (by have:=R.d;omega) (binds:=[("u",.ref u),("v",.ref v),("notes",.ref nt)]) (BindsTo.of_eq rfl) (locs rfl) ?_
 intro b L h₁ F N X T hst hkb hK hlt
 have hst2:=st2 hB hst
 have hOb:=hO.keeps hst
 have hO1:OutF (hideAll s.heap [nt]) outer:=hO.keeps (hide_stays hb fun d hd=>by rw [mS hd];exact hn0)
 have hs1:∀ a o,(hideAll s.heap [nt]).get? a=some o->b.get? a=some o:=hide_sub hkb
 (try dsimp only)
 k_steps
 . exact hQ _ _ _ _ _ _ (by assumption) (hK _ _ (by assumption)) (News.get (by assumption) (by k_mem)) (by assumption) (by assumption)
 . k_extra "my passD"
   intro h9 T9
   exact hE _ _ _ _ (by assumption) T9
 k_extra "f"
theorem askedc_260:AskedChr w mean mg mb 260:=by
 k_extra "s"
 intro A E s Q b₀ u v nt du dv xs c outer B G hb R hfr hO hB hKB hU hV hku hlu hn hn0 hE
 have hfn:FnAt 208 B:=⟨_,_,_,_,hKB _ _ (by k_dflt k_is)⟩
 refine enter [(nt,listOf xs.toArray c)] G hb (fun p hp=>by cases hp with | head=>exact ⟨hn,hn0⟩ | tail _ h=>cases h) (by k_dflt k_is) (by k_dflt k_is) (by have:=R.d;omega) (binds:=[("u",.ref u),("v",.ref v),("notes",.ref nt)]) (BindsTo.of_eq rfl) (locs rfl) ?_
 intro b L h₁ F N X T hst hkb hK hlt
 have hst2:=st2 hB hst
 have hOb:=hO.keeps hst
 have hO1:OutF (hideAll s.heap [nt]) outer:=hO.keeps (hide_stays hb fun d hd=>by rw [mS hd];exact hn0)
 have hs1:∀ a o,(hideAll s.heap [nt]).get? a=some o->b.get? a=some o:=hide_sub hkb
 (try dsimp only)
 k_steps
 k_extra "my passD"
 intro h9 T9
 exact hE _ _ _ T9
 k_extra "f"
theorem askedn_267:AskedNum w mean mg mb 267 xor3:=by
 k_extra "s"
 intro A E s Q b₀ u v nt du dv eu ev xs ts c outer B G hb R hfr hO hB hKB hU hV hku hkv hu hv hlu hlv hnu hnv hn hn0 hs hl hQ hE
 have hop:OpIs w mean mg mb 222 xor3:=fun G R hx hy hQ=>xor_ct G R hx hy hQ
 have hfn:FnAt 222 B:=⟨_,_,_,_,hKB _ _ (by k_dflt k_is)⟩
 refine enter [(nt,listOf xs.toArray c)] G hb (fun p hp=>by cases hp with | head=>exact ⟨hn,hn0⟩ | tail _ h=>cases h) (by k_dflt k_is) (by k_dflt k_is) (by have:=R.d;omega) (binds:=[("u",.ref u),("v",.ref v),("notes",.ref nt)]) (BindsTo.of_eq rfl) (locs rfl) ?_
 intro b L h₁ F N X T hst hkb hK hlt
 have hst2:=st2 hB hst
 have hOb:=hO.keeps hst
 have hO1:OutF (hideAll s.heap [nt]) outer:=hO.keeps (hide_stays hb fun d hd=>by rw [mS hd];exact hn0)
 have hs1:∀ a o,(hideAll s.heap [nt]).get? a=some o->b.get? a=some o:=hide_sub hkb
 (try dsimp only)
 k_steps
 . exact hQ _ _ _ _ _ _ (by assumption) (hK _ _ (by assumption)) (News.get (by assumption) (by k_mem)) (by assumption) (by assumption)
 . k_extra "my passD"
   intro h9 T9
   exact hE _ _ _ _ (by assumption) T9
 k_extra "f"
theorem askedc_267:AskedChr w mean mg mb 267:=by
 k_extra "s"
 intro A E s Q b₀ u v nt du dv xs c outer B G hb R hfr hO hB hKB hU hV hku hlu hn hn0 hE
 have hfn:FnAt 222 B:=⟨_,_,_,_,hKB _ _ (by k_dflt k_is)⟩
 refine enter [(nt,listOf xs.toArray c)] G hb (fun p hp=>by cases hp with | head=>exact ⟨hn,hn0⟩ | tail _ h=>cases h) (by k_dflt k_is) (by k_dflt k_is) (by have:=R.d;omega) (binds:=[("u",.ref u),("v",.ref v),("notes",.ref nt)]) (BindsTo.of_eq rfl) (locs rfl) ?_
 intro b L h₁ F N X T hst hkb hK hlt
 have hst2:=st2 hB hst
 have hOb:=hO.keeps hst
 have hO1:OutF (hideAll s.heap [nt]) outer:=hO.keeps (hide_stays hb fun d hd=>by rw [mS hd];exact hn0)
 have hs1:∀ a o,(hideAll s.heap [nt]).get? a=some o->b.get? a=some o:=hide_sub hkb
 (try dsimp only)
 k_steps
 k_extra "my passD"
 intro h9 T9
 exact hE _ _ _ T9
 k_extra "f"
end
end
section
theorem kw169:True:=by
 k_with "my tlen" => (((have z9:=TvsV.length (by assumption));(try simp only [List.length_map,pairT,List.length_range] at *);(try unfold rc at *);omega))
 exact True.intro
theorem G39.g39:True:=True.intro
open G39
theorem kw170:True:=by
 k_with "c180" => ((have:=g39;clear this);(k_here;k_dflt (refine' shape_in ?X4o ?Y4o ?L4o ?M4o ?Z4o ?Q4o ?ZA4o ?R4o ?P4o ?O4o ?S4o ?A4o ?T4o ?N4o ?K4o ?B4o ?C4o ?D4o ?E4o ?F4o ?G4o ?H4o ?I4o ?J4o ?U4o ?V4o ?W4o ?_;(case X4o=>assumption);(case L4o=>k_asm);(case M4o=>k_asm);(case Y4o=>first | (intro d9 hd9;simp only [List.map_cons,List.map_nil,List.mem_singleton] at hd9;rw [hd9];exact ⟨_,by k_mem⟩) | (intro d9 hd9;cases hd9));(case Z4o=>k_mem);(case Q4o=>k_updF);(case ZA4o=>k_mem);(case R4o=>assumption);(case P4o=>assumption);(case O4o=>k_extra "my rm");(case S4o=>assumption);(case A4o=>exact rfl);(case T4o=>exact (show ScopeKind.function≠ScopeKind.module from by decide));(case N4o=>assumption);(case B4o=>k_extra "my vm");(case C4o=>k_extra "my vm");(case K4o=>assumption);(case D4o=>with_reducible assumption);(case E4o=>with_reducible assumption);(case F4o=>k_extra "my len");(case G4o=>k_extra "my len");(case H4o=>assumption);(case I4o=>assumption);(case J4o=>assumption);(case U4o=>exact TvsV.its (by assumption));(case V4o=>decide);(case W4o=>k_extra "my tlen"));intro h8 tk8 av8 nw8 F8 N8 hn8 fr8 at8;(try k_sweep);(try dsimp only);(revert h8 tk8 av8 nw8 F8 N8 hn8 fr8 at8;intro _ _ _ _ _ _ _ _ _)))
 exact True.intro
section
section
variable {Q:Value->Shared->Prop} {b₀:Heap}
theorem keepall_in {env:Env} {b:Heap} {L:Addr} {m:Str->Option Value} {news:List (Addr×Obj)} {v r dx ia:Addr} {dv:Vd} {tk0 ti ta ts tl kt:Tok} {k:Str} {B s0:Heap} {D0:List Addr} {g:Obj->List (Addr×Obj)}
   (hkb0:KB D0 s0 b) (hD0:∀ d∈D0,∃ o,(d,o)∈news) (F:Fr b L s.heap m) (N:News b L s.heap news) (m1:(r,instObj 113 dx)∈news) (U:UpdF dx (dictOf (vEnts w.params tk0 ti ta ts tl (.str k kt) (.ref ia) .none) 5) news g) (X:(KF w.params).In b) (T:Top TP LO mean mg mb b) (R:Rm (A.deeper env) 6)
   (hB:B.StaysIn b) (hV:VM w (hm B) v dv) (hl:dv.ats.length≤10)
   (hQ:∀ h' tk' av nw,Fr b L h' m->News b L h' (g (dictOf (vEnts w.params tk0 ti ta ts tl (.str k kt) (.ref ia) av) 5))->nw.length≤4->Fresh s0 h' nw->AtAt w (H4 B nw) av dv.ats->Q (.ref r) {s with heap:=h',toks:=tk'}) :
   wpAny (model PG w) (A.deeper env) (call (.ref 187) [.ref v,.ref r]) Q E s:=by
 k_extra "s"
 have hn:=N _ m1
 have hd:=N _ (UpdF.mem U)
 have hb1:b.StaysIn (hideAll s.heap [r,dx]):=fun a o q=>hideAll_get _ (F.keep _ _ q) fun z=>by
   rcases mC z with z | z
   . rw [z,hn.2.2] at q;cases q
   . rw [mS z,hd.2.2] at q;cases q
 refine keepall_ct (Gd.keeps ⟨X,T⟩ hb1) (fun a o q=>of_hideAll _ q) R (st2 hB hb1) hV hl hn.1 hd.1 (hideAll_none _ (.head _)) (hideAll_none _ (.tail _ (.head _))) ?_
 intro h' tk' av nw kb gn hnw fr at'
 exact hQ h' tk' av nw (Fr.kb1 F N (UpdF.upd U (dictOf (vEnts w.params tk0 ti ta ts tl (.str k kt) (.ref ia) av) 5)) kb) (News.kb1 N (UpdF.upd U _) kb gn) hnw (fresh_down (dom_in hkb0 F N hD0) fr) at'
 k_extra "f"
theorem G40.g40:True:=True.intro
open G40
theorem kw173:True:=by
 k_with "c187" => ((have:=g40;clear this);(k_here;k_dflt (refine' keepall_in ?J4r ?K4r ?D4r ?E4r ?L4r ?H4r ?I4r ?G4r ?F4r ?C4r ?A4r ?B4r ?_;(case J4r=>assumption);(case D4r=>k_asm);(case E4r=>k_asm);(case K4r=>first | (intro d9 hd9;simp only [List.map_cons,List.map_nil,List.mem_singleton] at hd9;rw [hd9];exact ⟨_,by k_mem⟩) | (intro d9 hd9;cases hd9));(case L4r=>k_mem);(case H4r=>k_updF);(case I4r=>assumption);(case G4r=>assumption);(case F4r=>k_extra "my rm");(case A4r=>k_extra "my vm");(case C4r=>assumption);(case B4r=>k_extra "my len"));intro h8 tk8 av8 nw8 F8 N8 hn8 fr8 at8;(try k_sweep);(try dsimp only);(revert h8 tk8 av8 nw8 F8 N8 hn8 fr8 at8;intro _ _ _ _ _ _ _ _ _)))
 k_with "c215" => ((k_here;k_dflt (refine' not_ct ?B4s ?C4s ?A4s ?_;(case B4s=>k_extra "my gd");(case C4s=>k_extra "my rm");(case A4s=>with_reducible assumption));k_extra "my kb0"))
 exact True.intro
theorem take_snoc2 {f:PyData->Option Bool} {l:List PyData} {i:Nat} {d:PyData} (h:l[i]?=some d):(l.take (i+1)).map f=(l.take i).map f++[f d]:=by
 rw [List.take_succ,h];simp
abbrev msgNot:Str := "invalid argument type"
noncomputable def notAts (dv:Vd) (e:Option (List Int)):List Att:=if dv.kind = "logical" then dv.ats else shAts dv dv e e dv.items.length e
theorem notAts_lgl {its:List PyData} {ats:List Att} {e:Option (List Int)}:notAts ⟨Kd.lgl.str,its,ats⟩ e=ats:=if_pos rfl
theorem notAts_itg {its:List PyData} {ats:List Att} {e:Option (List Int)}:notAts ⟨Kd.itg.str,its,ats⟩ e=shAts ⟨Kd.itg.str,its,ats⟩ ⟨Kd.itg.str,its,ats⟩ e e its.length e:=if_neg (show ¬(Kd.itg.str=Str.ofString "logical") from by decide)
theorem notAts_dbl {its:List PyData} {ats:List Att} {e:Option (List Int)}:notAts ⟨Kd.dbl.str,its,ats⟩ e=shAts ⟨Kd.dbl.str,its,ats⟩ ⟨Kd.dbl.str,its,ats⟩ e e its.length e:=if_neg (show ¬(Kd.dbl.str=Str.ofString "logical") from by decide)
theorem rdim_self {n:Nat} {e:Option (List Int)}:rdim n n e e = .ok e:=by
 cases e with
 | none=>rfl
 | some a=>show (if a=a then _ else _)=_;rw [if_pos rfl]
theorem not_num {v:Addr} {dv:Vd} {e:Option (List Int)} {outer:List Env} {B:Heap} (G:Gd w mean mg mb s.heap) (R:Rm A 15) (hfr:A.frames=some outer) (hO:OutF s.heap outer) (hB:B.StaysIn s.heap)
   (hV:VM w (hm B) v dv) (hk:Numv dv) (hd:DimIs dv e) (hl:dv.items.length≤1000) (hla:dv.ats.length≤10) (hn:attOf dv.ats "dimnames" = none)
   (hQ:∀ h' tk r,KB [] s.heap h'->Told w s.heap h' B r (dv.items.map fun d=>not3 (tru d)) (notAts dv e)->Q (.ref r) {s with heap:=h',toks:=tk}) :
   wpAny (model PG w) A (call (.ref 272) [.ref v]) Q E s:=by
 k_extra "s"
 refine enter [] G (fun _ _ e=>e) (fun p hp=>nomatch hp) (by k_dflt k_is) (by k_dflt k_is) (by have:=R.d;omega) (binds:=[("v",.ref v)]) (BindsTo.of_eq rfl) (locs rfl) ?_
 intro b L h₁ F N X T hst hkb hK hlt
 have hst2:=st2 hB hst
 have hOb:=hO.keeps hst
 (try dsimp only)
 have hV':=hV
 generalize hz:dv=dz at hV'
 cases hV' with
 | null h1 h2 =>
   subst hz
   have hI:InstAt b v _ _ _:=instOf (hst2 _ _ h1) (hst2 _ _ h2)
   k_steps
   rename_i l1 h5 q5 h6 tk2 u8 d8 t1 t2 t3 t4 t5 ne8 F8 N8 l8 l9
   exact hQ _ _ _ (hK _ _ F8) ⟨d8,l1,t1,t2,t3,t4,t5,_,.none,[],_,[],.cons (N8.get (by k_mem)) (news_new2 N8 hkb (by k_mem) (by simp)) (.cons (N8.get (by k_mem)) (news_new2 N8 hkb (by k_mem) (by simp)) (.cons (N8.get (by k_mem)) (news_new2 N8 hkb (by k_mem) (by simp)) .nil)),Nat.zero_le _,.nil,by
     have e1:notAts ⟨"NULL",[],[]⟩ e=[]:=by
       cases e with
       | none=>rfl
       | some ds=>obtain ⟨⟨k,z⟩,_⟩:=hd;cases z
     rw [e1];exact .none⟩
 | @vec dx1 ia1 k1 av1 its1 ats1 h0 h1 h2 =>
   cases hk with
   | null=>cases hz;exact absurd rfl h0
   | num k hok =>
     cases hz
     have hVb:=h1.stays hst2
     have hrs:rdim its1.length its1.length e e = .ok e:=rdim_self
     dsimp only at hl hla hn hQ
     obtain ⟨tk,ti,ta,ts,tl,kt,n,vs,c,h1,h2',h3,h4⟩:=h1.ex
     have hI:InstAt b v _ _ _:=instOf (hst2 _ _ h1) (hst2 _ _ h2')
     cases k
     . k_steps
       rename_i r1 vs1 n1 tv1 N1 F1 l91
       have hv1:=tv1.length
       rw [List.length_map] at hv1
       refine LCg.CompSrc.ledger (by k_extra "my hh") F1 (news:=[(r1,listOf vs1.toArray n1)]) (fun p hp=>N1 p (by rw [mS hp];exact .head _)) (.head _) (by rw [sizeLine_eq,List.size_toArray];omega) fun g=>?_
       refine comp_inv (n:=vs1.toArray.size) (fun i ys news=>news=[(r1,listOf vs1.toArray n1)]∧TvsV ys ((its1.take i).map fun d=>not3 (tru d))) ?turn ?fin _ _ _ _ (Nat.zero_add _) ⟨rfl,.nil⟩
       case turn =>
         rintro i ys _ hi ⟨rfl,hys⟩ x J oJ oC C D m₂ h tk E' hP hoC hmm F N off ne
         have hi1:i<its1.length:=by rw [List.size_toArray] at hi;omega
         obtain ⟨x',hx',tx⟩:=tv1.get i (by rw [List.length_map];exact hi1)
         have ex:x'=x:=Option.some.inj (hx'.symm.trans (by simpa using hP))
         subst ex
         k_steps
         refine LCg.CompEnd.intro (by assumption) (by assumption) [(r1,listOf vs1.toArray n1)] (fun _ h=>h) off (.inr ⟨_,.head _,rfl,_,rfl⟩) ⟨rfl,?_⟩
         rw [take_snoc2 (List.getElem?_eq_getElem hi1)]
         refine TvsV.snoc hys ?_
         have e1:(its1.map tru).getD i none=tru its1[i]:=by rw [List.getD_eq_getElem?_getD,List.getElem?_map,List.getElem?_eq_getElem hi1];rfl
         rw [← e1];assumption
       case fin =>
         rintro ys _ ⟨rfl,hys⟩ D h tk F N off
         rw [show vs1.toArray.size=its1.length from by rw [List.size_toArray];exact hv1,List.take_of_length_le (Nat.le_refl _)] at hys
         k_steps
         rename_i u8 d8 t1 t2 t3 t4 t5 ne8 l8 l9 h6 q6 h8 tk8 av8 nw8 F8 N8 hn8 fr8 at8
         refine' hQ _ _ _ (hK _ _ F8) ⟨d8,D,t1,t2,t3,t4,t5,_,av8,ys,_,nw8,?fr,hn8,hys,?at9⟩
         case fr=>exact .cons (N8.get (by k_mem)) (news_new2 N8 hkb (by k_mem) (by simp)) (.cons (N8.get (by k_mem)) (news_new2 N8 hkb (by k_mem) (by simp)) (.cons (N8.get (by k_mem)) (news_new2 N8 hkb (by k_mem) (by simp)) fr8))
         case at9 =>
           first
             | (rw [notAts_lgl];exact at8)
             | (rw [notAts_itg];simp only [List.length_map] at at8;exact at8)
             | (rw [notAts_dbl];simp only [List.length_map] at at8;exact at8)
     . k_steps
       rename_i r1 vs1 n1 tv1 N1 F1 l91
       have hv1:=tv1.length
       rw [List.length_map] at hv1
       refine LCg.CompSrc.ledger (by k_extra "my hh") F1 (news:=[(r1,listOf vs1.toArray n1)]) (fun p hp=>N1 p (by rw [mS hp];exact .head _)) (.head _) (by rw [sizeLine_eq,List.size_toArray];omega) fun g=>?_
       refine comp_inv (n:=vs1.toArray.size) (fun i ys news=>news=[(r1,listOf vs1.toArray n1)]∧TvsV ys ((its1.take i).map fun d=>not3 (tru d))) ?turn ?fin _ _ _ _ (Nat.zero_add _) ⟨rfl,.nil⟩
       case turn =>
         rintro i ys _ hi ⟨rfl,hys⟩ x J oJ oC C D m₂ h tk E' hP hoC hmm F N off ne
         have hi1:i<its1.length:=by rw [List.size_toArray] at hi;omega
         obtain ⟨x',hx',tx⟩:=tv1.get i (by rw [List.length_map];exact hi1)
         have ex:x'=x:=Option.some.inj (hx'.symm.trans (by simpa using hP))
         subst ex
         k_steps
         refine LCg.CompEnd.intro (by assumption) (by assumption) [(r1,listOf vs1.toArray n1)] (fun _ h=>h) off (.inr ⟨_,.head _,rfl,_,rfl⟩) ⟨rfl,?_⟩
         rw [take_snoc2 (List.getElem?_eq_getElem hi1)]
         refine TvsV.snoc hys ?_
         have e1:(its1.map tru).getD i none=tru its1[i]:=by rw [List.getD_eq_getElem?_getD,List.getElem?_map,List.getElem?_eq_getElem hi1];rfl
         rw [← e1];assumption
       case fin =>
         rintro ys _ ⟨rfl,hys⟩ D h tk F N off
         rw [show vs1.toArray.size=its1.length from by rw [List.size_toArray];exact hv1,List.take_of_length_le (Nat.le_refl _)] at hys
         k_steps
         rename_i u8 d8 t1 t2 t3 t4 t5 ne8 l8 l9 h6 q6 h8 tk8 av8 nw8 F8 N8 hn8 fr8 at8
         refine' hQ _ _ _ (hK _ _ F8) ⟨d8,D,t1,t2,t3,t4,t5,_,av8,ys,_,nw8,?fr,hn8,hys,?at9⟩
         case fr=>exact .cons (N8.get (by k_mem)) (news_new2 N8 hkb (by k_mem) (by simp)) (.cons (N8.get (by k_mem)) (news_new2 N8 hkb (by k_mem) (by simp)) (.cons (N8.get (by k_mem)) (news_new2 N8 hkb (by k_mem) (by simp)) fr8))
         case at9 =>
           first
             | (rw [notAts_lgl];exact at8)
             | (rw [notAts_itg];simp only [List.length_map] at at8;exact at8)
             | (rw [notAts_dbl];simp only [List.length_map] at at8;exact at8)
     . k_steps
       rename_i r1 vs1 n1 tv1 N1 F1 l91
       have hv1:=tv1.length
       rw [List.length_map] at hv1
       refine LCg.CompSrc.ledger (by k_extra "my hh") F1 (news:=[(r1,listOf vs1.toArray n1)]) (fun p hp=>N1 p (by rw [mS hp];exact .head _)) (.head _) (by rw [sizeLine_eq,List.size_toArray];omega) fun g=>?_
       refine comp_inv (n:=vs1.toArray.size) (fun i ys news=>news=[(r1,listOf vs1.toArray n1)]∧TvsV ys ((its1.take i).map fun d=>not3 (tru d))) ?turn ?fin _ _ _ _ (Nat.zero_add _) ⟨rfl,.nil⟩
       case turn =>
         rintro i ys _ hi ⟨rfl,hys⟩ x J oJ oC C D m₂ h tk E' hP hoC hmm F N off ne
         have hi1:i<its1.length:=by rw [List.size_toArray] at hi;omega
         obtain ⟨x',hx',tx⟩:=tv1.get i (by rw [List.length_map];exact hi1)
         have ex:x'=x:=Option.some.inj (hx'.symm.trans (by simpa using hP))
         subst ex
         k_steps
         refine LCg.CompEnd.intro (by assumption) (by assumption) [(r1,listOf vs1.toArray n1)] (fun _ h=>h) off (.inr ⟨_,.head _,rfl,_,rfl⟩) ⟨rfl,?_⟩
         rw [take_snoc2 (List.getElem?_eq_getElem hi1)]
         refine TvsV.snoc hys ?_
         have e1:(its1.map tru).getD i none=tru its1[i]:=by rw [List.getD_eq_getElem?_getD,List.getElem?_map,List.getElem?_eq_getElem hi1];rfl
         rw [← e1];assumption
       case fin =>
         rintro ys _ ⟨rfl,hys⟩ D h tk F N off
         rw [show vs1.toArray.size=its1.length from by rw [List.size_toArray];exact hv1,List.take_of_length_le (Nat.le_refl _)] at hys
         k_steps
         rename_i u8 d8 t1 t2 t3 t4 t5 ne8 l8 l9 h6 q6 h8 tk8 av8 nw8 F8 N8 hn8 fr8 at8
         refine' hQ _ _ _ (hK _ _ F8) ⟨d8,D,t1,t2,t3,t4,t5,_,av8,ys,_,nw8,?fr,hn8,hys,?at9⟩
         case fr=>exact .cons (N8.get (by k_mem)) (news_new2 N8 hkb (by k_mem) (by simp)) (.cons (N8.get (by k_mem)) (news_new2 N8 hkb (by k_mem) (by simp)) (.cons (N8.get (by k_mem)) (news_new2 N8 hkb (by k_mem) (by simp)) fr8))
         case at9 =>
           first
             | (rw [notAts_lgl];exact at8)
             | (rw [notAts_itg];simp only [List.length_map] at at8;exact at8)
             | (rw [notAts_dbl];simp only [List.length_map] at at8;exact at8)
 k_extra "f"
end
end
section
section
variable {Q:Value->Shared->Prop} {b₀:Heap}
theorem not_chr0 {v:Addr} {dv:Vd} {B:Heap} (G:Gd w mean mg mb s.heap) (R:Rm A 15) (hB:B.StaysIn s.heap)
   (hV:VM w (hm B) v dv) (hk:dv.kind = "character") (hi:dv.items=[])
   (hQ:∀ h' tk r,KB [] s.heap h'->Told w s.heap h' B r [] []->Q (.ref r) {s with heap:=h',toks:=tk}) :
   wpAny (model PG w) A (call (.ref 272) [.ref v]) Q E s:=by
 k_extra "s"
 refine enter [] G (fun _ _ e=>e) (fun p hp=>nomatch hp) (by k_dflt k_is) (by k_dflt k_is) (by have:=R.d;omega) (binds:=[("v",.ref v)]) (BindsTo.of_eq rfl) (locs rfl) ?_
 intro b L h₁ F N X T hst hkb hK hlt
 have hst2:=st2 hB hst
 (try dsimp only)
 cases hV with
 | null h1 h2=>exact absurd hk (by decide)
 | vec h0 h1 h2 =>
   dsimp only at hk hi
   subst hk hi
   obtain ⟨tk,ti,ta,ts,tl,kt,n,vs,c,h1,h2',h3,h4⟩:=h1.ex
   have hI:InstAt b v _ _ _:=instOf (hst2 _ _ h1) (hst2 _ _ h2')
   cases h4
   have hL:b.IsList _ (List.toArray []):=isListOf (hst2 _ _ h3)
   k_steps
   rename_i l1 h5 q5 h8 tk8 u8 d8 t1 t2 t3 t4 t5 ne8 F8 N8 l8 l9
   exact hQ _ _ _ (hK _ _ F8) ⟨d8,l1,t1,t2,t3,t4,t5,_,.none,[],_,[],.cons (N8.get (by k_mem)) (news_new2 N8 hkb (by k_mem) (by simp)) (.cons (N8.get (by k_mem)) (news_new2 N8 hkb (by k_mem) (by simp)) (.cons (N8.get (by k_mem)) (news_new2 N8 hkb (by k_mem) (by simp)) .nil)),Nat.zero_le _,.nil,.none⟩
 k_extra "f"
theorem not_chr1 {v:Addr} {dv:Vd} {outer:List Env} {B:Heap} (G:Gd w mean mg mb s.heap) (R:Rm A 15) (hfr:A.frames=some outer) (hO:OutF s.heap outer) (hB:B.StaysIn s.heap) (hV:VM w (hm B) v dv) (hk:dv.kind = "character") (hi:dv.items≠[]) (hl:dv.items.length≤1000)
   (hE:∀ h' tk e,Thrown w.params outer s.heap h' e msgNot->E (.ref e) {s with heap:=h',toks:=tk}) :
   wpAny (model PG w) A (call (.ref 272) [.ref v]) Q E s:=by
 k_extra "s"
 refine enter [] G (fun _ _ e=>e) (fun p hp=>nomatch hp) (by k_dflt k_is) (by k_dflt k_is) (by have:=R.d;omega) (binds:=[("v",.ref v)]) (BindsTo.of_eq rfl) (locs rfl) ?_
 intro b L h₁ F N X T hst hkb hK hlt
 have hst2:=st2 hB hst
 (try dsimp only)
 cases hV with
 | null h1 h2=>exact absurd hk (by decide)
 | @vec dx1 ia1 k1 av1 its1 ats1 h0 h1 h2 =>
   dsimp only at hk hi hl
   subst hk
   obtain ⟨tk,ti,ta,ts,tl,kt,n,vs,c,h1,h2',h3,h4⟩:=h1.ex
   have hI:InstAt b v _ _ _:=instOf (hst2 _ _ h1) (hst2 _ _ h2')
   have hL:b.IsList ia1 vs.toArray:=isListOf (hst2 _ _ h3)
   have hvl:=h4.length
   k_steps
   all_goals first
     | (k_extra "my raise";intro h9 T9;exact hE _ _ _ T9)
     | k_extra "my raise"
     | (refine absurd ?_ hi;exact List.eq_nil_of_length_eq_zero (hvl.symm.trans (by rw [List.isEmpty_iff.mp (show vs.isEmpty=true by assumption)];rfl)))
     | trace "OTHER"
 k_extra "f"
end
end
section
section
variable {Q:Value->Shared->Prop} {b₀:Heap}
abbrev noteDbl:Str := "coercing argument of type 'double' to logical"
abbrev msgTyp:Str := "invalid 'type' (character) of argument"
noncomputable def dblNote (dv:Vd):List Str:=if dv.kind = "double" ∧ dv.items≠[] then [noteDbl] else []
theorem dblNote_no {dv:Vd} (h:¬(dv.kind = "double" ∧ dv.items≠[])):dblNote dv=[]:=if_neg h
theorem dblNote_yes {dv:Vd} (h:dv.kind = "double" ∧ dv.items≠[]):dblNote dv=[noteDbl]:=if_pos h
theorem ci_num {v nt:Addr} {dv:Vd} {B:Heap} {xs:List Value} {ts:List Str} {c:Nat} (G:Gd w mean mg mb b₀) (hb:b₀.StaysIn s.heap) (R:Rm A 9) (hB:B.StaysIn b₀) (hV:VM w (hm B) v dv) (hk:Numv dv) (hl:dv.items.length≤1000)
   (hn:s.heap.get? nt=some (listOf (List.toArray xs) c)) (hn0:b₀.get? nt=none) (hs:StrsAre xs ts) (hlt0:ts.length≤50)
   (hQ:∀ h' tk r vs c xs' c',KB [nt] s.heap h'->h'.get? r=some (listOf (List.toArray vs) c)->s.heap.get? r=none->TvsV vs (dv.items.map tru)->h'.get? nt=some (listOf (List.toArray xs') c')->StrsAre xs' (ts++dblNote dv)->Q (.ref r) {s with heap:=h',toks:=tk}) :
   wpAny (model PG w) A (call (.ref 279) [.ref v,.ref nt]) Q E s:=by
 k_extra "s"
 have hll:=StrsLen hs
 refine enter [(nt,listOf xs.toArray c)] G hb (fun p hp=>by cases hp with | head=>exact ⟨hn,hn0⟩ | tail _ h=>cases h) (by k_dflt k_is) (by k_dflt k_is) (by have:=R.d;omega) (binds:=[("v",.ref v),("notes",.ref nt)]) (BindsTo.of_eq rfl) (locs rfl) ?_
 intro b L h₁ F N X T hst hkb hK hlt
 have hst2:=st2 hB hst
 (try dsimp only)
 have hV':=hV
 generalize hz:dv=dz at hV'
 cases hV' with
 | null h1 h2 =>
   subst hz
   have hI:InstAt b v _ _ _:=instOf (hst2 _ _ h1) (hst2 _ _ h2)
   k_steps
   rename_i l1 h5 F8 N8 l8
   exact hQ _ _ _ [] _ _ _ (hK _ _ F8) (N8.get (by k_mem)) (news_new2 N8 hkb (by k_mem) (fun z=>Nat.ne_of_gt l8 (mS z))) .nil (N8.get (by k_mem)) (by rw [dblNote_no (by simp),List.append_nil];exact hs)
 | @vec dx1 ia1 k1 av1 its1 ats1 h0 h1 h2 =>
   cases hk with
   | null=>cases hz;exact absurd rfl h0
   | num k hok =>
     cases hz
     have hVb:=h1.stays hst2
     obtain ⟨tk,ti,ta,ts9,tl,kt,n,vs,c9,h1,h2',h3,h4⟩:=h1.ex
     have hI:InstAt b v _ _ _:=instOf (hst2 _ _ h1) (hst2 _ _ h2')
     have hL:b.IsList ia1 vs.toArray:=isListOf (hst2 _ _ h3)
     have hvl:=h4.length
     dsimp only at hl hQ
     cases k
     . k_steps
       rename_i r1 vs1 c1 tv1 N8 F8 l8
       exact hQ _ _ _ _ _ _ _ (hK _ _ F8) (N8.get (by k_mem)) (news_new2 N8 hkb (by k_mem) (fun z=>l8.2 (mS z).symm)) tv1 (N8.get (by k_mem)) (by rw [dblNote_no (fun z=>absurd (show Kd.lgl.str=Str.ofString "double" from z.1) (by decide)),List.append_nil];exact hs)
     . k_steps
       rename_i r1 vs1 c1 tv1 N8 F8 l8
       exact hQ _ _ _ _ _ _ _ (hK _ _ F8) (N8.get (by k_mem)) (news_new2 N8 hkb (by k_mem) (fun z=>l8.2 (mS z).symm)) tv1 (N8.get (by k_mem)) (by rw [dblNote_no (fun z=>absurd (show Kd.itg.str=Str.ofString "double" from z.1) (by decide)),List.append_nil];exact hs)
     . k_steps
       . have he:vs.isEmpty=true:=by assumption
         rename_i r1 vs1 c1 tv1 N8 F8 l8
         have e2:its1=[]:=List.eq_nil_of_length_eq_zero (hvl.symm.trans (by rw [List.isEmpty_iff.mp he];rfl))
         exact hQ _ _ _ _ _ _ _ (hK _ _ F8) (N8.get (by k_mem)) (news_new2 N8 hkb (by k_mem) (fun z=>l8.2 (mS z).symm)) tv1 (N8.get (by k_mem)) (by rw [dblNote_no (fun z=>z.2 e2),List.append_nil];exact hs)
       . have he:vs.isEmpty=false:=by assumption
         rename_i r1 vs1 c1 tv1 N8 F8 l8
         have e2:its1≠[]:=fun z=>by
           have e3:=List.eq_nil_of_length_eq_zero (hvl.trans (by rw [z];rfl))
           rw [e3] at he;cases he
         refine hQ _ _ _ _ _ _ _ (hK _ _ F8) (N8.get (by k_mem)) (news_new2 N8 hkb (by k_mem) (fun z=>l8.2 (mS z).symm)) tv1 (N8.get (by k_mem)) ?_
         rw [dblNote_yes ⟨rfl,e2⟩]
         simpa using StrsSnoc hs
 k_extra "f"
theorem ci_none {v:Addr} {dv:Vd} {B:Heap} (G:Gd w mean mg mb s.heap) (R:Rm A 9) (hB:B.StaysIn s.heap) (hV:VM w (hm B) v dv) (hk:Numv dv) (hl:dv.items.length≤1000)
   (hQ:∀ h' tk r vs c,KB [] s.heap h'->h'.get? r=some (listOf (List.toArray vs) c)->s.heap.get? r=none->TvsV vs (dv.items.map tru)->Q (.ref r) {s with heap:=h',toks:=tk}) :
   wpAny (model PG w) A (call (.ref 279) [.ref v,.none]) Q E s:=by
 k_extra "s"
 refine enter [] G (fun _ _ e=>e) (fun p hp=>nomatch hp) (by k_dflt k_is) (by k_dflt k_is) (by have:=R.d;omega) (binds:=[("v",.ref v),("notes",.none)]) (BindsTo.of_eq rfl) (locs rfl) ?_
 intro b L h₁ F N X T hst hkb hK hlt
 have hst2:=st2 hB hst
 (try dsimp only)
 have hV':=hV
 generalize hz:dv=dz at hV'
 cases hV' with
 | null h1 h2 =>
   subst hz
   have hI:InstAt b v _ _ _:=instOf (hst2 _ _ h1) (hst2 _ _ h2)
   k_steps
   exact hQ _ _ _ [] _ (hK _ _ (by assumption)) (News.get (by assumption) (by k_mem)) (news_new2 (by assumption) hkb (by k_mem) (by simp)) .nil
 | @vec dx1 ia1 k1 av1 its1 ats1 h0 h1 h2 =>
   cases hk with
   | null=>cases hz;exact absurd rfl h0
   | num k hok =>
     cases hz
     have hVb:=h1.stays hst2
     obtain ⟨tk,ti,ta,ts9,tl,kt,n,vs,c9,h1,h2',h3,h4⟩:=h1.ex
     have hI:InstAt b v _ _ _:=instOf (hst2 _ _ h1) (hst2 _ _ h2')
     have hL:b.IsList ia1 vs.toArray:=isListOf (hst2 _ _ h3)
     have hvl:=h4.length
     dsimp only at hl hQ
     cases k
     all_goals k_steps
     all_goals exact hQ _ _ _ _ _ (hK _ _ (by assumption)) (News.get (by assumption) (by k_mem)) (news_new2 (by assumption) hkb (by k_mem) (by simp)) (by assumption)
 k_extra "f"
theorem ci_chr {v:Addr} {nv:Value} {dv:Vd} {outer:List Env} {B:Heap} (G:Gd w mean mg mb s.heap) (R:Rm A 9) (hfr:A.frames=some outer) (hO:OutF s.heap outer) (hB:B.StaysIn s.heap) (hV:VM w (hm B) v dv) (hk:dv.kind = "character")
   (hE:∀ h' tk e,Thrown w.params outer s.heap h' e msgTyp->E (.ref e) {s with heap:=h',toks:=tk}) :
   wpAny (model PG w) A (call (.ref 279) [.ref v,nv]) Q E s:=by
 k_extra "s"
 refine enter [] G (fun _ _ e=>e) (fun p hp=>nomatch hp) (by k_dflt k_is) (by k_dflt k_is) (by have:=R.d;omega) (binds:=[("v",.ref v),("notes",nv)]) (BindsTo.of_eq rfl) (locs rfl) ?_
 intro b L h₁ F N X T hst hkb hK hlt
 have hst2:=st2 hB hst
 (try dsimp only)
 cases hV with
 | null h1 h2=>exact absurd hk (by decide)
 | vec h0 h1 h2 =>
   dsimp only at hk
   subst hk
   obtain ⟨tk,ti,ta,ts,tl,kt,n,vs,c,h1,h2',h3,h4⟩:=h1.ex
   have hI:InstAt b v _ _ _:=instOf (hst2 _ _ h1) (hst2 _ _ h2')
   k_steps
   all_goals first
     | (k_extra "my raise";intro h9 T9;exact hE _ _ _ T9)
     | k_extra "my raise"
     | (trace "OTHER";trace_state)
 k_extra "f"
end
end
section
section
variable {Q:Value->Shared->Prop} {b₀:Heap}
theorem ci_in {env:Env} {b:Heap} {L:Addr} {m:Str->Option Value} {news:List (Addr×Obj)} {v nt:Addr} {dv:Vd} {xs:List Value} {ts:List Str} {c:Nat} {B:Heap} {g:Obj->List (Addr×Obj)}
   (F:Fr b L s.heap m) (N:News b L s.heap news) (U:UpdF nt (listOf (List.toArray xs) c) news g) (X:(KF w.params).In b) (T:Top TP LO mean mg mb b) (R:Rm (A.deeper env) 9)
   (hB:B.StaysIn b) (hV:VM w (hm B) v dv) (hk:Numv dv) (hl:dv.items.length≤1000) (hs:StrsAre xs ts) (hlt0:ts.length≤50)
   (hQ:∀ h' tk r vs c xs' c',Fr b L h' m->News b L h' ((r,listOf (List.toArray vs) c)::g (listOf (List.toArray xs') c'))->AllNe r news->TvsV vs (dv.items.map tru)->StrsAre xs' (ts++dblNote dv)->Q (.ref r) {s with heap:=h',toks:=tk}) :
   wpAny (model PG w) (A.deeper env) (call (.ref 279) [.ref v,.ref nt]) Q E s:=by
 k_extra "s"
 have hn:=N _ (UpdF.mem U)
 have hb1:b.StaysIn (hideAll s.heap [nt]):=fun a o q=>hideAll_get _ (F.keep _ _ q) fun z=>by
   rw [mS z,hn.2.2] at q;cases q
 refine ci_num (Gd.keeps ⟨X,T⟩ hb1) (fun a o q=>of_hideAll _ q) R (st2 hB hb1) hV hk hl hn.1 (hideAll_none _ (.head _)) hs hlt0 ?_
 intro h' tk r vs c xs' c' kb gr nr tv gn hs'
 have F':=Fr.kb1 F N (UpdF.upd U (listOf (List.toArray xs') c')) kb
 exact hQ h' tk r vs c xs' c' F' (News.more' (tl:=[(r,_)]) F (News.kb1 N (UpdF.upd U _) kb gn) (fun p hp=>by rw [mS hp];exact ⟨gr,nr⟩)) (allNe_of nr N) tv hs'
 k_extra "f"
def stepT (f:Option Bool->Option Bool->Option Bool) (skip:Bool) (acc a:Option Bool):Option Bool:=if a≠none∨skip=false then f acc a else acc
def accT (f:Option Bool->Option Bool->Option Bool) (skip:Bool) (init:Option Bool) (l:List (Option Bool)):Option Bool:=l.foldl (stepT f skip) init
noncomputable abbrev opsT (ops:List (Addr×Vd)):List (Option Bool):=ops.flatMap fun o=>o.2.items.map tru
noncomputable abbrev opsN (ops:List (Addr×Vd)):List Str:=ops.flatMap fun o=>dblNote o.2
theorem stepT_all {f:Option Bool->Option Bool->Option Bool} {acc a:Option Bool}:stepT f false acc a=f acc a:=by simp [stepT]
theorem stepT_some {f:Option Bool->Option Bool->Option Bool} {skip:Bool} {acc:Option Bool} {a:Bool}:stepT f skip acc (some a)=f acc (some a):=by simp [stepT]
theorem stepT_skip {f:Option Bool->Option Bool->Option Bool} {acc:Option Bool}:stepT f true acc none=acc:=by simp [stepT]
theorem accT_app {f:Option Bool->Option Bool->Option Bool} {skip:Bool} {init:Option Bool} {l r:List (Option Bool)}:accT f skip init (l++r)=accT f skip (accT f skip init l) r:=by simp [accT]
theorem accT_snoc {f:Option Bool->Option Bool->Option Bool} {skip:Bool} {init:Option Bool} {l:List (Option Bool)} {a:Option Bool}:accT f skip init (l++[a])=stepT f skip (accT f skip init l) a:=by simp [accT]
theorem take_snoc3 {α:Type} {l:List α} {i:Nat} {d:α} (h:l[i]?=some d):l.take (i+1)=l.take i++[d]:=by rw [List.take_succ,h];rfl
theorem opsN_len {ops:List (Addr×Vd)}:(opsN ops).length≤ops.length:=by
 k_extra "s"
 induction ops with
 | nil=>simp
 | cons o r ih =>
   rw [opsN,List.flatMap_cons,List.length_append]
   have:(dblNote o.2).length≤1:=by unfold dblNote;split<;>simp
   simp only [List.length_cons];unfold opsN at ih;omega
 k_extra "f"
end
theorem kw176:True:=by
 k_with "c201" => ((k_here;k_dflt (refine' and_ct ?C4u ?D4u ?A4u ?B4u ?_;(case C4u=>k_extra "my gd");(case D4u=>k_extra "my rm");(case A4u=>with_reducible assumption);(case B4u=>with_reducible assumption));k_extra "my kb0"))
 exact True.intro
theorem G43.g43:True:=True.intro
open G43
theorem kw178:True:=by
 k_with "c279" => ((have:=g43;clear this);(k_here;k_dflt (refine' ci_chr ?D4v ?E4v ?F4v ?G4v ?C4v ?A4v ?B4v ?_;(case A4v=>k_extra "my vm");(case D4v=>k_extra "my gd");(case E4v=>k_extra "my rm");(case F4v=>k_extra "my frs");(case G4v=>k_extra "my outf");(case C4v=>k_extra "my stays");(case B4v=>with_reducible assumption));(intro h8 tk8 e8 T8);(try dsimp only at T8);(try dsimp only);(revert h8 tk8 e8 T8;intro _ _ _ _)))
 k_with "c279" => ((have:=g43;clear this);(k_here;k_dflt (refine' ci_in ?G4x ?H4x ?K4x ?L4x ?J4x ?I4x ?F4x ?A4x ?B4x ?C4x ?D4x ?E4x ?_;(case G4x=>k_asm);(case H4x=>k_asm);(case K4x=>k_updF);(case L4x=>assumption);(case J4x=>assumption);(case I4x=>k_extra "my rm");(case A4x=>k_extra "my vm");(case F4x=>assumption);(case B4x=>with_reducible assumption);(case C4x=>k_extra "my len");(case D4x=>with_reducible assumption);(case E4x=>k_extra "my few"));intro h8 tk8 r8 vs8 c8 xs8 c9 F8 N8 l8 tv8 hs8;(try simp only [AllNe,and_true] at l8);(try k_sweep);(first | (revert h8 tk8 r8 vs8 c8 xs8 c9 F8 N8 l8 tv8 hs8;intro _ _ _ _ _ _ _ _ _ _ _ _) | (revert h8 tk8 r8 vs8 c8 xs8 c9 F8 N8 tv8 hs8;intro _ _ _ _ _ _ _ _ _ _ _))))
 exact True.intro
section
variable {Q:Value->Shared->Prop} {b₀:Heap}
theorem all_ct {lv nt:Addr} {ops:List (Addr×Vd)} {skip:Bool} {xs:List Value} {ts:List Str} {c c0:Nat} {outer:List Env} {B:Heap} (G:Gd w mean mg mb b₀) (hb:b₀.StaysIn s.heap) (R:Rm A 12) (hfr:A.frames=some outer) (hO:OutF b₀ outer) (hB:B.StaysIn b₀)
   (hlv:b₀.get? lv=some (listOf (List.toArray (ops.map fun o=>Value.ref o.1)) c0)) (hops:∀ o∈ops,VM w (hm B) o.1 o.2∧(Numv o.2∨o.2.kind = "character")∧o.2.items.length≤1000) (hol:ops.length≤10)
   (hn:s.heap.get? nt=some (listOf (List.toArray xs) c)) (hn0:b₀.get? nt=none) (hs:StrsAre xs ts) (hl:ts.length≤30)
   (hQ:(∀ o∈ops,Numv o.2)->∀ h' tk v xs' c',KB [nt] s.heap h'->h'.get? nt=some (listOf (List.toArray xs') c')->StrsAre xs' (ts++opsN ops)->TvV v (accT and3 skip (some true) (opsT ops))->Q v {s with heap:=h',toks:=tk})
   (hE:(∃ o∈ops,o.2.kind = "character")->∀ h' tk e,Thrown w.params outer (hideAll s.heap [nt]) h' e msgTyp->E (.ref e) {s with heap:=h',toks:=tk}) :
   wpAny (model PG w) A (call (.ref 287) [.ref lv,.bool skip,.ref nt]) Q E s:=by
 k_extra "s"
 have hll:=StrsLen hs
 have h280:s.heap.get? 280=some (Obj.mk (Value.type "tuple") none (Data.seq #[Value.none]) #[]):=(G.keeps hb).K 280 _ (by k_dflt k_is)
 refine enter [(nt,listOf xs.toArray c)] G hb (fun p hp=>by cases hp with | head=>exact ⟨hn,hn0⟩ | tail _ h=>cases h) (by k_dflt k_is) (by k_dflt k_is) (by have:=R.d;omega) (binds:=[("vs",.ref lv),("skip",.bool skip),("notes",.ref nt)]) (BindsTo.of_defaults rfl h280 rfl rfl rfl) (locs rfl) ?_
 intro b L h₁ F N X T hst hkb hK hlt
 have hst2:=st2 hB hst
 have hOb:=hO.keeps hst
 have hO1:OutF (hideAll s.heap [nt]) outer:=hO.keeps (hide_stays hb fun d hd=>by rw [mS hd];exact hn0)
 have hs1:∀ a o,(hideAll s.heap [nt]).get? a=some o->b.get? a=some o:=hide_sub hkb
 have hlb:=hst _ _ hlv
 have hL:=isListOf hlb
 (try dsimp only)
 k_steps
 rename_i hh9 F9 N9
 refine iterList (vs:=ops.map fun o=>Value.ref o.1) (fun i m news=>(∀ o∈ops.take i,Numv o.2)∧∃ vf xs' c' vv vi,TvV vf (accT and3 skip (some true) (opsT (ops.take i)))∧StrsAre xs' (ts++opsN (ops.take i))∧news=[(nt,listOf (List.toArray xs') c')] ∧
     m=fun y=>if y=Str.ofString "item" then vi else if y=Str.ofString "v" then vv else if y=Str.ofString "found" then some vf else List.lookup y [(Str.ofString "vs",Value.ref lv),(Str.ofString "skip",Value.bool skip),(Str.ofString "notes",Value.ref nt)].reverse)
   (by k_extra "my hh") (listStays F9.keep hL) (fun e=>?_) (.inl ⟨_,hlb⟩) F9 N9 ?_ ?turn ?done
 . exact absurd (Nat.lt_of_lt_of_le (Heap.lt_size hlb) F9.above) (by rw [e];exact Nat.lt_irrefl _)
 . refine' ⟨fun o h=>by simp at h,_,xs,c,none,none,.t _,?s1,rfl,?s2⟩
   case s2=>k_extra "my env"
   case s1 =>
     show StrsAre xs (ts++[])
     rw [List.append_nil];exact hs
 case turn =>
   rintro I i vi m₁ _ h tk oI hv9 ⟨hall,vf,xs',c',vv,vit,hvf,hxs,rfl,rfl⟩ hn9 F N
   obtain ⟨o,ho,rfl⟩:∃ o,ops[i]?=some o∧vi = .ref o.1:=by
     rw [List.getElem?_map] at hv9
     cases q:ops[i]? with
     | none=>rw [q] at hv9;cases hv9
     | some o=>rw [q] at hv9;exact ⟨o,rfl,(Option.some.inj hv9).symm⟩
   obtain ⟨hVo,hko,hlo⟩:=hops o (List.mem_of_getElem? ho)
   have hnl:=opsN_len (ops:=ops.take i)
   have hil:(ops.take i).length≤10:=by rw [List.length_take];omega
   have htl:(ts++opsN (ops.take i)).length≤50:=by rw [List.length_append];omega
   have hn':=allNe_all hn9
   simp only [AllNe,and_true] at hn'
   rcases hko with hko | hko
   . k_steps
     rename_i h8 tk8 r8 vs8 c8 xs8 c9 F8 N8 tv8 hs8 l8
     refine iterList (vs:=vs8) (fun j m news=>∃ vf' vi',TvV vf' (accT and3 skip (accT and3 skip (some true) (opsT (ops.take i))) ((o.2.items.map tru).take j))∧news=[(r8,listOf (List.toArray vs8) c8),(I,oI),(nt,listOf (List.toArray xs8) c9)] ∧
         m=fun y=>if y=Str.ofString "item" then vi' else if y=Str.ofString "found" then some vf' else if y=Str.ofString "v" then some (Value.ref o.1) else List.lookup y [(Str.ofString "vs",Value.ref lv),(Str.ofString "skip",Value.bool skip),(Str.ofString "notes",Value.ref nt)].reverse)
       (by k_extra "my hh") (News.isList N8 (.head _)) (N8 _ (.head _)).2.1 (.inr ⟨_,fun j m news z=>by obtain ⟨_,_,_,rfl,_⟩:=z;exact .head _⟩) F8 N8 ?_ ?turn2 ?done2
     . refine' ⟨vf,vit,hvf,rfl,_⟩
       k_extra "my env"
     case turn2 =>
       rintro I2 j x m₁ _ h2 tk2 oI2 hx ⟨vf',vi',hvf',rfl,rfl⟩ hn2 F2 N2
       have hjl:j<(o.2.items.map tru).length:=by
         rw [← tv8.length];exact (List.getElem?_eq_some_iff.mp hx).1
       obtain ⟨x',hx',tx⟩:=tv8.get j hjl
       cases Option.some.inj (hx'.symm.trans hx)
       have hsn:((o.2.items.map tru).take (j+1))=(o.2.items.map tru).take j++[(o.2.items.map tru).getD j none]:=by
         rw [take_snoc3 (d:=(o.2.items.map tru).getD j none) (by rw [List.getD_eq_getElem?_getD,List.getElem?_eq_getElem hjl];rfl)]
       generalize (o.2.items.map tru).getD j none=a at tx hsn
       have hn2':=allNe_all hn2
       simp only [AllNe,and_true] at hn2'
       have tx2:=tx
       cases skip<;>cases tx
       all_goals k_steps
       all_goals first
         | exact TEnd.intro (by assumption) (by assumption) (by exact allNe_back ⟨hn2'.1,hn2'.2.1,hn2'.2.2,True.intro⟩) ⟨_,_,by rw [hsn,accT_snoc,stepT_all];assumption,rfl,by k_extra "my env"⟩
         | exact TEnd.intro (by assumption) (by assumption) (by exact allNe_back ⟨hn2'.1,hn2'.2.1,hn2'.2.2,True.intro⟩) ⟨_,_,by rw [hsn,accT_snoc,stepT_some];assumption,rfl,by k_extra "my env"⟩
         | exact TEnd.intro (by assumption) (by assumption) (by exact allNe_back ⟨hn2'.1,hn2'.2.1,hn2'.2.2,True.intro⟩) ⟨_,_,by rw [hsn,accT_snoc,stepT_skip];assumption,rfl,by k_extra "my env"⟩
         | (trace "OTHER";trace_state)
     case done2 =>
       rintro h' tk' m' _ F' N' ⟨vf',vi',hvf',rfl,rfl⟩
       rw [tv8.length,List.take_of_length_le (Nat.le_refl _)] at hvf'
       have hnn:∀ p∈[(nt,listOf (List.toArray xs8) c9)],p.1≠I:=fun p hp=>by rw [mS hp];exact hn'
       k_steps
       refine TEnd.intro (by assumption) (drop1 (by assumption)) hnn ⟨fun o' ho'=>?_,vf',xs8,c9,some (.ref o.1),vi',?_,?_,rfl,?_⟩
       . rw [take_snoc3 ho] at ho'
         rcases List.mem_append.mp ho' with h | h
         . exact hall o' h
         . rw [mS h];exact hko
       . have e:opsT (ops.take (i+1))=opsT (ops.take i)++o.2.items.map tru:=by rw [take_snoc3 ho];simp [opsT]
         rw [e,accT_app];exact hvf'
       . have e:opsN (ops.take (i+1))=opsN (ops.take i)++dblNote o.2:=by rw [take_snoc3 ho];simp [opsN]
         rw [e,← List.append_assoc];exact hs8
       . k_extra "my env"
   . k_steps
     k_extra "my pass"
     intro h9 T9
     exact hE ⟨o,List.mem_of_getElem? ho,hko⟩ _ _ _ T9
 case done =>
   rintro h' tk' m' _ F' N' ⟨hall,vf,xs',c',vv,vi,hvf,hxs,rfl,rfl⟩
   rw [List.length_map,List.take_of_length_le (Nat.le_refl _)] at hall hvf hxs
   k_steps
   exact hQ hall _ _ _ _ _ (hK _ _ (by assumption)) (News.get (by assumption) (by k_mem)) hxs hvf
 k_extra "f"
end
end
section
theorem kw181:True:=by
 k_with "c208" => ((k_here;k_dflt (refine' or_ct ?C4z ?D4z ?A4z ?B4z ?_;(case C4z=>k_extra "my gd");(case D4z=>k_extra "my rm");(case A4z=>with_reducible assumption);(case B4z=>with_reducible assumption));k_extra "my kb0"))
 exact True.intro
theorem G44.g44:True:=True.intro
open G44
theorem kw183:True:=by
 k_with "c279" => ((have:=g44;clear this);(k_here;k_dflt (refine' ci_chr ?D50 ?E50 ?F50 ?G50 ?C50 ?A50 ?B50 ?_;(case A50=>k_extra "my vm");(case D50=>k_extra "my gd");(case E50=>k_extra "my rm");(case F50=>k_extra "my frs");(case G50=>k_extra "my outf");(case C50=>k_extra "my stays");(case B50=>with_reducible assumption));(intro h8 tk8 e8 T8);(try dsimp only at T8);(try dsimp only);(revert h8 tk8 e8 T8;intro _ _ _ _)))
 k_with "c279" => ((have:=g44;clear this);(k_here;k_dflt (refine' ci_none ?E52 ?F52 ?D52 ?A52 ?B52 ?C52 ?_;(case A52=>k_extra "my vm");(case E52=>k_extra "my gd");(case F52=>k_extra "my rm");(case D52=>k_extra "my stays");(case B52=>with_reducible assumption);(case C52=>k_extra "my len"));intros;k_extra "my new1"))
 exact True.intro
section
variable {Q:Value->Shared->Prop} {b₀:Heap}
theorem any_ct {lv:Addr} {ops:List (Addr×Vd)} {skip:Bool} {c0:Nat} {outer:List Env} {B:Heap} (G:Gd w mean mg mb s.heap) (R:Rm A 12) (hfr:A.frames=some outer) (hO:OutF s.heap outer) (hB:B.StaysIn s.heap)
   (hlv:s.heap.get? lv=some (listOf (List.toArray (ops.map fun o=>Value.ref o.1)) c0)) (hops:∀ o∈ops,VM w (hm B) o.1 o.2∧(Numv o.2∨o.2.kind = "character")∧o.2.items.length≤1000)
   (hQ:(∀ o∈ops,Numv o.2)->∀ h' tk v,KB [] s.heap h'->TvV v (accT or3 skip (some false) (opsT ops))->Q v {s with heap:=h',toks:=tk})
   (hE:(∃ o∈ops,o.2.kind = "character")->∀ h' tk e,Thrown w.params outer s.heap h' e msgTyp->E (.ref e) {s with heap:=h',toks:=tk}) :
   wpAny (model PG w) A (call (.ref 295) [.ref lv,.bool skip]) Q E s:=by
 k_extra "s"
 have h288:s.heap.get? 288=some (Obj.mk (Value.type "tuple") none (Data.seq #[Value.none]) #[]):=G.K 288 _ (by k_dflt k_is)
 refine enter [] G (fun _ _ e=>e) (fun p hp=>nomatch hp) (by k_dflt k_is) (by k_dflt k_is) (by have:=R.d;omega) (binds:=[("vs",.ref lv),("skip",.bool skip),("notes",.none)]) (BindsTo.of_defaults rfl h288 rfl rfl rfl) (locs rfl) ?_
 intro b L h₁ F N X T hst hkb hK hlt
 have hst2:=st2 hB hst
 have hOb:=hO.keeps hst
 have hO1:=hO
 have hlb:=hst _ _ hlv
 have hL:=isListOf hlb
 (try dsimp only)
 k_steps
 rename_i hh9 F9 N9
 refine iterList (vs:=ops.map fun o=>Value.ref o.1) (fun i m news=>(∀ o∈ops.take i,Numv o.2)∧∃ vf vv vi,TvV vf (accT or3 skip (some false) (opsT (ops.take i)))∧news=[] ∧
     m=fun y=>if y=Str.ofString "item" then vi else if y=Str.ofString "v" then vv else if y=Str.ofString "found" then some vf else List.lookup y [(Str.ofString "vs",Value.ref lv),(Str.ofString "skip",Value.bool skip),(Str.ofString "notes",Value.none)].reverse)
   (by k_extra "my hh") (listStays F9.keep hL) (fun e=>?_) (.inl ⟨_,hlb⟩) F9 N9 ?_ ?turn ?done
 . exact absurd (Nat.lt_of_lt_of_le (Heap.lt_size hlb) F9.above) (by rw [e];exact Nat.lt_irrefl _)
 . refine' ⟨fun o h=>by simp at h,_,none,none,.f _,rfl,?s2⟩
   case s2=>k_extra "my env"
 case turn =>
   rintro I i vi m₁ _ h tk oI hv9 ⟨hall,vf,vv,vit,hvf,rfl,rfl⟩ hn9 F N
   obtain ⟨o,ho,rfl⟩:∃ o,ops[i]?=some o∧vi = .ref o.1:=by
     rw [List.getElem?_map] at hv9
     cases q:ops[i]? with
     | none=>rw [q] at hv9;cases hv9
     | some o=>rw [q] at hv9;exact ⟨o,rfl,(Option.some.inj hv9).symm⟩
   obtain ⟨hVo,hko,hlo⟩:=hops o (List.mem_of_getElem? ho)
   rcases hko with hko | hko
   . k_steps
     rename_i h8 tk8 r8 vs8 c8 tv8 N8 F8 l8
     refine iterList (vs:=vs8) (fun j m news=>∃ vf' vi',TvV vf' (accT or3 skip (accT or3 skip (some false) (opsT (ops.take i))) ((o.2.items.map tru).take j))∧news=[(r8,listOf (List.toArray vs8) c8),(I,oI)] ∧
         m=fun y=>if y=Str.ofString "item" then vi' else if y=Str.ofString "found" then some vf' else if y=Str.ofString "v" then some (Value.ref o.1) else List.lookup y [(Str.ofString "vs",Value.ref lv),(Str.ofString "skip",Value.bool skip),(Str.ofString "notes",Value.none)].reverse)
       (by k_extra "my hh") (News.isList N8 (.head _)) (N8 _ (.head _)).2.1 (.inr ⟨_,fun j m news z=>by obtain ⟨_,_,_,rfl,_⟩:=z;exact .head _⟩) F8 N8 ?_ ?turn2 ?done2
     . refine' ⟨vf,vit,hvf,rfl,_⟩
       k_extra "my env"
     case turn2 =>
       rintro I2 j x m₁ _ h2 tk2 oI2 hx ⟨vf',vi',hvf',rfl,rfl⟩ hn2 F2 N2
       have hjl:j<(o.2.items.map tru).length:=by
         rw [← tv8.length];exact (List.getElem?_eq_some_iff.mp hx).1
       obtain ⟨x',hx',tx⟩:=tv8.get j hjl
       cases Option.some.inj (hx'.symm.trans hx)
       have hsn:((o.2.items.map tru).take (j+1))=(o.2.items.map tru).take j++[(o.2.items.map tru).getD j none]:=by
         rw [take_snoc3 (d:=(o.2.items.map tru).getD j none) (by rw [List.getD_eq_getElem?_getD,List.getElem?_eq_getElem hjl];rfl)]
       generalize (o.2.items.map tru).getD j none=a at tx hsn
       have tx2:=tx
       cases skip<;>cases tx
       all_goals k_steps
       all_goals first
         | exact TEnd.intro (by assumption) (by assumption) hn2 ⟨_,_,by rw [hsn,accT_snoc,stepT_all];assumption,rfl,by k_extra "my env"⟩
         | exact TEnd.intro (by assumption) (by assumption) hn2 ⟨_,_,by rw [hsn,accT_snoc,stepT_some];assumption,rfl,by k_extra "my env"⟩
         | exact TEnd.intro (by assumption) (by assumption) hn2 ⟨_,_,by rw [hsn,accT_snoc,stepT_skip];assumption,rfl,by k_extra "my env"⟩
         | (trace "OTHER";trace_state)
     case done2 =>
       rintro h' tk' m' _ F' N' ⟨vf',vi',hvf',rfl,rfl⟩
       rw [tv8.length,List.take_of_length_le (Nat.le_refl _)] at hvf'
       k_steps
       refine TEnd.intro (by assumption) (drop1 (by assumption)) (by intro p hp;cases hp) ⟨fun o' ho'=>?_,vf',some (.ref o.1),vi',?_,rfl,?_⟩
       . rw [take_snoc3 ho] at ho'
         rcases List.mem_append.mp ho' with h | h
         . exact hall o' h
         . rw [mS h];exact hko
       . have e:opsT (ops.take (i+1))=opsT (ops.take i)++o.2.items.map tru:=by rw [take_snoc3 ho];simp [opsT]
         rw [e,accT_app];exact hvf'
       . k_extra "my env"
   . k_steps
     k_extra "my pass"
     intro h9 T9
     exact hE ⟨o,List.mem_of_getElem? ho,hko⟩ _ _ _ T9
 case done =>
   rintro h' tk' m' _ F' N' ⟨hall,vf,vv,vi,hvf,rfl,rfl⟩
   rw [List.length_map,List.take_of_length_le (Nat.le_refl _)] at hall hvf
   k_steps
   exact hQ hall _ _ _ (hK _ _ (by assumption)) hvf
 k_extra "f"
end
end
section
theorem kw186:True:=by
 k_with "c380" => ((k_here;k_dflt (refine' land_ct ?C54 ?D54 ?A54 ?B54 ?_;(case C54=>k_extra "my gd");(case D54=>k_extra "my rm");(case A54=>with_reducible assumption);(case B54=>with_reducible assumption));k_extra "my kb0"))
 k_with "c387" => ((k_here;k_dflt (refine' lnot_ct ?B55 ?C55 ?A55 ?_;(case B55=>k_extra "my gd");(case C55=>k_extra "my rm");(case A55=>with_reducible assumption));k_extra "my kb0"))
 exact True.intro
section
variable {Q:Value->Shared->Prop} {b₀:Heap}
theorem lor_ct {x y:Value} {a b:Option Bool} (G:Gd w mean mg mb s.heap) (R:Rm A 5) (hx:TvV x a) (hy:TvV y b)
   (hQ:∀ h' tk v,KB [] s.heap h'->TvV v (or3 a b)->Q v {s with heap:=h',toks:=tk}) :
   wpAny (model PG w) A (call (.ref 394) [x,y]) Q E s:=by
 k_extra "s"
 refine enter [] G (fun _ _ e=>e) (fun p hp=>nomatch hp) (by k_dflt k_is) (by k_dflt k_is) (by have:=R.d;omega) (binds:=[("a",x),("b",y)]) (BindsTo.of_eq rfl) (locs rfl) ?_
 intro b L h₁ F N X T hst hkb hK hlt
 (try dsimp only)
 k_steps
 have e:∀ a b:Option Bool,not3 (and3 (not3 a) (not3 b))=or3 a b:=by
   intro a b
   rcases a with _ | (_ | _)<;>rcases b with _ | (_ | _)<;>rfl
 rename_i a9 _ _
 exact hQ _ _ _ (hK _ _ (by assumption)) (by rw [← e];assumption)
 k_extra "f"
theorem eqv00 {p q:Int}:(PyData.tuple [PyData.int p,PyData.int q]).eqv (PyData.tuple [PyData.int 0,PyData.int 0])=true ↔ p=0∧q=0:=by
 simp [PyData.eqv,PyData.eqvAll]
theorem eqv00n {p q:Int} (h:(PyData.tuple [PyData.int p,PyData.int q]).eqv (PyData.tuple [PyData.int 0,PyData.int 0])=false):¬(p=0∧q=0):=fun z=>by
 rw [eqv00.mpr z] at h;cases h
theorem drop1s {b h:Heap} {L:Addr} {x:Addr×Obj} {l:List (Addr×Obj)} (N:News b L h (x::l)):News b L h l:=fun p hp=>N p (.tail _ hp)
theorem ltruths_ct {v:Addr} {dv:Vd} {B:Heap} (G:Gd w mean mg mb s.heap) (R:Rm A 5) (hB:B.StaysIn s.heap) (hV:VM w (hm B) v dv) (hk:Numv dv) (hl:dv.items.length≤1000)
   (hQ:∀ h' tk r vs c,KB [] s.heap h'->h'.get? r=some (listOf (List.toArray vs) c)->s.heap.get? r=none->TvsV vs (dv.items.map tru)->Q (.ref r) {s with heap:=h',toks:=tk}) :
   wpAny (model PG w) A (call (.ref 373) [.ref v]) Q E s:=by
 k_extra "s"
 refine enter [] G (fun _ _ e=>e) (fun p hp=>nomatch hp) (by k_dflt k_is) (by k_dflt k_is) (by have:=R.d;omega) (binds:=[("v",.ref v)]) (BindsTo.of_eq rfl) (locs rfl) ?_
 intro b L h₁ F N X T hst hkb hK hlt
 have hst2:=st2 hB hst
 (try dsimp only)
 have hV':=hV
 generalize hz:dv=dz at hV'
 cases hV' with
 | null h1 h2 =>
   subst hz
   have hI:InstAt b v _ _ _:=instOf (hst2 _ _ h1) (hst2 _ _ h2)
   k_steps
   exact hQ _ _ _ [] _ (hK _ _ (by assumption)) (News.get (by assumption) (by k_mem)) (news_new2 (by assumption) hkb (by k_mem) (by simp)) .nil
 | @vec dx1 ia1 k1 av1 its1 ats1 h0 h1 h2 =>
   cases hk with
   | null=>cases hz;exact absurd rfl h0
   | num k hok =>
     cases hz
     obtain ⟨tk,ti,ta,ts9,tl,kt,n,vs,c9,h1,h2',h3,h4⟩:=h1.ex
     have hI:InstAt b v _ _ _:=instOf (hst2 _ _ h1) (hst2 _ _ h2')
     have hib:=hst2 _ _ h3
     have hL:b.IsList ia1 vs.toArray:=isListOf hib
     have h4b:ItsM (hm b) vs its1:=h4.mono hst2
     have hvl:=h4.length
     dsimp only at hl hQ
     have h0':(k.str == "NULL")=false:=by cases k<;>decide
     k_steps
     rename_i D9 h8 l9 hh9 F9 N9
     refine iterList (vs:=vs) (fun i m news=>∃ arr c vi,TvsV (Array.toList arr) ((its1.take i).map tru)∧news=[(D9,listOf arr c)] ∧
         m=fun y=>if y=Str.ofString "item" then vi else if y=Str.ofString "found" then some (.ref D9) else List.lookup y [(Str.ofString "v",Value.ref v)].reverse)
       (by k_extra "my hh") (listStays F9.keep hL) (fun e=>?_) (.inl ⟨_,hib⟩) F9 N9 ?_ ?turn ?done
     . exact absurd (Nat.lt_of_lt_of_le (Heap.lt_size hib) F9.above) (by rw [e];exact Nat.lt_irrefl _)
     . refine' ⟨#[],_,none,.nil,rfl,_⟩
       k_extra "my env"
     case turn =>
       rintro I i x m₁ _ h tk oI hx ⟨arr,c,vi,hys,rfl,rfl⟩ hn F N
       obtain ⟨d,hd,hit⟩:=h4b.at i x hx
       have hokd:OkIt k d:=hok d (List.mem_of_getElem? hd)
       have hn':=allNe_all hn
       simp only [AllNe,and_true] at hn'
       have har:arr.size≤1000:=by
         have:=hys.length
         rw [List.length_map,List.length_take,Array.length_toList] at this
         omega
       have hsn:=take_snoc2 (f:=tru) hd
       have hR:=ItM.reads hit
       cases hokd with
       | none k =>
         cases hit
         cases k<;>dsimp only [Kd.str] at *
         all_goals k_steps
         all_goals exact TEnd.intro (by assumption) (by assumption) (by exact allNe_back ⟨hn',True.intro⟩) ⟨_,_,_,by rw [Array.toList_push,hsn];exact hys.snoc .none,rfl,by k_extra "my env"⟩
       | lgl j =>
         cases hit;dsimp only [Kd.str] at *;k_steps
         all_goals exact TEnd.intro (by assumption) (by assumption) (by exact allNe_back ⟨hn',True.intro⟩) ⟨_,_,_,by rw [Array.toList_push,hsn];exact hys.snoc (by first | exact tvt (by simp_all [tru]) | exact tvf (by simp_all [tru])),rfl,by k_extra "my env"⟩
       | itg j =>
         cases hit;dsimp only [Kd.str] at *;k_steps
         all_goals exact TEnd.intro (by assumption) (by assumption) (by exact allNe_back ⟨hn',True.intro⟩) ⟨_,_,_,by rw [Array.toList_push,hsn];exact hys.snoc (by first | exact tvt (by simp_all [tru]) | exact tvf (by simp_all [tru])),rfl,by k_extra "my env"⟩
       | dbl p q =>
         cases hit
         rename_i hT
         have hT2:IsTup b _ _:=⟨_,hT,rfl,_,rfl⟩
         dsimp only [Kd.str] at *
         k_steps
         all_goals first
           | (have e9:=eqv00.mp (by assumption)
              exact TEnd.intro (by assumption) (drop1s (by assumption)) (by exact allNe_back ⟨hn',True.intro⟩) ⟨_,_,_,by rw [Array.toList_push,hsn];exact hys.snoc (tvn (by simp [tru,e9])),rfl,by k_extra "my env"⟩)
           | (have e9:=eqv00n (by assumption)
              exact TEnd.intro (by assumption) (drop1s (by assumption)) (by exact allNe_back ⟨hn',True.intro⟩) ⟨_,_,_,by rw [Array.toList_push,hsn];exact hys.snoc (by first | exact tvt (by simp_all [tru]) | exact tvf (by simp_all [tru])),rfl,by k_extra "my env"⟩)
           | trace "OTHER"
     case done =>
       rintro h' tk' m' _ F' N' ⟨arr,c,vi,hys,rfl,rfl⟩
       rw [hvl,List.take_of_length_le (Nat.le_refl _)] at hys
       k_steps
       exact hQ _ _ _ arr.toList _ (hK _ _ (by assumption)) (News.get (by assumption) (by k_mem)) (news_new2 (by assumption) hkb (by k_mem) (by simp)) hys
 k_extra "f"
end
end
section
section
variable {w:World} {A:Around} {E:Value->Shared->Prop} {s:Shared} {b:Heap} {L d:Addr} {m:Str->Option Value} {o:Obj} {kvs:List (Str×Value)} {n:Str} {tn:Tok}
theorem dnotin2 {x:Option Value} {Q:Value->Shared->Prop} (F:Fr b L s.heap m) (hb:b.get? d=some o) (hd:o.IsDictOf (PySem.strKind PG w) kvs) (lo:(d == sysModules)=false) (hx:valueAt kvs n=x) (h:Q (.bool (!x.isSome)) {s with toks:=s.toks+1}) :
   wpAny (model PG w) A (compareOp .NotIn (.str n tn) (.ref d)) Q E s:=dnotin F hb hd lo (by rw [hx];exact h)
end
theorem G46.g46:True:=True.intro
open G46
theorem kw189:True:=by
 k_with "!compareOp NotIn str ref" => ((have:=g46;clear this);(k_here;k_dflt (refine' dnotin2 ?A57 ?B57 ?C57 ?D57 ?E57 ?_;(case A57=>assumption);(case B57=>assumption);(case C57=>with_reducible assumption);(case D57=>assumption);(case E57=>with_reducible assumption));(try simp only [Option.isSome_some,Option.isSome_none,Bool.not_true,Bool.not_false])))
 k_with "!subscriptTail" => ((have:=g46;clear this);(k_here;(with_reducible show wpAny _ _ (subscriptTail _ _ (Value.ref _) (Value.str _ _)) _ _ _);k_dflt (refine' ditem ?A58 ?B58 ?C58 ?D58 ?_;(case A58=>assumption);(case B58=>assumption);(case C58=>with_reducible assumption);(case D58=>with_reducible assumption))))
 exact True.intro
section
variable {Q:Value->Shared->Prop} {b₀:Heap}
theorem ldims_ct {v:Addr} {dv:Vd} {e:Option (List Int)} {B:Heap} (G:Gd w mean mg mb s.heap) (R:Rm A 4) (hB:B.StaysIn s.heap) (hV:VM w (hm B) v dv) (hd:DimIs dv e)
   (hQ0:∀ h' tk,e=none->KB [] s.heap h'->Q .none {s with heap:=h',toks:=tk})
   (hQ1:∀ h' tk ds r vs c,e=some ds->KB [] s.heap h'->h'.get? r=some (listOf (List.toArray vs) c)->s.heap.get? r=none->IntsAre vs ds->Q (.ref r) {s with heap:=h',toks:=tk}) :
   wpAny (model PG w) A (call (.ref 342) [.ref v]) Q E s:=by
 k_extra "s"
 refine enter [] G (fun _ _ e=>e) (fun p hp=>nomatch hp) (by k_dflt k_is) (by k_dflt k_is) (by have:=R.d;omega) (binds:=[("v",.ref v)]) (BindsTo.of_eq rfl) (locs rfl) ?_
 intro b L h₁ F N X T hst hkb hK hlt
 have hst2:=st2 hB hst
 (try dsimp only)
 have noDim:∀ {k its},DimIs ⟨k,its,[]⟩ e->e=none:=fun {k its} z=>by
   cases e with
   | none=>rfl
   | some ds=>obtain ⟨⟨_,z⟩,_⟩:=z;cases z
 cases hV with
 | null h1 h2 =>
   have hI:InstAt b v _ _ _:=instOf (hst2 _ _ h1) (hst2 _ _ h2)
   k_steps
   exact hQ0 _ _ (noDim hd) (hK _ _ (by assumption))
 | @vec dx1 ia1 k1 av1 its1 ats1 h0 h1 h2 =>
   obtain ⟨tk,ti,ta,ts9,tl,kt,n,vs,c9,h1,h2',h3,h4⟩:=h1.ex
   have hI:InstAt b v _ _ _:=instOf (hst2 _ _ h1) (hst2 _ _ h2')
   cases h2 with
   | none =>
     k_steps
     exact hQ0 _ _ (noDim hd) (hK _ _ (by assumption))
   | some e1 e2 e3 e4 e5 =>
     have e1':=hst2 _ _ e1
     cases e with
     | none =>
       have hx:valueAt _ (Str.ofString "dim")=none:=e4.none hd
       k_steps
       exact hQ0 _ _ rfl (hK _ _ (by assumption))
     | some ds =>
       obtain ⟨⟨kd,hxa⟩,hld,hbd,hpd,hpd2⟩:=hd
       obtain ⟨a,dx2,ia2,hx,va⟩:=e4.some hxa
       obtain ⟨tk9,ti9,ta9,ts9,tl9,kt9,n9,vs9,c9,g1,g2,g3,g4⟩:=va.ex
       have hI9:InstAt b a _ _ _:=instOf (hst2 _ _ g1) (hst2 _ _ g2)
       have hL9:b.IsList ia2 vs9.toArray:=isListOf (hst2 _ _ g3)
       have hlen:=g4.length
       rw [List.length_map] at hlen
       k_steps
       exact hQ1 _ _ ds _ _ _ rfl (hK _ _ (by assumption)) (News.get (by assumption) (by k_mem)) (news_new2 (by assumption) hkb (by k_mem) (by simp)) (ItsM.ints g4)
 k_extra "f"
end
end
section
section
variable {Q:Value->Shared->Prop} {b₀:Heap}
theorem ldims_none {v:Addr} {dv:Vd} {B:Heap} (hd:DimIs dv none) (G:Gd w mean mg mb s.heap) (R:Rm A 4) (hB:B.StaysIn s.heap) (hV:VM w (hm B) v dv)
   (hQ0:∀ h' tk,KB [] s.heap h'->Q .none {s with heap:=h',toks:=tk}):wpAny (model PG w) A (call (.ref 342) [.ref v]) Q E s :=
 ldims_ct G R hB hV hd (fun h' tk _ k=>hQ0 h' tk k) (fun h' tk ds r vs c e=>by cases e)
theorem ldims_some {v:Addr} {dv:Vd} {ds:List Int} {B:Heap} (hd:DimIs dv (some ds)) (G:Gd w mean mg mb s.heap) (R:Rm A 4) (hB:B.StaysIn s.heap) (hV:VM w (hm B) v dv)
   (hQ1:∀ h' tk r vs c,KB [] s.heap h'->h'.get? r=some (listOf (List.toArray vs) c)->s.heap.get? r=none->IntsAre vs ds->Q (.ref r) {s with heap:=h',toks:=tk}):wpAny (model PG w) A (call (.ref 342) [.ref v]) Q E s :=
 ldims_ct G R hB hV hd (fun h' tk e=>by cases e) (fun h' tk ds r vs c e k1 k2 k3 k4=>by cases e;exact hQ1 h' tk r vs c k1 k2 k3 k4)
end
theorem kw192:True:=by
 k_with "c342" => ((k_here;k_dflt (refine' ldims_none ?A5a ?D5a ?E5a ?C5a ?B5a ?_;(case B5a=>k_extra "my vm");(case A5a=>with_reducible assumption);(case D5a=>k_extra "my gd");(case E5a=>k_extra "my rm");(case C5a=>k_extra "my stays"));k_extra "my kb0"))
 exact True.intro
theorem G47.g47:True:=True.intro
open G47
theorem kw193:True:=by
 k_with "c342" => ((have:=g47;clear this);(k_here;k_dflt (refine' ldims_some ?A5b ?D5b ?E5b ?C5b ?B5b ?_;(case B5b=>k_extra "my vm");(case A5b=>with_reducible assumption);(case D5b=>k_extra "my gd");(case E5b=>k_extra "my rm");(case C5b=>k_extra "my stays"));intros;k_extra "my new1"))
 exact True.intro
section
variable {Q:Value->Shared->Prop} {b₀:Heap}
theorem nmem1 {a r:Nat} (h:@Ne Nat a r):a∉[r]:=fun z=>h (mS z)
def rec9 (nu nv:Nat):Prop:=0<(nu:Int)∧0<(nv:Int)∧(max (nu:Int) nv).fmod (min (nu:Int) nv)≠0
theorem n00 {nu nv:Nat} {eu ev:Option (List Int)} (h1:¬one9 nu nv eu ev) (h2:¬rec9 nu nv):notes9 nu nv eu ev=[]:=by unfold notes9;rw [if_neg h1,if_neg (by unfold rec9 at h2;exact h2)];rfl
theorem n01 {nu nv:Nat} {eu ev:Option (List Int)} (h1:¬one9 nu nv eu ev) (h2:rec9 nu nv):notes9 nu nv eu ev=[noteRec]:=by unfold notes9;rw [if_neg h1,if_pos (by unfold rec9 at h2;exact h2)];rfl
theorem n10 {nu nv:Nat} {eu ev:Option (List Int)} (h1:one9 nu nv eu ev) (h2:¬rec9 nu nv):notes9 nu nv eu ev=[noteOne]:=by unfold notes9;rw [if_pos h1,if_neg (by unfold rec9 at h2;exact h2)];rfl
theorem n11 {nu nv:Nat} {eu ev:Option (List Int)} (h1:one9 nu nv eu ev) (h2:rec9 nu nv):notes9 nu nv eu ev=[noteOne,noteRec]:=by unfold notes9;rw [if_pos h1,if_pos (by unfold rec9 at h2;exact h2)];rfl
theorem msg_eq {p own:Int} {t tot:Int} (h:p=own) (h2:t=tot):msgDim p t=Str.ofString "dims [product " ++ Str.ofString (toString own)++Str.ofString "] do not match the length of object [" ++ Str.ofString (toString tot)++Str.ofString "]" := by
 subst h h2;unfold msgDim
 rw [PySem.Str.empty_append]
theorem rc_comm (n m:Int):rc n m=rc m n:=by
 k_extra "s"
 unfold rc
 by_cases h:n=0∨m=0
 . rw [if_pos h,if_pos (Or.comm.mp h)]
 . rw [if_neg h,if_neg (fun z=>h (Or.comm.mp z)),Int.max_comm]
 k_extra "f"
theorem rc0 {n m:Int} (h:n=0∨m=0):rc n m=0:=if_pos h
theorem rc1 {n m:Int} (h:¬(n=0∨m=0)):rc n m=max n m:=if_neg h
theorem notes_no {nu nv:Nat} {eu ev:Option (List Int)} (h:(rc (nu:Int) (nv:Int)).fmod (min (nu:Int) nv)=0):notes9 nu nv eu ev=if one9 nu nv eu ev then [noteOne] else []:=by
 unfold notes9;rw [if_neg (c:=_∧_) (fun z=>z.2.2 (by rw [rc1 (by omega)] at h;exact h)),List.append_nil]
theorem notes_no9 {nu nv:Nat} {eu ev:Option (List Int)} (h:¬(0<(nu:Int)∧0<(nv:Int))):notes9 nu nv eu ev=if one9 nu nv eu ev then [noteOne] else []:=by
 unfold notes9;rw [if_neg (c:=_∧_) (fun z=>h ⟨z.1,z.2.1⟩),List.append_nil]
theorem notes_yes {nu nv:Nat} {eu ev:Option (List Int)} (h1:0<(nu:Int)) (h2:0<(nv:Int)) (h:(rc (nu:Int) (nv:Int)).fmod (min (nu:Int) nv)≠0):notes9 nu nv eu ev=(if one9 nu nv eu ev then [noteOne] else [])++[noteRec]:=by
 unfold notes9;rw [if_pos (c:=_∧_) ⟨h1,h2,by rw [rc1 (by omega)] at h;exact h⟩]
theorem only2 {b h:Heap} {L a a':Addr} {o o':Obj} {news:List (Addr×Obj)} (N:News b L h news) (hm:(a,o)∈news) (hm':(a',o')∈news):News b L h [(a,o),(a',o')]:=fun p hp=>by
 rcases mC hp with rfl | hp
 . exact N _ hm
 . rw [mS hp];exact N _ hm'
inductive ShV (nt:Nat) (nu nv:Nat) (eu ev:Option (List Int)):Value->List (Addr×Obj)->Prop
 | none:rdim nu nv eu ev = .ok Option.none->ShV nt nu nv eu ev .none []
 | some {ds:List Int} {r:Addr} {vs:List Value} {cr:Nat}:rdim nu nv eu ev = .ok (Option.some ds)->IntsAre vs ds->@Ne Nat nt r->ShV nt nu nv eu ev (.ref r) [(r,listOf (List.toArray vs) cr)]
theorem cut4 {M:Model} {A:Around} {E:Value->Shared->Prop} {s:Shared} {Q:Flow->Shared->Prop} {env:Env} {a b c d:Stmt} {rest:List Stmt} (Mid:Shared->Prop) (h1:wpAny M A (execs [a,b,c,d] env) (fun f s'=>match f with | .next=>Mid s' | f=>Q f s') E s) (h2:∀ s',Mid s'->wpAny M A (execs rest env) Q E s') :
   wpAny M A (execs (a::b::c::d::rest) env) Q E s:=by
 rw [show a::b::c::d::rest=[a,b,c,d]++rest from rfl]
 exact execs_app (wpAny_mono h1 (fun f s' h=>by cases f<;>first | exact h2 _ h | exact h) fun _ _ e=>e)
abbrev tup3 (a b c:Value):Obj := {cls := .type "tuple",data := .seq #[a,b,c]}
inductive LsA (s:Shared) (b:Heap) (L u v nt:Addr) (du dv:Vd) (tn tm:Tok) (xs:List Value) (c:Nat) (s':Shared):Prop
 | mk:∀ h' tk tkt,
   (s' = {s with heap:=h',toks:=tk}) ->
   (Fr b L h' (fun y=>if y=Str.ofString "total" then some (.int (rc du.items.length dv.items.length) tkt) else List.lookup y [(Str.ofString "u",Value.ref u),(Str.ofString "v",Value.ref v),(Str.ofString "n",Value.int du.items.length tn),(Str.ofString "m",Value.int dv.items.length tm),(Str.ofString "notes",Value.ref nt)].reverse)) ->
   (News b L h' [(nt,listOf (List.toArray xs) c)]) ->
   LsA s b L u v nt du dv tn tm xs c s'
inductive LsB (s:Shared) (b:Heap) (L u v nt:Addr) (du dv:Vd) (eu ev:Option (List Int)) (tn tm tkt:Tok) (ts:List Str) (s':Shared):Prop
 | mk:∀ h' tk m' lv rv vo vh xs' c' sv nl,
   (s' = {s with heap:=h',toks:=tk}) ->
   (StrsAre xs' (ts++if one9 du.items.length dv.items.length eu ev then [noteOne] else [])) ->
   (ShV nt du.items.length dv.items.length eu ev sv nl) ->
   (Fr b L h' m') ->
   (News b L h' (nl++[(nt,listOf (List.toArray xs') c')])) ->
   (m'=fun y=>if y=Str.ofString "shape" then some sv else if y=Str.ofString "other" then vh else if y=Str.ofString "own_size" then vo else if y=Str.ofString "right" then some rv else if y=Str.ofString "left" then some lv else if y=Str.ofString "total" then some (.int (rc du.items.length dv.items.length) tkt) else List.lookup y [(Str.ofString "u",Value.ref u),(Str.ofString "v",Value.ref v),(Str.ofString "n",Value.int du.items.length tn),(Str.ofString "m",Value.int dv.items.length tm),(Str.ofString "notes",Value.ref nt)].reverse) ->
   LsB s b L u v nt du dv eu ev tn tm tkt ts s'
theorem lshape_ct {u v nt:Addr} {du dv:Vd} {eu ev:Option (List Int)} {tn tm:Tok} {xs:List Value} {ts:List Str} {c:Nat} {B:Heap} (G:Gd w mean mg mb b₀) (hb:b₀.StaysIn s.heap) (R:Rm A 7) (hB:B.StaysIn b₀) (hU:VM w (hm B) u du) (hV:VM w (hm B) v dv)
   (hu:DimIs du eu) (hv:DimIs dv ev) (hlu:du.items.length≤1000) (hlv:dv.items.length≤1000) (hpu:∀ ds,eu=some ds->prod ds=du.items.length) (hpv:∀ ds,ev=some ds->prod ds=dv.items.length)
   (hn:s.heap.get? nt=some (listOf (List.toArray xs) c)) (hn0:b₀.get? nt=none) (hs:StrsAre xs ts) (hl:ts.length≤50)
   (hQe:∀ h' tk t msg tk1 tk2 tot,rdim du.items.length dv.items.length eu ev = .error msg->KB [] s.heap h'->h'.get? t=some (tup3 (.str msg tk1) .none (.int tot tk2))->tot=rc du.items.length dv.items.length->s.heap.get? t=none->Q (.ref t) {s with heap:=h',toks:=tk})
   (hQn:∀ h' tk t tk1 tk2 xs' c' tot,rdim du.items.length dv.items.length eu ev = .ok none->KB [nt] s.heap h'->h'.get? nt=some (listOf (List.toArray xs') c')->StrsAre xs' (ts++notes9 du.items.length dv.items.length eu ev)->h'.get? t=some (tup3 (.str "" tk1) .none (.int tot tk2))->tot=rc du.items.length dv.items.length->s.heap.get? t=none->Q (.ref t) {s with heap:=h',toks:=tk})
   (hQs:∀ h' tk t tk1 tk2 xs' c' ds r vs cr tot,rdim du.items.length dv.items.length eu ev = .ok (some ds)->KB [nt] s.heap h'->h'.get? nt=some (listOf (List.toArray xs') c')->StrsAre xs' (ts++notes9 du.items.length dv.items.length eu ev)->h'.get? t=some (tup3 (.str "" tk1) (.ref r) (.int tot tk2))->tot=rc du.items.length dv.items.length->s.heap.get? t=none->h'.get? r=some (listOf (List.toArray vs) cr)->s.heap.get? r=none->IntsAre vs ds->r≠t->Q (.ref t) {s with heap:=h',toks:=tk}) :
   wpAny (model PG w) A (call (.ref 354) [.ref u,.ref v,.int du.items.length tn,.int dv.items.length tm,.ref nt]) Q E s:=by
 k_extra "s"
 have hll:=StrsLen hs
 refine enter [(nt,listOf xs.toArray c)] G hb (fun p hp=>by cases hp with | head=>exact ⟨hn,hn0⟩ | tail _ h=>cases h) (by k_dflt k_is) (by k_dflt k_is) (by have:=R.d;omega) (binds:=[("u",.ref u),("v",.ref v),("n",.int du.items.length tn),("m",.int dv.items.length tm),("notes",.ref nt)]) (BindsTo.of_eq rfl) (locs rfl) ?_
 intro b L h₁ F N X T hst hkb hK hlt
 have hU:=hU.stays (st2 hB hst)
 have hV:=hV.stays (st2 hB hst)
 (try dsimp only)
 have hrc0:0≤rc (du.items.length:Int) (dv.items.length:Int):=by unfold rc;split<;>omega
 have hrcc:=rc_comm du.items.length dv.items.length
 have hrc1:rc (du.items.length:Int) (dv.items.length:Int)≤1000:=by unfold rc;split<;>omega
 refine cut1 (fun s'=>Hold (LsA s b L u v nt du dv tn tm xs c s')) ?_ ?_
 . k_steps
   all_goals (try rw [mx9] at *)
   all_goals exact Hold.mk ⟨_,_,_,rfl,by first | (rw [rc0 (by omega)];assumption) | (rw [rc1 (by omega)];assumption),by assumption⟩
 intro s' z
 obtain ⟨h2,tk2,tkt,rfl,F,N⟩:=z.out
 clear z
 refine cut4 (fun s'=>Hold (LsB s b L u v nt du dv eu ev tn tm tkt ts s')) ?_ ?_
 . cases eu with
   | none =>
     cases ev with
     | none =>
       k_steps
       all_goals first
         | exact Hold.mk ⟨_,_,_,_,_,_,_,_,_,.none,[],rfl,by rw [if_neg (by (unfold one9;simp)<;>omega),List.append_nil];exact hs,.none (by first | rfl | exact rd1n (by omega)),by assumption,only1 (by assumption) (by k_mem),by k_extra "my env"⟩
         | (refine' Hold.mk ⟨_,_,_,_,_,_,_,_,_,.none,[],rfl,?st,.none (rd1n (by omega)),by assumption,only1 (by assumption) (by k_mem),by k_extra "my env"⟩;(case st=>rw [if_pos (by (unfold one9;simp)<;>omega)];simpa using StrsSnoc hs))
         | exact Hold.mk ⟨_,_,_,_,_,_,_,_,_,_,_,rfl,by rw [if_neg (by (unfold one9;simp)<;>omega),List.append_nil];exact hs,.some (by first | exact rd2s (by assumption) | exact rd1s (by omega) (by omega)) (by assumption) (by omega),by assumption,only2 (by assumption) (by k_mem) (by k_mem),by k_extra "my env"⟩
         | exact hQe _ _ _ _ _ _ _ (rd2e (by assumption)) ((hK _ _ (by assumption)).mono2 hn (News.get (by assumption) (by k_mem))) (News.get (by assumption) (by k_mem)) rfl (news_new2 (by assumption) hkb (by k_mem) (nmem1 (by first | omega | (dsimp only;omega))))
         | (refine' hQe _ _ _ _ _ _ _ ((rd1e ?e3 ?e4).trans (congrArg Except.error (msg_eq ?e1 ?e2))) ((hK _ _ (by assumption)).mono2 hn (News.get (by assumption) (by k_mem))) (News.get (by assumption) (by k_mem)) rfl (news_new2 (by assumption) hkb (by k_mem) (nmem1 (by first | omega | (dsimp only;omega))));(case e1=>omega);(case e2=>omega);(case e3=>omega);(case e4=>omega))
     | some dsv =>
       have hpv1:=hpv _ rfl
       k_steps
       all_goals first
         | exact Hold.mk ⟨_,_,_,_,_,_,_,_,_,.none,[],rfl,by rw [if_neg (by (unfold one9;simp)<;>omega),List.append_nil];exact hs,.none (by first | rfl | exact rd1n (by omega)),by assumption,only1 (by assumption) (by k_mem),by k_extra "my env"⟩
         | (refine' Hold.mk ⟨_,_,_,_,_,_,_,_,_,.none,[],rfl,?st,.none (rd1n (by omega)),by assumption,only1 (by assumption) (by k_mem),by k_extra "my env"⟩;(case st=>rw [if_pos (by (unfold one9;simp)<;>omega)];simpa using StrsSnoc hs))
         | exact Hold.mk ⟨_,_,_,_,_,_,_,_,_,_,_,rfl,by rw [if_neg (by (unfold one9;simp)<;>omega),List.append_nil];exact hs,.some (by first | exact rd2s (by assumption) | exact rd1s (by omega) (by omega)) (by assumption) (by omega),by assumption,only2 (by assumption) (by k_mem) (by k_mem),by k_extra "my env"⟩
         | exact hQe _ _ _ _ _ _ _ (rd2e (by assumption)) ((hK _ _ (by assumption)).mono2 hn (News.get (by assumption) (by k_mem))) (News.get (by assumption) (by k_mem)) rfl (news_new2 (by assumption) hkb (by k_mem) (nmem1 (by first | omega | (dsimp only;omega))))
         | (refine' hQe _ _ _ _ _ _ _ ((rd1e ?e3 ?e4).trans (congrArg Except.error (msg_eq ?e1 ?e2))) ((hK _ _ (by assumption)).mono2 hn (News.get (by assumption) (by k_mem))) (News.get (by assumption) (by k_mem)) rfl (news_new2 (by assumption) hkb (by k_mem) (nmem1 (by first | omega | (dsimp only;omega))));(case e1=>omega);(case e2=>omega);(case e3=>omega);(case e4=>omega))
   | some dsu =>
     have hpu1:=hpu _ rfl
     cases ev with
     | none =>
       k_steps
       all_goals first
         | exact Hold.mk ⟨_,_,_,_,_,_,_,_,_,.none,[],rfl,by rw [if_neg (by (unfold one9;simp)<;>omega),List.append_nil];exact hs,.none (by first | rfl | exact rd1n (by omega)),by assumption,only1 (by assumption) (by k_mem),by k_extra "my env"⟩
         | (refine' Hold.mk ⟨_,_,_,_,_,_,_,_,_,.none,[],rfl,?st,.none (rd1n (by omega)),by assumption,only1 (by assumption) (by k_mem),by k_extra "my env"⟩;(case st=>rw [if_pos (by (unfold one9;simp)<;>omega)];simpa using StrsSnoc hs))
         | exact Hold.mk ⟨_,_,_,_,_,_,_,_,_,_,_,rfl,by rw [if_neg (by (unfold one9;simp)<;>omega),List.append_nil];exact hs,.some (by first | exact rd2s (by assumption) | exact rd1s (by omega) (by omega)) (by assumption) (by omega),by assumption,only2 (by assumption) (by k_mem) (by k_mem),by k_extra "my env"⟩
         | exact hQe _ _ _ _ _ _ _ (rd2e (by assumption)) ((hK _ _ (by assumption)).mono2 hn (News.get (by assumption) (by k_mem))) (News.get (by assumption) (by k_mem)) rfl (news_new2 (by assumption) hkb (by k_mem) (nmem1 (by first | omega | (dsimp only;omega))))
         | (refine' hQe _ _ _ _ _ _ _ ((rd1e ?e3 ?e4).trans (congrArg Except.error (msg_eq ?e1 ?e2))) ((hK _ _ (by assumption)).mono2 hn (News.get (by assumption) (by k_mem))) (News.get (by assumption) (by k_mem)) rfl (news_new2 (by assumption) hkb (by k_mem) (nmem1 (by first | omega | (dsimp only;omega))));(case e1=>omega);(case e2=>omega);(case e3=>omega);(case e4=>omega))
     | some dsv =>
       k_steps
       all_goals first
         | exact Hold.mk ⟨_,_,_,_,_,_,_,_,_,.none,[],rfl,by rw [if_neg (by (unfold one9;simp)<;>omega),List.append_nil];exact hs,.none (by first | rfl | exact rd1n (by omega)),by assumption,only1 (by assumption) (by k_mem),by k_extra "my env"⟩
         | (refine' Hold.mk ⟨_,_,_,_,_,_,_,_,_,.none,[],rfl,?st,.none (rd1n (by omega)),by assumption,only1 (by assumption) (by k_mem),by k_extra "my env"⟩;(case st=>rw [if_pos (by (unfold one9;simp)<;>omega)];simpa using StrsSnoc hs))
         | exact Hold.mk ⟨_,_,_,_,_,_,_,_,_,_,_,rfl,by rw [if_neg (by (unfold one9;simp)<;>omega),List.append_nil];exact hs,.some (by first | exact rd2s (by assumption) | exact rd1s (by omega) (by omega)) (by assumption) (by omega),by assumption,only2 (by assumption) (by k_mem) (by k_mem),by k_extra "my env"⟩
         | exact hQe _ _ _ _ _ _ _ (rd2e (by assumption)) ((hK _ _ (by assumption)).mono2 hn (News.get (by assumption) (by k_mem))) (News.get (by assumption) (by k_mem)) rfl (news_new2 (by assumption) hkb (by k_mem) (nmem1 (by first | omega | (dsimp only;omega))))
         | (refine' hQe _ _ _ _ _ _ _ ((rd1e ?e3 ?e4).trans (congrArg Except.error (msg_eq ?e1 ?e2))) ((hK _ _ (by assumption)).mono2 hn (News.get (by assumption) (by k_mem))) (News.get (by assumption) (by k_mem)) rfl (news_new2 (by assumption) hkb (by k_mem) (nmem1 (by first | omega | (dsimp only;omega))));(case e1=>omega);(case e2=>omega);(case e3=>omega);(case e4=>omega))
 . intro s' z
   obtain ⟨h',tk,m',lv,rv,vo,vh,xs',c',sv,nl,rfl,hs',hsh,F,N,rfl⟩:=z.out
   clear z
   have hxl:=strs_le hs'
   cases hsh with
   | none hr =>
     simp only [List.nil_append] at N
     k_steps
     all_goals (try rw [mn9] at *)
     all_goals first
       | (refine' hQn _ _ _ _ _ _ _ _ hr (hK _ _ (by assumption)) (News.get (by assumption) (by k_mem)) ?st (News.get (by assumption) (by k_mem)) rfl (news_new2 (by assumption) hkb (by k_mem) (nmem1 (by first | omega | (dsimp only;omega))));(case st=>rw [notes_no (by assumption)];exact hs'))
       | (refine' hQn _ _ _ _ _ _ _ _ hr (hK _ _ (by assumption)) (News.get (by assumption) (by k_mem)) ?st (News.get (by assumption) (by k_mem)) rfl (news_new2 (by assumption) hkb (by k_mem) (nmem1 (by first | omega | (dsimp only;omega))));(case st=>rw [notes_no9 (by omega)];exact hs'))
       | (refine' hQn _ _ _ _ _ _ _ _ hr (hK _ _ (by assumption)) (News.get (by assumption) (by k_mem)) ?st (News.get (by assumption) (by k_mem)) rfl (news_new2 (by assumption) hkb (by k_mem) (nmem1 (by first | omega | (dsimp only;omega))));(case st=>rw [notes_yes (by assumption) (by assumption) (by assumption)];simpa using StrsSnoc hs'))
   | some hr hi hne =>
     simp only [List.cons_append,List.nil_append] at N
     k_steps
     all_goals (try rw [mn9] at *)
     all_goals first
       | (refine' hQs _ _ _ _ _ _ _ _ _ _ _ _ hr (hK _ _ (by assumption)) (News.get (by assumption) (by k_mem)) ?st (News.get (by assumption) (by k_mem)) rfl (news_new2 (by assumption) hkb (by k_mem) (nmem1 (by first | omega | (dsimp only;omega)))) (News.get (by assumption) (by k_mem)) (news_new2 (by assumption) hkb (by k_mem) (nmem1 (by first | omega | (dsimp only;omega)))) hi ?ne;(case st=>rw [notes_no (by assumption)];exact hs');(case ne=>intro z9;subst z9;omega))
       | (refine' hQs _ _ _ _ _ _ _ _ _ _ _ _ hr (hK _ _ (by assumption)) (News.get (by assumption) (by k_mem)) ?st (News.get (by assumption) (by k_mem)) rfl (news_new2 (by assumption) hkb (by k_mem) (nmem1 (by first | omega | (dsimp only;omega)))) (News.get (by assumption) (by k_mem)) (news_new2 (by assumption) hkb (by k_mem) (nmem1 (by first | omega | (dsimp only;omega)))) hi ?ne;(case st=>rw [notes_no9 (by omega)];exact hs');(case ne=>intro z9;subst z9;omega))
       | (refine' hQs _ _ _ _ _ _ _ _ _ _ _ _ hr (hK _ _ (by assumption)) (News.get (by assumption) (by k_mem)) ?st (News.get (by assumption) (by k_mem)) rfl (news_new2 (by assumption) hkb (by k_mem) (nmem1 (by first | omega | (dsimp only;omega)))) (News.get (by assumption) (by k_mem)) (news_new2 (by assumption) hkb (by k_mem) (nmem1 (by first | omega | (dsimp only;omega)))) hi ?ne;(case st=>rw [notes_yes (by assumption) (by assumption) (by assumption)];simpa using StrsSnoc hs');(case ne=>intro z9;subst z9;omega))
 k_extra "f"
end
end
section
theorem kw196:True:=by
 k_with "!compareOp NotIn str ref" => ((k_here;k_dflt (refine' dnotin2 ?A5e ?B5e ?C5e ?D5e ?E5e ?_;(case A5e=>assumption);(case B5e=>assumption);(case C5e=>with_reducible assumption);(case D5e=>assumption);(case E5e=>with_reducible assumption));(try simp only [Option.isSome_some,Option.isSome_none,Bool.not_true,Bool.not_false])))
 k_with "!subscriptTail" => ((k_here;(with_reducible show wpAny _ _ (subscriptTail _ _ (Value.ref _) (Value.str _ _)) _ _ _);k_dflt (refine' ditem ?A5f ?B5f ?C5f ?D5f ?_;(case A5f=>assumption);(case B5f=>assumption);(case C5f=>with_reducible assumption);(case D5f=>with_reducible assumption))))
 exact True.intro
section
def SRow (H:HM) (v:Value) (k:Str) (its:List PyData):Prop:=∃ t l tk vs c,v = .ref t∧H t {cls := .type "tuple",data := .seq #[.str k tk,.ref l]}∧H l (listOf (List.toArray vs) c)∧ItsM H vs its
theorem SRow.mono {H H':HM} {v:Value} {k:Str} {its:List PyData} (x:SRow H v k its) (f:∀ a o,H a o->H' a o):SRow H' v k its:=by
 obtain ⟨t,l,tk,vs,c,e,h1,h2,h3⟩:=x
 exact ⟨t,l,tk,vs,c,e,f _ _ h1,f _ _ h2,h3.mono f⟩
inductive SeenM (H:HM):List (Str×Value)->List Att->Prop
 | nil:SeenM H [] []
 | cons {n k:Str} {v:Value} {its:List PyData} {kvs:List (Str×Value)} {ats:List Att}:SRow H v k its->SeenM H kvs ats->SeenM H ((n,v)::kvs) ((n,k,its)::ats)
theorem SeenM.mono {H H':HM} {kvs:List (Str×Value)} {ats:List Att} (x:SeenM H kvs ats) (f:∀ a o,H a o->H' a o):SeenM H' kvs ats:=by
 induction x with
 | nil=>exact .nil
 | cons h _ ih=>exact .cons (h.mono f) ih
theorem SeenM.names {H:HM} {kvs:List (Str×Value)} {ats:List Att} (x:SeenM H kvs ats):kvs.map (·.1)=ats.map (·.1):=by
 induction x with
 | nil=>rfl
 | cons _ _ ih=>simp [ih]
theorem SeenM.snoc {H:HM} {kvs:List (Str×Value)} {ats:List Att} {n k:Str} {v:Value} {its:List PyData} (x:SeenM H kvs ats) (y:SRow H v k its):SeenM H (kvs++[(n,v)]) (ats++[(n,k,its)]):=by
 induction x with
 | nil=>exact .cons y .nil
 | cons h _ ih=>exact .cons h ih
theorem AtsM.at {P:Params} {H:HM} {kvs:List (Str×Value)} {ats:List Att} (x:AtsM P H kvs ats):∀ {i:Nat} {n:Str} {v0:Value},kvs[i]?=Option.some (n,v0)->∃ a dx ia k its,v0 = .ref a∧ats[i]?=Option.some (n,k,its)∧VAt P H a dx ia k .none its:=by
 k_extra "s"
 induction x with
 | nil=>intro i n v0 h;simp at h
 | cons h _ ih =>
   intro i n v0 e
   cases i with
   | zero=>simp at e;obtain ⟨rfl,rfl⟩:=e;exact ⟨_,_,_,_,_,rfl,rfl,h⟩
   | succ i=>simpa using ih (by simpa using e)
 k_extra "f"
theorem off1_mem {D:Addr}:∀ {l:List (Addr×Obj)},LCg.Off1 D l->∀ p∈l,p.1≠D:=by
 k_extra "s"
 intro l h
 induction l with
 | nil=>intro p hp;cases hp
 | cons x r ih =>
   intro p hp
   rcases mC hp with rfl | hp
   . exact h.1
   . exact ih h.2 p hp
 k_extra "f"
theorem stored_out {kvs:List (Str×Value)} {n:Str} {v:Value} (h:n∉kvs.map (·.1)):stored kvs n v=kvs++[(n,v)]:=by
 k_extra "s"
 unfold stored
 rw [if_neg]
 intro z
 obtain ⟨p,hp,e⟩:=List.any_eq_true.mp z
 exact h (List.mem_map.mpr ⟨p,hp,of_decide_eq_true e⟩)
 k_extra "f"
section
variable {Q:Value->Shared->Prop} {b₀:Heap}
theorem lseen_ct {v:Addr} {dv:Vd} {B:Heap} (G:Gd w mean mg mb s.heap) (R:Rm A 4) (hB:B.StaysIn s.heap) (hV:VM w (hm B) v dv) (hla:dv.ats.length≤10) (hli:∀ a∈dv.ats,a.2.2.length≤1000)
   (hQ:∀ h' tk D oD kvs nw,KB [] s.heap h'->h'.get? D=some oD->s.heap.get? D=none->(D == sysModules)=false->oD.IsDictOf (PySem.strKind PG w) kvs->SeenM (H4 B nw) kvs dv.ats->Fresh s.heap h' nw->(∀ p∈nw,p.1≠D)->Q (.ref D) {s with heap:=h',toks:=tk}) :
   wpAny (model PG w) A (call (.ref 347) [.ref v]) Q E s:=by
 k_extra "s"
 refine enterC [] G (fun _ _ e=>e) (fun p hp=>nomatch hp) (by k_dflt k_is) (by k_dflt k_is) (by have:=R.d;omega) (binds:=[("v",.ref v)]) (BindsTo.of_eq rfl) (by rfl) (by decide +kernel) ?_
 intro b L h₁ tk0 cells F N Y X T hst hkb hK hlt
 k_cells Y
 rename_i o3 d3
 replace d3:o3.data = .cell (some (.ref v)):=d3
 (try simp only [List.cons_append,List.nil_append] at N)
 have hst2:=st2 hB hst
 (try dsimp only)
 cases hV with
 | null h1 h2 =>
   have hI:InstAt b v _ _ _:=instOf (hst2 _ _ h1) (hst2 _ _ h2)
   k_steps
   exact hQ _ _ _ _ [] [] (hK _ _ (by assumption)) (News.get (by assumption) (.head _)) (news_new2 (by assumption) hkb (.head _) (by simp)) (by assumption) (by assumption) .nil .nil (fun _ h=>nomatch h)
 | @vec dx1 ia1 k1 av1 its1 ats1 h0 h1 h2 =>
   obtain ⟨tk,ti,ta,ts9,tl,kt,n,vs,c9,h1,h2',h3,h4⟩:=h1.ex
   have hI:InstAt b v _ _ _:=instOf (hst2 _ _ h1) (hst2 _ _ h2')
   cases h2 with
   | none =>
     k_steps
     exact hQ _ _ _ _ [] [] (hK _ _ (by assumption)) (News.get (by assumption) (.head _)) (news_new2 (by assumption) hkb (.head _) (by simp)) (by assumption) (by assumption) .nil .nil (fun _ h=>nomatch h)
   | @some d1 od1 kvs1 ats2 e1 e2 e3 e4 e5 =>
     have e1':=hst2 _ _ e1
     have hnd:=keysNodup_of_isDictOf e2
     dsimp only at hla hli hQ
     k_steps
     refine DictComp_K (Top.nolimit T) (L:=L) (h₀:=b) (m:=fun y=>bindL (envOfC (Str.ofString "_law_seen") fs347 L 347 (Value.ref 346)).kindOf [(Str.ofString "v",Value.ref v)] (fun _=>none) y) (fun i out news=>∃ nw,news=(L+1,o3)::nw∧SeenM (H4 B nw) out (ats1.take i)) (by with_unfolding_all rfl) (by decide) (by rfl) (by decide) (by rfl) ?_
     k_steps
     have hkl:=e4.length
     refine ⟨d1,od1,kvs1,[(L+1,o3)],rfl,by k_extra "my hh",by assumption,by assumption,e1',e2,e3,by omega,⟨[],rfl,.nil⟩,?len,?turn,?fin⟩
     case len =>
       rintro i out _ ⟨nw,rfl,hs⟩
       have:=congrArg List.length hs.names
       rw [List.length_map,List.length_map,List.length_take] at this
       omega
     case turn =>
       rintro s₂ ⟨g,rfl⟩ i k v0 t out _ I oI oC oD C D m₂ h tk E' hk ⟨nw,rfl,hs⟩ hoC hmm F N off ne
       obtain ⟨a,dx,ia,kk,its,rfl,hat,va⟩:=AtsM.at e4 hk
       have hva:=valueAt_of_get hnd hk
       have hli1:=hli _ (List.mem_of_getElem? hat)
       obtain ⟨tk9,ti9,ta9,ts9,tl9,kt9,n9,vs9,c9,g1,g2,g3,g4⟩:=va.ex
       have hI9:InstAt b a _ _ _:=instOf (hst2 _ _ g1) (hst2 _ _ g2)
       have hL9:b.IsList ia vs9.toArray:=isListOf (hst2 _ _ g3)
       have hlen9:=g4.length
       dsimp only at hli1
       have hkn:k∉out.map (·.1):=by
         have e8:(ats1.take (i+1)).map (·.1)=(ats1.take i).map (·.1)++[k]:=by rw [take_snoc3 hat,List.map_append];rfl
         have e9:(ats1.map (·.1)).Nodup:=e4.names ▸ hnd
         have e7:((ats1.take (i+1)).map (·.1)).Nodup:=by rw [List.map_take];exact e9.sublist (List.take_sublist _ _)
         rw [e8] at e7
         rw [hs.names]
         exact fun z=>(List.nodup_append.mp e7).2.2 k z k (.head _) rfl
       k_steps
       rename_i D9 c10 h9 l9 D8 h8 F8 N8 l8
       have hsr:SRow (H4 B ((D8,{cls := .type "tuple",data := .seq #[.str kk kt9,.ref D9]})::(D9,listOf (List.toArray vs9) c10)::nw)) (.ref D8) kk its:=⟨D8,D9,kt9,vs9,c10,rfl,.inl (.head _),.inl (.tail _ (.head _)),g4.mono fun a o q => .inr q⟩
       refine ⟨_,_,(L+1,o3)::(D8,{cls := .type "tuple",data := .seq #[.str kk kt9,.ref D9]})::(D9,listOf (List.toArray vs9) c10)::nw,rfl,F8,fun p hp=>?_,?_,k,strKind_is _ _ _ _,_,rfl,?_⟩
       . simp only [List.mem_cons] at hp
         refine N8 p ?_
         simp only [List.mem_cons]
         rcases hp with hp | hp | hp | hp | hp | hp | hp<;>simp [hp]
       . exact ⟨off.1,⟨Nat.ne_of_gt l8.2.1,Nat.ne_of_gt l8.2.2.1,Nat.ne_of_gt l8.2.2.2.1⟩,⟨Nat.ne_of_gt l9.1,Nat.ne_of_gt l9.2.1,Nat.ne_of_gt l9.2.2.1⟩,off.2⟩
       . rw [stored_out hkn,take_snoc3 hat]
         exact (hs.mono fun a o q=>q.elim (fun z => .inl (.tail _ (.tail _ z))) .inr).snoc hsr
     case fin =>
       rintro D h tk oD out _ lo F N hd o1 ⟨nw,rfl,hs⟩
       rw [hkl,List.take_of_length_le (Nat.le_refl _)] at hs
       have hnn:∀ p∈nw,p.1≠D:=off1_mem o1.2
       exact hQ _ _ D oD out nw (hK _ _ F) (N.get (.head _)) (news_new2 N hkb (.head _) (by simp)) lo hd hs (fun p hp=>⟨(N p (.tail _ (.tail _ hp))).1,news_new2 (o:=p.2) N hkb (.tail _ (.tail _ hp)) (by simp)⟩) hnn
 k_extra "f"
end
end
section
theorem kw199:True:=by
 k_with "!exec While" => (refine Hold.out ?_)
 k_with "!exec While Compare cons nil" => (refine Hold.out ?_)
 exact True.intro
section
section
variable {Q:Value->Shared->Prop} {b₀:Heap}
theorem log60 {a:Int} (h:a.natAbs≤2 ^ 60):a.natAbs.log2<61:=by
 by_cases h0:a.natAbs=0
 . rw [h0];decide
 . exact (Nat.log2_lt h0).mpr (Nat.lt_of_le_of_lt h (by decide))
theorem G51.g51:True:=True.intro
open G51
theorem kw201:True:=by
 k_with "!binaryOp FloorDiv int int" => ((have:=g51;clear this);(k_here;k_dflt (refine' floordiv_int ?A5k ?_ (Or.inl (PyProof.noPylong_of_log2 ?B5k));(case A5k=>assumption);(case B5k=>exact Nat.lt_of_lt_of_le (log60 (by omega)) (by decide)))))
 exact True.intro
theorem lred_ct {n d:Int} {tn td:Tok} (G:Gd w mean mg mb s.heap) (R:Rm A 4) (hn:n.natAbs≤2 ^ 60) (hd:1≤d) (hd2:d≤1000)
   (hQ:∀ h' tk t x y t1 t2,KB [] s.heap h'->h'.get? t=some {cls := .type "tuple",data := .seq #[.int x t1,.int y t2]}->s.heap.get? t=none->Q (.ref t) {s with heap:=h',toks:=tk}) :
   wpAny (model PG w) A (call (.ref 316) [.int n tn,.int d td]) Q E s:=by
 k_extra "s"
 refine enter [] G (fun _ _ e=>e) (fun p hp=>nomatch hp) (by k_dflt k_is) (by k_dflt k_is) (by have:=R.d;omega) (binds:=[("n",.int n tn),("d",.int d td)]) (BindsTo.of_eq rfl) (locs rfl) ?_
 intro b L h₁ F N X T hst hkb hK hlt
 (try dsimp only)
 k_steps
 refine Hold.mk ?_
 rename_i u9 h5 h6 F9 N9
 have ha0:0≤(if n<0 then -n else n):=by split<;>omega
 have ha1:(if n<0 then -n else n)≤2 ^ 60:=by split<;>omega
 refine' While_inv (fun k m news=>∃ a b ta tb,0≤a∧0≤b∧0<a+b∧a≤2 ^ 60∧b≤2 ^ 60∧k=b.toNat∧news=[]∧m=fun y=>if y=Str.ofString "b" then some (.int b tb) else if y=Str.ofString "a" then some (.int a ta) else List.lookup y [(Str.ofString "n",Value.int n tn),(Str.ofString "d",Value.int d td)].reverse) F9 N9
   ⟨(if n<0 then -n else n),d,_,td,ha0,by omega,by omega,ha1,by omega,rfl,rfl,?e⟩ ?turn
 case e=>k_extra "my env"
 case turn =>
   rintro k m₁ _ h tk F N ⟨a,b',ta,tb,ha,hb,hab,ha2,hb2,rfl,rfl,rfl⟩
   have hfm:0<b'->0≤a.fmod b'∧a.fmod b'<b':=fun hp=>by
     rw [Int.fmod_eq_emod_of_nonneg _ hb]
     exact ⟨Int.emod_nonneg _ (by omega),Int.emod_lt_of_pos _ hp⟩
   k_steps
   . have hp:0<b':=by assumption
     obtain ⟨hf1,hf2⟩:=hfm hp
     refine WhileStep.intro (n':=(a.fmod b').toNat) (by assumption) (drop1s (by assumption)) (by omega) ⟨b',a.fmod b',_,_,hb,hf1,by omega,hb2,by omega,rfl,rfl,by k_extra "my env"⟩
   . have hp:¬0<b':=by assumption
     have hane:a≠0:=by omega
     k_steps
     exact hQ _ _ _ _ _ _ _ (hK _ _ (by assumption)) (News.get (by assumption) (by k_mem)) (news_new2 (by assumption) hkb (by k_mem) (by simp))
 k_extra "f"
end
end
section
section
variable {Q:Value->Shared->Prop} {b₀:Heap}
def RowO (o:Obj):Prop:=∃ us n l,o=listOf (List.toArray us) n∧IntsAre us l∧us.length≤200∧∀ x∈l,0≤x∧x<1024
theorem next_in {env:Env} {b:Heap} {L:Addr} {m:Str->Option Value} {news:List (Addr×Obj)} {row:Addr} {o:Obj} {g:Obj->List (Addr×Obj)}
   (F:Fr b L s.heap m) (N:News b L s.heap news) (U:UpdF row o news g) (hr:RowO o) (X:(KF w.params).In b) (T:Top TP LO mean mg mb b) (R:Rm (A.deeper env) 3)
   (hQ:∀ h' tk t x o',0≤x->x<1024->RowO o'->Fr b L h' m->News b L h' (g o')->Q (.int x t) {s with heap:=h',toks:=tk}) :
   wpAny (model PG w) (A.deeper env) (call (.ref 309) [.ref row]) Q E s:=by
 k_extra "s"
 obtain ⟨us,n,l,rfl,hi,hl,hx⟩:=hr
 have hn:=N _ (UpdF.mem U)
 have hb1:b.StaysIn (hideAll s.heap [row]):=fun a o q=>hideAll_get _ (F.keep _ _ q) fun z=>by
   rw [mS z,hn.2.2] at q;cases q
 refine next_ct (Gd.keeps ⟨X,T⟩ hb1) (fun a o q=>of_hideAll _ q) hn.1 (hideAll_none _ (.head _)) hi hl (by have:=R.d;omega) (by have:=R.u;omega) R.h ?_
 intro h' tk t us' n' kb gn hi'
 have hb2:0≤l.getLastD 0∧l.getLastD 0<1024:=by
   cases l with
   | nil=>exact ⟨by decide,by decide⟩
   | cons a r =>
     rw [List.getLastD_eq_getLast?,List.getLast?_eq_some_getLast (List.cons_ne_nil a r)]
     exact hx _ (List.getLast_mem _)
 have hle:us'.length≤200:=by
   rw [hi'.length,List.length_dropLast];have:=hi.length;omega
 exact hQ h' tk t _ (listOf (List.toArray us') n') hb2.1 hb2.2 ⟨us',n',l.dropLast,rfl,hi',hle,fun x hm=>hx x (List.dropLast_subset _ hm)⟩ (Fr.kb1 F N (UpdF.upd U (listOf (List.toArray us') n')) kb) (News.kb1 N (UpdF.upd U _) kb gn)
 k_extra "f"
end
theorem G52.g52:True:=True.intro
open G52
theorem kw203:True:=by
 k_with "c309" => ((have:=g52;clear this);(k_here;k_dflt (refine' next_in ?B5m ?C5m ?F5m ?A5m ?G5m ?E5m ?D5m ?_;(case B5m=>k_asm);(case C5m=>k_asm);(case F5m=>k_updF);(case A5m=>with_reducible assumption);(case G5m=>assumption);(case E5m=>assumption);(case D5m=>k_extra "my rm"));intro h8 tk8 t8 x8 o8 hx8 hy8 hr8 F8 N8;(try k_sweep);(try dsimp only);(revert h8 tk8 t8 x8 o8 hx8 hy8 hr8 F8 N8;intro _ _ _ _ _ _ _ _ _ _)))
 exact True.intro
section
variable {Q:Value->Shared->Prop} {b₀:Heap}
structure DsOk (ds:List Int) (many:Int):Prop where
 len:ds.length≤2
 bits:∀ d∈ds,Builtin.Int.intBits d≤64
 pr:prod ds=many
theorem ib9:∀ m:Nat,m≤9->Builtin.Int.intBits (m:Int)≤64:=by decide
theorem ib92:∀ m:Nat,m≤9->Builtin.Int.intBits ((m:Int).fdiv 2)≤64:=by decide
theorem ib93:∀ m:Nat,m≤9->Builtin.Int.intBits ((m:Int).fdiv 3)≤64:=by decide
theorem pr92:∀ m:Nat,m≤9->(m:Int).fmod 2=0->prod [2,(m:Int).fdiv 2]=m:=by decide
theorem pr93:∀ m:Nat,m≤9->(m:Int).fmod 3=0->prod [(m:Int).fdiv 3,3]=m:=by decide
theorem ds1 {m:Nat} (h:m≤9):DsOk [(m:Int)] m:=⟨by simp,fun d hd=>by rw [mS hd];exact ib9 m h,by simp [prod]⟩
theorem ds2 {m:Nat} (h:m≤9) (e:(m:Int).fmod 2=0):DsOk [2,(m:Int).fdiv 2] m:=⟨by simp,fun d hd=>by
 rcases mC hd with rfl | hd
 . decide
 . rw [mS hd];exact ib92 m h,pr92 m h e⟩
theorem ds3 {m:Nat} (h:m≤9) (e:(m:Int).fmod 3=0):DsOk [(m:Int).fdiv 3,3] m:=⟨by simp,fun d hd=>by
 rcases mC hd with rfl | hd
 . exact ib93 m h
 . rw [mS hd];decide,pr93 m h e⟩
theorem lshaped_ct {row:Addr} {o:Obj} {many:Nat} {tm:Tok} (G:Gd w mean mg mb b₀) (hb:b₀.StaysIn s.heap) (R:Rm A 5) (hr:RowO o) (hrow:s.heap.get? row=some o) (hr0:b₀.get? row=none) (hm:many≤9)
   (hQ0:∀ h' tk o',RowO o'->KB [row] s.heap h'->h'.get? row=some o'->Q .none {s with heap:=h',toks:=tk})
   (hQ1:∀ h' tk o' r vs c ds,RowO o'->KB [row] s.heap h'->h'.get? row=some o'->h'.get? r=some (listOf (List.toArray vs) c)->s.heap.get? r=none->IntsAre vs ds->DsOk ds many->Q (.ref r) {s with heap:=h',toks:=tk}) :
   wpAny (model PG w) A (call (.ref 330) [.ref row,.int many tm]) Q E s:=by
 k_extra "s"
 refine enter [(row,o)] G hb (fun p hp=>by cases hp with | head=>exact ⟨hrow,hr0⟩ | tail _ h=>cases h) (by k_dflt k_is) (by k_dflt k_is) (by have:=R.d;omega) (binds:=[("row",.ref row),("many",.int many tm)]) (BindsTo.of_eq rfl) (locs rfl) ?_
 intro b L h₁ F N X T hst hkb hK hlt
 (try dsimp only)
 k_steps
 all_goals first
   | (exfalso;omega)
   | exact hQ0 _ _ _ (by assumption) (hK _ _ (by assumption)) (News.get (by assumption) (by k_mem))
   | exact hQ1 _ _ _ _ [_] _ _ (by assumption) (hK _ _ (by assumption)) (News.get (by assumption) (by k_mem)) (News.get (by assumption) (by k_mem)) (news_new2 (by assumption) hkb (by k_mem) (nmem1 (by first | omega | (dsimp only;omega)))) (.cons _ _ .nil) (ds1 hm)
   | exact hQ1 _ _ _ _ [_,_] _ _ (by assumption) (hK _ _ (by assumption)) (News.get (by assumption) (by k_mem)) (News.get (by assumption) (by k_mem)) (news_new2 (by assumption) hkb (by k_mem) (nmem1 (by first | omega | (dsimp only;omega)))) (.cons 2 _ (.cons _ _ .nil)) (ds2 hm (by assumption))
   | exact hQ1 _ _ _ _ [_,_] _ _ (by assumption) (hK _ _ (by assumption)) (News.get (by assumption) (by k_mem)) (News.get (by assumption) (by k_mem)) (news_new2 (by assumption) hkb (by k_mem) (nmem1 (by first | omega | (dsimp only;omega)))) (.cons _ _ (.cons 3 _ .nil)) (ds3 hm (by assumption))
 k_extra "f"
end
end
section
theorem G53.g53:True:=True.intro
open G53
theorem kw205:True:=by
 k_with "c309" => ((have:=g53;clear this);(k_here;k_dflt (refine' next_in ?B5o ?C5o ?F5o ?A5o ?G5o ?E5o ?D5o ?_;(case B5o=>k_asm);(case C5o=>k_asm);(case F5o=>k_updF);(case A5o=>with_reducible assumption);(case G5o=>assumption);(case E5o=>assumption);(case D5o=>k_extra "my rm"));intro h8 tk8 t8 x8 o8 hx8 hy8 hr8 F8 N8;(try k_sweep);(try dsimp only);(revert h8 tk8 t8 x8 o8 hx8 hy8 hr8 F8 N8;intro _ _ _ _ _ _ _ _ _ _)))
 exact True.intro
section
theorem red40 (x:Int):(x.fmod 40 - 15).natAbs≤2 ^ 60:=by
 have h1:=fmod_lo x (n:=40) (by decide);have h2:=fmod_hi x (n:=40) (by decide);omega
theorem red40b (x:Int) {y z:Int} (h1:0≤y) (h2:y<1024) (h3:0≤z) (h4:z<1024):((x.fmod 40 - 15)*1024*1024+y*1024+z).natAbs≤2 ^ 60:=by
 have h5:=fmod_lo x (n:=40) (by decide);have h6:=fmod_hi x (n:=40) (by decide);omega
theorem red12a (x:Int):1≤1+x.fmod 12:=by
 have h5:=fmod_lo x (n:=12) (by decide);omega
theorem red12b (x:Int):1+x.fmod 12≤1000:=by
 have h5:=fmod_hi x (n:=12) (by decide);omega
theorem G54.g54:True:=True.intro
open G54
theorem kw207:True:=by
 k_with "c316" => ((have:=g54;clear this);(k_here;k_dflt (refine' lred_ct ?D5q ?E5q ?A5q ?B5q ?C5q ?_;(case D5q=>k_extra "my gd");(case E5q=>k_extra "my rm");(case A5q=>first | exact red40 _ | exact red40b _ (by assumption) (by assumption) (by assumption) (by assumption));(case B5q=>first | decide | exact red12a _);(case C5q=>first | decide | exact red12b _));intros;k_extra "my new1"))
 exact True.intro
section
variable {Q:Value->Shared->Prop} {b₀:Heap}
theorem pairHead {a:Addr} {x y:Int} {t u:Tok} {n:Nat}:ItM (fun a' o'=>(a',o')∈[(a,({cls := .type "tuple",data := .seq #[.int x t,.int y u] n}:Obj))]) (.ref a) (.tuple [.int x,.int y]) := .pair (.head _)
theorem ldouble_ct {row:Addr} {o:Obj} (G:Gd w mean mg mb b₀) (hb:b₀.StaysIn s.heap) (R:Rm A 6) (hr:RowO o) (hrow:s.heap.get? row=some o) (hr0:b₀.get? row=none)
   (hQ:∀ h' tk o' v d nw,RowO o'->KB [row] s.heap h'->h'.get? row=some o'->OkIt .dbl d->ItM (fun a o=>(a,o)∈nw) v d->Fresh s.heap h' nw->Q v {s with heap:=h',toks:=tk}) :
   wpAny (model PG w) A (call (.ref 323) [.ref row]) Q E s:=by
 k_extra "s"
 refine enter [(row,o)] G hb (fun p hp=>by cases hp with | head=>exact ⟨hrow,hr0⟩ | tail _ h=>cases h) (by k_dflt k_is) (by k_dflt k_is) (by have:=R.d;omega) (binds:=[("row",.ref row)]) (BindsTo.of_eq rfl) (locs rfl) ?_
 intro b L h₁ F N X T hst hkb hK hlt
 (try dsimp only)
 have f40:∀ x:Int,0≤x.fmod 40∧x.fmod 40<40:=fun x=>⟨fmod_lo _ (by decide),fmod_hi _ (by decide)⟩
 have f12:∀ x:Int,0≤x.fmod 12∧x.fmod 12<12:=fun x=>⟨fmod_lo _ (by decide),fmod_hi _ (by decide)⟩
 k_steps
 all_goals first
   | exact hQ _ _ _ _ .none [] (by assumption) (hK _ _ (by assumption)) (News.get (by assumption) (by k_mem)) (.none _) .none .nil
   | (refine' hQ _ _ _ _ _ _ (by assumption) (hK _ _ (by assumption)) (News.get (by assumption) (by k_mem)) ?z1 pairHead ?z3
      case z3 =>
        refine' Fresh.cons ?a1 ?a2 .nil
        case a1=>exact News.get (by assumption) (by k_mem)
        case a2=>exact news_new2 (by assumption) hkb (by k_mem) (nmem1 (by first | omega | (dsimp only;omega)))
      case z1=>exact .dbl _ _)
 k_extra "f"
end
end
section
def Off (T:List (Addr×Obj)) (ds:List Addr):Prop:=∀ p∈T,p.1∉ds
theorem Off.ne {T:List (Addr×Obj)} {ds:List Addr} {d:Addr} (h:Off T ds) (hd:d∈ds):∀ p∈T,p.1≠d:=fun p hp e=>h p hp (e ▸ hd)
theorem Off.nil {ds:List Addr}:Off [] ds:=fun _ h=>nomatch h
inductive TailF (T:List (Addr×Obj)):List (Addr×Obj)->(List (Addr×Obj)->List (Addr×Obj))->Prop
 | head:TailF T T (fun t=>t)
 | tail {p r g}:TailF T r g->TailF T (p::r) (fun t=>p::g t)
theorem TailF.split {T l:List (Addr×Obj)} {g:List (Addr×Obj)->List (Addr×Obj)} (h:TailF T l g):∃ e,l=e++T∧∀ t,g t=e++t:=by
 induction h with
 | head=>exact ⟨[],rfl,fun _=>rfl⟩
 | tail _ ih=>obtain ⟨e,h1,h2⟩:=ih;exact ⟨_::e,by rw [h1];rfl,fun t=>congrArg (List.cons _) (h2 t)⟩
theorem AllNe.app {d:Nat}:∀ {a b:List (Addr×Obj)},AllNe d (a++b)->AllNe d b:=by
 k_extra "s"
 intro a b h
 induction a with
 | nil=>exact h
 | cons x r ih=>exact ih h.2
 k_extra "f"
abbrev HT (B:Heap) (T:List (Addr×Obj)):HM:=fun a o=>(a,o)∈T∨B.get? a=some o
section
variable {Q:Value->Shared->Prop} {b₀:Heap}
theorem seen_in {env:Env} {b:Heap} {L:Addr} {m:Str->Option Value} {news T:List (Addr×Obj)} {ds:List Addr} {g:List (Addr×Obj)->List (Addr×Obj)} {v:Addr} {dv:Vd} {B:Heap}
   (off:Off T ds) (F:Fr b L s.heap m) (N:News b L s.heap news) (tl:TailF T news g) (hds:∀ d∈ds,∃ o,(d,o)∈news) (X:(KF w.params).In b) (hT:Top TP LO mean mg mb b) (R:Rm (A.deeper env) 4)
   (hB:B.StaysIn b) (hV:VM w (hm B) v dv) (hla:dv.ats.length≤10) (hli:∀ a∈dv.ats,a.2.2.length≤1000)
   (hQ:∀ h' tk D oD kvs T',Fr b L h' m->News b L h' ((D,oD)::g T')->AllNe D news->(∀ p∈T,p∈T')->Off T' ds->(D == sysModules)=false->oD.IsDictOf (PySem.strKind PG w) kvs->SeenM (HT B T') kvs dv.ats->Q (.ref D) {s with heap:=h',toks:=tk}) :
   wpAny (model PG w) (A.deeper env) (call (.ref 347) [.ref v]) Q E s:=by
 k_extra "s"
 refine lseen_ct (Gd.keeps ⟨X,hT⟩ F.keep) R (st2 hB F.keep) hV hla hli ?_
 intro h' tk D oD kvs nw kb gD nD lo hd sm fr hne
 obtain ⟨e,rfl,hg⟩:=tl.split
 have F':=Fr.kb0 F kb
 refine hQ h' tk D oD kvs (nw++T) F' ?_ (allNe_of nD N) (fun p hp=>List.mem_append_right _ hp) ?_ lo hd (sm.mono fun a o z=>z.elim (fun z => .inl (List.mem_append_left _ z)) .inr)
 . rw [hg]
   intro p hp
   rcases mC hp with rfl | hp
   . exact more1 kb gD nD F N _ (.head _)
   rcases List.mem_append.mp hp with hp | hp
   . exact News.kb0 N kb p (List.mem_append_left _ hp)
   rcases List.mem_append.mp hp with hp | hp
   . exact News.more' F (News.kb0 N kb) fr p (List.mem_append_left _ hp)
   . exact News.kb0 N kb p (List.mem_append_right _ hp)
 . intro p hp q
   rcases List.mem_append.mp hp with hp | hp
   . obtain ⟨o,ho⟩:=hds _ q
     have:=(N _ ho).1
     rw [(fr p hp).2] at this;cases this
   . exact off p hp q
 k_extra "f"
end
theorem G55.g55:True:=True.intro
open G55
theorem kw213:True:=by
 k_with "k_all" => ((have:=g55;clear this);exact Off.ne (by assumption) (by k_mem))
 k_with "my tail" => ((have:=g55;clear this);first | exact TailF.head | (refine' TailF.tail ?A5t;(case A5t=>k_extra "my tail")))
 k_with "my dom" => (first | exact List.forall_mem_nil _ | (refine List.forall_mem_cons.mpr ⟨⟨_,by k_mem⟩,?_⟩;k_extra "my dom"))
 k_with "c347" => ((have:=g55;clear this);(k_here;k_dflt (refine' seen_in ?K5v ?D5v ?E5v ?L5v ?J5v ?I5v ?G5v ?F5v ?C5v ?H5v ?A5v ?B5v ?_;(case K5v=>with_reducible assumption);(case D5v=>k_asm);(case E5v=>k_asm);(case L5v=>k_extra "my tail");(case J5v=>k_extra "my dom");(case I5v=>assumption);(case G5v=>assumption);(case F5v=>k_extra "my rm");(case H5v=>k_extra "my vm");(case C5v=>with_reducible assumption);(case A5v=>k_extra "my len");(case B5v=>with_reducible assumption));intro h8 tk8 D8 o8 kvs8 T8 F8 N8 l8 sub8 off8 lo8 hd8 sm8;(try simp only [AllNe,and_true] at l8);(try k_sweep);(first | (revert h8 tk8 D8 o8 kvs8 T8 F8 N8 l8 sub8 off8 lo8 hd8 sm8;intro _ _ _ _ _ _ _ _ _ _ _ _ _ _) | (revert h8 tk8 D8 o8 kvs8 T8 F8 N8 sub8 off8 lo8 hd8 sm8;intro _ _ _ _ _ _ _ _ _ _ _ _ _))))
 k_with "!subscriptTail" => ((have:=g55;clear this);(k_here;(with_reducible show wpAny _ _ (subscriptTail _ _ (Value.ref _) (Value.str _ _)) _ _ _);k_dflt (refine' kda_item (knd:=PySem.strKind _ _) ?A5w ?B5w ?C5w (strKind_is _ _ _ _) ?D5w ?_;(case A5w=>assumption);(case B5w=>k_mem);(case C5w=>with_reducible assumption);(case D5w=>with_reducible assumption))))
 exact True.intro
inductive NamesR (H:HM):List (Str×Value)->Option (Str×List PyData)->Prop
 | none:NamesR H [] none
 | some {v:Value} {k:Str} {its:List PyData}:SRow H v k its->NamesR H [("names",v)] (Option.some (k,its))
theorem NamesR.len {H:HM} {kvs:List (Str×Value)} {x:Option (Str×List PyData)} (n:NamesR H kvs x):kvs.length≤1:=by cases n<;>simp
theorem NamesR.mono {H H':HM} {kvs:List (Str×Value)} {x:Option (Str×List PyData)} (n:NamesR H kvs x) (f:∀ a o,H a o->H' a o):NamesR H' kvs x:=by
 cases n with
 | none=>exact .none
 | some h=>exact .some (h.mono f)
theorem NamesR.put {H:HM} {kvs:List (Str×Value)} {x:Option (Str×List PyData)} {v:Value} {k:Str} {its:List PyData} (n:NamesR H kvs x) (h:SRow H v k its):NamesR H (stored kvs "names" v) (Option.some (k,its)):=by
 k_extra "s"
 cases n with
 | none=>exact .some h
 | some _ =>
   have e:∀ r:Value,stored [(Str.ofString "names",r)] (Str.ofString "names") v=[((Str.ofString "names"),v)]:=fun r=>by simp [stored]
   rw [e];exact .some h
 k_extra "f"
theorem NamesR.seen {H:HM} {kvs:List (Str×Value)} {x:Option (Str×List PyData)} (n:NamesR H kvs x):SeenM H kvs (namesAts x):=by
 cases n with
 | none=>exact .nil
 | some v=>exact .cons v .nil
theorem SeenM.at {H:HM} {kvs:List (Str×Value)} {ats:List Att} (x:SeenM H kvs ats):∀ {i:Nat} {n:Str} {v0:Value},kvs[i]?=Option.some (n,v0)->∃ k its,ats[i]?=Option.some (n,k,its)∧SRow H v0 k its:=by
 k_extra "s"
 induction x with
 | nil=>intro i n v0 h;simp at h
 | cons h _ ih =>
   intro i n v0 e
   cases i with
   | zero=>simp at e;obtain ⟨rfl,rfl⟩:=e;exact ⟨_,_,rfl,h⟩
   | succ i=>simpa using ih (by simpa using e)
 k_extra "f"
theorem attOf_snoc {l:List Att} {a:Att} {n:Str}:attOf (l++[a]) n=(attOf l n).or (if a.1=n then some a.2 else none):=by
 k_extra "s"
 unfold attOf
 rw [List.find?_append]
 cases List.find? (fun p=>decide (p.1=n)) l with
 | some x=>rfl
 | none=>by_cases h:a.1=n<;>simp [h]
 k_extra "f"
theorem attOf_out {l:List Att} {n:Str} (h:n∉l.map (·.1)):attOf l n=none:=by
 k_extra "s"
 unfold attOf
 rw [List.find?_eq_none.mpr];· rfl
 intro p hp z
 exact h (List.mem_map.mpr ⟨p,hp,of_decide_eq_true z⟩)
 k_extra "f"
theorem nodup_at {l:List Att} {i:Nat} {a:Att} (h:(l.map (·.1)).Nodup) (e:l[i]?=some a):a.1∉(l.take i).map (·.1):=by
 have e7:((l.take (i+1)).map (·.1)).Nodup:=by rw [List.map_take];exact h.sublist (List.take_sublist _ _)
 rw [take_snoc3 e,List.map_append] at e7
 exact fun z=>(List.nodup_append.mp e7).2.2 a.1 z a.1 (.head _) rfl
theorem inNames (k:Str):([PyData.str "names",PyData.str "dim"].any fun y=>PyData.eqv y (.str k))=decide (k = "names" ∨ k = "dim"):=by
 k_extra "s"
 by_cases h1:k = "names"
 . subst h1;rfl
 by_cases h2:k = "dim"
 . subst h2;rfl
 rw [decide_eq_false (fun z=>z.elim h1 h2)]
 simp only [List.any_cons,List.any_nil,PyData.eqv,Bool.or_false]
 rw [Bool.or_eq_false_iff]
 exact ⟨beq_eq_false_iff_ne.mpr fun z=>h1 z.symm,beq_eq_false_iff_ne.mpr fun z=>h2 z.symm⟩
 k_extra "f"
theorem kw216:True:=by
 k_with "my bool" => (exact inNames _)
 k_with "!exec For Tuple List cons nil" => ((have:=g55;clear this);(k_here;k_dflt (refine For_t (by assumption) ?_)))
 exact True.intro
section
variable {Q:Value->Shared->Prop} {b₀:Heap}
def nm9 (d:Vd) (z tot:Int) (x0:Option (Str×List PyData)) (ats:List Att):Option (Str×List PyData):=if z=tot then (attOf ats "names").or x0 else x0
theorem nm9_nil {d:Vd} {z tot:Int} {x0:Option (Str×List PyData)}:nm9 d z tot x0 []=x0:=by unfold nm9;split<;>rfl
theorem nm9_put {d:Vd} {z tot:Int} {x0:Option (Str×List PyData)} {l:List Att} {j:Nat} {kk:Str} {its:List PyData} (hz:z=tot) (hn:attOf (l.take j) (Str.ofString "names")=none) (hat:l[j]?=some (Str.ofString "names",kk,its)):nm9 d z tot x0 (l.take (j+1))=some (kk,its):=by
 unfold nm9
 rw [if_pos hz,take_snoc3 hat,attOf_snoc,hn]
 simp
theorem nm9_ne {d:Vd} {z tot:Int} {x0:Option (Str×List PyData)} {l l':List Att} (hz:z≠tot):nm9 d z tot x0 l=nm9 d z tot x0 l':=by
 unfold nm9;rw [if_neg hz,if_neg hz]
theorem nm9_out {d:Vd} {z tot:Int} {x0:Option (Str×List PyData)} {l:List Att} {j:Nat} {k kk:Str} {its:List PyData} (hk:k≠Str.ofString "names") (hat:l[j]?=some (k,kk,its)):nm9 d z tot x0 (l.take (j+1))=nm9 d z tot x0 (l.take j):=by
 unfold nm9
 rw [take_snoc3 hat,attOf_snoc,if_neg hk,Option.or_none]
noncomputable def xs9 (du dv:Vd) (nu nv tot:Int):Nat->Option (Str×List PyData)
 | 0=>none
 | 1=>nm9 dv nv tot none dv.ats
 | _=>nm9 du nu tot (nm9 dv nv tot none dv.ats) du.ats
abbrev tup2 (a b:Value):Obj := {cls := .type "tuple",data := .seq #[a,b]}
theorem latt_none {u v:Addr} {du dv:Vd} {nu nv tot:Int} {t1 t2 t3:Tok} {B:Heap} (G:Gd w mean mg mb s.heap) (R:Rm A 6) (hB:B.StaysIn s.heap) (hU:VM w (hm B) u du) (hV:VM w (hm B) v dv)
   (hla:du.ats.length≤10) (hli:∀ a∈du.ats,a.2.2.length≤1000) (hlb:dv.ats.length≤10) (hlj:∀ a∈dv.ats,a.2.2.length≤1000)
   (hQ:∀ h' tk D oD kvs,KB [] s.heap h'->h'.get? D=some oD->s.heap.get? D=none->(D == sysModules)=false->oD.IsDictOf (PySem.strKind PG w) kvs->SeenM (hm h') kvs (namesAts (nm9 du nu tot (nm9 dv nv tot none dv.ats) du.ats))->Q (.ref D) {s with heap:=h',toks:=tk}) :
   wpAny (model PG w) A (call (.ref 361) [.ref u,.ref v,.int nu t1,.int nv t2,.none,.int tot t3,.bool false]) Q E s:=by
 k_extra "s"
 refine enter [] G (fun _ _ e=>e) (fun p hp=>nomatch hp) (by k_dflt k_is) (by k_dflt k_is) (by have:=R.d;omega) (binds:=[("u",.ref u),("v",.ref v),("n",.int nu t1),("m",.int nv t2),("shape",.none),("total",.int tot t3),("extra",.bool false)]) (BindsTo.of_eq rfl) (locs rfl) ?_
 intro b L h₁ F N X T hst hkb hK hlt
 have hst2:=st2 hB hst
 (try dsimp only)
 k_steps
 rename_i d8 h4 o0 lo8 hs8 fs8 hi8 fi8 _ h3 D1 h2 l1 D2 h1 l2 l8 hh F8 N8 l3
 clear fs8 hi8 fi8
 refine iterListT (vs:=[.ref D1,.ref D2]) (fun i m news=>∃ oF kvs T sd sz sn nme,NamesR (HT B T) kvs (xs9 du dv nu nv tot i)∧oF.IsDictOf (PySem.strKind PG w) kvs∧Off T [d8] ∧
     news=(l8,listOf #[.ref D1,.ref D2] 0)::(D2,tup2 (.ref u) (.int nu t1))::(D1,tup2 (.ref v) (.int nv t2))::(d8,oF)::T ∧
     m=fun y=>if y=Str.ofString "name" then nme else if y=Str.ofString "seen" then sn else if y=Str.ofString "size" then sz else if y=Str.ofString "side" then sd else if y=Str.ofString "found" then some (.ref d8) else
       List.lookup y [(Str.ofString "u",Value.ref u),(Str.ofString "v",Value.ref v),(Str.ofString "n",Value.int nu t1),(Str.ofString "m",Value.int nv t2),(Str.ofString "shape",Value.none),(Str.ofString "total",Value.int tot t3),(Str.ofString "extra",Value.bool false)].reverse)
   (by k_extra "my hh") (News.isList N8 (.head _)) (N8 _ (.head _)).2.1 (.inr ⟨_,fun j m news z=>by obtain ⟨_,_,_,_,_,_,_,_,_,_,rfl,_⟩:=z;exact .head _⟩) F8 N8 ?_ ?turn ?done
 . refine' ⟨o0,[],[],none,none,none,none,.none,hs8,Off.nil,rfl,?s2⟩
   case s2=>k_extra "my env"
 case turn =>
   rintro I i vi m₁ _ h tk oI hv9 ⟨oF,kvs,T9,sd,sz,sn,nme,hnr,hdF,off9,rfl,rfl⟩ hn9 F N
   have hop:∃ t a d z tz,vi = .ref t∧IsTup h t #[.ref a,.int z tz]∧VM w (hm B) a d∧d.ats.length≤10∧(∀ a∈d.ats,a.2.2.length≤1000)∧xs9 du dv nu nv tot (i+1)=nm9 d z tot (xs9 du dv nu nv tot i) d.ats:=by
     match i,hv9 with
     | 0,h=>exact ⟨D1,v,dv,nv,t2,by simpa using h.symm,N.isTup (by k_mem),hV,hlb,hlj,rfl⟩
     | 1,h=>exact ⟨D2,u,du,nu,t1,by simpa using h.symm,N.isTup (by k_mem),hU,hla,hli,rfl⟩
     | i+2,h=>simp at h
   obtain ⟨t,a,d,z,tz,rfl,hT9,hVa,hla9,hli9,hxs⟩:=hop
   have hkl:=hnr.len
   have hnd9:=allNe_all hn9
   simp only [AllNe,and_true] at hnd9
   have offI:Off T9 [d8,I]:=fun p hp q=>by
     rcases mC q with q | q
     . exact off9 p hp (q ▸ .head _)
     . exact allNe_back hnd9.2.2.2.2 p hp (mS q)
   k_steps
   rename_i D8 o8 kvs8 T8 l98 sub8 off8 lo98 hd8 sm8 h98 F9 N9
   have hndk:=keysNodup_of_isDictOf hd8
   have hnda:(d.ats.map (·.1)).Nodup:=sm8.names ▸ hndk
   have hkl8:kvs8.length=d.ats.length:=by have:=congrArg List.length sm8.names;simpa using this
   refine iterDict (kvs:=kvs8) (fun j m news=>∃ oF' kvs' nme',NamesR (HT B T8) kvs' (nm9 d z tot (xs9 du dv nu nv tot i) (d.ats.take j))∧oF'.IsDictOf (PySem.strKind PG w) kvs' ∧
       news=(D8,o8)::(I,oI)::(l8,listOf #[.ref D1,.ref D2] 0)::(D2,tup2 (.ref u) (.int nu t1))::(D1,tup2 (.ref v) (.int nv t2))::(d8,oF')::T8 ∧
       m=fun y=>if y=Str.ofString "name" then nme' else if y=Str.ofString "seen" then some (.ref D8) else if y=Str.ofString "size" then some (.int z tz) else if y=Str.ofString "side" then some (.ref a) else if y=Str.ofString "found" then some (.ref d8) else
         List.lookup y [(Str.ofString "u",Value.ref u),(Str.ofString "v",Value.ref v),(Str.ofString "n",Value.int nu t1),(Str.ofString "m",Value.int nv t2),(Str.ofString "shape",Value.none),(Str.ofString "total",Value.int tot t3),(Str.ofString "extra",Value.bool false)].reverse)
     (by k_extra "my hh") lo98 (N9 _ (.head _)).1 hd8 (N9 _ (.head _)).2.1 (.inr ⟨_,fun j m news z=>by obtain ⟨_,_,_,_,_,rfl,_⟩:=z;exact .head _⟩) F9 N9 ?_ ?turn2 ?done2
   . refine' ⟨oF,kvs,nme,?s1,hdF,rfl,?s2⟩
     case s1=>rw [List.take_zero,nm9_nil];exact hnr.mono fun a o q=>q.elim (fun q => .inl (sub8 _ q)) .inr
     case s2=>k_extra "my env"
   case turn2 =>
     rintro I2 j k v0 t m₁ _ h2 tk2 oI2 hk2 ⟨oF',kvs',nme',hnr',hdF',rfl,rfl⟩ hn2 F2 N2
     obtain ⟨kk,its,hat,hsr⟩:=SeenM.at sm8 hk2
     have hn2':=allNe_all hn2
     have hn2b:=hn2'
     simp only [AllNe,and_true] at hn2'
     have hkl':=hnr'.len
     by_cases hkn:k=Str.ofString "names"
     . subst hkn
       have hva:valueAt kvs8 (Str.ofString "names")=some v0:=valueAt_of_get hndk hk2
       have hno:attOf (d.ats.take j) (Str.ofString "names")=none:=attOf_out (nodup_at hnda hat)
       k_steps
       all_goals first
         | exact TEnd.intro (by assumption) (drop1 (by assumption)) (by exact allNe_back hn2b) ⟨_,_,_,by rw [nm9_put (by assumption) hno hat];exact hnr'.put hsr,by assumption,rfl,by k_extra "my env"⟩
         | exact TEnd.intro (by assumption) (drop1 (by assumption)) (by exact allNe_back hn2b) ⟨_,_,_,by rw [nm9_ne (l':=d.ats.take j) (by assumption)];exact hnr',hdF',rfl,by k_extra "my env"⟩
     . have hkn':(k == Str.ofString "names")=false:=beq_eq_false_iff_ne.mpr hkn
       k_steps
       all_goals first
         | exact absurd (eq_of_beq (by assumption)) hkn
         | exact TEnd.intro (by assumption) (by first | exact drop1 (by assumption) | assumption) (by exact allNe_back hn2b) ⟨_,_,_,by rw [nm9_out hkn hat];exact hnr',hdF',rfl,by k_extra "my env"⟩
   case done2 =>
     rintro h' tk' m' _ F' N' ⟨oF',kvs',nme',hnr',hdF',rfl,rfl⟩
     k_steps
     rw [hkl8,List.take_of_length_le (Nat.le_refl _),← hxs] at hnr'
     exact TEnd.intro (by assumption) (drop1 (by assumption)) (by exact allNe_back ⟨hnd9.1,hnd9.2.1,hnd9.2.2.1,hnd9.2.2.2.1,allNe_all (off8.ne (.tail _ (.head _)))⟩) ⟨_,_,_,_,_,_,_,hnr',hdF',fun p hp q=>off8 p hp (by rw [mS q];exact .head _),rfl,by k_extra "my env"⟩
 case done =>
   rintro h' tk' m' _ F' N' ⟨oF,kvs,T9,sd,sz,sn,nme,hnr,hdF,off9,rfl,rfl⟩
   k_steps
   exact hQ _ _ _ _ _ (hK _ _ (by assumption)) (News.get (by assumption) (by k_mem)) (news_new2 (by assumption) hkb (by k_mem) (by simp)) lo8 hdF (hnr.seen.mono fun a o q=>q.elim (fun q=>(N' _ (mt3 (.tail _ q))).1) (fun q=>F'.keep _ _ (hst2 _ _ q)))
 k_extra "f"
end
end
section
theorem G56.g56:True:=True.intro
open G56
theorem kw222:True:=by
 k_with "k_all" => ((have:=g56;clear this);exact Off.ne (by assumption) (by k_mem))
 k_with "my tail" => ((have:=g56;clear this);first | exact TailF.head | (refine' TailF.tail ?A62;(case A62=>k_extra "my tail")))
 k_with "my dom" => (first | exact List.forall_mem_nil _ | (refine List.forall_mem_cons.mpr ⟨⟨_,by k_mem⟩,?_⟩;k_extra "my dom"))
 k_with "c347" => ((have:=g56;clear this);(k_here;k_dflt (refine' seen_in ?K64 ?D64 ?E64 ?L64 ?J64 ?I64 ?G64 ?F64 ?C64 ?H64 ?A64 ?B64 ?_;(case K64=>with_reducible assumption);(case D64=>k_asm);(case E64=>k_asm);(case L64=>k_extra "my tail");(case J64=>k_extra "my dom");(case I64=>assumption);(case G64=>assumption);(case F64=>k_extra "my rm");(case H64=>k_extra "my vm");(case C64=>with_reducible assumption);(case A64=>k_extra "my len");(case B64=>with_reducible assumption));intro h8 tk8 D8 o8 kvs8 T8 F8 N8 l8 sub8 off8 lo8 hd8 sm8;(try simp only [AllNe,and_true] at l8);(try k_sweep);(first | (revert h8 tk8 D8 o8 kvs8 T8 F8 N8 l8 sub8 off8 lo8 hd8 sm8;intro _ _ _ _ _ _ _ _ _ _ _ _ _ _) | (revert h8 tk8 D8 o8 kvs8 T8 F8 N8 sub8 off8 lo8 hd8 sm8;intro _ _ _ _ _ _ _ _ _ _ _ _ _))))
 k_with "!subscriptTail" => ((k_here;(with_reducible show wpAny _ _ (subscriptTail _ _ (Value.ref _) (Value.str _ _)) _ _ _);k_dflt (refine' kda_item (knd:=PySem.strKind _ _) ?A65 ?B65 ?C65 (strKind_is _ _ _ _) ?D65 ?_;(case A65=>assumption);(case B65=>k_mem);(case C65=>with_reducible assumption);(case D65=>with_reducible assumption))))
 exact True.intro
section
theorem kw225:True:=by
 k_with "my bool" => (exact inNames _)
 k_with "!exec For Tuple List cons nil" => ((k_here;k_dflt (refine For_t (by assumption) ?_)))
 exact True.intro
section
section
variable {Q:Value->Shared->Prop} {b₀:Heap}
theorem latt_some {u v rs:Addr} {du dv:Vd} {nu nv tot:Int} {t1 t2 t3:Tok} {ws:List Value} {cs:Nat} {ds:List Int} {B:Heap} (G:Gd w mean mg mb s.heap) (R:Rm A 6) (hB:B.StaysIn s.heap) (hU:VM w (hm B) u du) (hV:VM w (hm B) v dv)
   (hla:du.ats.length≤10) (hli:∀ a∈du.ats,a.2.2.length≤1000) (hlb:dv.ats.length≤10) (hlj:∀ a∈dv.ats,a.2.2.length≤1000) (hrs:s.heap.get? rs=some (listOf (List.toArray ws) cs)) (hws:IntsAre ws ds)
   (hQ:∀ h' tk D oD kvs,KB [] s.heap h'->h'.get? D=some oD->s.heap.get? D=none->(D == sysModules)=false->oD.IsDictOf (PySem.strKind PG w) kvs->SeenM (hm h') kvs [("dim","integer",ds.map .int)]->Q (.ref D) {s with heap:=h',toks:=tk}) :
   wpAny (model PG w) A (call (.ref 361) [.ref u,.ref v,.int nu t1,.int nv t2,.ref rs,.int tot t3,.bool false]) Q E s:=by
 k_extra "s"
 refine enter [] G (fun _ _ e=>e) (fun p hp=>nomatch hp) (by k_dflt k_is) (by k_dflt k_is) (by have:=R.d;omega) (binds:=[("u",.ref u),("v",.ref v),("n",.int nu t1),("m",.int nv t2),("shape",.ref rs),("total",.int tot t3),("extra",.bool false)]) (BindsTo.of_eq rfl) (locs rfl) ?_
 intro b L h₁ F N X T hst hkb hK hlt
 have hst2:=st2 hB hst
 (try dsimp only)
 k_steps
 rename_i d8 h4 o0 lo8 hs8 fs8 hi8 fi8 _ h3 ti Dt h2 l1 g1 oF hdF g2 hk1 nm1 g3 hk2 nm2 l8 hh F8 N8 l3
 clear fs8 hi8 fi8 hk1 nm1 hk2 nm2
 replace hdF:oF.IsDictOf (PySem.strKind PG w) [(Str.ofString "dim",Value.ref Dt)]:=hdF
 obtain ⟨D1,hD1⟩:∃ D1,g1.objs.size=D1:=⟨_,rfl⟩
 obtain ⟨D2,hD2⟩:∃ D2,g2.objs.size=D2:=⟨_,rfl⟩
 dsimp only at N8
 rw [hD1,hD2] at N8 l3
 refine iterListT (vs:=[.ref D1,.ref D2]) (fun i m news=>∃ sd sz sn nme,
     news=(l8,listOf #[.ref D1,.ref D2] 0)::(D2,tup2 (.ref u) (.int nu t1))::(D1,tup2 (.ref v) (.int nv t2))::(Dt,tup2 (.str "integer" ti) (.ref rs))::(d8,oF)::[] ∧
     m=fun y=>if y=Str.ofString "name" then nme else if y=Str.ofString "seen" then sn else if y=Str.ofString "size" then sz else if y=Str.ofString "side" then sd else if y=Str.ofString "found" then some (.ref d8) else
       List.lookup y [(Str.ofString "u",Value.ref u),(Str.ofString "v",Value.ref v),(Str.ofString "n",Value.int nu t1),(Str.ofString "m",Value.int nv t2),(Str.ofString "shape",Value.ref rs),(Str.ofString "total",Value.int tot t3),(Str.ofString "extra",Value.bool false)].reverse)
   (by k_extra "my hh") (News.isList N8 (.head _)) (N8 _ (.head _)).2.1 (.inr ⟨_,fun j m news z=>by obtain ⟨_,_,_,_,rfl,_⟩:=z;exact .head _⟩) F8 N8 ?_ ?turn ?done
 . exact ⟨none,none,none,none,rfl,by k_extra "my env"⟩
 case turn =>
   rintro I i vi m₁ _ h tk oI hv9 ⟨sd,sz,sn,nme,rfl,rfl⟩ hn9 F N
   have hop:∃ t a d z tz,vi = .ref t∧IsTup h t #[.ref a,.int z tz]∧VM w (hm B) a d∧d.ats.length≤10∧(∀ a∈d.ats,a.2.2.length≤1000):=by
     match i,hv9 with
     | 0,h=>exact ⟨D1,v,dv,nv,t2,by simpa using h.symm,N.isTup (by k_mem),hV,hlb,hlj⟩
     | 1,h=>exact ⟨D2,u,du,nu,t1,by simpa using h.symm,N.isTup (by k_mem),hU,hla,hli⟩
     | i+2,h=>simp at h
   obtain ⟨t,a,d,z,tz,rfl,hT9,hVa,hla9,hli9⟩:=hop
   have hnd9:=allNe_all hn9
   have offI:Off [] [I]:=Off.nil
   k_steps
   rename_i D8 o8 kvs8 T8 sub8 off8 lo98 hd8 sm8 l98 h98 F9 N9
   refine iterDict (kvs:=kvs8) (fun j m news=>∃ nme',news=(D8,o8)::(I,oI)::(l8,listOf #[.ref D1,.ref D2] 0)::(D2,tup2 (.ref u) (.int nu t1))::(D1,tup2 (.ref v) (.int nv t2))::(Dt,tup2 (.str "integer" ti) (.ref rs))::(d8,oF)::T8 ∧
       m=fun y=>if y=Str.ofString "name" then nme' else if y=Str.ofString "seen" then some (.ref D8) else if y=Str.ofString "size" then some (.int z tz) else if y=Str.ofString "side" then some (.ref a) else if y=Str.ofString "found" then some (.ref d8) else
         List.lookup y [(Str.ofString "u",Value.ref u),(Str.ofString "v",Value.ref v),(Str.ofString "n",Value.int nu t1),(Str.ofString "m",Value.int nv t2),(Str.ofString "shape",Value.ref rs),(Str.ofString "total",Value.int tot t3),(Str.ofString "extra",Value.bool false)].reverse)
     (by k_extra "my hh") lo98 (N9 _ (.head _)).1 hd8 (N9 _ (.head _)).2.1 (.inr ⟨_,fun j m news z=>by obtain ⟨_,rfl,_⟩:=z;exact .head _⟩) F9 N9 ?_ ?turn2 ?done2
   . exact ⟨nme,rfl,by k_extra "my env"⟩
   case turn2 =>
     rintro I2 j k v0 t m₁ _ h2 tk2 oI2 hk2 ⟨nme',rfl,rfl⟩ hn2 F2 N2
     have hn2b:=allNe_all hn2
     k_steps
     all_goals first
       | exact TEnd.intro (by assumption) (by first | exact drop1 (by assumption) | assumption) (by exact allNe_back hn2b) ⟨_,rfl,by k_extra "my env"⟩
   case done2 =>
     rintro h' tk' m' _ F' N' ⟨nme',rfl,rfl⟩
     k_steps
     exact TEnd.intro (by assumption) (fun p hp=>by have q9:=List.mem_append_left T8 hp;exact N' p (.tail _ q9)) (by exact allNe_back hnd9) ⟨_,_,_,_,rfl,by k_extra "my env"⟩
 case done =>
   rintro h' tk' m' _ F' N' ⟨sd,sz,sn,nme,rfl,rfl⟩
   k_steps
   exact hQ _ _ _ _ _ (hK _ _ F') (N'.get (by k_mem)) (news_new2 N' hkb (by k_mem) (by simp)) lo8 hdF (.cons ⟨Dt,rs,ti,ws,cs,rfl,N'.get (by k_mem),F'.keep _ _ (hst _ _ hrs),ItsM.ofInts hws⟩ .nil)
 k_extra "f"
end
end
section
theorem intsSnoc:∀ {vs:List Value} {ds:List Int} {x:Int} {t:Tok},IntsAre vs ds->IntsAre (vs++[.int x t]) (ds++[x])
 | _,_,x,t,.nil => .cons x t .nil
 | _,_,_,_,.cons y u h => .cons y u (intsSnoc h)
theorem bnd9 {l:List Int} {x:Int} (h:∀ x∈l,0≤x∧x<1024):∀ y∈l++[x.fmod 1024],0≤y∧y<1024:=fun y hy=>by
 rcases List.mem_append.mp hy with hy | hy
 . exact h y hy
 . rw [mS hy];exact ⟨fmod_lo _ (by decide),fmod_hi _ (by decide)⟩
section
variable {Q:Value->Shared->Prop} {b₀:Heap}
theorem lrow_ct {sc:Addr} {vs:List Value} {ns:List Int} {B:Heap} (G:Gd w mean mg mb s.heap) (R:Rm A 4) (hB:B.StaysIn s.heap) (hs:B.IsList sc vs.toArray) (hi:IntsAre vs ns) (hl:vs.length≤63)
   (hQ:∀ h' tk r o,KB [] s.heap h'->h'.get? r=some o->s.heap.get? r=none->RowO o->Q (.ref r) {s with heap:=h',toks:=tk}) :
   wpAny (model PG w) A (call (.ref 302) [.ref sc]) Q E s:=by
 k_extra "s"
 refine enter [] G (fun _ _ e=>e) (fun p hp=>nomatch hp) (by k_dflt k_is) (by k_dflt k_is) (by have:=R.d;omega) (binds:=[("script",.ref sc)]) (BindsTo.of_eq rfl) (locs rfl) ?_
 intro b L h₁ F N X T hst hkb hK hlt
 have hst2:=st2 hB hst
 have hLb:b.IsList sc vs.toArray:=listStays hst2 hs
 (try dsimp only)
 k_steps
 rename_i l8 h81 h82 tk8 D8 ws8 h8 F8 N8 hI8 hC8 hL8 l9
 have hwl:ws8.length≤40:=by rw [hI8.length];omega
 refine iterList (vs:=ws8) (fun i m news=>∃ us c l vl vf vc,IntsAre us l∧l.length≤31*i∧(∀ x∈l,0≤x∧x<1024)∧news=[(D8,listOf ws8.toArray 0),(l8,listOf (List.toArray us) c)] ∧
     m=fun y=>if y=Str.ofString "lap" then vl else if y=Str.ofString "figure" then vf else if y=Str.ofString "cell" then vc else if y=Str.ofString "row" then some (.ref l8) else List.lookup y [(Str.ofString "script",Value.ref sc)].reverse)
   (by k_extra "my hh") (News.isList N8 (.head _)) (N8 _ (.head _)).2.1 (.inr ⟨_,fun j m news z=>by obtain ⟨_,_,_,_,_,_,_,_,_,rfl,_⟩:=z;exact .head _⟩) F8 N8 ?_ ?turn ?done
 . refine' ⟨[],0,[],none,none,none,.nil,Nat.zero_le _,(fun _ h=>nomatch h),rfl,?s2⟩
   case s2=>k_extra "my env"
 case turn =>
   rintro I i vi m₁ _ h tk oI hv9 ⟨us,c,l,vl,vf,vc,hus,hll,hlb,rfl,rfl⟩ hn9 F N
   have hi40:i<40:=Nat.lt_of_lt_of_le (List.getElem?_eq_some_iff.mp hv9).1 hwl
   have hul:=hus.length
   obtain ⟨cell,tc,hcell,rfl⟩:=Mine.IntsAre.at' hI8 hv9
   have hn':=allNe_all hn9
   simp only [AllNe,and_true] at hn'
   k_steps
   all_goals rename_i c0 h91 h92 tk91 h93 F91 N91 h94 tk94 t91 u91 v91 rg9 F94 kp9 N94
   all_goals
     refine iterRange (n:=30) (fun j m news=>∃ us c l vl fg tf,IntsAre us l∧l.length≤31*i+1+j∧(∀ x∈l,0≤x∧x<1024)∧news=[(I,oI),(D8,listOf ws8.toArray 0),(l8,listOf (List.toArray us) c)] ∧
         m=fun y=>if y=Str.ofString "lap" then vl else if y=Str.ofString "figure" then some (.int fg tf) else if y=Str.ofString "cell" then some (.int cell tc) else if y=Str.ofString "row" then some (.ref l8) else List.lookup y [(Str.ofString "script",Value.ref sc)].reverse)
       (by k_extra "my hh") rg9 (by rfl) (by rfl) F94 N94 ?_ ?turn2 ?done2
     . refine' ⟨_,_,_,vl,_,_,intsSnoc hus,?s1,bnd9 hlb,rfl,?s2⟩
       case s1=>simp;omega
       case s2=>k_extra "my env"
     case turn2 =>
       rintro I2 j tj m₁ _ h2 tk2 oI2 hj ⟨us2,c2,l2,vl2,fg2,tf2,hus2,hll2,hlb2,rfl,rfl⟩ hn2 F2 N2
       have hul2:=hus2.length
       have hn2':=allNe_all hn2
       simp only [AllNe,and_true] at hn2'
       k_steps
       . refine TEnd.intro (by assumption) (by assumption) (by exact allNe_back ⟨hn2'.1,hn2'.2.1,hn2'.2.2,True.intro⟩) ⟨_,_,_,_,_,_,intsSnoc hus2,by simp;omega,bnd9 hlb2,by rw [List.push_toArray],by k_extra "my env"⟩
       . refine TEnd.intro (by assumption) (by assumption) (by exact allNe_back ⟨hn2'.1,hn2'.2.1,hn2'.2.2,True.intro⟩) ⟨_,_,_,_,_,_,hus2,by omega,hlb2,rfl,by k_extra "my env"⟩
     case done2 =>
       rintro h' tk' m' _ F' N' ⟨us2,c2,l2,vl2,fg2,tf2,hus2,hll2,hlb2,rfl,rfl⟩
       k_steps
       refine TEnd.intro (by assumption) (by assumption) (by exact allNe_back ⟨hn'.1,hn'.2,True.intro⟩) ⟨_,_,_,_,_,_,hus2,by omega,hlb2,rfl,by k_extra "my env"⟩
 case done =>
   rintro h' tk' m' _ F' N' ⟨us,c,l,vl,vf,vc,hus,hll,hlb,rfl,rfl⟩
   have hul:=hus.length
   k_steps
   rename_i D9 ws9 h91 F91 N91 hI9 hC9 hL9 l9 h9 F9 N9
   have hwl9:=hI9.length
   refine kl_reverse F9 N9 rfl (by k_upd) (by rw [sizeLine_eq];simp only [List.toList_toArray];omega) fun h9 F9 N9=>?_
   k_steps
   exact hQ _ _ _ _ (hK _ _ F9) (N9.get (.head _)) (news_new2 N9 hkb (.head _) (by simp)) ⟨_,_,_,rfl,hI9.reverse,by rw [List.toList_toArray,List.length_reverse,hwl9,List.length_take];omega,fun x hx=>hlb x (List.mem_of_mem_take (List.mem_reverse.mp hx))⟩
 k_extra "f"
end
end
end
end
end
section
theorem G60.g60:True:=True.intro
open G60
theorem kw231:True:=by
 k_with "k_all" => ((have:=g60;clear this);exact Off.ne (by assumption) (by k_mem))
 k_with "my tail" => ((have:=g60;clear this);first | exact TailF.head | (refine' TailF.tail ?A6b;(case A6b=>k_extra "my tail")))
 k_with "my dom" => (first | exact List.forall_mem_nil _ | (refine List.forall_mem_cons.mpr ⟨⟨_,by k_mem⟩,?_⟩;k_extra "my dom"))
 k_with "c347" => ((have:=g60;clear this);(k_here;k_dflt (refine' seen_in ?K6d ?D6d ?E6d ?L6d ?J6d ?I6d ?G6d ?F6d ?C6d ?H6d ?A6d ?B6d ?_;(case K6d=>with_reducible assumption);(case D6d=>k_asm);(case E6d=>k_asm);(case L6d=>k_extra "my tail");(case J6d=>k_extra "my dom");(case I6d=>assumption);(case G6d=>assumption);(case F6d=>k_extra "my rm");(case H6d=>k_extra "my vm");(case C6d=>with_reducible assumption);(case A6d=>k_extra "my len");(case B6d=>with_reducible assumption));intro h8 tk8 D8 o8 kvs8 T8 F8 N8 l8 sub8 off8 lo8 hd8 sm8;(try simp only [AllNe,and_true] at l8);(try k_sweep);(first | (revert h8 tk8 D8 o8 kvs8 T8 F8 N8 l8 sub8 off8 lo8 hd8 sm8;intro _ _ _ _ _ _ _ _ _ _ _ _ _ _) | (revert h8 tk8 D8 o8 kvs8 T8 F8 N8 sub8 off8 lo8 hd8 sm8;intro _ _ _ _ _ _ _ _ _ _ _ _ _))))
 k_with "!subscriptTail" => ((k_here;(with_reducible show wpAny _ _ (subscriptTail _ _ (Value.ref _) (Value.str _ _)) _ _ _);k_dflt (refine' kda_item (knd:=PySem.strKind _ _) ?A6e ?B6e ?C6e (strKind_is _ _ _ _) ?D6e ?_;(case A6e=>assumption);(case B6e=>k_mem);(case C6e=>with_reducible assumption);(case D6e=>with_reducible assumption))))
 exact True.intro
section
theorem G61.g61:True:=True.intro
open G61
theorem kw233:True:=by
 k_with "c309" => ((have:=g61;clear this);(k_here;k_dflt (refine' next_in ?B6g ?C6g ?F6g ?A6g ?G6g ?E6g ?D6g ?_;(case B6g=>k_asm);(case C6g=>k_asm);(case F6g=>k_updF);(case A6g=>with_reducible assumption);(case G6g=>assumption);(case E6g=>assumption);(case D6g=>k_extra "my rm"));intro h8 tk8 t8 x8 o8 hx8 hy8 hr8 F8 N8;(try k_sweep);(try dsimp only);(revert h8 tk8 t8 x8 o8 hx8 hy8 hr8 F8 N8;intro _ _ _ _ _ _ _ _ _ _)))
 exact True.intro
section
section
variable {Q:Value->Shared->Prop} {b₀:Heap}
theorem lshaped_in {env:Env} {b:Heap} {L:Addr} {m:Str->Option Value} {news:List (Addr×Obj)} {row:Addr} {o:Obj} {g:Obj->List (Addr×Obj)} {many:Nat} {tm:Tok}
   (F:Fr b L s.heap m) (N:News b L s.heap news) (U:UpdF row o news g) (hr:RowO o) (X:(KF w.params).In b) (T:Top TP LO mean mg mb b) (R:Rm (A.deeper env) 5) (hm:many≤9)
   (hQ0:∀ h' tk o',RowO o'->Fr b L h' m->News b L h' (g o')->Q .none {s with heap:=h',toks:=tk})
   (hQ1:∀ h' tk o' r vs c ds,RowO o'->Fr b L h' m->News b L h' ((r,listOf (List.toArray vs) c)::g o')->AllNe r news->IntsAre vs ds->DsOk ds many->Q (.ref r) {s with heap:=h',toks:=tk}) :
   wpAny (model PG w) (A.deeper env) (call (.ref 330) [.ref row,.int many tm]) Q E s:=by
 k_extra "s"
 have hn:=N _ (UpdF.mem U)
 have hb1:b.StaysIn (hideAll s.heap [row]):=fun a o q=>hideAll_get _ (F.keep _ _ q) fun z=>by
   rw [mS z,hn.2.2] at q;cases q
 refine lshaped_ct (Gd.keeps ⟨X,T⟩ hb1) (fun a o q=>of_hideAll _ q) R hr hn.1 (hideAll_none _ (.head _)) hm ?_ ?_
 . intro h' tk o' hr' kb gn
   exact hQ0 h' tk o' hr' (Fr.kb1 F N (UpdF.upd U o') kb) (News.kb1 N (UpdF.upd U _) kb gn)
 . intro h' tk o' r vs c ds hr' kb gn gr nr hi hd
   exact hQ1 h' tk o' r vs c ds hr' (Fr.kb1 F N (UpdF.upd U o') kb) (News.more' (tl:=[(r,_)]) F (News.kb1 N (UpdF.upd U _) kb gn) fun p hp=>by rw [mS hp];exact ⟨gr,nr⟩) (allNe_of nr N) hi hd
 k_extra "f"
end
theorem G62.g62:True:=True.intro
open G62
theorem kw235:True:=by
 k_with "c330" => ((have:=g62;clear this);(k_here;k_dflt (refine' lshaped_in ?B6i ?C6i ?F6i ?A6i ?G6i ?E6i ?D6i ?H6i ?I6i ?J6i;(case B6i=>k_asm);(case C6i=>k_asm);(case F6i=>k_updF);(case A6i=>with_reducible assumption);(case G6i=>assumption);(case E6i=>assumption);(case D6i=>k_extra "my rm");(case H6i=>assumption));(case' J6i=>(intro h8 tk8 o8 r8 vs8 c8 ds8 hr8 F8 N8 l8 hi8 hd8;(try simp only [AllNe,and_true] at l8);(first | (revert h8 tk8 o8 r8 vs8 c8 ds8 hr8 F8 N8 l8 hi8 hd8;intro _ _ _ _ _ _ _ _ _ _ _ _ _) | (revert h8 tk8 o8 r8 vs8 c8 ds8 hr8 F8 N8 hi8 hd8;intro _ _ _ _ _ _ _ _ _ _ _ _))));(case' I6i=>(intro h8 tk8 o8 hr8 F8 N8;(revert h8 tk8 o8 hr8 F8 N8;intro _ _ _ _ _ _)));(all_goals (try k_sweep));(all_goals (try dsimp only))))
 exact True.intro
theorem News.none9 {b h:Heap} {L:Addr}:News b L h []:=fun _ h=>nomatch h
theorem News.c9 {b h:Heap} {L:Addr} {news l:List (Addr×Obj)} {p:Addr×Obj} (N:News b L h news) (hp:p∈news) (M:News b L h l):News b L h (p::l):=fun q hq=>by
 rcases mC hq with rfl | hq
 . exact N _ hp
 . exact M q hq
theorem News.tail9 {b h:Heap} {L:Addr} {news T:List (Addr×Obj)} {g:List (Addr×Obj)->List (Addr×Obj)} (N:News b L h news) (tl:TailF T news g):News b L h T:=fun q hq=>by
 obtain ⟨e,rfl,_⟩:=tl.split
 exact N q (List.mem_append_right _ hq)
theorem kw237:True:=by
 k_with "my pick" => (first | exact News.none9 | (refine' News.tail9 ?B6k ?D6k;(case B6k=>assumption);(case D6k=>k_extra "my tail")) | (refine' News.c9 ?B6k ?A6k ?C6k;(case B6k=>assumption);(case A6k=>k_mem);(case C6k=>k_extra "my pick")))
 exact True.intro
theorem itsStrs {H:HM}:∀ {vs:List Value} {cs:List Str},StrsAre vs cs->ItsM H vs (cs.map PyData.str)
 | _,_,.nil => .nil
 | _,_,.cons c t h => .cons (.str c t) (itsStrs h)
inductive At1 (many:Nat):List Att->Prop
 | none:At1 many []
 | dim {ds:List Int}:DsOk ds many->At1 many [("dim","integer",ds.map .int)]
 | names {cs:List Str}:cs.length=many->At1 many [("names","character",cs.map .str)]
inductive At2:List Att->Prop
 | none:At2 []
 | unit (c:Str):At2 [("unit","character",[.str c])]
inductive At3:List Att->Prop
 | none:At3 []
 | of (x:Int):At3 [("of","integer",[.int x])]
structure AtsOk (many:Nat) (ats:List Att):Prop where
 ex:∃ a b c,ats=a++(b++c)∧At1 many a∧At2 b∧At3 c
theorem AtsM.snoc {P:Params} {H:HM} {kvs:List (Str×Value)} {ats:List Att} {n k:Str} {a dx ia:Addr} {its:List PyData} (x:AtsM P H kvs ats) (y:VAt P H a dx ia k .none its):AtsM P H (kvs++[(n,.ref a)]) (ats++[(n,k,its)]):=by
 induction x with
 | nil=>exact .cons y .nil
 | cons h _ ih=>exact .cons h ih
def AllD (a:Nat):List Addr->Prop
 | []=>True
 | d::r=>@Ne Nat a d∧AllD a r
theorem AllD.out {a:Nat}:∀ {ds:List Addr},AllD a ds->a∉ds
 | [],_,h=>nomatch h
 | _::_,z,h=>by
   rcases mC h with h | h
   . exact z.1 h
   . exact AllD.out z.2 h
theorem Off.cons {T:List (Addr×Obj)} {ds:List Addr} {a:Addr} {o:Obj} (h:AllD a ds) (x:Off T ds):Off ((a,o)::T) ds:=fun p hp=>by
 rcases mC hp with rfl | hp
 . exact h.out
 . exact x p hp
theorem At1.len {P:Params} {H:HM} {many:Nat} {kvs:List (Str×Value)} {ats:List Att} (h:At1 many ats) (x:AtsM P H kvs ats):kvs.length≤3:=by
 rw [x.length];cases h<;>simp
theorem At1.outU {P:Params} {H:HM} {many:Nat} {kvs:List (Str×Value)} {ats:List Att} (h:At1 many ats) (x:AtsM P H kvs ats):Str.ofString "unit" ∉ kvs.map (·.1):=by
 rw [x.names]
 cases h<;>simp only [List.map_cons,List.map_nil,List.mem_cons,List.not_mem_nil,or_false,not_false_eq_true]<;>decide
structure AtP2 (many:Nat) (ats:List Att):Prop where
 ex:∃ a b,ats=a++b∧At1 many a∧At2 b
theorem AtP2.add {many:Nat} {ats c:List Att} (h:AtP2 many ats) (x:At3 c):AtsOk many (ats++c):=by
 obtain ⟨a,b,rfl,h1,h2⟩:=h.ex
 exact ⟨a,b,c,List.append_assoc _ _ _,h1,h2,x⟩
theorem AtP2.add0 {many:Nat} {ats:List Att} (h:AtP2 many ats):AtsOk many ats:=by
 have:=h.add .none;rwa [List.append_nil] at this
theorem AtP2.len {P:Params} {H:HM} {many:Nat} {kvs:List (Str×Value)} {ats:List Att} (h:AtP2 many ats) (x:AtsM P H kvs ats):kvs.length≤3:=by
 rw [x.length]
 obtain ⟨a,b,rfl,h1,h2⟩:=h.ex
 cases h1<;>cases h2<;>simp
theorem AtP2.outO {P:Params} {H:HM} {many:Nat} {kvs:List (Str×Value)} {ats:List Att} (h:AtP2 many ats) (x:AtsM P H kvs ats):Str.ofString "of" ∉ kvs.map (·.1):=by
 rw [x.names]
 obtain ⟨a,b,rfl,h1,h2⟩:=h.ex
 cases h1<;>cases h2<;>simp only [List.nil_append,List.cons_append,List.append_nil,List.map_cons,List.map_nil,List.mem_cons,List.not_mem_nil,or_false,not_false_eq_true]<;>decide
theorem AtsOk.len {P:Params} {H:HM} {many:Nat} {kvs:List (Str×Value)} {ats:List Att} (h:AtsOk many ats) (x:AtsM P H kvs ats):kvs.length≤3:=by
 rw [x.length]
 obtain ⟨a,b,c,rfl,h1,h2,h3⟩:=h.ex
 cases h1<;>cases h2<;>cases h3<;>simp
section
variable {Q:Value->Shared->Prop} {b₀:Heap}
theorem dne_empty {b:Heap} {L D D2:Addr} {o o2:Obj} {m:Str->Option Value} {news:List (Addr×Obj)} {kvs:List (Str×Value)} (_F:Fr b L s.heap m) (N:News b L s.heap news) (h1:(D,o)∈news) (h2:(D2,o2)∈news) (d1:o.IsDictOf (PySem.strKind PG w) kvs) (d2:o2.IsDictOf (PySem.strKind PG w) []) (l1:(D == sysModules)=false) (l2:(D2 == sysModules)=false)
   (hu:A.units<cLine) (h:Q (.bool (!kvs.isEmpty)) s):wpAny (model PG w) A (compareOp .NotEq (.ref D) (.ref D2)) Q E s:=by
 k_extra "s"
 refine keq_ne (r:=true) l1 l2 (Heap.dictOf_iff.mpr ⟨o,(N _ h1).1,d1⟩) (Heap.dictOf_iff.mpr ⟨o2,(N _ h2).1,d2⟩) hu (fun e=>?_) ?_
 . rw [List.eq_nil_of_length_eq_zero e];exact .nil
 . have e:(!(kvs.length == ([]:List (Str×Value)).length && true)) = !kvs.isEmpty:=by cases kvs<;>rfl
   rw [e];exact h
 k_extra "f"
theorem kw239:True:=by
 k_with "!compareOp NotEq ref ref" => ((have:=g62;clear this);(k_here;k_dflt (refine' dne_empty ?A6m ?B6m ?C6m ?D6m ?E6m ?F6m ?G6m ?H6m ?I6m ?_;(case A6m=>k_asm);(case B6m=>k_asm);(case C6m=>k_mem);(case D6m=>k_mem);(case E6m=>with_reducible assumption);(case F6m=>with_reducible assumption);(case G6m=>with_reducible assumption);(case H6m=>with_reducible assumption);(case I6m=>exact Rm.roomJ (k:=0) (Rm.deeper (by with_reducible assumption)) (by decide)))))
 exact True.intro
inductive DrMid0 (w:World) (s:Shared) (b:Heap) (L:Addr) (o3:Obj) (u row dx:Addr) (dobj:Obj) (m0:Str->Option Value) (P:List Att->Prop) (s':Shared):Prop
 | mk:∀ h' tk D oR oF kvs ats T vsh vm,
   (s' = {s with heap:=h',toks:=tk}) ->
   (Fr b L h' (fun y=>if y=Str.ofString "found" then some (.ref D) else if y=Str.ofString "shape" then vsh else if y=Str.ofString "many" then vm else m0 y)) ->
   (News b L h' ((D,oF)::(L+1,o3)::(u,instObj 113 dx)::(row,oR)::(dx,dobj)::T)) ->
   (RowO oR) ->
   (oF.IsDictOf (PySem.strKind PG w) kvs) ->
   ((D == sysModules)=false) ->
   (AtsM w.params (lm T) kvs ats) ->
   (P ats) ->
   (Off T [L+1,D,u,row,dx]) ->
   (@LT.lt Nat _ (L+1) D) ->
   DrMid0 w s b L o3 u row dx dobj m0 P s'
def DrMid (w:World) (s:Shared) (b:Heap) (L:Addr) (o3:Obj) (u row dx:Addr) (dobj:Obj) (m0:Str->Option Value) (P:List Att->Prop) (s':Shared):Prop:=Hold (DrMid0 w s b L o3 u row dx dobj m0 P s')
theorem ldressed_ct {row u dx ia:Addr} {o:Obj} {tk0 ti ta ts tl kt:Tok} {k:Str} {vs:List Value} {c:Nat} (G:Gd w mean mg mb b₀) (hb:b₀.StaysIn s.heap) (R:Rm A 6) (hr:RowO o) (hrow:s.heap.get? row=some o) (hr0:b₀.get? row=none)
   (gu:s.heap.get? u=some (instObj 113 dx)) (gd:s.heap.get? dx=some (dictOf (vEnts w.params tk0 ti ta ts tl (.str k kt) (.ref ia) .none) 5)) (nu:b₀.get? u=none) (nd:b₀.get? dx=none) (gi:s.heap.get? ia=some (listOf (List.toArray vs) c)) (hir:ia≠row) (hl:vs.length≤9)
   (hQ:∀ h' tk o' av nw ats,RowO o'->KB [row,dx] s.heap h'->h'.get? row=some o'->h'.get? dx=some (dictOf (vEnts w.params tk0 ti ta ts tl (.str k kt) (.ref ia) av) 5)->Fresh s.heap h' nw->AtAt w (lm nw) av ats->AtsOk vs.length ats->Q (.ref u) {s with heap:=h',toks:=tk}) :
   wpAny (model PG w) A (call (.ref 335) [.ref row,.ref u]) Q E s:=by
 k_extra "s"
 have hrd:@Ne Nat row dx:=fun e=>by
   obtain ⟨us,n,l,rfl,_⟩:=hr
   rw [show row=dx from e,gd] at hrow
   have:=congrArg Obj.cls (Option.some.inj hrow)
   injection this with e
   exact absurd e (by decide)
 have hru:@Ne Nat row u:=fun e=>by
   obtain ⟨us,n,l,rfl,_⟩:=hr
   rw [show row=u from e,gu] at hrow;cases hrow
 have hdu:@Ne Nat dx u:=fun e=>by
   rw [show dx=u from e,gu] at gd;cases gd
 refine enterC [(u,instObj 113 dx),(row,o),(dx,dictOf (vEnts w.params tk0 ti ta ts tl (.str k kt) (.ref ia) .none) 5)] G hb (fun p hp=>?_) (by k_dflt k_is) (by k_dflt k_is) (by have:=R.d;omega) (binds:=[("row",.ref row),("v",.ref u)]) (BindsTo.of_eq rfl) (by rfl) (by decide +kernel) ?_
 . rcases mC hp with rfl | hp
   . exact ⟨gu,nu⟩
   rcases mC hp with rfl | hp
   . exact ⟨hrow,hr0⟩
   . rw [mS hp];exact ⟨gd,nd⟩
 intro b L h₁ tk0' cells F N Y X T hst hkb hK hlt
 k_cells Y
 rename_i o3 d3
 replace d3:o3.data = .cell (some (.ref row)):=d3
 (try simp only [List.cons_append,List.nil_append] at N)
 have huL:@LT.lt Nat _ u L:=hlt (u,_) (.head _)
 have hrL:@LT.lt Nat _ row L:=hlt (row,_) (.tail _ (.head _))
 have hdL:@LT.lt Nat _ dx L:=hlt (dx,_) (mt2 (.head _))
 have hib:b.get? ia=some (listOf (List.toArray vs) c):=hkb _ _ (fun z=>by
   rcases mC z with z | z
   . rw [show ia=u from z,gu] at gi;cases gi
   rcases mC z with z | z
   . exact hir z
   . rw [show ia=dx from mS z,gd] at gi
     have:=congrArg Obj.cls (Option.some.inj gi)
     injection this with e
     exact absurd e (by decide)) gi
 have hLi:b.IsList ia vs.toArray:=isListOf hib
 unfold vEnts at N
 (try dsimp only)
 refine cut4 (DrMid w s b L o3 u row dx (dictOf [⟨PyData.keyHash w.params "kind",.str "kind" tk0,.str k kt⟩,⟨PyData.keyHash w.params "items",.str "items" ti,.ref ia⟩,⟨PyData.keyHash w.params "attrs",.str "attrs" ta,.none⟩,⟨PyData.keyHash w.params "shared",.str "shared" ts,.bool false⟩,⟨PyData.keyHash w.params "loose",.str "loose" tl,.bool false⟩] 5) (fun y=>bindL (envOfC (Str.ofString "_law_dressed") fs335 L 335 (Value.ref 334)).kindOf [(Str.ofString "row",Value.ref row),(Str.ofString "v",Value.ref u)] (fun _=>none) y) (At1 vs.length)) ?_ ?_
 . k_steps
   . rename_i d1 h1 o1 lo1 hs1 fs1 hi1 fi1 l1 h2 tk2 h8 tk8 t8 x8 o8 hx8 hy8 hr8 F8 N8 e8 h9 tk9 t9 u9 v9 hrg F2 N2 kb2
     dsimp only at hrg
     refine LCg.CompSrc.range (by k_extra "my hh") F2 N2 hrg (small_one (by omega) (by omega) (by simp only [List.size_toArray];omega) (by simp only [List.size_toArray];omega)) (rangeSize_nat _ _) (by rw [sizeLine_eq];simp only [List.size_toArray];omega) fun g=>?_
     refine comp_inv (n:=((vs.toArray.size:Int) - 0).toNat) (fun i ys news=>Hold (∃ oR cs,RowO oR∧StrsAre ys cs∧cs.length=i∧news=[(d1,o1),(L+1,o3),(u,instObj 113 dx),(row,oR),(dx,(dictOf [⟨PyData.keyHash w.params "kind",.str "kind" tk0,.str k kt⟩,⟨PyData.keyHash w.params "items",.str "items" ti,.ref ia⟩,⟨PyData.keyHash w.params "attrs",.str "attrs" ta,.none⟩,⟨PyData.keyHash w.params "shared",.str "shared" ts,.bool false⟩,⟨PyData.keyHash w.params "loose",.str "loose" tl,.bool false⟩] 5))])) ?turn ?fin _ _ _ _ (Nat.zero_add _) ⟨_,[],hr8,.nil,rfl,rfl⟩
     case turn =>
       rintro i ys _ hi ⟨oR,cs,hR,hys,hcl,rfl⟩ v J oJ oC C D m₂ h tk E' ⟨ti9,rfl⟩ hoC hmm F N off ne
       have off':=off
       simp only [LCg.Off3,and_true] at off'
       k_steps
       exact Hold.mk ⟨_,_,by assumption,StrsSnoc hys,by rw [List.length_append,hcl];rfl,rfl⟩
     case fin =>
       rintro ys _ ⟨oR,cs,hR,hys,hcl,rfl⟩ D h tk F N off
       have off':=off
       simp only [LCg.Off1,and_true] at off'
       k_steps
       rename_i _ _ u8 d8 t1 t2 t3 t4 t5 ne8 l8 l9 h9 oF F9 N9 hd9
       exact Hold.mk ⟨_,_,_,_,_,_,_,(u8,instObj 113 d8)::(d8,dictOf (vEnts w.params t1 t2 t3 t4 t5 _ (Value.ref D) Value.none) 5)::(D,LCg.lst ys)::[],_,_,rfl,F9,by k_extra "my pick",hR,hd9,lo1,
         .cons ⟨_,_,_,_,_,_,_,_,_,.head _,.tail _ (.head _),mt2 (.head _),itsStrs hys⟩ .nil,.names (by rw [hcl];simp),
         Off.cons ⟨by k_ne,by k_ne,by k_ne,by k_ne,by k_ne,True.intro⟩ (Off.cons ⟨by k_ne,by k_ne,by k_ne,by k_ne,by k_ne,True.intro⟩ (Off.cons ⟨by k_ne,by k_ne,by k_ne,by k_ne,by k_ne,True.intro⟩ Off.nil)),l1.1⟩
   . rename_i d1 h1 o1 lo1 hs1 fs1 hi1 fi1 l1 h2 tk2 h8 tk8 t8 x8 o8 hx8 hy8 hr8 F8 N8 e8
     exact Hold.mk ⟨_,_,_,_,_,_,_,_,_,_,rfl,F8,N8,hr8,hs1,lo1,.nil,.none,Off.nil,l1.1⟩
   ·
     rename_i oR r9 ws9 c9 ds9 hR hia hds l7 _ _ d1 _ o1 lo1 _ _ _ _ l1 _ ti9 _ _ u8 d8 t1 t2 t3 t4 t5 ne8 l8 l9 h9 oF F9 N9 hd9
     exact Hold.mk ⟨_,_,_,_,_,_,_,(u8,instObj 113 d8)::(d8,dictOf (vEnts w.params t1 t2 t3 t4 t5 (Value.str (Str.ofString "integer") ti9) (Value.ref r9) Value.none) 5)::(r9,listOf ws9.toArray c9)::[],_,_,rfl,F9,by k_extra "my pick",hR,hd9,lo1,
       .cons ⟨_,_,_,_,_,_,_,_,_,.head _,.tail _ (.head _),mt2 (.head _),ItsM.ofInts hia⟩ .nil,.dim hds,
       Off.cons ⟨by k_ne,by k_ne,by k_ne,by k_ne,by k_ne,True.intro⟩ (Off.cons ⟨by k_ne,by k_ne,by k_ne,by k_ne,by k_ne,True.intro⟩ (Off.cons ⟨by k_ne,by k_ne,by k_ne,by k_ne,by k_ne,True.intro⟩ Off.nil)),by omega⟩
 intro s1 z1
 obtain ⟨h1,tk1,D,oR,oF,kvs,ats,T1,vsh,vm,rfl,F,N,hR1,hdF,lo1,hA1,hP1,hO1,hDL⟩:=z1.out
 clear z1
 have hkl:=hP1.len hA1
 refine cut1 (DrMid w s b L o3 u row dx (dictOf [⟨PyData.keyHash w.params "kind",.str "kind" tk0,.str k kt⟩,⟨PyData.keyHash w.params "items",.str "items" ti,.ref ia⟩,⟨PyData.keyHash w.params "attrs",.str "attrs" ta,.none⟩,⟨PyData.keyHash w.params "shared",.str "shared" ts,.bool false⟩,⟨PyData.keyHash w.params "loose",.str "loose" tl,.bool false⟩] 5) (fun y=>bindL (envOfC (Str.ofString "_law_dressed") fs335 L 335 (Value.ref 334)).kindOf [(Str.ofString "row",Value.ref row),(Str.ofString "v",Value.ref u)] (fun _=>none) y) (AtP2 vs.length)) ?_ ?_
 . k_steps
   . rename_i l7 _ l1 _ _ u8 d8 t1 t2 t3 t4 t5 ne8 l8 l9 h9 oF9 F9 N9 hd9
     have hd10:oF9.IsDictOf (PySem.strKind PG w) (kvs++[(Str.ofString "unit",Value.ref u8)]):=by rw [← stored_out (hP1.outU hA1)];exact hd9
     exact Hold.mk ⟨_,_,D,_,_,_,_,(u8,instObj 113 d8)::(d8,dictOf (vEnts w.params t1 t2 t3 t4 t5 (.str (Str.ofString "character") _) (.ref l7) .none) 5)::(l7,listOf #[.str _ _] 0)::T1,_,_,rfl,F9,by k_extra "my pick",by assumption,hd10,lo1,
       (hA1.mono fun a o q=>mt2 (.tail _ q)).snoc ⟨_,_,_,_,_,_,_,[.str _ _],_,.head _,.tail _ (.head _),mt2 (.head _),.cons (.str _ _) .nil⟩,⟨ats,_,rfl,hP1,.unit _⟩,
       Off.cons ⟨by k_ne,by k_ne,by k_ne,by k_ne,by k_ne,True.intro⟩ (Off.cons ⟨by k_ne,by k_ne,by k_ne,by k_ne,by k_ne,True.intro⟩ (Off.cons ⟨by k_ne,by k_ne,by k_ne,by k_ne,by k_ne,True.intro⟩ hO1)),hDL⟩
   . exact Hold.mk ⟨_,_,D,_,_,_,_,T1,_,_,rfl,by assumption,by assumption,by assumption,hdF,lo1,hA1,⟨ats,[],(List.append_nil _).symm,hP1,.none⟩,hO1,hDL⟩
 intro s2 z2
 obtain ⟨h2,tk2,D,oR,oF,kvs,ats,T1,vsh,vm,rfl,F,N,hR1,hdF,lo1,hA1,hP1,hO1,hDL⟩:=z2.out
 clear z2
 have hkl:=hP1.len hA1
 refine cut1 (DrMid w s b L o3 u row dx (dictOf [⟨PyData.keyHash w.params "kind",.str "kind" tk0,.str k kt⟩,⟨PyData.keyHash w.params "items",.str "items" ti,.ref ia⟩,⟨PyData.keyHash w.params "attrs",.str "attrs" ta,.none⟩,⟨PyData.keyHash w.params "shared",.str "shared" ts,.bool false⟩,⟨PyData.keyHash w.params "loose",.str "loose" tl,.bool false⟩] 5) (fun y=>bindL (envOfC (Str.ofString "_law_dressed") fs335 L 335 (Value.ref 334)).kindOf [(Str.ofString "row",Value.ref row),(Str.ofString "v",Value.ref u)] (fun _=>none) y) (AtsOk vs.length)) ?_ ?_
 . k_steps
   . rename_i l7 _ l1 _ _ u8 d8 t1 t2 t3 t4 t5 ne8 l8 l9 h9 oF9 F9 N9 hd9
     have hd10:oF9.IsDictOf (PySem.strKind PG w) (kvs++[(Str.ofString "of",Value.ref u8)]):=by rw [← stored_out (hP1.outO hA1)];exact hd9
     exact Hold.mk ⟨_,_,D,_,_,_,_,(u8,instObj 113 d8)::(d8,dictOf (vEnts w.params t1 t2 t3 t4 t5 (.str (Str.ofString "integer") _) (.ref l7) .none) 5)::(l7,listOf #[.int _ _] 0)::T1,_,_,rfl,F9,by k_extra "my pick",by assumption,hd10,lo1,
       (hA1.mono fun a o q=>mt2 (.tail _ q)).snoc ⟨_,_,_,_,_,_,_,[.int _ _],_,.head _,.tail _ (.head _),mt2 (.head _),.cons (.int _ _) .nil⟩,hP1.add (.of _),
       Off.cons ⟨by k_ne,by k_ne,by k_ne,by k_ne,by k_ne,True.intro⟩ (Off.cons ⟨by k_ne,by k_ne,by k_ne,by k_ne,by k_ne,True.intro⟩ (Off.cons ⟨by k_ne,by k_ne,by k_ne,by k_ne,by k_ne,True.intro⟩ hO1)),hDL⟩
   . exact Hold.mk ⟨_,_,D,_,_,_,_,T1,_,_,rfl,by assumption,by assumption,by assumption,hdF,lo1,hA1,hP1.add0,hO1,hDL⟩
 intro s3 z3
 obtain ⟨h3,tk3,D,oR,oF,kvs,ats,T1,vsh,vm,rfl,F,N,hR1,hdF,lo1,hA1,hP1,hO1,hDL⟩:=z3.out
 clear z3
 have hkl:=hP1.len hA1
 k_steps
 . have hE:kvs.isEmpty=true:=by assumption
   have e:ats=[]:=by have e:=hA1.length;rw [List.isEmpty_iff.mp hE] at e;exact List.eq_nil_of_length_eq_zero e.symm
   subst e
   exact hQ _ _ oR .none [] [] hR1 ((hK _ _ (by assumption)).mono2 gu (News.get (by assumption) (by k_mem))) (News.get (by assumption) (by k_mem)) (News.get (by assumption) (by k_mem)) .nil .none hP1
 . have hE:kvs.isEmpty=false:=by assumption
   have e:ats≠[]:=fun e=>by
     have e1:=hA1.length;rw [e] at e1
     rw [List.eq_nil_of_length_eq_zero e1] at hE;cases hE
   rename_i h9 F9 N9
   have N10:News b L h9 ((D,oF)::T1):=by k_extra "my pick"
   exact hQ _ _ oR (.ref D) ((D,oF)::T1) ats hR1 ((hK _ _ F9).mono2 gu (N9.get (by k_mem))) (N9.get (by k_mem)) (N9.get (by k_mem))
     (fun p hp=>⟨(N10 p hp).1,news_new2 (r:=p.1) (o:=p.2) N10 hkb hp (fun z=>by
       rcases mC hp with rfl | hp
       . rcases mC z with z | z
         . have z':@Eq Nat D u:=z
           omega
         rcases mC z with z | z
         . have z':@Eq Nat D row:=z
           omega
         . have z':@Eq Nat D dx:=mS z
           omega
       . exact hO1 p hp (.tail _ (.tail _ z)))⟩)
     (.some (.head _) hdF lo1 (hA1.mono fun a o q => .tail _ q) e) hP1
 k_extra "f"
end
end
section
section
theorem kw241:True:=by
 k_with "my pick" => (first | exact News.none9 | (refine' News.tail9 ?B6o ?D6o;(case B6o=>assumption);(case D6o=>k_extra "my tail")) | (refine' News.c9 ?B6o ?A6o ?C6o;(case B6o=>assumption);(case A6o=>k_mem);(case C6o=>k_extra "my pick")))
 exact True.intro
section
section
variable {Q:Value->Shared->Prop} {b₀:Heap}
theorem litem_any {value slice:Expr} {l:Addr} {vs:List Value} {n x:Int} {t:Tok} {Q:Value->Shared->Prop} (hl:s.heap.IsList l vs.toArray) (hn:0<n∧n≤1000) (hv:(vs.length:Int)=n)
   (h:∀ y,y∈vs->Q y s)
   (hs:∀ k,subscripted slice false (.ref l) (.int k t)=operate [.ref l,.int k t] (getItem (.ref l) (.int k t)):=by intro _;with_unfolding_all rfl) :
   wpAny (model PG w) A (subscriptTail value slice (.ref l) (.int (x.fmod n) t)) Q E s:=by
 k_extra "s"
 obtain ⟨hn,hn2⟩:=hn
 have h1:=fmod_lo x hn
 have h2:=fmod_hi x hn
 have h3:(x.fmod n).toNat<vs.length:=by omega
 exact tail_any hl.typeIs slot_list_getitem.lookup (wpAny_getItem_list hl h1 (by omega) (by simp [List.getElem?_eq_getElem h3]) (h _ (List.getElem_mem h3))) (hs _)
 k_extra "f"
theorem ldouble_in {env:Env} {b:Heap} {L:Addr} {m:Str->Option Value} {news:List (Addr×Obj)} {row:Addr} {o:Obj} {g:Obj->List (Addr×Obj)}
   (F:Fr b L s.heap m) (N:News b L s.heap news) (U:UpdF row o news g) (hr:RowO o) (X:(KF w.params).In b) (T:Top TP LO mean mg mb b) (R:Rm (A.deeper env) 6)
   (hQ:∀ h' tk o' v d nw,RowO o'->Fr b L h' m->News b L h' (g o')->News b L h' nw->(∀ p∈nw,AllNe p.1 news)->OkIt .dbl d->ItM (lm nw) v d->Q v {s with heap:=h',toks:=tk}) :
   wpAny (model PG w) (A.deeper env) (call (.ref 323) [.ref row]) Q E s:=by
 k_extra "s"
 have hn:=N _ (UpdF.mem U)
 have hb1:b.StaysIn (hideAll s.heap [row]):=fun a o q=>hideAll_get _ (F.keep _ _ q) fun z=>by
   rw [mS z,hn.2.2] at q;cases q
 refine ldouble_ct (Gd.keeps ⟨X,T⟩ hb1) (fun a o q=>of_hideAll _ q) R hr hn.1 (hideAll_none _ (.head _)) ?_
 intro h' tk o' v d nw hr' kb gn ok it fr
 have N':=News.kb1 N (UpdF.upd U o') kb gn
 exact hQ h' tk o' v d nw hr' (Fr.kb1 F N (UpdF.upd U o') kb) N' (fun p hp=>News.more' F N' fr p (List.mem_append_left _ hp)) (fun p hp=>allNe_of (fr p hp).2 N) ok it
 k_extra "f"
end
theorem rep_arr (v:Value):∀ (n:Nat) (acc:Array Value),(List.foldl (fun x1 x2=>x1++x2) acc (List.replicate n #[v])).toList=acc.toList++List.replicate n v
 | 0,acc=>by simp
 | n+1,acc=>by rw [List.replicate_succ,List.foldl_cons,rep_arr v n,List.replicate_succ,Array.toList_append];simp
section
variable {w:World} {A:Around} {E:Value->Shared->Prop} {s:Shared}
theorem mul_own {b:Heap} {L l:Addr} {m:Str->Option Value} {news:List (Addr×Obj)} {v:Value} {n c:Nat} {t:Tok} {Q:Value->Shared->Prop} (F:Fr b L s.heap m) (N:News b L s.heap news) (hl:(l,listOf #[v] c)∈news) (hn:n≤9)
   (h:∀ D vs h',Fr b L h' m->News b L h' ((D,listOf (List.toArray vs) 0)::news)->AllNe D news->vs=List.replicate n v->Q (.ref D) {s with heap:=h'}):wpAny (model PG w) A (binaryOp .Mult (.ref l) (.int (n:Int) t)) Q E s:=by
 k_extra "s"
 refine mul_list F N (N _ hl).1 (by omega) (by omega) (by simp;omega) fun h' F' N'=>?_
 refine h _ (List.replicate n v) h' F' (fun p hp=>?_) (allNe_of (Heap.get?_none_of_le (Nat.le_refl _)) N) rfl
 rcases mC hp with rfl | hp
 . have z:=N' _ (.head _)
   refine ⟨z.1.trans ?_,z.2⟩
   have e:List.foldl (fun x1 x2=>x1++x2) #[] (List.replicate (if (#[v]:Array Value).isEmpty=true then 0 else (n:Int).toNat) #[v])=(List.replicate n v).toArray:=by
     apply Array.toList_inj.mp
     rw [rep_arr];simp
   show some _=some _
   dsimp only
   rw [e]
 . exact N' p (.tail _ hp)
 k_extra "f"
end
theorem G65.g65:True:=True.intro
open G65
theorem kw246:True:=by
 k_with "!subscriptTail" => ((have:=g65;clear this);(k_here;(with_reducible show wpAny _ _ (subscriptTail _ _ (Value.ref _) (Value.int (Int.fmod _ _) _)) _ _ _);k_dflt (refine' litem_any ?A6q ?B6q ?C6q ?_;(case A6q=>is_list);(case B6q=>decide);(case C6q=>exact rfl));intro x8 hx8;(revert x8 hx8;intro _ _)))
 k_with "c84" => ((have:=g65;clear this);(k_here;k_dflt (refine' null_ct ?A6r ?B6r ?_;(case A6r=>k_extra "my gd");(case B6r=>k_extra "my rm"));intro h8 tk8 u8 d8 t1 t2 t3 kb8 nu8 nd8 ne8 gu8 gd8;obtain ⟨F9,N9,l8,l9⟩:=more2 kb8 nu8 nd8 gu8 gd8 (by assumption) (by assumption);clear kb8 nu8 nd8 gu8 gd8;(try simp only [AllNe,and_true] at l8 l9);(try k_sweep);(try dsimp only);(first | (revert h8 tk8 u8 d8 t1 t2 t3 ne8 F9 N9 l8 l9;intro _ _ _ _ _ _ _ _ _ _ _ _) | (revert h8 tk8 u8 d8 t1 t2 t3 ne8 F9 N9 l9;intro _ _ _ _ _ _ _ _ _ _ _) | (revert h8 tk8 u8 d8 t1 t2 t3 ne8 F9 N9 l8;intro _ _ _ _ _ _ _ _ _ _ _) | (revert h8 tk8 u8 d8 t1 t2 t3 ne8 F9 N9;intro _ _ _ _ _ _ _ _ _ _))))
 k_with "!binaryOp Mult ref int" => ((have:=g65;clear this);(k_here;k_dflt (refine' mul_own ?C6s ?D6s ?A6s ?B6s ?_;(case C6s=>k_asm);(case D6s=>k_asm);(case A6s=>k_mem);(case B6s=>omega));intro D8 vs8 h8 F8 N8 l8 e8;(try simp only [AllNe,and_true] at l8);(try k_sweep);(first | (revert D8 vs8 h8 F8 N8 l8 e8;intro _ _ _ _ _ _ _) | (revert D8 vs8 h8 F8 N8 e8;intro _ _ _ _ _ _))))
 k_with "my tmem" => (first | assumption | (refine List.Mem.tail _ ?_;k_extra "my tmem"))
 exact True.intro
inductive GenOk:Vd->Prop
 | null:GenOk ⟨"NULL",[],[]⟩
 | num (k:Kd) {its:List PyData} {ats:List Att}:(∀ d∈its,OkIt k d)->its.length≤9->AtsOk its.length ats->GenOk ⟨k.str,its,ats⟩
 | chr {its:List PyData}:its.length≤9->GenOk ⟨"character",its,[]⟩
section
variable {Q:Value->Shared->Prop} {b₀:Heap}
theorem ldressed_in {env:Env} {b:Heap} {L:Addr} {m:Str->Option Value} {news:List (Addr×Obj)} {row u dx ia:Addr} {o:Obj} {tk0 ti ta ts tl kt:Tok} {k:Str} {vs:List Value} {c:Nat}
   (F:Fr b L s.heap m) (N:News b L s.heap news) (mu:(u,instObj 113 dx)∈news) (mr:(row,o)∈news) (md:(dx,dictOf (vEnts w.params tk0 ti ta ts tl (.str k kt) (.ref ia) .none) 5)∈news) (mi:(ia,listOf (List.toArray vs) c)∈news)
   (hr:RowO o) (hir:ia≠row) (hl:vs.length≤9) (X:(KF w.params).In b) (T:Top TP LO mean mg mb b) (R:Rm (A.deeper env) 6)
   (hQ:∀ h' tk o' av nw ats,RowO o'->Fr b L h' m->KB [row,dx] s.heap h'->h'.get? row=some o'->h'.get? dx=some (dictOf (vEnts w.params tk0 ti ta ts tl (.str k kt) (.ref ia) av) 5)->Fresh s.heap h' nw->AtAt w (lm nw) av ats->AtsOk vs.length ats->Q (.ref u) {s with heap:=h',toks:=tk}) :
   wpAny (model PG w) (A.deeper env) (call (.ref 335) [.ref row,.ref u]) Q E s:=by
 k_extra "s"
 have hb1:b.StaysIn (hideAll s.heap [u,row,dx]):=fun a o q=>hideAll_get _ (F.keep _ _ q) fun z=>by
   rcases mC z with z | z
   . rw [z,(N _ mu).2.2] at q;cases q
   rcases mC z with z | z
   . rw [z,(N _ mr).2.2] at q;cases q
   . rw [mS z,(N _ md).2.2] at q;cases q
 refine ldressed_ct (Gd.keeps ⟨X,T⟩ hb1) (fun a o q=>of_hideAll _ q) R hr (N _ mr).1 (hideAll_none _ (.tail _ (.head _))) (N _ mu).1 (N _ md).1 (hideAll_none _ (.head _)) (hideAll_none _ (mt2 (.head _))) (N _ mi).1 hir hl ?_
 intro h' tk o' av nw ats hr' kb gr gd fr hat hats
 exact hQ h' tk o' av nw ats hr' (Fr.kb F N (fun d hd=>by
   rcases mC hd with rfl | hd
   . exact ⟨_,mr⟩
   . rw [mS hd];exact ⟨_,md⟩) kb) kb gr gd fr hat hats
 k_extra "f"
theorem fresh_gen {sh b h h':Heap} {L row u dx D:Addr} {m:Str->Option Value} {news T nw:List (Addr×Obj)} {od ou oD od':Obj} (hkb:KB [row] sh b) (F:Fr b L h m) (N:News b L h news) (hD:∀ d∈[row],∃ o,(d,o)∈news) (kb:KB [row,dx] h h') (gd:h'.get? dx=some od')
   (mu:(u,ou)∈news) (md:(dx,od)∈news) (mD:(D,oD)∈news) (mT:∀ p∈T,p∈news) (nu:u∉[row]) (nd:@Ne Nat dx row) (nD:D∉[row]) (ud:@Ne Nat u dx) (Dd:@Ne Nat D dx) (nT:∀ p∈T,p.1∉[row]) (dT:∀ p∈T,p.1≠dx) (fr:Fresh h h' nw):Fresh sh h' ((dx,od')::(u,ou)::(D,oD)::(nw++T)):=by
 k_extra "s"
 have one:∀ p∈news,p.1∉[row]->p.1≠dx->h'.get? p.1=some p.2∧sh.get? p.1=none:=fun p hp h1 h2=>⟨kb _ _ (fun z=>by
   rcases mC z with z | z
   . exact h1 (z ▸ .head _)
   . exact h2 (mS z)) (N p hp).1,news_new2 (foot:=[(row,ou)]) (r:=p.1) (o:=p.2) N hkb hp h1⟩
 intro p hp
 rcases mC hp with rfl | hp
 . exact ⟨gd,news_new2 (foot:=[(row,ou)]) N hkb md (fun z=>nd (mS z))⟩
 rcases mC hp with rfl | hp
 . exact one _ mu nu ud
 rcases mC hp with rfl | hp
 . exact one _ mD nD Dd
 rcases List.mem_append.mp hp with hp | hp
 . exact fresh_down (dom_in hkb F N hD) fr p hp
 . exact one p (mT p hp) (nT p hp) (dT p hp)
 k_extra "f"
theorem allNe_all9 {d:Nat} {T:List (Addr×Obj)} (h:AllNe d T):∀ p∈T,p.1≠d:=allNe_back h
theorem menu9 {y:Value} {t0 t1 t2 t3 t4 t5 t6:Tok} (h:y∈[Value.int 0 t0,.int 1 t1,.int 2 t2,.int 3 t3,.int 4 t4,.int 6 t5,.int 9 t6]):∃ (n:Nat) (t:Tok),n≤9∧y = .int (n:Int) t:=by
 k_extra "s"
 simp only [List.mem_cons,List.not_mem_nil,or_false] at h
 rcases h with rfl | rfl | rfl | rfl | rfl | rfl | rfl
 . exact ⟨0,_,by omega,rfl⟩
 . exact ⟨1,_,by omega,rfl⟩
 . exact ⟨2,_,by omega,rfl⟩
 . exact ⟨3,_,by omega,rfl⟩
 . exact ⟨4,_,by omega,rfl⟩
 . exact ⟨6,_,by omega,rfl⟩
 . exact ⟨9,_,by omega,rfl⟩
 k_extra "f"
theorem menuL {H:HM} {y:Value} {t0 t1:Tok} (h:y∈[Value.int 1 t0,.int 0 t1,.none]):∃ d,OkIt .lgl d∧ItM H y d:=by
 k_extra "s"
 simp only [List.mem_cons,List.not_mem_nil,or_false] at h
 rcases h with rfl | rfl | rfl
 . exact ⟨_,.lgl 1,.int _ _⟩
 . exact ⟨_,.lgl 0,.int _ _⟩
 . exact ⟨_,.none _,.none⟩
 k_extra "f"
theorem menuI {H:HM} {y:Value} {t0 t1 t2 t3:Tok} (h:y∈[Value.none,.int 0 t0,.int 1 t1,.int (-1) t2,.int 7 t3]):∃ d,OkIt .itg d∧ItM H y d:=by
 k_extra "s"
 simp only [List.mem_cons,List.not_mem_nil,or_false] at h
 rcases h with rfl | rfl | rfl | rfl | rfl
 . exact ⟨_,.none _,.none⟩
 . exact ⟨_,.itg 0,.int _ _⟩
 . exact ⟨_,.itg 1,.int _ _⟩
 . exact ⟨_,.itg (-1),.int _ _⟩
 . exact ⟨_,.itg 7,.int _ _⟩
 k_extra "f"
theorem okSnoc {k:Kd} {ds:List PyData} {d:PyData} (h:∀ d∈ds,OkIt k d) (x:OkIt k d):∀ e∈ds++[d],OkIt k e:=fun e he=>by
 rcases List.mem_append.mp he with he | he
 . exact h e he
 . rw [mS he];exact x
theorem ItsM.snoc {H:HM} {vs:List Value} {ds:List PyData} {v:Value} {d:PyData} (x:ItsM H vs ds) (y:ItM H v d):ItsM H (vs++[v]) (ds++[d]):=x.append (.cons y .nil)
theorem itsRep {H:HM} {x:Str} {t:Tok}:∀ n:Nat,ItsM H (List.replicate n (.str x t)) (List.replicate n (PyData.str x))
 | 0 => .nil
 | n+1 => .cons (.str x t) (itsRep n)
inductive VcMid0 (w:World) (s:Shared) (b:Heap) (L:Addr) (o3:Obj) (row:Addr) (m0:Str->Option Value) (s':Shared):Prop
 | mk:∀ h' tk oR kd tkd n tn,
   (s' = {s with heap:=h',toks:=tk}) ->
   (Fr b L h' (fun y=>if y=Str.ofString "many" then some (.int (n:Nat) tn) else if y=Str.ofString "kind" then some (.int kd tkd) else m0 y)) ->
   (News b L h' [(L+1,o3),(row,oR)]) ->
   (n≤9) ->
   (RowO oR) ->
   (0≤kd) ->
   (kd<7) ->
   VcMid0 w s b L o3 row m0 s'
def VcMid (w:World) (s:Shared) (b:Heap) (L:Addr) (o3:Obj) (row:Addr) (m0:Str->Option Value) (s':Shared):Prop:=Hold (VcMid0 w s b L o3 row m0 s')
theorem cut2 {M:Model} {A:Around} {E:Value->Shared->Prop} {s:Shared} {Q:Flow->Shared->Prop} {env:Env} {a b:Stmt} {rest:List Stmt} (Mid:Shared->Prop) (h1:wpAny M A (execs [a,b] env) (fun f s'=>match f with | .next=>Mid s' | f=>Q f s') E s) (h2:∀ s',Mid s'->wpAny M A (execs rest env) Q E s') :
   wpAny M A (execs (a::b::rest) env) Q E s:=by
 rw [show a::b::rest=[a,b]++rest from rfl]
 exact execs_app (wpAny_mono h1 (fun f s' h=>by cases f<;>first | exact h2 _ h | exact h) fun _ _ e=>e)
theorem lvector_ct {row:Addr} {o:Obj} (G:Gd w mean mg mb b₀) (hb:b₀.StaysIn s.heap) (R:Rm A 8) (hr:RowO o) (hrow:s.heap.get? row=some o) (hr0:b₀.get? row=none)
   (hQ:∀ h' tk o' u du T,RowO o'->KB [row] s.heap h'->h'.get? row=some o'->Fresh s.heap h' T->VM w (lm T) u du->GenOk du->Q (.ref u) {s with heap:=h',toks:=tk}) :
   wpAny (model PG w) A (call (.ref 366) [.ref row]) Q E s:=by
 k_extra "s"
 refine enterC [(row,o)] G hb (fun p hp=>by cases hp with | head=>exact ⟨hrow,hr0⟩ | tail _ h=>cases h) (by k_dflt k_is) (by k_dflt k_is) (by have:=R.d;omega) (binds:=[("row",.ref row)]) (BindsTo.of_eq rfl) (by rfl) (by decide +kernel) ?_
 intro b L h₁ tk0' cells F N Y X T hst hkb hK hlt
 k_cells Y
 rename_i o3 d3
 replace d3:o3.data = .cell (some (.ref row)):=d3
 (try simp only [List.cons_append,List.nil_append] at N)
 have hrL:@LT.lt Nat _ row L:=hlt (row,_) (.head _)
 (try dsimp only)
 refine cut2 (VcMid w s b L o3 row (fun y=>bindL (envOfC (Str.ofString "_law_vector") fs366 L 366 (Value.ref 365)).kindOf [(Str.ofString "row",Value.ref row)] (fun _=>none) y)) ?_ ?_
 . k_steps
   obtain ⟨n,tn,hn9,rfl⟩:=menu9 (by assumption)
   exact Hold.mk ⟨_,_,_,_,_,n,tn,rfl,by assumption,by k_extra "my pick",hn9,by assumption,fmod_lo _ (by decide),fmod_hi _ (by decide)⟩
 intro s1 z1
 obtain ⟨h1,tk1,oR,kd,tkd,n,tn,rfl,F,N,hn9,hR1,hk0,hk7⟩:=z1.out
 clear z1
 k_steps
 ·
   rename_i h9 tk9 t9 u9 v9 hrg F2 N2 kb2
   dsimp only at hrg
   refine LCg.CompSrc.range (by k_extra "my hh") F2 N2 hrg (small_one (by omega) (by omega) (by omega) (by omega)) (rangeSize_nat _ _) (by rw [sizeLine_eq];omega) fun g=>?_
   refine comp_inv (n:=((n:Int) - 0).toNat) (fun i ys news=>Hold (∃ oR ds T,RowO oR∧ItsM (lm T) ys ds∧(∀ d∈ds,OkIt Kd.lgl d)∧ds.length=i∧Off T [L+1,row]∧news=(L+1,o3)::(row,oR)::T)) ?turn ?fin _ _ _ _ (Nat.zero_add _) (Hold.mk ⟨oR,[],[],hR1,.nil,(fun _ h=>nomatch h),rfl,Off.nil,rfl⟩)
   case turn =>
     rintro i ys _ hi z v J oJ oC C D m₂ h tk E' ⟨ti9,rfl⟩ hoC hmm F N off ne
     obtain ⟨oR2,ds,T2,hR2,hys,hok,hdl,hoT,rfl⟩:=z.out
     clear z
     have off':=off
     simp only [LCg.Off3] at off'
     k_steps
     obtain ⟨d9,ok9,it9⟩:=menuL (H:=lm T2) (by assumption)
     refine' ⟨_,_,(L+1,o3)::(row,?ooL)::T2,rfl,?f9,?n9,?o9,True.intro,Hold.mk ⟨?ooL,_,T2,?h9,hys.snoc it9,okSnoc hok ok9,by rw [List.length_append,hdl];rfl,hoT,rfl⟩⟩
     case h9=>with_reducible assumption
     case o9=>exact off
     case f9=>assumption
     case n9=>k_extra "my pick"
   case fin =>
     rintro ys _ z D h tk F N off
     obtain ⟨oR2,ds,T2,hR2,hys,hok,hdl,hoT,rfl⟩:=z.out
     clear z
     have off':=off
     simp only [LCg.Off1] at off'
     have hyl:=hys.length
     k_steps
     rename_i _ _ u8 d8 t1 t2 t3 t4 t5 ne8 F9 N9 l8 l9
     refine ldressed_in F9 N9 (.head _) (by k_mem) (.tail _ (.head _)) (by k_mem) hR2 (fun q=>off'.2.1 q.symm) (by k_extra "my noNe";omega) X T (by k_extra "my rm") ?_
     intro h' tk' o' av nw ats hR' F' kb gr gd fr hat hats
     have hdr:@Ne Nat d8 row:=fun q=>l9.2.2.1 q.symm
     exact hQ h' tk' o' u8 ⟨Kd.str Kd.lgl,ds,ats⟩ ((d8,dictOf (vEnts w.params t1 t2 t3 t4 t5 (.str (Kd.str Kd.lgl) _) (.ref D) av) 5)::(u8,instObj 113 d8)::(D,LCg.lst ys)::(nw++T2)) hR' (hK _ _ F') gr
       (fresh_gen hkb F9 N9 (fun d hd=>by cases mS hd;exact ⟨_,by k_mem⟩) kb gd (by k_mem) (by k_mem) (by k_mem) (fun p hp=>by k_extra "my tmem") (fun q=>l8.2.2.1 (mS q).symm) hdr (fun q=>off'.2.1 (mS q).symm) ne8 (fun q=>l9.1 q) (fun p hp q=>hoT p hp (.tail _ q)) (fun p hp q=>allNe_all9 l9.2.2.2 p hp q) fr)
       (.vec (by decide) ⟨_,_,_,_,_,_,_,_,_,.tail _ (.head _),.head _,mt2 (.head _),hys.mono fun a o q=>mt3 (List.mem_append_right _ q)⟩ (hat.mono fun a o q=>mt3 (List.mem_append_left _ q)))
       (.num Kd.lgl hok (by omega) (by rw [← hyl];exact hats))
 ·
   rename_i h9 tk9 t9 u9 v9 hrg F2 N2 kb2
   dsimp only at hrg
   refine LCg.CompSrc.range (by k_extra "my hh") F2 N2 hrg (small_one (by omega) (by omega) (by omega) (by omega)) (rangeSize_nat _ _) (by rw [sizeLine_eq];omega) fun g=>?_
   refine comp_inv (n:=((n:Int) - 0).toNat) (fun i ys news=>Hold (∃ oR ds T,RowO oR∧ItsM (lm T) ys ds∧(∀ d∈ds,OkIt Kd.itg d)∧ds.length=i∧Off T [L+1,row]∧news=(L+1,o3)::(row,oR)::T)) ?turn ?fin _ _ _ _ (Nat.zero_add _) (Hold.mk ⟨oR,[],[],hR1,.nil,(fun _ h=>nomatch h),rfl,Off.nil,rfl⟩)
   case turn =>
     rintro i ys _ hi z v J oJ oC C D m₂ h tk E' ⟨ti9,rfl⟩ hoC hmm F N off ne
     obtain ⟨oR2,ds,T2,hR2,hys,hok,hdl,hoT,rfl⟩:=z.out
     clear z
     have off':=off
     simp only [LCg.Off3] at off'
     k_steps
     obtain ⟨d9,ok9,it9⟩:=menuI (H:=lm T2) (by assumption)
     refine' ⟨_,_,(L+1,o3)::(row,?ooI)::T2,rfl,?f9,?n9,?o9,True.intro,Hold.mk ⟨?ooI,_,T2,?h9,hys.snoc it9,okSnoc hok ok9,by rw [List.length_append,hdl];rfl,hoT,rfl⟩⟩
     case h9=>with_reducible assumption
     case o9=>exact off
     case f9=>assumption
     case n9=>k_extra "my pick"
   case fin =>
     rintro ys _ z D h tk F N off
     obtain ⟨oR2,ds,T2,hR2,hys,hok,hdl,hoT,rfl⟩:=z.out
     clear z
     have off':=off
     simp only [LCg.Off1] at off'
     have hyl:=hys.length
     k_steps
     rename_i _ _ u8 d8 t1 t2 t3 t4 t5 ne8 F9 N9 l8 l9
     refine ldressed_in F9 N9 (.head _) (by k_mem) (.tail _ (.head _)) (by k_mem) hR2 (fun q=>off'.2.1 q.symm) (by k_extra "my noNe";omega) X T (by k_extra "my rm") ?_
     intro h' tk' o' av nw ats hR' F' kb gr gd fr hat hats
     have hdr:@Ne Nat d8 row:=fun q=>l9.2.2.1 q.symm
     exact hQ h' tk' o' u8 ⟨Kd.str Kd.itg,ds,ats⟩ ((d8,dictOf (vEnts w.params t1 t2 t3 t4 t5 (.str (Kd.str Kd.itg) _) (.ref D) av) 5)::(u8,instObj 113 d8)::(D,LCg.lst ys)::(nw++T2)) hR' (hK _ _ F') gr
       (fresh_gen hkb F9 N9 (fun d hd=>by cases mS hd;exact ⟨_,by k_mem⟩) kb gd (by k_mem) (by k_mem) (by k_mem) (fun p hp=>by k_extra "my tmem") (fun q=>l8.2.2.1 (mS q).symm) hdr (fun q=>off'.2.1 (mS q).symm) ne8 (fun q=>l9.1 q) (fun p hp q=>hoT p hp (.tail _ q)) (fun p hp q=>allNe_all9 l9.2.2.2 p hp q) fr)
       (.vec (by decide) ⟨_,_,_,_,_,_,_,_,_,.tail _ (.head _),.head _,mt2 (.head _),hys.mono fun a o q=>mt3 (List.mem_append_right _ q)⟩ (hat.mono fun a o q=>mt3 (List.mem_append_left _ q)))
       (.num Kd.itg hok (by omega) (by rw [← hyl];exact hats))
 ·
   rename_i h9 tk9 t9 u9 v9 hrg F2 N2 kb2
   dsimp only at hrg
   refine LCg.CompSrc.range (by k_extra "my hh") F2 N2 hrg (small_one (by omega) (by omega) (by omega) (by omega)) (rangeSize_nat _ _) (by rw [sizeLine_eq];omega) fun g=>?_
   refine comp_inv (n:=((n:Int) - 0).toNat) (fun i ys news=>Hold (∃ oR ds T,RowO oR∧ItsM (lm T) ys ds∧(∀ d∈ds,OkIt Kd.dbl d)∧ds.length=i∧Off T [L+1,row]∧news=(L+1,o3)::(row,oR)::T)) ?turn ?fin _ _ _ _ (Nat.zero_add _) (Hold.mk ⟨oR,[],[],hR1,.nil,(fun _ h=>nomatch h),rfl,Off.nil,rfl⟩)
   case turn =>
     rintro i ys _ hi z v J oJ oC C D m₂ h tk E' ⟨ti9,rfl⟩ hoC hmm F N off ne
     obtain ⟨oR2,ds,T2,hR2,hys,hok,hdl,hoT,rfl⟩:=z.out
     clear z
     have off':=off
     simp only [LCg.Off3] at off'
     k_steps
     refine' ldouble_in (by assumption) (by assumption) ?U hR2 X T (by k_extra "my rm") ?_
     case U=>k_updF
     intro h8 tk8 o8 v8 d8 nw8 hr8 F8 N8 M8 l8 ok8 it8
     have hoT':Off (nw8++T2) [L+1,row]:=fun p hp q=>by
       rcases List.mem_append.mp hp with hp | hp
       . rcases mC q with q | q
         . exact (l8 p hp).2.2.2.1 q.symm
         . exact (l8 p hp).2.2.2.2.1 (mS q).symm
       . exact hoT p hp q
     refine ⟨_,_,(L+1,o3)::(row,o8)::(nw8++T2),rfl,F8,fun p hp=>?_,LCg.Off3.of fun p hp=>?_,True.intro,Hold.mk ⟨o8,ds++[d8],nw8++T2,hr8,(hys.mono fun a o q=>List.mem_append_right _ q).snoc (it8.mono fun a o q=>List.mem_append_left _ q),okSnoc hok ok8,by rw [List.length_append,hdl];rfl,hoT',rfl⟩⟩
     . simp only [List.mem_cons,List.mem_append] at hp
       rcases hp with hp | hp | hp | hp | hp | hp | hp
       . exact N8 p (by simp [hp])
       . exact N8 p (by simp [hp])
       . exact N8 p (by simp [hp])
       . exact N8 p (by simp [hp])
       . exact N8 p (by simp [hp])
       . exact M8 p hp
       . exact N8 p (by simp [hp])
     . rcases mC hp with rfl | hp
       . exact off.1
       rcases mC hp with rfl | hp
       . exact off.2.1
       rcases List.mem_append.mp hp with hp | hp
       . exact ⟨fun q=>(l8 p hp).1 q.symm,fun q=>(l8 p hp).2.1 q.symm,fun q=>(l8 p hp).2.2.1 q.symm⟩
       . exact off.2.2.mem p hp
   case fin =>
     rintro ys _ z D h tk F N off
     obtain ⟨oR2,ds,T2,hR2,hys,hok,hdl,hoT,rfl⟩:=z.out
     clear z
     have off':=off
     simp only [LCg.Off1] at off'
     have hyl:=hys.length
     k_steps
     rename_i _ _ u8 d8 t1 t2 t3 t4 t5 ne8 F9 N9 l8 l9
     refine ldressed_in F9 N9 (.head _) (by k_mem) (.tail _ (.head _)) (by k_mem) hR2 (fun q=>off'.2.1 q.symm) (by k_extra "my noNe";omega) X T (by k_extra "my rm") ?_
     intro h' tk' o' av nw ats hR' F' kb gr gd fr hat hats
     have hdr:@Ne Nat d8 row:=fun q=>l9.2.2.1 q.symm
     exact hQ h' tk' o' u8 ⟨Kd.str Kd.dbl,ds,ats⟩ ((d8,dictOf (vEnts w.params t1 t2 t3 t4 t5 (.str (Kd.str Kd.dbl) _) (.ref D) av) 5)::(u8,instObj 113 d8)::(D,LCg.lst ys)::(nw++T2)) hR' (hK _ _ F') gr
       (fresh_gen hkb F9 N9 (fun d hd=>by cases mS hd;exact ⟨_,by k_mem⟩) kb gd (by k_mem) (by k_mem) (by k_mem) (fun p hp=>by k_extra "my tmem") (fun q=>l8.2.2.1 (mS q).symm) hdr (fun q=>off'.2.1 (mS q).symm) ne8 (fun q=>l9.1 q) (fun p hp q=>hoT p hp (.tail _ q)) (fun p hp q=>allNe_all9 l9.2.2.2 p hp q) fr)
       (.vec (by decide) ⟨_,_,_,_,_,_,_,_,_,.tail _ (.head _),.head _,mt2 (.head _),hys.mono fun a o q=>mt3 (List.mem_append_right _ q)⟩ (hat.mono fun a o q=>mt3 (List.mem_append_left _ q)))
       (.num Kd.dbl hok (by omega) (by rw [← hyl];exact hats))
 . rename_i h8 tk8 u8 d8 t1 t2 t3 ne8 F9 N9 l8 l9
   exact hQ _ _ oR u8 _ [(u8,instObj 84 d8),(d8,dictOf (nullEnts w.params t1 t2 t3) 2)] hR1 (hK _ _ F9) (N9.get (by k_mem)) (.cons (N9.get (by k_mem)) (news_new2 N9 hkb (by k_mem) (nmem1 (Ne.symm l8.2))) (.cons (N9.get (by k_mem)) (news_new2 N9 hkb (by k_mem) (nmem1 (Ne.symm l9.2))) .nil)) (.null (.head _) (.tail _ (.head _))) .null
 . rename_i lx _ _ D9 vs9 _ e9 l7 h8 tk8 u8 d8 t1 t2 t3 t4 t5 ne8 F9 N9 l8 l9
   subst e9
   exact hQ _ _ oR u8 _ [(u8,instObj 113 d8),(d8,dictOf (vEnts w.params t1 t2 t3 t4 t5 (.str "character" _) (.ref D9) .none) 5),(D9,listOf (List.toArray (List.replicate n _)) 0)] hR1 (hK _ _ F9) (N9.get (by k_mem))
     (.cons (N9.get (by k_mem)) (news_new2 N9 hkb (by k_mem) (nmem1 (by k_ne))) (.cons (N9.get (by k_mem)) (news_new2 N9 hkb (by k_mem) (nmem1 (by k_ne))) (.cons (N9.get (by k_mem)) (news_new2 N9 hkb (by k_mem) (nmem1 (by k_ne))) .nil)))
     (.vec (by decide) ⟨_,_,_,_,_,_,_,_,_,.head _,.tail _ (.head _),mt2 (.head _),itsRep n⟩ .none) (.chr (by rw [List.length_replicate];exact hn9))
 k_extra "f"
end
end
section
section
variable {M:Model} {A:Around} {E:Value->Shared->Prop} {s:Shared} {h₀:Heap} {L a:Addr} {m:Str->Option Value} {cn:Str} {cs:Scope} {ccd:Value} {cl:List (Str×Addr)} {x:Str} {v:Value} {Q:Value->Shared->Prop} {c:Addr} {o:Obj} {pos:Pos}
theorem nameX_Fb (F:Fr h₀ L s.heap m) (hc:cl.lookup x=some c) (hm:h₀.get? c=some o) (hd:o.data = .cell (some v)) (h:Q v s)
   (hk:cs.kind = .function:=by rfl) (hx:(envX cn cs L a ccd cl).kindOf x=some .free:=by rfl) (hb:(x == ("__debug__" : Str))=false:=by decide) (hn:(x == ("__classdict__" : Str))=false:=by decide) :
   wpAny M A (eval (.Name x pos) (envX cn cs L a ccd cl)) Q E s:=wpAny_Name (wpAny_loadName_free hk hx hc ⟨o,F.keep _ _ hm,hd⟩ h hn) hb
end
section
variable {Q:Value->Shared->Prop} {b₀:Heap}
theorem enterE {name qual:Str} {params:Arguments} {body:Expr} {scope:Scope} {cl:List (Str×Addr)} {pm ctv:Value} {f c':Addr} {vs:List Value} {kw:List (Str×Value)} (foot:List (Addr×Obj)) (G:Gd w mean mg mb b₀) (hb:b₀.StaysIn s.heap) (hf:∀ p∈foot,s.heap.get? p.1=some p.2∧b₀.get? p.1=none)
   (ho:s.heap.get? f=some (kla_obj name qual params body scope cl pm c' ctv)) (hcd:s.heap.CodeRec (.ref c') qual) (hroom:A.depth<recursionLimit) (hbind:bindArgs (kla_fn name qual params body scope cl pm (.ref c') ctv) ⟨vs,kw⟩=pure [])
   (h:∀ b L h₁,Fr b L h₁ (fun _=>none)->News b L h₁ foot->(KF w.params).In b->Top TP LO mean mg mb b->b₀.StaysIn b->KB (foot.map (·.1)) s.heap b ->
     (∀ h' m',Fr b L h' m'->KB (foot.map (·.1)) s.heap h')->(∀ p∈foot,p.1<L) ->
     wpAny (model PG w) (A.deeper (envX qual scope L f (.ref c') cl)) (eval body (envX qual scope L f (.ref c') cl)) (fun v s'=>Q v s')
       (fun e s'=>wpAny (model PG w) (A.deeper (envX qual scope L f (.ref c') cl)) (leaving (envX qual scope L f (.ref c') cl) e) (fun _ s''=>E e s'') (fun e' s''=>E e' s'') s')
       {s with heap:=h₁,toks:=s.toks+0})
   (hco:scope.isCoroutine=false:=by rfl) (hgen:scope.isGenerator=false:=by rfl) (hk:scope.kind = .function:=by rfl)
   (hcell:∀ x∈scope.names,x.2 ≠ .cell:=by decide):wpAny (model PG w) A (call (.ref f) vs kw) Q E s:=by
 k_extra "s"
 have hst:b₀.StaysIn (hideAll s.heap (foot.map (·.1))):=hide_stays hb fun d hd=>by
   obtain ⟨p,hp,rfl⟩:=List.mem_map.mp hd
   exact (hf p hp).2
 have Gs:=G.keeps hb
 have Gb:=G.keeps hst
 have hkb:KB (foot.map (·.1)) s.heap (hideAll s.heap (foot.map (·.1))):=fun b o n e=>hideAll_get _ e n
 refine wpAny_call (kla_callFunE hroom ho rfl hco hgen rfl hcd ?_)
 rw [hbind]
 refine wpAny_pure (wpAny_newFunctionEnv hcell (by intro y hy;cases hy) (fun h₁ hns hsb=>⟨Gs.T.nolimit.fresh _ hsb,?_⟩) hk)
 show codeAny _ _ (.expr body (envX qual scope s.heap.objs.size f (.ref c') cl)) _ _
 have hk₁:∀ b o,s.heap.get? b=some o->h₁.get? b=some o:=fun b o e=>hsb.extBut b o (Nat.ne_of_lt (Heap.lt_size e)) (Heap.get?_push_of_some _ e)
 exact kla_codeExpr (h (hideAll s.heap (foot.map (·.1))) s.heap.objs.size h₁ ⟨hns,fun b o e=>hk₁ b o (of_hideAll _ e),Nat.le_of_eq (hideAll_size _ _)⟩
   (fun p hp=>⟨hk₁ _ _ (hf p hp).1,Nat.ne_of_lt (Heap.lt_size (hf p hp).1),hideAll_none _ (List.mem_map_of_mem hp)⟩) Gb.K Gb.T hst hkb
   (fun h' m' F b o n e=>F.keep _ _ (hkb b o n e)) (fun p hp=>Heap.lt_size (hf p hp).1))
 k_extra "f"
abbrev LP:Arguments := {posonlyargs:=[],args:=[],vararg:=none,kwonlyargs:=[],kw_defaults:=[],kwarg:=none,defaults:=[]}
abbrev LS1:Scope := {kind := .function,names:=[("asked",.free),("notes",.free),("u",.free),("v",.free)],isGenerator:=false,isCoroutine:=false}
structure LamAt (h:Heap) (f:Addr) (body:Expr) (scope:Scope) (cl:List (Str×Addr)):Prop where
 ex:∃ name qual pm c' ctv,h.get? f=some (kla_obj name qual LP body scope cl pm c' ctv)∧h.CodeRec (.ref c') qual
theorem LamAt.keeps {h h':Heap} {f:Addr} {body:Expr} {scope:Scope} {cl:List (Str×Addr)} (x:LamAt h f body scope cl) (k:∀ a o,h.get? a=some o->h'.get? a=some o):LamAt h' f body scope cl:=by
 obtain ⟨n,q,pm,c',ctv,h1,c,o,vs,t,e1,e2,e3,e4⟩:=x.ex
 exact ⟨n,q,pm,c',ctv,k _ _ h1,c,o,vs,t,e1,k _ _ e2,e3,e4⟩
structure CellAt (h:Heap) (c:Addr) (v:Value):Prop where
 ex:∃ o,h.get? c=some o∧o.data = .cell (some v)
theorem CellAt.keeps {h h':Heap} {c:Addr} {v:Value} (x:CellAt h c v) (k:∀ a o,h.get? a=some o->h'.get? a=some o):CellAt h' c v:=by
 obtain ⟨o,h1,h2⟩:=x.ex
 exact ⟨o,k _ _ h1,h2⟩
end
theorem G66.g66:True:=True.intro
open G66
theorem kw250:True:=by
 k_with "!eval Name" => ((have:=g66;clear this);(k_here;k_dflt (refine' nameX_Fb ?A6v ?D6v ?F6v ?E6v ?_ ?B6v ?C6v;(case B6v=>exact rfl);(case C6v=>exact rfl);(case A6v=>k_asm);(case D6v=>exact rfl);(case F6v=>with_reducible assumption);(case E6v=>with_reducible assumption))))
 k_with "!callWith ref" => ((have:=g66;clear this);(k_here;(with_reducible refine' callWith_F ?A6w ?_ ?B6w ?C6w);(case A6w=>k_dflt (exact fnSt (by with_reducible assumption) (Fr.keep (by assumption))));(case B6w=>k_dflt rfl);(case C6w=>k_dflt rfl)))
 k_with "!And" => ((have:=g66;clear this);(k_here;k_dflt (refine And.intro (fnSt (by with_reducible assumption) (Fr.keep (by assumption))) ?_)))
 exact True.intro
section
variable {Q:Value->Shared->Prop} {b₀:Heap}
theorem lam1_num {f cA cN cU cV fa u v nt:Addr} {fn:Option Bool->Option Bool->Option Bool} {du dv:Vd} {eu ev:Option (List Int)} {xs:List Value} {ts:List Str} {c:Nat} {outer:List Env} {B:Heap} {p1 p2 p3 p4 p5:Pos}
   (hfn:AskedNum w mean mg mb fa fn) (hat:FnAt fa b₀) (G:Gd w mean mg mb b₀) (hb:b₀.StaysIn s.heap) (R:Rm A 17) (hfr:A.frames=some outer) (hO:OutF b₀ outer) (hB:B.StaysIn b₀) (hKB:(KF w.params).In B)
   (hf:LamAt b₀ f (.Call (.Name "asked" p1) [.Name "u" p2,.Name "v" p3,.Name "notes" p4] [] p5) LS1 [("v",cV),("u",cU),("notes",cN),("asked",cA)]) (hcA:CellAt b₀ cA (.ref fa)) (hcN:CellAt b₀ cN (.ref nt)) (hcU:CellAt b₀ cU (.ref u)) (hcV:CellAt b₀ cV (.ref v))
   (hU:VM w (hm B) u du) (hV:VM w (hm B) v dv) (hku:Numv du) (hkv:Numv dv) (hu:DimIs du eu) (hv:DimIs dv ev) (hlu:du.items.length≤1000) (hlv:dv.items.length≤1000) (hnu:attOf du.ats "dimnames" = none) (hnv:attOf dv.ats "dimnames" = none)
   (hn:s.heap.get? nt=some (listOf (List.toArray xs) c)) (hn0:b₀.get? nt=none) (hs:StrsAre xs ts) (hl:ts.length≤50)
   (hQ:∀ h' tk r xs' c' o,rdim du.items.length dv.items.length eu ev = .ok o->KB [nt] s.heap h'->h'.get? nt=some (listOf (List.toArray xs') c')->StrsAre xs' (ts++notes9 du.items.length dv.items.length eu ev) ->
     Told w s.heap h' B r (pairT fn (du.items.map tru) (dv.items.map tru) (rc du.items.length dv.items.length).toNat) (shAts du dv eu ev (rc du.items.length dv.items.length).toNat o)->Q (.ref r) {s with heap:=h',toks:=tk})
   (hE:∀ h' tk e msg,rdim du.items.length dv.items.length eu ev = .error msg->Thrown w.params outer (hideAll s.heap [nt]) h' e msg->E (.ref e) {s with heap:=h',toks:=tk}) :
   wpAny (model PG w) A (call (.ref f) []) Q E s:=by
 k_extra "s"
 obtain ⟨name,qual,pm,c',ctv,ho,hcd⟩:=(hf.keeps hb).ex
 refine enterE [(nt,listOf xs.toArray c)] G hb (fun p hp=>by cases hp with | head=>exact ⟨hn,hn0⟩ | tail _ h=>cases h) ho hcd (by have:=R.d;omega) (by rfl) ?_
 intro b L h₁ F N X T hst hkb hK hlt
 have hatb:=fnSt hat hst
 obtain ⟨oA,gA,dA⟩:=(hcA.keeps hst).ex
 obtain ⟨oN,gN,dN⟩:=(hcN.keeps hst).ex
 obtain ⟨oU,gU,dU⟩:=(hcU.keeps hst).ex
 obtain ⟨oV,gV,dV⟩:=(hcV.keeps hst).ex
 have hs1:∀ a o,(hideAll s.heap [nt]).get? a=some o->b.get? a=some o:=hide_sub hkb
 (try dsimp only)
 k_steps
 have hn':=N (nt,_) (.head _)
 have hb1:b.StaysIn (hideAll h₁ [nt]):=fun a o q=>hideAll_get _ (F.keep _ _ q) fun z=>by
   rw [mS z,hn'.2.2] at q;cases q
 have hO1:OutF (hideAll s.heap [nt]) outer:=hO.keeps (hide_stays hb fun d hd=>by rw [mS hd];exact hn0)
 have hDn:∀ d∈[nt],∃ o,(d,o)∈[(nt,listOf (List.toArray xs) c)]:=fun d hd=>by cases mS hd;exact ⟨_,.head _⟩
 obtain ⟨oL,hL,hdL⟩:=frame_obj F
 have hOb:OutF (hideAll h₁ [nt]) (envX qual LS1 L f (Value.ref c') [("asked",cA),("notes",cN),("u",cU),("v",cV)]::outer):=frame_outF rfl (show ScopeKind.function≠ScopeKind.module from by decide) ((hO.keeps hst).keeps hb1) (hideAll_get _ hL fun z=>hn'.2.1 (mS z).symm) hdL
 refine hfn (Gd.keeps ⟨X,T⟩ hb1) (fun a o q=>of_hideAll _ q) (by k_extra "my rm") (frames_up hfr) hOb (st2 (st2 hB hst) hb1) hKB hU hV hku hkv hu hv hlu hlv hnu hnv hn'.1 (hideAll_none _ (.head _)) hs hl ?_ ?_
 . intro h' tk r xs' c1 o hr kb gn hs' tl
   have F':=Fr.kb F N hDn kb
   obtain ⟨dx,ia,tk9,ti,ta,ts9,tl9,kt,av,vs,c2,nw,fr,r2⟩:=tl.ex
   exact hQ h' _ r xs' c1 o hr (hK _ _ F') gn hs' ⟨dx,ia,tk9,ti,ta,ts9,tl9,kt,av,vs,c2,nw,fresh_down (dom_in hkb F N hDn) fr,r2⟩
 . intro h' tk e msg hr Th
   refine pass_out (D:=[nt]) hfr rfl (show ScopeKind.function≠ScopeKind.module from by decide) hO1 hs1 F (fnews N hDn) Th ?_
   intro h9 T9
   exact hE _ _ _ _ hr T9
 k_extra "f"
theorem lam1_chr {f cA cN cU cV fa u v nt:Addr} {du dv:Vd} {xs:List Value} {c:Nat} {outer:List Env} {B:Heap} {p1 p2 p3 p4 p5:Pos}
   (hfn:AskedChr w mean mg mb fa) (hat:FnAt fa b₀) (G:Gd w mean mg mb b₀) (hb:b₀.StaysIn s.heap) (R:Rm A 17) (hfr:A.frames=some outer) (hO:OutF b₀ outer) (hB:B.StaysIn b₀) (hKB:(KF w.params).In B)
   (hf:LamAt b₀ f (.Call (.Name "asked" p1) [.Name "u" p2,.Name "v" p3,.Name "notes" p4] [] p5) LS1 [("v",cV),("u",cU),("notes",cN),("asked",cA)]) (hcA:CellAt b₀ cA (.ref fa)) (hcN:CellAt b₀ cN (.ref nt)) (hcU:CellAt b₀ cU (.ref u)) (hcV:CellAt b₀ cV (.ref v))
   (hU:VM w (hm B) u du) (hV:VM w (hm B) v dv) (hku:du.kind = "character" ∨ (Numv du∧dv.kind = "character")) (hlu:du.items.length≤1000)
   (hn:s.heap.get? nt=some (listOf (List.toArray xs) c)) (hn0:b₀.get? nt=none)
   (hE:∀ h' tk e,Thrown w.params outer (hideAll s.heap [nt]) h' e msgOp->E (.ref e) {s with heap:=h',toks:=tk}) :
   wpAny (model PG w) A (call (.ref f) []) Q E s:=by
 k_extra "s"
 obtain ⟨name,qual,pm,c',ctv,ho,hcd⟩:=(hf.keeps hb).ex
 refine enterE [(nt,listOf xs.toArray c)] G hb (fun p hp=>by cases hp with | head=>exact ⟨hn,hn0⟩ | tail _ h=>cases h) ho hcd (by have:=R.d;omega) (by rfl) ?_
 intro b L h₁ F N X T hst hkb hK hlt
 have hatb:=fnSt hat hst
 obtain ⟨oA,gA,dA⟩:=(hcA.keeps hst).ex
 obtain ⟨oN,gN,dN⟩:=(hcN.keeps hst).ex
 obtain ⟨oU,gU,dU⟩:=(hcU.keeps hst).ex
 obtain ⟨oV,gV,dV⟩:=(hcV.keeps hst).ex
 have hs1:∀ a o,(hideAll s.heap [nt]).get? a=some o->b.get? a=some o:=hide_sub hkb
 (try dsimp only)
 k_steps
 have hn':=N (nt,_) (.head _)
 have hb1:b.StaysIn (hideAll h₁ [nt]):=fun a o q=>hideAll_get _ (F.keep _ _ q) fun z=>by
   rw [mS z,hn'.2.2] at q;cases q
 have hO1:OutF (hideAll s.heap [nt]) outer:=hO.keeps (hide_stays hb fun d hd=>by rw [mS hd];exact hn0)
 have hDn:∀ d∈[nt],∃ o,(d,o)∈[(nt,listOf (List.toArray xs) c)]:=fun d hd=>by cases mS hd;exact ⟨_,.head _⟩
 obtain ⟨oL,hL,hdL⟩:=frame_obj F
 have hOb:OutF (hideAll h₁ [nt]) (envX qual LS1 L f (Value.ref c') [("asked",cA),("notes",cN),("u",cU),("v",cV)]::outer):=frame_outF rfl (show ScopeKind.function≠ScopeKind.module from by decide) ((hO.keeps hst).keeps hb1) (hideAll_get _ hL fun z=>hn'.2.1 (mS z).symm) hdL
 refine hfn (Gd.keeps ⟨X,T⟩ hb1) (fun a o q=>of_hideAll _ q) (by k_extra "my rm") (frames_up hfr) hOb (st2 (st2 hB hst) hb1) hKB hU hV hku hlu hn'.1 (hideAll_none _ (.head _)) ?_
 intro h' tk e Th
 refine pass_out (D:=[nt]) hfr rfl (show ScopeKind.function≠ScopeKind.module from by decide) hO1 hs1 F (fnews N hDn) Th ?_
 intro h9 T9
 exact hE _ _ _ T9
 k_extra "f"
end
end
section
theorem kw254:True:=by
 k_with "!eval Name" => ((k_here;k_dflt (refine' nameX_Fb ?A6z ?D6z ?F6z ?E6z ?_ ?B6z ?C6z;(case B6z=>exact rfl);(case C6z=>exact rfl);(case A6z=>k_asm);(case D6z=>exact rfl);(case F6z=>with_reducible assumption);(case E6z=>with_reducible assumption))))
 k_with "!callWith ref" => ((k_here;(with_reducible refine' callWith_F ?A70 ?_ ?B70 ?C70);(case A70=>k_dflt (exact fnSt (by with_reducible assumption) (Fr.keep (by assumption))));(case B70=>k_dflt rfl);(case C70=>k_dflt rfl)))
 exact True.intro
theorem G67.g67:True:=True.intro
open G67
theorem kw255:True:=by
 k_with "!And" => ((have:=g67;clear this);(k_here;k_dflt (refine And.intro (fnSt (by with_reducible assumption) (Fr.keep (by assumption))) ?_)))
 exact True.intro
section
abbrev LS2:Scope := {kind := .function,names:=[("side",.free),("logic_not",.globalImplicit)],isGenerator:=false,isCoroutine:=false}
noncomputable abbrev LS3:Scope := {kind := .function,names:=[("notes",.free),("skip",.free),("u",.free),("v",.free),("all_of",.globalImplicit)],isGenerator:=false,isCoroutine:=false}
abbrev LS4:Scope := {kind := .function,names:=[("skip",.free),("u",.free),("v",.free),("any_of",.globalImplicit)],isGenerator:=false,isCoroutine:=false}
section
variable {Q:Value->Shared->Prop} {b₀:Heap}
theorem lam2_num {f cS v:Addr} {dv:Vd} {e:Option (List Int)} {outer:List Env} {B:Heap} {p1 p2 p3:Pos} (G:Gd w mean mg mb s.heap) (R:Rm A 17) (hfr:A.frames=some outer) (hO:OutF s.heap outer) (hB:B.StaysIn s.heap)
   (hf:LamAt s.heap f (.Call (.Name "logic_not" p1) [.Name "side" p2] [] p3) LS2 [("side",cS)]) (hcS:CellAt s.heap cS (.ref v))
   (hV:VM w (hm B) v dv) (hk:Numv dv) (hd:DimIs dv e) (hl:dv.items.length≤1000) (hla:dv.ats.length≤10) (hn:attOf dv.ats "dimnames" = none)
   (hQ:∀ h' tk r,KB [] s.heap h'->Told w s.heap h' B r (dv.items.map fun d=>not3 (tru d)) (notAts dv e)->Q (.ref r) {s with heap:=h',toks:=tk}) :
   wpAny (model PG w) A (call (.ref f) []) Q E s:=by
 k_extra "s"
 obtain ⟨name,qual,pm,c',ctv,ho,hcd⟩:=hf.ex
 refine enterE [] G (fun _ _ e=>e) (fun p hp=>nomatch hp) ho hcd (by have:=R.d;omega) (by rfl) ?_
 intro b L h₁ F N X T hst hkb hK hlt
 obtain ⟨oS,gS,dS⟩:=(hcS.keeps hst).ex
 (try dsimp only)
 k_steps
 refine not_num (Gd.keeps ⟨X,T⟩ F.keep) (by k_extra "my rm") (frames_up hfr) (outf_up F (hO.keeps hst) rfl (show ScopeKind.function≠ScopeKind.module from by decide)) (st2 (st2 hB hst) F.keep) hV hk hd hl hla hn ?_
 intro h' tk r kb tl
 have F':=Fr.kb0 F kb
 obtain ⟨dx,ia,tk9,ti,ta,ts9,tl9,kt,av,vs,c2,nw,fr,r2⟩:=tl.ex
 exact hQ h' _ r (hK _ _ F') ⟨dx,ia,tk9,ti,ta,ts9,tl9,kt,av,vs,c2,nw,fresh_down (dom_in hkb F N (fun d hd=>nomatch hd)) fr,r2⟩
 k_extra "f"
theorem lam2_chr0 {f cS v:Addr} {dv:Vd} {B:Heap} {p1 p2 p3:Pos} (G:Gd w mean mg mb s.heap) (R:Rm A 17) (hB:B.StaysIn s.heap)
   (hf:LamAt s.heap f (.Call (.Name "logic_not" p1) [.Name "side" p2] [] p3) LS2 [("side",cS)]) (hcS:CellAt s.heap cS (.ref v))
   (hV:VM w (hm B) v dv) (hk:dv.kind = "character") (hi:dv.items=[])
   (hQ:∀ h' tk r,KB [] s.heap h'->Told w s.heap h' B r [] []->Q (.ref r) {s with heap:=h',toks:=tk}) :
   wpAny (model PG w) A (call (.ref f) []) Q E s:=by
 k_extra "s"
 obtain ⟨name,qual,pm,c',ctv,ho,hcd⟩:=hf.ex
 refine enterE [] G (fun _ _ e=>e) (fun p hp=>nomatch hp) ho hcd (by have:=R.d;omega) (by rfl) ?_
 intro b L h₁ F N X T hst hkb hK hlt
 obtain ⟨oS,gS,dS⟩:=(hcS.keeps hst).ex
 (try dsimp only)
 k_steps
 refine not_chr0 (Gd.keeps ⟨X,T⟩ F.keep) (by k_extra "my rm") (st2 (st2 hB hst) F.keep) hV hk hi ?_
 intro h' tk r kb tl
 have F':=Fr.kb0 F kb
 obtain ⟨dx,ia,tk9,ti,ta,ts9,tl9,kt,av,vs,c2,nw,fr,r2⟩:=tl.ex
 exact hQ h' _ r (hK _ _ F') ⟨dx,ia,tk9,ti,ta,ts9,tl9,kt,av,vs,c2,nw,fresh_down (dom_in hkb F N (fun d hd=>nomatch hd)) fr,r2⟩
 k_extra "f"
theorem lam2_chr1 {f cS v:Addr} {dv:Vd} {outer:List Env} {B:Heap} {p1 p2 p3:Pos} (G:Gd w mean mg mb s.heap) (R:Rm A 17) (hfr:A.frames=some outer) (hO:OutF s.heap outer) (hB:B.StaysIn s.heap)
   (hf:LamAt s.heap f (.Call (.Name "logic_not" p1) [.Name "side" p2] [] p3) LS2 [("side",cS)]) (hcS:CellAt s.heap cS (.ref v))
   (hV:VM w (hm B) v dv) (hk:dv.kind = "character") (hi:dv.items≠[]) (hl:dv.items.length≤1000)
   (hE:∀ h' tk e,Thrown w.params outer s.heap h' e msgNot->E (.ref e) {s with heap:=h',toks:=tk}) :
   wpAny (model PG w) A (call (.ref f) []) Q E s:=by
 k_extra "s"
 obtain ⟨name,qual,pm,c',ctv,ho,hcd⟩:=hf.ex
 refine enterE [] G (fun _ _ e=>e) (fun p hp=>nomatch hp) ho hcd (by have:=R.d;omega) (by rfl) ?_
 intro b L h₁ F N X T hst hkb hK hlt
 obtain ⟨oS,gS,dS⟩:=(hcS.keeps hst).ex
 (try dsimp only)
 k_steps
 refine not_chr1 (Gd.keeps ⟨X,T⟩ F.keep) (by k_extra "my rm") (frames_up hfr) (outf_up F (hO.keeps hst) rfl (show ScopeKind.function≠ScopeKind.module from by decide)) (st2 (st2 hB hst) F.keep) hV hk hi hl ?_
 intro h' tk e Th
 refine pass_out (D:=[]) hfr rfl (show ScopeKind.function≠ScopeKind.module from by decide) hO hst F (fun _ h=>nomatch h) Th ?_
 intro h9 T9
 exact hE _ _ _ T9
 k_extra "f"
theorem lam3_ct {f cN cK cU cV u v nt:Addr} {du dv:Vd} {skip:Bool} {xs:List Value} {ts:List Str} {c:Nat} {outer:List Env} {B:Heap} {p1 p2 p3 p4 p5 p6 p7:Pos} (G:Gd w mean mg mb b₀) (hb:b₀.StaysIn s.heap) (R:Rm A 17) (hfr:A.frames=some outer) (hO:OutF b₀ outer) (hB:B.StaysIn b₀)
   (hf:LamAt b₀ f (.Call (.Name "all_of" p1) [.List [.Name "u" p2,.Name "v" p3] p4,.Name "skip" p5,.Name "notes" p6] [] p7) LS3 [("v",cV),("u",cU),("skip",cK),("notes",cN)])
   (hcN:CellAt b₀ cN (.ref nt)) (hcK:CellAt b₀ cK (.bool skip)) (hcU:CellAt b₀ cU (.ref u)) (hcV:CellAt b₀ cV (.ref v))
   (hU:VM w (hm B) u du) (hV:VM w (hm B) v dv) (hku:Numv du∨du.kind = "character") (hkv:Numv dv∨dv.kind = "character") (hlu:du.items.length≤1000) (hlv:dv.items.length≤1000)
   (hn:s.heap.get? nt=some (listOf (List.toArray xs) c)) (hn0:b₀.get? nt=none) (hs:StrsAre xs ts) (hl:ts.length≤30)
   (hQ:(∀ o∈[(u,du),(v,dv)],Numv o.2)->∀ h' tk r xs' c',KB [nt] s.heap h'->h'.get? nt=some (listOf (List.toArray xs') c')->StrsAre xs' (ts++opsN [(u,du),(v,dv)])->TvV r (accT and3 skip (some true) (opsT [(u,du),(v,dv)]))->Q r {s with heap:=h',toks:=tk})
   (hE:(∃ o∈[(u,du),(v,dv)],o.2.kind = "character")->∀ h' tk e,Thrown w.params outer (hideAll s.heap [nt]) h' e msgTyp->E (.ref e) {s with heap:=h',toks:=tk}) :
   wpAny (model PG w) A (call (.ref f) []) Q E s:=by
 k_extra "s"
 obtain ⟨name,qual,pm,c',ctv,ho,hcd⟩:=(hf.keeps hb).ex
 refine enterE [(nt,listOf xs.toArray c)] G hb (fun p hp=>by cases hp with | head=>exact ⟨hn,hn0⟩ | tail _ h=>cases h) ho hcd (by have:=R.d;omega) (by rfl) ?_
 intro b L h₁ F N X T hst hkb hK hlt
 obtain ⟨oN,gN,dN⟩:=(hcN.keeps hst).ex
 obtain ⟨oK,gK,dK⟩:=(hcK.keeps hst).ex
 obtain ⟨oU,gU,dU⟩:=(hcU.keeps hst).ex
 obtain ⟨oV,gV,dV⟩:=(hcV.keeps hst).ex
 have hs1:∀ a o,(hideAll s.heap [nt]).get? a=some o->b.get? a=some o:=hide_sub hkb
 (try dsimp only)
 k_steps
 rename_i l9 h9 F9 N9 l1
 have hn':=N9 (nt,_) (.tail _ (.head _))
 have hb1:b.StaysIn (hideAll h9 [nt]):=fun a o q=>hideAll_get _ (F9.keep _ _ q) fun z=>by
   rw [mS z,hn'.2.2] at q;cases q
 have hO1:OutF (hideAll s.heap [nt]) outer:=hO.keeps (hide_stays hb fun d hd=>by rw [mS hd];exact hn0)
 have hDn:∀ d∈[nt],∃ o,(d,o)∈[(l9,listOf #[Value.ref u,Value.ref v] 0),(nt,listOf (List.toArray xs) c)]:=fun d hd=>by cases mS hd;exact ⟨_,.tail _ (.head _)⟩
 obtain ⟨oL,hL,hdL⟩:=frame_obj F9
 have hOb:OutF (hideAll h9 [nt]) (envX qual LS3 L f (Value.ref c') [("v",cV),("u",cU),("skip",cK),("notes",cN)]::outer):=frame_outF rfl (show ScopeKind.function≠ScopeKind.module from by decide) ((hO.keeps hst).keeps hb1) (hideAll_get _ hL fun z=>hn'.2.1 (mS z).symm) hdL
 have hlv9:(hideAll h9 [nt]).get? l9=some (listOf (List.toArray ([(u,du),(v,dv)].map fun o=>Value.ref o.1)) 0):=hideAll_get _ (N9 _ (.head _)).1 fun z=>Nat.ne_of_gt l1 (mS z)
 refine all_ct (ops:=[(u,du),(v,dv)]) (Gd.keeps ⟨X,T⟩ hb1) (fun a o q=>of_hideAll _ q) (by k_extra "my rm") (frames_up hfr) hOb (st2 (st2 hB hst) hb1) hlv9 (fun o ho=>?_) (by simp) hn'.1 (hideAll_none _ (.head _)) hs hl ?_ ?_
 . rcases mC ho with rfl | ho
   . exact ⟨hU,hku,hlu⟩
   . rw [mS ho];exact ⟨hV,hkv,hlv⟩
 . intro hall h' tk r xs' c1 kb gn hs' tv
   have F':=Fr.kb F9 N9 hDn kb
   exact hQ hall h' _ r xs' c1 (hK _ _ F') gn hs' tv
 . intro hch h' tk e Th
   refine pass_out (D:=[nt]) hfr rfl (show ScopeKind.function≠ScopeKind.module from by decide) hO1 hs1 F9 (fnews N9 hDn) Th ?_
   intro h9 T9
   exact hE hch _ _ _ T9
 k_extra "f"
theorem lam4_ct {f cK cU cV u v:Addr} {du dv:Vd} {skip:Bool} {outer:List Env} {B:Heap} {p1 p2 p3 p4 p5 p7:Pos} (G:Gd w mean mg mb s.heap) (R:Rm A 17) (hfr:A.frames=some outer) (hO:OutF s.heap outer) (hB:B.StaysIn s.heap)
   (hf:LamAt s.heap f (.Call (.Name "any_of" p1) [.List [.Name "u" p2,.Name "v" p3] p4,.Name "skip" p5] [] p7) LS4 [("v",cV),("u",cU),("skip",cK)])
   (hcK:CellAt s.heap cK (.bool skip)) (hcU:CellAt s.heap cU (.ref u)) (hcV:CellAt s.heap cV (.ref v))
   (hU:VM w (hm B) u du) (hV:VM w (hm B) v dv) (hku:Numv du∨du.kind = "character") (hkv:Numv dv∨dv.kind = "character") (hlu:du.items.length≤1000) (hlv:dv.items.length≤1000)
   (hQ:(∀ o∈[(u,du),(v,dv)],Numv o.2)->∀ h' tk r,KB [] s.heap h'->TvV r (accT or3 skip (some false) (opsT [(u,du),(v,dv)]))->Q r {s with heap:=h',toks:=tk})
   (hE:(∃ o∈[(u,du),(v,dv)],o.2.kind = "character")->∀ h' tk e,Thrown w.params outer s.heap h' e msgTyp->E (.ref e) {s with heap:=h',toks:=tk}) :
   wpAny (model PG w) A (call (.ref f) []) Q E s:=by
 k_extra "s"
 obtain ⟨name,qual,pm,c',ctv,ho,hcd⟩:=hf.ex
 refine enterE [] G (fun _ _ e=>e) (fun p hp=>nomatch hp) ho hcd (by have:=R.d;omega) (by rfl) ?_
 intro b L h₁ F N X T hst hkb hK hlt
 obtain ⟨oK,gK,dK⟩:=(hcK.keeps hst).ex
 obtain ⟨oU,gU,dU⟩:=(hcU.keeps hst).ex
 obtain ⟨oV,gV,dV⟩:=(hcV.keeps hst).ex
 (try dsimp only)
 k_steps
 rename_i l9 h9 F9 N9 _
 have hlv9:h9.get? l9=some (listOf (List.toArray ([(u,du),(v,dv)].map fun o=>Value.ref o.1)) 0):=(N9 _ (.head _)).1
 refine any_ct (ops:=[(u,du),(v,dv)]) (Gd.keeps ⟨X,T⟩ F9.keep) (by k_extra "my rm") (frames_up hfr) (outf_up F9 (hO.keeps hst) rfl (show ScopeKind.function≠ScopeKind.module from by decide)) (st2 (st2 hB hst) F9.keep) hlv9 (fun o ho=>?_) ?_ ?_
 . rcases mC ho with rfl | ho
   . exact ⟨hU,hku,hlu⟩
   . rw [mS ho];exact ⟨hV,hkv,hlv⟩
 . intro hall h' tk r kb tv
   exact hQ hall h' _ r (hK _ _ (Fr.kb0 F9 kb)) tv
 . intro hch h' tk e Th
   refine pass_out (D:=[]) hfr rfl (show ScopeKind.function≠ScopeKind.module from by decide) hO hst F9 (fun _ h=>nomatch h) Th ?_
   intro h9 T9
   exact hE hch _ _ _ T9
 k_extra "f"
end
end
section
inductive TripL:List Value->Prop
 | nil:TripL []
 | cons:∀ {x y:Int} {tx ty:Tok} {d:Value} {rest:List Value},TripL rest->TripL (.int x tx :: .int y ty::d::rest)
theorem TripL.ok {l:List Value} (h:TripL l):TriplesOk l:=by
 induction h with
 | nil=>exact True.intro
 | cons _ ih=>exact ih
theorem triplesSnoc {l:List Value} {a b:Int} {c:Value} (h:TripL l):TripL (l++[rawInt a,rawInt b,c]):=by
 induction h with
 | nil=>exact .cons .nil
 | cons _ ih=>exact .cons ih
theorem amongC {pos:Pos} {x y:Int} {tx ty:Tok} {d:Value} {rest:List Value}:codeAmong pos (.int x tx :: .int y ty::d::rest)=if x == pos.line && y == pos.col then some d else codeAmong pos rest:=rfl
theorem amongSnoc {pos:Pos} {c:Value} {a b:Int} {l:List Value} (ht:TripL l) {cv:Value} (h:codeAmong pos (l++[rawInt a,rawInt b,c])=some cv):codeAmong pos l=some cv∨cv=c:=by
 k_extra "s"
 induction ht with
 | nil =>
   have h:(if a == pos.line && b == pos.col then some c else codeAmong pos [])=some cv:=h
   by_cases q:(a == pos.line && b == pos.col)=true
   . rw [if_pos q] at h;exact .inr (Option.some.inj h).symm
   . rw [if_neg q] at h;exact .inl h
 | @cons x y tx ty d rest _ ih =>
   have h:(if x == pos.line && y == pos.col then some d else codeAmong pos (rest++[rawInt a,rawInt b,c]))=some cv:=h
   rw [amongC]
   by_cases q:(x == pos.line && y == pos.col)=true
   . rw [if_pos q] at h ⊢;exact .inl h
   . rw [if_neg q] at h ⊢;exact ih h
 k_extra "f"
abbrev LQ:Str:=Str.ofString "law" ++ Str.ofString ".<locals>." ++ Str.ofString "<lambda>"
structure TabOk (T:List (Addr×Obj)) (ps:Array Value):Prop where
 ok:TripL ps.toList
 at_:∀ pos cv,codeAmong pos ps.toList=some cv->∃ c' oc vs t,cv = .ref c'∧(c',oc)∈T∧oc.data = .fields vs∧vs[1]?=some (.str LQ t)
theorem TabOk.nil {T:List (Addr×Obj)}:TabOk T #[]:=⟨.nil,fun pos cv h=>by cases h⟩
theorem TabOk.mono {T T':List (Addr×Obj)} {ps:Array Value} (h:TabOk T ps) (k:∀ p∈T,p∈T'):TabOk T' ps:=⟨h.ok,fun pos cv e=>by
 obtain ⟨c',oc,vs,t,e1,e2,e3⟩:=h.at_ pos cv e
 exact ⟨c',oc,vs,t,e1,k _ e2,e3⟩⟩
section
variable {Q:Value->Shared->Prop} {b₀:Heap}
abbrev lawEnv (L:Addr) (cs:Scope) (cl:List (Str×Addr)):Env:=envX (Str.ofString "law") cs L 413 (.ref 412) cl
theorem lam_mk {b:Heap} {L P:Addr} {m:Str->Option Value} {cs:Scope} {cl clos:List (Str×Addr)} {news T:List (Addr×Obj)} {ds:List Addr} {g:List (Addr×Obj)->List (Addr×Obj)} {ps:Array Value} {body:Expr} {scope:Scope} {pos:Pos}
   (C:CodeHd b 412 P) (off:Off T (P::ds)) (tb:TabOk T ps) (F:Fr b L s.heap m) (N:News b L s.heap ((P,tabObj ps)::news)) (tl:TailF T news g) (hds:∀ d∈ds,∃ o,(d,o)∈news) (ap:AllNe P news) (T0:Top TP LO mean mg mb b)
   (hcl:closureFor scope (lawEnv L cs cl)=pure clos)
   (hQ:∀ f h' tk ps' T',Fr b L h' m->(∃ of,News b L h' ((f,of)::(P,tabObj ps')::g T'))->LamAt h' f body scope clos->FnAt f h'->(∀ p∈T,p∈T')->Off T' (P::ds)->TabOk T' ps'->Q (.ref f) {s with heap:=h',toks:=tk}) :
   wpAny (model PG w) A (eval (.Lambda LP body scope pos) (lawEnv L cs cl)) Q E s:=by
 k_extra "s"
 refine kla_eval rfl ?_
 have U:UpdF P (tabObj ps) ((P,tabObj ps)::news) (fun o'=>(P,o')::news) := .head (allNe_back ap)
 obtain ⟨e,rfl,hg⟩:=tl.split
 cases hc:codeAmong pos ps.toList with
 | none =>
   refine kla_nest F N T0 C rfl U tb.ok.ok hc hcl fun f c' oc vs t ctv h' tk F' N' d1 d2 l1 l2=>?_
   have nf:=N' (f,_) (.head _)
   have nc:=N' (c',oc) (.tail _ (.head _))
   refine hQ f h' tk (ps ++ #[rawInt pos.line,rawInt pos.col,.ref c']) ((c',oc)::T) F' ⟨kla_obj (Str.ofString "<lambda>") LQ LP body scope clos ((mg "__name__").getD .none) c' ctv,fun p hp=>?_⟩ ⟨_,_,_,c',ctv,nf.1,c',oc,vs,t,rfl,nc.1,d1,d2⟩ (FnAt.of N' (.head _)) (fun p hp => .tail _ hp) ?_ ⟨?_,?_⟩
   . rw [hg] at hp
     rcases mC hp with rfl | hp
     . exact nf
     rcases mC hp with rfl | hp
     . exact N' _ (mt2 (.head _))
     rcases List.mem_append.mp hp with hp | hp
     . exact N' p (mt3 (List.mem_append_left _ hp))
     rcases mC hp with rfl | hp
     . exact nc
     . exact N' p (mt3 (List.mem_append_right _ hp))
   . intro p hp q
     rcases mC hp with rfl | hp
     . rcases mC q with q | q
       . have:=l1 _ (.head _)
         rw [show c'=P from q] at this;exact Nat.lt_irrefl _ this
       . obtain ⟨o,ho⟩:=hds _ q
         have:=l1 _ (.tail _ ho)
         exact Nat.lt_irrefl _ this
     . exact off p hp q
   . have z:=triplesSnoc (a:=pos.line) (b:=pos.col) (c := .ref c') tb.ok
     simpa using z
   . intro pos' cv hcv
     have hcv':codeAmong pos' (ps.toList++[rawInt pos.line,rawInt pos.col,.ref c'])=some cv:=by simpa using hcv
     rcases amongSnoc tb.ok hcv' with h | rfl
     . obtain ⟨c2,oc2,vs2,t2,e1,e2,e3⟩:=tb.at_ pos' cv h
       exact ⟨c2,oc2,vs2,t2,e1,.tail _ e2,e3⟩
     . exact ⟨c',oc,vs,t,rfl,.head _,d1,d2⟩
 | some cv =>
   obtain ⟨c',oc,vs,t,rfl,hm,d1,d2⟩:=tb.at_ pos cv hc
   refine kla_hit F N T0 C rfl (.head _) tb.ok.ok hc hcl fun f ctv h' tk F' N' l1=>?_
   have nf:=N' (f,_) (.head _)
   have nc:=N' (c',oc) (mt2 (List.mem_append_right _ hm))
   refine hQ f h' tk ps T F' ⟨kla_obj (Str.ofString "<lambda>") LQ LP body scope clos ((mg "__name__").getD .none) c' ctv,fun p hp=>?_⟩ ⟨_,_,_,c',ctv,nf.1,c',oc,vs,t,rfl,nc.1,d1,d2⟩ (FnAt.of N' (.head _)) (fun p hp=>hp) off tb
   rw [hg] at hp
   exact N' p hp
 k_extra "f"
end
end
section
theorem G70.g70:True:=True.intro
open G70
theorem kw257:True:=by
 k_with "!callWith ref" => ((have:=g70;clear this);((with_reducible show wpAny _ _ (callWith _ _ _ (backTo _ (starEach [] _)) _) _ _ _);refine stop ?_))
 exact True.intro
section
open PySem.Spec
variable {Q:Value->Shared->Prop} {b₀:Heap}
theorem kw259:True:=by
 k_with "!getAttr ref" => ((have:=g70;clear this);(k_here;k_dflt (refine' msg65 ?A76 ?B76 ?C76 ?D76 ?E76 ?F76 ?G76 ?_;(case A76=>exact W.Frag.In.keeps (by assumption) (Fr.keep (by assumption)));(case B76=>exact News.get (by assumption) (by k_mem));(case C76=>assumption);(case D76=>assumption);(case E76=>assumption);(case F76=>exact News.get (by assumption) (by k_mem));(case G76=>rfl))))
 exact True.intro
theorem kept_ct2 {Pe:Prop} {ask L0:Addr} {o0:Obj} {D:List (Addr×Obj)} {lawenv:Env} {msg:Str} {Post:Value->Heap->Prop} (G:Gd w mean mg mb b₀) (hb:b₀.StaysIn s.heap) (hf:∀ p∈(L0,o0)::D,s.heap.get? p.1=some p.2∧b₀.get? p.1=none)
   (R:Rm A 12) (hfr:A.frames=some [lawenv]) (hl0:lawenv.frame=some L0) (hlk:lawenv.scope.kind ≠ .module) (hLD:L0∉D.map (·.1)) (ho0:∀ vs,o0.data ≠ .fields vs) (hq:FnAt ask s.heap)
   (hask:∀ (env':Env) (L:Addr) (s₁:Shared),env'.frame=some L->env'.scope.kind ≠ .module->(∀ a o,s.heap.get? a=some o->s₁.heap.get? a=some o)->s.heap.get? L=none->(∃ m,s₁.heap.Ns L m) ->
     wpAny (model PG w) (A.deeper env') (call (.ref ask) [])
       (fun v s₂=>∃ h' tk,s₂ = {s₁ with heap:=h',toks:=tk}∧KB (D.map (·.1)) s₁.heap h'∧Post v h')
       (fun x s₂=>∃ e h' tk,s₂ = {s₁ with heap:=h',toks:=tk}∧x = .ref e∧Thrown w.params [env',lawenv] (hideAll s₁.heap (D.map (·.1))) h' e msg∧Pe) s₁)
   (hret:∀ h' tk v,KB (D.map (·.1)) s.heap h'->Post v h'->Q v {s with heap:=h',toks:=tk})
   (hmsg:Pe->∀ h' tk t sl,KB (L0::D.map (·.1)) s.heap h'->h'.get? L0=some {o0 with slots:=sl}->Q (.str msg t) {s with heap:=h',toks:=tk}) :
   wpAny (model PG w) A (call (.ref 408) [.ref ask]) Q E s:=by
 k_extra "s"
 refine enter ((L0,o0)::D) G hb hf (by k_dflt k_is) (by k_dflt k_is) (by have:=R.d;omega) (binds:=[("ask",.ref ask)]) (BindsTo.of_eq rfl) (locs rfl) ?_
 intro b L h₁ F N X T hst hkb hK hlt
 have hall:=enter_all hf F N hkb
 have hLs:s.heap.get? L=none:=by
   cases q:s.heap.get? L with
   | none=>rfl
   | some o =>
     by_cases ha:L∈((L0,o0)::D).map (·.1)
     . obtain ⟨p,hp,e⟩:=List.mem_map.mp ha
       have:=hlt p hp
       rw [e] at this;exact absurd this (Nat.lt_irrefl _)
     . have:=hkb _ _ ha q
       exact absurd (Nat.lt_of_lt_of_le (Heap.lt_size this) F.above) (Nat.lt_irrefl _)
 (try dsimp only)
 k_steps
 refine callWith_F0 (by obtain ⟨a1,a2,a3,a4,a5⟩:=hq;exact ⟨a1,a2,a3,a4,hall _ _ a5⟩) ?_
 refine wpAny_mono (hask (envOf (Str.ofString "_law_kept") fs408 L 408 (Value.ref 407)) L _ rfl (show fs408.kind≠_ from by decide) hall hLs ⟨_,F.ns⟩) (fun v s₂ q=>?_) (fun x s₂ q=>?_)
 . obtain ⟨h',tk',rfl,kb,hp⟩:=q
   exact hret h' tk' v (fun a o n e=>kb a o n (hall _ _ e)) hp
 obtain ⟨e,h2,tk2,rfl,rfl,Th,hPe⟩:=q
 dsimp only at Th ⊢
 have hLn:L∉D.map (·.1):=fun q=>by
   obtain ⟨p,hp,e⟩:=List.mem_map.mp q
   have:=hlt p (.tail _ hp)
   rw [e] at this;exact absurd this (Nat.lt_irrefl _)
 obtain ⟨oL,hoL,hnL⟩:=LCg.ns_obj F.ns
 have hgL:(hideAll h₁ (D.map (·.1))).get? L=some oL:=hideAll_get _ hoL hLn
 have hg0:(hideAll h₁ (D.map (·.1))).get? L0=some o0:=hideAll_get _ (N _ (.head _)).1 hLD
 have hndL:∀ vs,oL.data ≠ .fields vs:=fun vs q=>by obtain ⟨es,ep,hd,_⟩:=hnL;rw [hd] at q;cases q
 have hO:OutF (hideAll h₁ (D.map (·.1))) [envOf (Str.ofString "_law_kept") fs408 L 408 (Value.ref 407),lawenv] :=
   ⟨show fs408.kind≠_ from by decide,⟨L,oL,rfl,by simp [Heap.get?],hgL,hndL⟩,hlk,⟨L0,o0,hl0,by simp [Heap.get?],hg0,ho0⟩,trivial⟩
 have hfr':(A.deeper (envOf (Str.ofString "_law_kept") fs408 L 408 (Value.ref 407))).frames=some [envOf (Str.ofString "_law_kept") fs408 L 408 (Value.ref 407),lawenv]:=by
   show A.frames.map _=_;rw [hfr];rfl
 have hbD:∀ a o,b.get? a=some o->(hideAll h₁ (D.map (·.1))).get? a=some o:=fun a o q=>hideAll_get _ (F.keep _ _ q) fun z=>by
   obtain ⟨p,hp,e⟩:=List.mem_map.mp z
   rw [← e,(N p (.tail _ hp)).2.2] at q;cases q
 have hbF:∀ a o,b.get? a=some o->a∉frs [envOf (Str.ofString "_law_kept") fs408 L 408 (Value.ref 407),lawenv]:=fun a o q z=>by
   have z':a∈[L,L0]:=by
     have e:frs [envOf (Str.ofString "_law_kept") fs408 L 408 (Value.ref 407),lawenv]=[L,L0]:=by simp only [frs,List.filterMap_cons,hl0,List.filterMap_nil];rfl
     rwa [e] at z
   rcases mC z' with rfl | z'
   . exact absurd (Nat.lt_of_lt_of_le (Heap.lt_size q) F.above) (Nat.lt_irrefl _)
   . rw [mS z',(N _ (.head _)).2.2] at q;cases q
 refine note_next hfr' rfl hO Th fun h3 T3=>land hO T3 fun h4 T4=>?_
 have after:∀ h4,Thrown w.params [envOf (Str.ofString "_law_kept") fs408 L 408 (Value.ref 407),lawenv] (hideAll h₁ (D.map (·.1))) h4 e msg ->
     Fr b L h4 (fun y=>List.lookup y [(Str.ofString "ask",Value.ref ask)].reverse)∧∃ sl oe vs dx t1 tk,News b L h4 [(L0,{o0 with slots:=sl}),(e,oe),(dx,dictOf (msgEnt w.params t1 (.str msg tk)) 1)]∧oe.cls = .ref 65∧oe.data = .fields vs∧oe.dict=some dx:=fun h4 T4=>by
   obtain ⟨slL,hslL⟩:=T4.slots L oL hgL hndL
   obtain ⟨sl0,hsl0⟩:=T4.slots L0 o0 hg0 ho0
   have F4:Fr b L h4 (fun y=>List.lookup y [(Str.ofString "ask",Value.ref ask)].reverse):=⟨by obtain ⟨es,ep,hd,r⟩:=hnL;exact ⟨_,es,ep,hslL,hd,r⟩,fun a o q=>T4.keep a o (hbD a o q) (hbF a o q),F.above⟩
   obtain ⟨dx,t1,tk,nd,⟨oe,b1,b2⟩,gd⟩:=T4.exc
   obtain ⟨oe',vs,T',oT,ts,r1,r2,r3,_⟩:=T4.traced
   rw [b1] at r1;cases r1
   have nb:∀ a,(hideAll h₁ (D.map (·.1))).get? a=none->b.get? a=none:=fun a z=>by
     cases q:b.get? a with
     | none=>rfl
     | some o=>rw [hbD a o q] at z;cases z
   have nL:∀ a,(hideAll h₁ (D.map (·.1))).get? a=none->a≠L:=fun a z q=>by rw [q,hgL] at z;cases z
   refine ⟨F4,sl0,oe,vs,dx,t1,tk,fun p hp=>?_,r2,r3,b2⟩
   rcases mC hp with rfl | hp
   . exact ⟨hsl0,(N _ (.head _)).2⟩
   rcases mC hp with rfl | hp
   . exact ⟨b1,nL _ T4.new,nb _ T4.new⟩
   . rw [mS hp];exact ⟨gd,nL _ nd,nb _ nd⟩
 obtain ⟨F4,sl,oe,vs,dx,t1,tk4,N4,c1,c2,c3⟩:=after h4 T4
 refine wpAny_handleBy_cons (codeAny_handlers_test ?_) (by intro q;cases q)
 k_steps
 obtain ⟨dd,k0,k1,k2,k3,k5,nm,q,bs,sn,sub,ab,col,hC⟩:=own65 (X.keeps F4.keep)
 refine wpAny_excMatches_sub_self hC (N4 _ (.tail _ (.head _))).1 c1 (by decide +kernel) (codeAny_handlers_suite_as ?_)
 refine land hO T4.at' fun h5 T5=>?_
 clear N4 F4 c1 c2 c3
 obtain ⟨F5,sl,oe,vs,dx,t1,tk4,N5,c1,c2,c3⟩:=after h5 T5
 clear F N
 refine stN F5 N5 (fun h₇ F₇ N₇=>?_) rfl rfl
 k_steps
 exact hmsg hPe _ _ _ _ (hK _ _ (by assumption)) (News.get (by assumption) (by k_mem))
 k_extra "f"
end
structure BT (b B:Heap) (T:List (Addr×Obj)):Prop where
 sub:∀ a o,B.get? a=some o->b.get? a=some o∨(a,o)∈T
 base:b.StaysIn B
theorem BT.stays {b B h:Heap} {L:Addr} {m:Str->Option Value} {T:List (Addr×Obj)} (x:BT b B T) (F:Fr b L h m) (N:News b L h T):B.StaysIn h:=fun a o e =>
 (x.sub a o e).elim (F.keep a o) fun q=>(N _ q).1
theorem BT.but {b B h:Heap} {L:Addr} {m:Str->Option Value} {T:List (Addr×Obj)} {D:List Addr} (x:BT b B T) (F:Fr b L h m) (N:News b L h T) (hb:∀ d∈D,b.get? d=none) (off:∀ p∈T,p.1∉D):∀ a o,B.get? a=some o->h.get? a=some o∧a∉D:=fun a o e =>
 (x.sub a o e).elim (fun q=>⟨F.keep a o q,fun z=>by rw [hb a z] at q;cases q⟩) fun q=>⟨(N _ q).1,off _ q⟩
theorem LamAt.but {h h':Heap} {f nt:Addr} {body:Expr} {scope:Scope} {cl:List (Str×Addr)} {its:Array Value} {c:Nat} (x:LamAt h f body scope cl) (hn:h.get? nt=some (listOf its c)) (k:∀ a o,h.get? a=some o->a∉[nt]->h'.get? a=some o):LamAt h' f body scope cl:=by
 k_extra "s"
 obtain ⟨n,q,pm,c',ctv,h1,cc,o,vs,t,e1,e2,e3,e4⟩:=x.ex
 refine ⟨n,q,pm,c',ctv,k _ _ h1 (fun z=>?_),cc,o,vs,t,e1,k _ _ e2 (fun z=>?_),e3,e4⟩
 . rw [mS z,hn] at h1
   have:=congrArg Obj.data (Option.some.inj h1);cases this
 . rw [mS z,hn] at e2
   have:=congrArg Obj.data (Option.some.inj e2);rw [e3] at this;cases this
 k_extra "f"
theorem CellAt.but {h h':Heap} {cc nt:Addr} {v:Value} {its:Array Value} {c:Nat} (x:CellAt h cc v) (hn:h.get? nt=some (listOf its c)) (k:∀ a o,h.get? a=some o->a∉[nt]->h'.get? a=some o):CellAt h' cc v:=by
 k_extra "s"
 obtain ⟨o,h1,h2⟩:=x.ex
 refine ⟨o,k _ _ h1 (fun z=>?_),h2⟩
 rw [mS z,hn] at h1
 have:=congrArg Obj.data (Option.some.inj h1);rw [h2] at this;cases this
 k_extra "f"
section
variable {Q:Value->Shared->Prop} {b₀:Heap}
theorem kept_in {Pe:Prop} {env:Env} {b:Heap} {L f:Addr} {m:Str->Option Value} {news D:List (Addr×Obj)} {msg:Str} {Post:Value->Heap->Prop} (F:Fr b L s.heap m) (N:News b L s.heap news) (X:(KF w.params).In b) (T:Top TP LO mean mg mb b) (R:Rm (A.deeper env) 12) (hfr:A.frames=some []) (hf:env.frame=some L) (hk:env.scope.kind ≠ .module)
   (hD:∀ p∈D,p∈news) (hq:FnAt f s.heap)
   (hask:∀ (env':Env) (s₁:Shared),(∀ a o,s.heap.get? a=some o->s₁.heap.get? a=some o)->OutF (hideAll s₁.heap (D.map (·.1))) [env',env] ->
     wpAny (model PG w) ((A.deeper env).deeper env') (call (.ref f) [])
       (fun v s₂=>∃ h' tk,s₂ = {s₁ with heap:=h',toks:=tk}∧KB (D.map (·.1)) s₁.heap h'∧Post v h')
       (fun x s₂=>∃ e h' tk,s₂ = {s₁ with heap:=h',toks:=tk}∧x = .ref e∧Thrown w.params [env',env] (hideAll s₁.heap (D.map (·.1))) h' e msg∧Pe) s₁)
   (hret:∀ h' tk v,Fr b L h' m->KB (D.map (·.1)) s.heap h'->Post v h'->Q v {s with heap:=h',toks:=tk})
   (hmsg:Pe->∀ h' tk t,Fr b L h' m->(∀ p∈news,p.1∉D.map (·.1)->h'.get? p.1=some p.2)->Q (.str msg t) {s with heap:=h',toks:=tk}) :
   wpAny (model PG w) (A.deeper env) (call (.ref 408) [.ref f]) Q E s:=by
 k_extra "s"
 obtain ⟨oL,hoL,hnL⟩:=LCg.ns_obj F.ns
 have hnd:∀ vs,oL.data ≠ .fields vs:=fun vs q=>by obtain ⟨es,ep,hd,_⟩:=hnL;rw [hd] at q;cases q
 have hLD:L∉D.map (·.1):=fun z=>by
   obtain ⟨p,hp,e⟩:=List.mem_map.mp z
   exact (N p (hD p hp)).2.1 e
 refine kept_ct2 (Pe:=Pe) (L0:=L) (o0:=oL) (D:=D) (lawenv:=env) (msg:=msg) (Post:=Post) ⟨X,T⟩ F.keep (fun p hp=>?_) R (frames_up hfr) hf hk hLD hnd hq ?_ ?_ ?_
 . rcases mC hp with rfl | hp
   . exact ⟨hoL,frame_new F⟩
   . exact ⟨(N p (hD p hp)).1,(N p (hD p hp)).2.2⟩
 . intro env' L' s₁ hf' hk' hsub hL' hns
   obtain ⟨m',hns'⟩:=hns
   obtain ⟨oL',hoL',hnL'⟩:=LCg.ns_obj hns'
   refine hask env' s₁ hsub ⟨hk',⟨L',oL',hf',by simp [Heap.get?],hideAll_get _ hoL' (fun z=>?_),fun vs q=>by obtain ⟨es,ep,hd,_⟩:=hnL';rw [hd] at q;cases q⟩,hk,⟨L,oL,hf,by simp [Heap.get?],hideAll_get _ (hsub _ _ hoL) hLD,hnd⟩,trivial⟩
   obtain ⟨p,hp,e⟩:=List.mem_map.mp z
   have:=(N p (hD p hp)).1
   rw [e,hL'] at this;cases this
 . intro h' tk v kb hp
   exact hret h' tk v (Fr.kb F N (fun d hd=>by
     obtain ⟨p,hp,e⟩:=List.mem_map.mp hd
     exact ⟨p.2,by rw [← e];exact hD p hp⟩) kb) kb hp
 . intro hPe h' tk t sl kb hL
   have kp:∀ p∈news,p.1∉D.map (·.1)->h'.get? p.1=some p.2:=fun p hp hn=>kb _ _ (fun z=>by
     rcases mC z with z | z
     . exact (N p hp).2.1 z
     . exact hn z) (N p hp).1
   refine hmsg hPe h' tk t ⟨by obtain ⟨es,ep,hd,r⟩:=hnL;exact ⟨_,es,ep,hL,hd,r⟩,fun a o q=>kb _ _ (fun z=>?_) (F.keep _ _ q),F.above⟩ kp
   rcases mC z with z | z
   . rw [z,frame_new F] at q;cases q
   . obtain ⟨p,hp,e⟩:=List.mem_map.mp z
     rw [← e,(N p (hD p hp)).2.2] at q;cases q
 k_extra "f"
theorem kept1_ok {env:Env} {b B:Heap} {L f cA cN cU cV fa u v nt:Addr} {m:Str->Option Value} {news TT:List (Addr×Obj)} {fn:Option Bool->Option Bool->Option Bool} {du dv:Vd} {eu ev o:Option (List Int)} {c:Nat} {p1 p2 p3 p4 p5:Pos}
   (hr:rdim du.items.length dv.items.length eu ev = .ok o) (F:Fr b L s.heap m) (N:News b L s.heap news) (X:(KF w.params).In b) (T:Top TP LO mean mg mb b) (R:Rm (A.deeper env) 20) (hfr:A.frames=some []) (hf:env.frame=some L) (hk:env.scope.kind ≠ .module) (hmn:(nt,listOf (List.toArray []) c)∈news)
   (hq:FnAt f s.heap) (hlam:LamAt s.heap f (.Call (.Name "asked" p1) [.Name "u" p2,.Name "v" p3,.Name "notes" p4] [] p5) LS1 [("v",cV),("u",cU),("notes",cN),("asked",cA)])
   (hcA:CellAt s.heap cA (.ref fa)) (hcN:CellAt s.heap cN (.ref nt)) (hcU:CellAt s.heap cU (.ref u)) (hcV:CellAt s.heap cV (.ref v)) (bt:BT b B TT) (NT:News b L s.heap TT) (offT:Off TT [nt])
   (hfn:AskedNum w mean mg mb fa fn) (hfa:FnAt fa b) (hU:VM w (hm B) u du) (hV:VM w (hm B) v dv) (hku:Numv du) (hkv:Numv dv) (hu:DimIs du eu) (hv:DimIs dv ev) (hlu:du.items.length≤1000) (hlv:dv.items.length≤1000) (hnu:attOf du.ats "dimnames" = none) (hnv:attOf dv.ats "dimnames" = none)
   (hQ:∀ h' tk r xs' c',Fr b L h' m->KB [nt] s.heap h'->h'.get? nt=some (listOf (List.toArray xs') c')->StrsAre xs' (notes9 du.items.length dv.items.length eu ev) ->
     Told w s.heap h' B r (pairT fn (du.items.map tru) (dv.items.map tru) (rc du.items.length dv.items.length).toNat) (shAts du dv eu ev (rc du.items.length dv.items.length).toNat o)->Q (.ref r) {s with heap:=h',toks:=tk}) :
   wpAny (model PG w) (A.deeper env) (call (.ref 408) [.ref f]) Q E s:=by
 k_extra "s"
 have hnn:=N _ hmn
 refine kept_in (Pe:=False) (D:=[(nt,listOf (List.toArray []) c)]) (msg := "") (Post:=fun v h'=>∃ r xs' c',v = .ref r∧h'.get? nt=some (listOf (List.toArray xs') c')∧StrsAre xs' (notes9 du.items.length dv.items.length eu ev) ∧
     Told w s.heap h' B r (pairT fn (du.items.map tru) (dv.items.map tru) (rc du.items.length dv.items.length).toNat) (shAts du dv eu ev (rc du.items.length dv.items.length).toNat o)) F N X T (R.le (by decide)) hfr hf hk (fun p hp=>by rw [mS hp];exact hmn) hq ?_ ?_ ?_
 . intro env' s₁ hsub hO
   have up:∀ a o,s.heap.get? a=some o->a∉[nt]->(hideAll s₁.heap [nt]).get? a=some o:=fun a o e n=>hideAll_get _ (hsub a o e) n
   have bst:b.StaysIn (hideAll s₁.heap [nt]):=fun a o q=>up a o (F.keep _ _ q) fun z=>by rw [mS z,hnn.2.2] at q;cases q
   have Bst:B.StaysIn (hideAll s₁.heap [nt]):=fun a o q=>(bt.but F NT (fun d hd=>by rw [mS hd];exact hnn.2.2) offT a o q).elim (up a o)
   refine lam1_num (b₀:=hideAll s₁.heap [nt]) (xs:=[]) (ts:=[]) hfn (fnSt hfa bst) (Gd.keeps ⟨X,T⟩ bst) (fun a o q=>of_hideAll _ q) (Rm.deeper (R.le (by decide))) (frames_up (frames_up hfr)) hO Bst (X.keeps bt.base) (hlam.but hnn.1 up) (hcA.but hnn.1 up) (hcN.but hnn.1 up) (hcU.but hnn.1 up) (hcV.but hnn.1 up) hU hV hku hkv hu hv hlu hlv hnu hnv (hsub _ _ hnn.1) (hideAll_none _ (.head _)) .nil (by decide) ?_ ?_
   . intro h' tk r xs' c' o' hr' kb gn hs' tl
     rw [hr] at hr';cases hr'
     obtain ⟨dx,ia,tk9,ti,ta,ts9,tl9,kt,av,vs,c2,nw,fr,r2⟩:=tl.ex
     exact ⟨h',tk,rfl,kb,r,xs',c',rfl,gn,hs',dx,ia,tk9,ti,ta,ts9,tl9,kt,av,vs,c2,nw,fresh_down (fun a o e=>⟨o,hsub a o e⟩) fr,r2⟩
   . intro h' tk e msg hr'
     rw [hr] at hr';cases hr'
 . rintro h' tk v F' kb ⟨r,xs',c',rfl,gn,hs',tl⟩
   exact hQ h' tk r xs' c' F' kb gn hs' tl
 . exact fun z=>z.elim
 k_extra "f"
theorem kept1_err {env:Env} {b B:Heap} {L f cA cN cU cV fa u v nt:Addr} {m:Str->Option Value} {news TT:List (Addr×Obj)} {fn:Option Bool->Option Bool->Option Bool} {du dv:Vd} {eu ev:Option (List Int)} {c:Nat} {msg:Str} {p1 p2 p3 p4 p5:Pos}
   (hr:rdim du.items.length dv.items.length eu ev = .error msg) (F:Fr b L s.heap m) (N:News b L s.heap news) (X:(KF w.params).In b) (T:Top TP LO mean mg mb b) (R:Rm (A.deeper env) 20) (hfr:A.frames=some []) (hf:env.frame=some L) (hk:env.scope.kind ≠ .module) (hmn:(nt,listOf (List.toArray []) c)∈news)
   (hq:FnAt f s.heap) (hlam:LamAt s.heap f (.Call (.Name "asked" p1) [.Name "u" p2,.Name "v" p3,.Name "notes" p4] [] p5) LS1 [("v",cV),("u",cU),("notes",cN),("asked",cA)])
   (hcA:CellAt s.heap cA (.ref fa)) (hcN:CellAt s.heap cN (.ref nt)) (hcU:CellAt s.heap cU (.ref u)) (hcV:CellAt s.heap cV (.ref v)) (bt:BT b B TT) (NT:News b L s.heap TT) (offT:Off TT [nt])
   (hfn:AskedNum w mean mg mb fa fn) (hfa:FnAt fa b) (hU:VM w (hm B) u du) (hV:VM w (hm B) v dv) (hku:Numv du) (hkv:Numv dv) (hu:DimIs du eu) (hv:DimIs dv ev) (hlu:du.items.length≤1000) (hlv:dv.items.length≤1000) (hnu:attOf du.ats "dimnames" = none) (hnv:attOf dv.ats "dimnames" = none)
   (hQ:∀ h' tk t,Fr b L h' m->(∀ p∈news,p.1∉[nt]->h'.get? p.1=some p.2)->Q (.str msg t) {s with heap:=h',toks:=tk}) :
   wpAny (model PG w) (A.deeper env) (call (.ref 408) [.ref f]) Q E s:=by
 k_extra "s"
 have hnn:=N _ hmn
 refine kept_in (Pe:=True) (D:=[(nt,listOf (List.toArray []) c)]) (msg:=msg) (Post:=fun _ _=>False) F N X T (R.le (by decide)) hfr hf hk (fun p hp=>by rw [mS hp];exact hmn) hq ?_ ?_ ?_
 . intro env' s₁ hsub hO
   have up:∀ a o,s.heap.get? a=some o->a∉[nt]->(hideAll s₁.heap [nt]).get? a=some o:=fun a o e n=>hideAll_get _ (hsub a o e) n
   have bst:b.StaysIn (hideAll s₁.heap [nt]):=fun a o q=>up a o (F.keep _ _ q) fun z=>by rw [mS z,hnn.2.2] at q;cases q
   have Bst:B.StaysIn (hideAll s₁.heap [nt]):=fun a o q=>(bt.but F NT (fun d hd=>by rw [mS hd];exact hnn.2.2) offT a o q).elim (up a o)
   refine lam1_num (b₀:=hideAll s₁.heap [nt]) (xs:=[]) (ts:=[]) hfn (fnSt hfa bst) (Gd.keeps ⟨X,T⟩ bst) (fun a o q=>of_hideAll _ q) (Rm.deeper (R.le (by decide))) (frames_up (frames_up hfr)) hO Bst (X.keeps bt.base) (hlam.but hnn.1 up) (hcA.but hnn.1 up) (hcN.but hnn.1 up) (hcU.but hnn.1 up) (hcV.but hnn.1 up) hU hV hku hkv hu hv hlu hlv hnu hnv (hsub _ _ hnn.1) (hideAll_none _ (.head _)) .nil (by decide) ?_ ?_
   . intro h' tk r xs' c' o' hr' kb gn hs' tl
     rw [hr] at hr';cases hr'
   . intro h' tk e msg' hr' Th
     rw [hr] at hr';cases hr'
     exact ⟨e,h',tk,rfl,rfl,Th,True.intro⟩
 . rintro h' tk v F' kb ⟨⟩
 . exact fun _ h' tk t F' kp=>hQ h' tk t F' kp
 k_extra "f"
theorem kept1_chr {env:Env} {b B:Heap} {L f cA cN cU cV fa u v nt:Addr} {m:Str->Option Value} {news TT:List (Addr×Obj)} {du dv:Vd} {c:Nat} {p1 p2 p3 p4 p5:Pos}
   (F:Fr b L s.heap m) (N:News b L s.heap news) (X:(KF w.params).In b) (T:Top TP LO mean mg mb b) (R:Rm (A.deeper env) 20) (hfr:A.frames=some []) (hf:env.frame=some L) (hk:env.scope.kind ≠ .module) (hmn:(nt,listOf (List.toArray []) c)∈news)
   (hq:FnAt f s.heap) (hlam:LamAt s.heap f (.Call (.Name "asked" p1) [.Name "u" p2,.Name "v" p3,.Name "notes" p4] [] p5) LS1 [("v",cV),("u",cU),("notes",cN),("asked",cA)])
   (hcA:CellAt s.heap cA (.ref fa)) (hcN:CellAt s.heap cN (.ref nt)) (hcU:CellAt s.heap cU (.ref u)) (hcV:CellAt s.heap cV (.ref v)) (bt:BT b B TT) (NT:News b L s.heap TT) (offT:Off TT [nt])
   (hfn:AskedChr w mean mg mb fa) (hfa:FnAt fa b) (hU:VM w (hm B) u du) (hV:VM w (hm B) v dv) (hku:du.kind = "character" ∨ (Numv du∧dv.kind = "character")) (hlu:du.items.length≤1000)
   (hQ:∀ h' tk t,Fr b L h' m->(∀ p∈news,p.1∉[nt]->h'.get? p.1=some p.2)->Q (.str msgOp t) {s with heap:=h',toks:=tk}) :
   wpAny (model PG w) (A.deeper env) (call (.ref 408) [.ref f]) Q E s:=by
 k_extra "s"
 have hnn:=N _ hmn
 refine kept_in (Pe:=True) (D:=[(nt,listOf (List.toArray []) c)]) (msg:=msgOp) (Post:=fun _ _=>False) F N X T (R.le (by decide)) hfr hf hk (fun p hp=>by rw [mS hp];exact hmn) hq ?_ ?_ ?_
 . intro env' s₁ hsub hO
   have up:∀ a o,s.heap.get? a=some o->a∉[nt]->(hideAll s₁.heap [nt]).get? a=some o:=fun a o e n=>hideAll_get _ (hsub a o e) n
   have bst:b.StaysIn (hideAll s₁.heap [nt]):=fun a o q=>up a o (F.keep _ _ q) fun z=>by rw [mS z,hnn.2.2] at q;cases q
   have Bst:B.StaysIn (hideAll s₁.heap [nt]):=fun a o q=>(bt.but F NT (fun d hd=>by rw [mS hd];exact hnn.2.2) offT a o q).elim (up a o)
   refine lam1_chr (b₀:=hideAll s₁.heap [nt]) (xs:=[]) hfn (fnSt hfa bst) (Gd.keeps ⟨X,T⟩ bst) (fun a o q=>of_hideAll _ q) (Rm.deeper (R.le (by decide))) (frames_up (frames_up hfr)) hO Bst (X.keeps bt.base) (hlam.but hnn.1 up) (hcA.but hnn.1 up) (hcN.but hnn.1 up) (hcU.but hnn.1 up) (hcV.but hnn.1 up) hU hV hku hlu (hsub _ _ hnn.1) (hideAll_none _ (.head _)) ?_
   intro h' tk e Th
   exact ⟨e,h',tk,rfl,rfl,Th,True.intro⟩
 . rintro h' tk v F' kb ⟨⟩
 . exact fun _ h' tk t F' kp=>hQ h' tk t F' kp
 k_extra "f"
end
end
section
theorem Numv.notChr {v:Vd} (h:Numv v):v.kind ≠ "character" := by
 k_extra "s"
 cases h with
 | null=>exact (show ¬(Str.ofString "NULL" = Str.ofString "character") from by decide)
 | num k _=>cases k<;>first | exact (show ¬(Str.ofString "logical" = Str.ofString "character") from by decide) | exact (show ¬(Str.ofString "integer" = Str.ofString "character") from by decide) | exact (show ¬(Str.ofString "double" = Str.ofString "character") from by decide)
 k_extra "f"
section
variable {Q:Value->Shared->Prop} {b₀:Heap}
theorem kept2_num {env:Env} {b B:Heap} {L f cS v:Addr} {m:Str->Option Value} {news TT:List (Addr×Obj)} {dv:Vd} {p1 p2 p3:Pos} {e:Option (List Int)}
   (F:Fr b L s.heap m) (N:News b L s.heap news) (X:(KF w.params).In b) (T:Top TP LO mean mg mb b) (R:Rm (A.deeper env) 20) (hfr:A.frames=some []) (hf:env.frame=some L) (hk:env.scope.kind ≠ .module)
   (hq:FnAt f s.heap) (hlam:LamAt s.heap f (.Call (.Name "logic_not" p1) [.Name "side" p2] [] p3) LS2 [("side",cS)]) (hcS:CellAt s.heap cS (.ref v)) (bt:BT b B TT) (NT:News b L s.heap TT) (hV:VM w (hm B) v dv)
   (hkv:Numv dv) (hd:DimIs dv e) (hl:dv.items.length≤1000) (hla:dv.ats.length≤10) (hn:attOf dv.ats "dimnames" = none)
   (hQ:∀ h' tk r,Fr b L h' m->KB [] s.heap h'->Told w s.heap h' B r (dv.items.map fun d=>not3 (tru d)) (notAts dv e)->Q (.ref r) {s with heap:=h',toks:=tk}) :
   wpAny (model PG w) (A.deeper env) (call (.ref 408) [.ref f]) Q E s:=by
 k_extra "s"
 refine kept_in (Pe:=False) (D:=[]) (msg := "") (Post:=fun v h'=>∃ r,v = .ref r∧Told w s.heap h' B r (dv.items.map fun d=>not3 (tru d)) (notAts dv e)) F N X T (R.le (by decide)) hfr hf hk (fun p hp=>nomatch hp) hq ?_ ?_ ?_
 . intro env' s₁ hsub hO
   have bst:b.StaysIn s₁.heap:=fun a o q=>hsub a o (F.keep _ _ q)
   have Bst:B.StaysIn s₁.heap:=fun a o q=>hsub a o (bt.stays F NT a o q)
   refine lam2_num (Gd.keeps ⟨X,T⟩ bst) (Rm.deeper (R.le (by decide))) (frames_up (frames_up hfr)) hO Bst (hlam.keeps hsub) (hcS.keeps hsub) hV hkv hd hl hla hn ?_
   . intro h' tk r kb tl
     obtain ⟨dx,ia,tk9,ti,ta,ts9,tl9,kt,av,vs,c2,nw,fr,r2⟩:=tl.ex
     exact ⟨h',tk,rfl,kb,r,rfl,dx,ia,tk9,ti,ta,ts9,tl9,kt,av,vs,c2,nw,fresh_down (fun a o e=>⟨o,hsub a o e⟩) fr,r2⟩
 . rintro h' tk v F' kb ⟨r,rfl,tl⟩
   exact hQ h' tk r F' kb tl
 . exact fun z=>z.elim
 k_extra "f"
theorem kept2_chr0 {env:Env} {b B:Heap} {L f cS v:Addr} {m:Str->Option Value} {news TT:List (Addr×Obj)} {dv:Vd} {p1 p2 p3:Pos}
   (F:Fr b L s.heap m) (N:News b L s.heap news) (X:(KF w.params).In b) (T:Top TP LO mean mg mb b) (R:Rm (A.deeper env) 20) (hfr:A.frames=some []) (hf:env.frame=some L) (hk:env.scope.kind ≠ .module)
   (hq:FnAt f s.heap) (hlam:LamAt s.heap f (.Call (.Name "logic_not" p1) [.Name "side" p2] [] p3) LS2 [("side",cS)]) (hcS:CellAt s.heap cS (.ref v)) (bt:BT b B TT) (NT:News b L s.heap TT) (hV:VM w (hm B) v dv)
   (hkv:dv.kind = "character") (hi:dv.items=[])
   (hQ:∀ h' tk r,Fr b L h' m->KB [] s.heap h'->Told w s.heap h' B r [] []->Q (.ref r) {s with heap:=h',toks:=tk}) :
   wpAny (model PG w) (A.deeper env) (call (.ref 408) [.ref f]) Q E s:=by
 k_extra "s"
 refine kept_in (Pe:=False) (D:=[]) (msg := "") (Post:=fun v h'=>∃ r,v = .ref r∧Told w s.heap h' B r [] []) F N X T (R.le (by decide)) hfr hf hk (fun p hp=>nomatch hp) hq ?_ ?_ ?_
 . intro env' s₁ hsub hO
   have bst:b.StaysIn s₁.heap:=fun a o q=>hsub a o (F.keep _ _ q)
   have Bst:B.StaysIn s₁.heap:=fun a o q=>hsub a o (bt.stays F NT a o q)
   refine lam2_chr0 (Gd.keeps ⟨X,T⟩ bst) (Rm.deeper (R.le (by decide))) Bst (hlam.keeps hsub) (hcS.keeps hsub) hV hkv hi ?_
   . intro h' tk r kb tl
     obtain ⟨dx,ia,tk9,ti,ta,ts9,tl9,kt,av,vs,c2,nw,fr,r2⟩:=tl.ex
     exact ⟨h',tk,rfl,kb,r,rfl,dx,ia,tk9,ti,ta,ts9,tl9,kt,av,vs,c2,nw,fresh_down (fun a o e=>⟨o,hsub a o e⟩) fr,r2⟩
 . rintro h' tk v F' kb ⟨r,rfl,tl⟩
   exact hQ h' tk r F' kb tl
 . exact fun z=>z.elim
 k_extra "f"
theorem kept2_chr1 {env:Env} {b B:Heap} {L f cS v:Addr} {m:Str->Option Value} {news TT:List (Addr×Obj)} {dv:Vd} {p1 p2 p3:Pos}
   (F:Fr b L s.heap m) (N:News b L s.heap news) (X:(KF w.params).In b) (T:Top TP LO mean mg mb b) (R:Rm (A.deeper env) 20) (hfr:A.frames=some []) (hf:env.frame=some L) (hk:env.scope.kind ≠ .module)
   (hq:FnAt f s.heap) (hlam:LamAt s.heap f (.Call (.Name "logic_not" p1) [.Name "side" p2] [] p3) LS2 [("side",cS)]) (hcS:CellAt s.heap cS (.ref v)) (bt:BT b B TT) (NT:News b L s.heap TT) (hV:VM w (hm B) v dv)
   (hkv:dv.kind = "character") (hi:dv.items≠[]) (hl:dv.items.length≤1000)
   (hQ:∀ h' tk t,Fr b L h' m->(∀ p∈news,h'.get? p.1=some p.2)->Q (.str msgNot t) {s with heap:=h',toks:=tk}) :
   wpAny (model PG w) (A.deeper env) (call (.ref 408) [.ref f]) Q E s:=by
 k_extra "s"
 refine kept_in (Pe:=True) (D:=[]) (msg:=msgNot) (Post:=fun _ _=>False) F N X T (R.le (by decide)) hfr hf hk (fun p hp=>nomatch hp) hq ?_ ?_ ?_
 . intro env' s₁ hsub hO
   have bst:b.StaysIn s₁.heap:=fun a o q=>hsub a o (F.keep _ _ q)
   have Bst:B.StaysIn s₁.heap:=fun a o q=>hsub a o (bt.stays F NT a o q)
   refine lam2_chr1 (Gd.keeps ⟨X,T⟩ bst) (Rm.deeper (R.le (by decide))) (frames_up (frames_up hfr)) hO Bst (hlam.keeps hsub) (hcS.keeps hsub) hV hkv hi hl ?_
   intro h' tk e Th
   exact ⟨e,h',tk,rfl,rfl,Th,True.intro⟩
 . rintro h' tk v F' kb ⟨⟩
 . exact fun _ h' tk t F' kp=>hQ h' tk t F' fun p hp=>kp p hp (fun z=>nomatch z)
 k_extra "f"
theorem kept3_num {env:Env} {b B:Heap} {L f cN cK cU cV u v nt:Addr} {m:Str->Option Value} {news TT:List (Addr×Obj)} {du dv:Vd} {skip:Bool} {c:Nat} {p1 p2 p3 p4 p5 p6 p7:Pos}
   (F:Fr b L s.heap m) (N:News b L s.heap news) (X:(KF w.params).In b) (T:Top TP LO mean mg mb b) (R:Rm (A.deeper env) 20) (hfr:A.frames=some []) (hf:env.frame=some L) (hk:env.scope.kind ≠ .module)
   (hmn:(nt,listOf (List.toArray []) c)∈news) (hq:FnAt f s.heap) (hlam:LamAt s.heap f (.Call (.Name "all_of" p1) [.List [.Name "u" p2,.Name "v" p3] p4,.Name "skip" p5,.Name "notes" p6] [] p7) LS3 [("v",cV),("u",cU),("skip",cK),("notes",cN)])
   (hcN:CellAt s.heap cN (.ref nt)) (hcK:CellAt s.heap cK (.bool skip)) (hcU:CellAt s.heap cU (.ref u)) (hcV:CellAt s.heap cV (.ref v)) (bt:BT b B TT) (NT:News b L s.heap TT) (offT:Off TT [nt]) (hU:VM w (hm B) u du) (hV:VM w (hm B) v dv) (hlu:du.items.length≤1000) (hlv:dv.items.length≤1000)
   (hku:Numv du) (hkv:Numv dv)
   (hQ:∀ h' tk r xs' c',Fr b L h' m->KB [nt] s.heap h'->h'.get? nt=some (listOf (List.toArray xs') c')->StrsAre xs' (opsN [(u,du),(v,dv)])->TvV r (accT and3 skip (some true) (opsT [(u,du),(v,dv)]))->Q r {s with heap:=h',toks:=tk}) :
   wpAny (model PG w) (A.deeper env) (call (.ref 408) [.ref f]) Q E s:=by
 k_extra "s"
 have hnn:=N _ hmn
 refine kept_in (Pe:=False) (D:=[(nt,listOf (List.toArray []) c)]) (msg := "") (Post:=fun v9 h'=>∃ xs' c',h'.get? nt=some (listOf (List.toArray xs') c')∧StrsAre xs' (opsN [(u,du),(v,dv)])∧TvV v9 (accT and3 skip (some true) (opsT [(u,du),(v,dv)]))) F N X T (R.le (by decide)) hfr hf hk (fun p hp=>by rw [mS hp];exact hmn) hq ?_ ?_ ?_
 . intro env' s₁ hsub hO
   have up:∀ a o,s.heap.get? a=some o->a∉[nt]->(hideAll s₁.heap [nt]).get? a=some o:=fun a o e n=>hideAll_get _ (hsub a o e) n
   have bst:b.StaysIn (hideAll s₁.heap [nt]):=fun a o q=>up a o (F.keep _ _ q) fun z=>by rw [mS z,hnn.2.2] at q;cases q
   have Bst:B.StaysIn (hideAll s₁.heap [nt]):=fun a o q=>(bt.but F NT (fun d hd=>by rw [mS hd];exact hnn.2.2) offT a o q).elim (up a o)
   refine lam3_ct (b₀:=hideAll s₁.heap [nt]) (xs:=[]) (ts:=[]) (Gd.keeps ⟨X,T⟩ bst) (fun a o q=>of_hideAll _ q) (Rm.deeper (R.le (by decide))) (frames_up (frames_up hfr)) hO Bst (hlam.but hnn.1 up) (hcN.but hnn.1 up) (hcK.but hnn.1 up) (hcU.but hnn.1 up) (hcV.but hnn.1 up) hU hV (.inl hku) (.inl hkv) hlu hlv (hsub _ _ hnn.1) (hideAll_none _ (.head _)) .nil (by decide) ?_ ?_
   . intro _ h' tk r xs' c' kb gn hs' tv
     exact ⟨h',tk,rfl,kb,xs',c',gn,hs',tv⟩
   . rintro ⟨o,ho,hc⟩
     rcases mC ho with rfl | ho
     . exact absurd hc hku.notChr
     . rw [mS ho] at hc;exact absurd hc hkv.notChr
 . rintro h' tk v9 F' kb ⟨xs',c',gn,hs',tv⟩
   exact hQ h' tk v9 xs' c' F' kb gn hs' tv
 . exact fun z=>z.elim
 k_extra "f"
theorem kept3_chr {env:Env} {b B:Heap} {L f cN cK cU cV u v nt:Addr} {m:Str->Option Value} {news TT:List (Addr×Obj)} {du dv:Vd} {skip:Bool} {c:Nat} {p1 p2 p3 p4 p5 p6 p7:Pos}
   (F:Fr b L s.heap m) (N:News b L s.heap news) (X:(KF w.params).In b) (T:Top TP LO mean mg mb b) (R:Rm (A.deeper env) 20) (hfr:A.frames=some []) (hf:env.frame=some L) (hk:env.scope.kind ≠ .module)
   (hmn:(nt,listOf (List.toArray []) c)∈news) (hq:FnAt f s.heap) (hlam:LamAt s.heap f (.Call (.Name "all_of" p1) [.List [.Name "u" p2,.Name "v" p3] p4,.Name "skip" p5,.Name "notes" p6] [] p7) LS3 [("v",cV),("u",cU),("skip",cK),("notes",cN)])
   (hcN:CellAt s.heap cN (.ref nt)) (hcK:CellAt s.heap cK (.bool skip)) (hcU:CellAt s.heap cU (.ref u)) (hcV:CellAt s.heap cV (.ref v)) (bt:BT b B TT) (NT:News b L s.heap TT) (offT:Off TT [nt]) (hU:VM w (hm B) u du) (hV:VM w (hm B) v dv) (hlu:du.items.length≤1000) (hlv:dv.items.length≤1000)
   (hku:Numv du∨du.kind = "character") (hkv:Numv dv∨dv.kind = "character") (hch:du.kind = "character" ∨ dv.kind = "character")
   (hQ:∀ h' tk t,Fr b L h' m->(∀ p∈news,p.1∉[nt]->h'.get? p.1=some p.2)->Q (.str msgTyp t) {s with heap:=h',toks:=tk}) :
   wpAny (model PG w) (A.deeper env) (call (.ref 408) [.ref f]) Q E s:=by
 k_extra "s"
 have hnn:=N _ hmn
 refine kept_in (Pe:=True) (D:=[(nt,listOf (List.toArray []) c)]) (msg:=msgTyp) (Post:=fun _ _=>False) F N X T (R.le (by decide)) hfr hf hk (fun p hp=>by rw [mS hp];exact hmn) hq ?_ ?_ ?_
 . intro env' s₁ hsub hO
   have up:∀ a o,s.heap.get? a=some o->a∉[nt]->(hideAll s₁.heap [nt]).get? a=some o:=fun a o e n=>hideAll_get _ (hsub a o e) n
   have bst:b.StaysIn (hideAll s₁.heap [nt]):=fun a o q=>up a o (F.keep _ _ q) fun z=>by rw [mS z,hnn.2.2] at q;cases q
   have Bst:B.StaysIn (hideAll s₁.heap [nt]):=fun a o q=>(bt.but F NT (fun d hd=>by rw [mS hd];exact hnn.2.2) offT a o q).elim (up a o)
   refine lam3_ct (b₀:=hideAll s₁.heap [nt]) (xs:=[]) (ts:=[]) (Gd.keeps ⟨X,T⟩ bst) (fun a o q=>of_hideAll _ q) (Rm.deeper (R.le (by decide))) (frames_up (frames_up hfr)) hO Bst (hlam.but hnn.1 up) (hcN.but hnn.1 up) (hcK.but hnn.1 up) (hcU.but hnn.1 up) (hcV.but hnn.1 up) hU hV hku hkv hlu hlv (hsub _ _ hnn.1) (hideAll_none _ (.head _)) .nil (by decide) ?_ ?_
   . intro hall
     have h1:=hall (u,du) (.head _)
     have h2:=hall (v,dv) (.tail _ (.head _))
     exact absurd hch (fun z=>z.elim (fun z=>Numv.notChr h1 z) fun z=>Numv.notChr h2 z)
   . intro _ h' tk e Th
     exact ⟨e,h',tk,rfl,rfl,Th,True.intro⟩
 . rintro h' tk v F' kb ⟨⟩
 . exact fun _ h' tk t F' kp=>hQ h' tk t F' kp
 k_extra "f"
theorem kept4_num {env:Env} {b B:Heap} {L f cK cU cV u v:Addr} {m:Str->Option Value} {news TT:List (Addr×Obj)} {du dv:Vd} {skip:Bool} {p1 p2 p3 p4 p5 p7:Pos}
   (F:Fr b L s.heap m) (N:News b L s.heap news) (X:(KF w.params).In b) (T:Top TP LO mean mg mb b) (R:Rm (A.deeper env) 20) (hfr:A.frames=some []) (hf:env.frame=some L) (hk:env.scope.kind ≠ .module)
   (hq:FnAt f s.heap) (hlam:LamAt s.heap f (.Call (.Name "any_of" p1) [.List [.Name "u" p2,.Name "v" p3] p4,.Name "skip" p5] [] p7) LS4 [("v",cV),("u",cU),("skip",cK)])
   (hcK:CellAt s.heap cK (.bool skip)) (hcU:CellAt s.heap cU (.ref u)) (hcV:CellAt s.heap cV (.ref v)) (bt:BT b B TT) (NT:News b L s.heap TT) (hU:VM w (hm B) u du) (hV:VM w (hm B) v dv) (hlu:du.items.length≤1000) (hlv:dv.items.length≤1000)
   (hku:Numv du) (hkv:Numv dv)
   (hQ:∀ h' tk r,Fr b L h' m->KB [] s.heap h'->TvV r (accT or3 skip (some false) (opsT [(u,du),(v,dv)]))->Q r {s with heap:=h',toks:=tk}) :
   wpAny (model PG w) (A.deeper env) (call (.ref 408) [.ref f]) Q E s:=by
 k_extra "s"
 refine kept_in (Pe:=False) (D:=[]) (msg := "") (Post:=fun v9 h'=>TvV v9 (accT or3 skip (some false) (opsT [(u,du),(v,dv)]))) F N X T (R.le (by decide)) hfr hf hk (fun p hp=>nomatch hp) hq ?_ ?_ ?_
 . intro env' s₁ hsub hO
   have bst:b.StaysIn s₁.heap:=fun a o q=>hsub a o (F.keep _ _ q)
   have Bst:B.StaysIn s₁.heap:=fun a o q=>hsub a o (bt.stays F NT a o q)
   refine lam4_ct (Gd.keeps ⟨X,T⟩ bst) (Rm.deeper (R.le (by decide))) (frames_up (frames_up hfr)) hO Bst (hlam.keeps hsub) (hcK.keeps hsub) (hcU.keeps hsub) (hcV.keeps hsub) hU hV (.inl hku) (.inl hkv) hlu hlv ?_ ?_
   . intro _ h' tk r kb tv
     exact ⟨h',tk,rfl,kb,tv⟩
   . rintro ⟨o,ho,hc⟩
     rcases mC ho with rfl | ho
     . exact absurd hc hku.notChr
     . rw [mS ho] at hc;exact absurd hc hkv.notChr
 . intro h' tk v9 F' kb tv
   exact hQ h' tk v9 F' kb tv
 . exact fun z=>z.elim
 k_extra "f"
theorem kept4_chr {env:Env} {b B:Heap} {L f cK cU cV u v:Addr} {m:Str->Option Value} {news TT:List (Addr×Obj)} {du dv:Vd} {skip:Bool} {p1 p2 p3 p4 p5 p7:Pos}
   (F:Fr b L s.heap m) (N:News b L s.heap news) (X:(KF w.params).In b) (T:Top TP LO mean mg mb b) (R:Rm (A.deeper env) 20) (hfr:A.frames=some []) (hf:env.frame=some L) (hk:env.scope.kind ≠ .module)
   (hq:FnAt f s.heap) (hlam:LamAt s.heap f (.Call (.Name "any_of" p1) [.List [.Name "u" p2,.Name "v" p3] p4,.Name "skip" p5] [] p7) LS4 [("v",cV),("u",cU),("skip",cK)])
   (hcK:CellAt s.heap cK (.bool skip)) (hcU:CellAt s.heap cU (.ref u)) (hcV:CellAt s.heap cV (.ref v)) (bt:BT b B TT) (NT:News b L s.heap TT) (hU:VM w (hm B) u du) (hV:VM w (hm B) v dv) (hlu:du.items.length≤1000) (hlv:dv.items.length≤1000)
   (hku:Numv du∨du.kind = "character") (hkv:Numv dv∨dv.kind = "character") (hch:du.kind = "character" ∨ dv.kind = "character")
   (hQ:∀ h' tk t,Fr b L h' m->(∀ p∈news,h'.get? p.1=some p.2)->Q (.str msgTyp t) {s with heap:=h',toks:=tk}) :
   wpAny (model PG w) (A.deeper env) (call (.ref 408) [.ref f]) Q E s:=by
 k_extra "s"
 refine kept_in (Pe:=True) (D:=[]) (msg:=msgTyp) (Post:=fun _ _=>False) F N X T (R.le (by decide)) hfr hf hk (fun p hp=>nomatch hp) hq ?_ ?_ ?_
 . intro env' s₁ hsub hO
   have bst:b.StaysIn s₁.heap:=fun a o q=>hsub a o (F.keep _ _ q)
   have Bst:B.StaysIn s₁.heap:=fun a o q=>hsub a o (bt.stays F NT a o q)
   refine lam4_ct (Gd.keeps ⟨X,T⟩ bst) (Rm.deeper (R.le (by decide))) (frames_up (frames_up hfr)) hO Bst (hlam.keeps hsub) (hcK.keeps hsub) (hcU.keeps hsub) (hcV.keeps hsub) hU hV hku hkv hlu hlv ?_ ?_
   . intro hall
     have h1:=hall (u,du) (.head _)
     have h2:=hall (v,dv) (.tail _ (.head _))
     exact absurd hch (fun z=>z.elim (fun z=>Numv.notChr h1 z) fun z=>Numv.notChr h2 z)
   . intro _ h' tk e Th
     exact ⟨e,h',tk,rfl,rfl,Th,True.intro⟩
 . rintro h' tk v F' kb ⟨⟩
 . exact fun _ h' tk t F' kp=>hQ h' tk t F' fun p hp=>kp p hp (fun z=>nomatch z)
 k_extra "f"
end
end
section
theorem G72.g72:True:=True.intro
open G72
theorem kw264:True:=by
 k_with "k_all" => ((have:=g72;clear this);exact Off.ne (by assumption) (by k_mem))
 k_with "my tail" => ((have:=g72;clear this);first | exact TailF.head | (refine' TailF.tail ?A79;(case A79=>k_extra "my tail")))
 k_with "!callWith ref" => ((have:=g72;clear this);(k_dflt (refine' callWith_K ?A7a ?B7a ?_;(case A7a=>k_asm);(case B7a=>k_is);k_whole)))
 k_with "!eval Lambda" => ((have:=g72;clear this);refine Hold.out ?_)
 exact True.intro
def forBody:Stmt->List Stmt
 | .For _ _ b .. => b
 | _=>[]
@[reducible] noncomputable def lb1:List Stmt:=Subtype.val (p:=fun b=>forBody ((fb413[6]?).getD (.Pass ⟨0,0,0,0⟩))=b) (by k_extra "w")
@[reducible] noncomputable def lb2:List Stmt:=Subtype.val (p:=fun b=>forBody ((fb413[7]?).getD (.Pass ⟨0,0,0,0⟩))=b) (by k_extra "w")
@[reducible] noncomputable def lb3:List Stmt:=Subtype.val (p:=fun b=>forBody ((fb413[8]?).getD (.Pass ⟨0,0,0,0⟩))=b) (by k_extra "w")
noncomputable abbrev ENV (L:Addr):Env:=envOfC (Str.ofString "law") fs413 L 413 (Value.ref 412)
noncomputable abbrev LG (L:Addr) (oT oA oN:Obj) (ps:Array Value) (T:List (Addr×Obj)):List (Addr×Obj) :=
 (L+1+1+1,oT)::(L+1+1+1+1+1+1,oA)::(L+1+1+1+1+1+1+1,oN)::(410,tabObj ps)::T
section
variable {M:Model} {A:Around} {E:Value->Shared->Prop} {s:Shared} {h₀:Heap} {L a:Addr} {m:Str->Option Value} {cn:Str} {cs:Scope} {ccd:Value} {cl:List (Str×Addr)} {x:Str} {v:Value} {Q:Value->Shared->Prop} {c:Addr} {o:Obj} {pos:Pos} {news T:List (Addr×Obj)} {g:List (Addr×Obj)->List (Addr×Obj)}
theorem TailF.mem {p:Addr×Obj} (tl:TailF T news g) (h:p∈T):p∈news:=by
 obtain ⟨e,rfl,_⟩:=tl.split
 exact List.mem_append_right _ h
theorem nameX_Ct (N:News h₀ L s.heap news) (tl:TailF T news g) (hc:cl.lookup x=some c) (hm:(c,o)∈T) (hd:o.data = .cell (some v)) (h:Q v s)
   (hk:cs.kind = .function:=by rfl) (hx:(envX cn cs L a ccd cl).kindOf x=some .cell:=by rfl) (hb:(x == ("__debug__" : Str))=false:=by decide) :
   wpAny M A (eval (.Name x pos) (envX cn cs L a ccd cl)) Q E s:=nameX_C N hc (tl.mem hm) hd h hk hx hb
theorem nameX_Ft (N:News h₀ L s.heap news) (tl:TailF T news g) (hc:cl.lookup x=some c) (hm:(c,o)∈T) (hd:o.data = .cell (some v)) (h:Q v s)
   (hk:cs.kind = .function:=by rfl) (hx:(envX cn cs L a ccd cl).kindOf x=some .free:=by rfl) (hb:(x == ("__debug__" : Str))=false:=by decide) (hn:(x == ("__classdict__" : Str))=false:=by decide) :
   wpAny M A (eval (.Name x pos) (envX cn cs L a ccd cl)) Q E s:=nameX_F N hc (tl.mem hm) hd h hk hx hb hn
end
theorem kw267:True:=by
 k_with "!eval Name" => ((have:=g72;clear this);(k_here;k_dflt (refine' nameX_Ft ?A7d ?I7d ?D7d ?H7d ?E7d ?_ ?B7d ?C7d ?F7d ?G7d;(case C7d=>exact rfl);(case B7d=>exact rfl);(case F7d=>decide);(case G7d=>decide);(case D7d=>exact rfl);(case H7d=>assumption);(case A7d=>k_asm);(case I7d=>k_extra "my tail");(case E7d=>assumption))))
 k_with "!eval Name" => ((have:=g72;clear this);(k_here;k_dflt (refine' nameX_Ct ?A7e ?H7e ?D7e ?G7e ?E7e ?_ ?B7e ?C7e ?F7e;(case C7e=>exact rfl);(case B7e=>exact rfl);(case F7e=>decide);(case D7e=>exact rfl);(case G7e=>assumption);(case A7e=>k_asm);(case H7e=>k_extra "my tail");(case E7e=>assumption))))
 exact True.intro
theorem allLt_all {d:Nat} {l:List (Addr×Obj)} (h:AllLt d l):∀ p∈l,@LT.lt Nat _ p.1 d:=by
 k_extra "s"
 induction l with
 | nil=>intro p hp;cases hp
 | cons q l ih =>
   intro p hp
   rcases mC hp with rfl | hp
   . exact h.1
   . exact ih h.2 p hp
 k_extra "f"
noncomputable def FR1 (m0:Str->Option Value) (x1 x2 x3 x4 x5 x6:Option Value):Str->Option Value:=fun y=>if y=Str.ofString "items" then x1 else if y=Str.ofString "total" then x2 else if y=Str.ofString "shape" then x3 else if y=Str.ofString "refused" then x4 else if y=Str.ofString "due" then x5 else if y=Str.ofString "told" then x6 else m0 y
theorem FR1_told {m0:Str->Option Value} {x1 x2 x3 x4 x5 x6 v:Option Value}:(fun y=>if y=Str.ofString "told" then v else FR1 m0 x1 x2 x3 x4 x5 x6 y)=FR1 m0 x1 x2 x3 x4 x5 v:=by
 k_extra "s"
 funext y
 by_cases h:y=Str.ofString "told"
 . subst h;rfl
 . simp only [FR1,if_neg h]
 k_extra "f"
inductive J10 (L:Addr) (m0:Str->Option Value) (T0:List (Addr×Obj)) (_i:Nat) (m:Str->Option Value) (news:List (Addr×Obj)):Prop
 | mk:∀ x1 x2 x3 x4 x5 x6 oT oA oN cT cA cN ps T,
   (m=FR1 m0 x1 x2 x3 x4 x5 x6) ->
   (news=LG L oT oA oN ps T) ->
   (oT.data = .cell cT) ->
   (oA.data = .cell cA) ->
   (oN.data = .cell cN) ->
   (∀ p∈T0,p∈T) ->
   (Off T [410,L+1+1+1,L+1+1+1+1+1+1,L+1+1+1+1+1+1+1]) ->
   (TabOk T ps) ->
   J10 L m0 T0 _i m news
def J1 (L:Addr) (m0:Str->Option Value) (T0:List (Addr×Obj)) (_i:Nat) (m:Str->Option Value) (news:List (Addr×Obj)):Prop:=Hold (J10 L m0 T0 _i m news)
section
variable {Q:Flow->Shared->Prop}
theorem turn1_chr {b B:Heap} {L I t fa ta u v l1 l2:Addr} {oI oL oR oU oV:Obj} {i:Nat} {m m0:Str->Option Value} {news T0 TU:List (Addr×Obj)} {du dv:Vd} {target:Expr} {vr:Option Value} {mz:Str->Option Value}
   (htg:∃ p1 p2 p3,target = .Tuple [.Name "asked" p1,.Name "table" p2] 0 p3)
   (X:(KF w.params).In b) (T:Top TP LO mean mg mb b) (C:CodeHd b 412 410) (R:Rm (A.deeper (ENV L)) 25) (hfr:A.frames=some []) (hm0:m0=fun y=>if y=Str.ofString "texts" then some (.bool true) else if y=Str.ofString "row" then vr else mz y)
   (mL:(L+1,oL)∈T0) (mR:(L+1+1,oR)∈T0) (mU:(L+1+1+1+1+1+1+1+1+1,oU)∈T0) (mV:(L+1+1+1+1+1+1+1+1+1+1,oV)∈T0)
   (dL:oL.data = .cell (some (.ref l1))) (dR:oR.data = .cell (some (.ref l2))) (dU:oU.data = .cell (some (.ref u))) (dV:oV.data = .cell (some (.ref v))) (hlo:@LT.lt Nat _ 410 L)
   (ht:(t,({cls := .type "tuple",data := .seq #[.ref fa,.ref ta]}:Obj))∈T0) (hTU:∀ p∈TU,p∈T0) (bt:BT b B TU) (hU:VM w (hm B) u du) (hV:VM w (hm B) v dv)
   (hfn:AskedChr w mean mg mb fa) (hfa:FnAt fa b) (hku:du.kind = "character" ∨ (Numv du∧dv.kind = "character")) (hlu:du.items.length≤1000)
   (J:J1 L m0 T0 i m news) (hn:∀ p∈news,p.1≠I) (F:Fr b L s.heap m) (N:News b L s.heap ((I,oI)::news)) :
   wpAny (model PG w) (A.deeper (ENV L)) (assign target (ENV L) (.ref t)) (fun _ s₃=>wpAny (model PG w) (A.deeper (ENV L)) (execs lb1 (ENV L)) (TEnd b L I oI (J1 L m0 T0 (i+1)) s Q) E s₃) E s:=by
 k_extra "s"
 obtain ⟨x1,x2,x3,x4,x5,x6,oT,oA,oN,cT,cA,cN,ps,TT,rfl,rfl,dT,dA,dN,hT0,off,tb⟩:=J.out
 obtain ⟨p1,p2,p3,rfl⟩:=htg
 clear J
 subst hm0
 have hne:=allNe_all hn
 simp only [AllNe] at hne
 have hT9:IsTup s.heap t #[.ref fa,.ref ta]:=⟨_,((show News b L s.heap TT by k_extra "my pick") _ (hT0 _ ht)).1,rfl,_,rfl⟩
 replace mL:=hT0 _ mL
 replace mR:=hT0 _ mR
 replace mU:=hT0 _ mU
 replace mV:=hT0 _ mV
 unfold LG at N
 unfold FR1 at F
 k_steps
 refine Hold.mk ?_
 rename_i oA9 dA9 h8 oT9 dT9 tk9 nt h' l9 h9 oN9 F9 N9 dN9
 have ap:AllNe 410 ((nt,listOf #[] 0)::(I,oI)::(L+1+1+1,oT9)::(L+1+1+1+1+1+1,oA9)::(L+1+1+1+1+1+1+1,oN9)::TT):=⟨by k_ne,by k_ne,by k_ne,by k_ne,by k_ne,allNe_all (off.ne (.head _))⟩
 have ltT:∀ p∈TT,@LT.lt Nat _ p.1 nt:=allLt_all l9.2.2.2.2.2
 have neI:∀ p∈TT,p.1≠I:=by
   intro p hp
   exact hn p (mt3 (.tail _ hp))
 have offp:Off TT [410,L+1+1+1,L+1+1+1+1+1+1,L+1+1+1+1+1+1+1,nt,I]:=by
   intro p hp hd
   rcases List.mem_append.mp (show p.1∈[410,L+1+1+1,L+1+1+1+1+1+1,L+1+1+1+1+1+1+1]++[nt,I] from hd) with h | h
   . exact off p hp h
   . simp only [List.mem_cons,List.not_mem_nil,or_false] at h
     rcases h with h | h
     . exact Nat.lt_irrefl nt (h ▸ ltT p hp)
     . exact neI p hp h
 refine lam_mk (cs:=fs413) (cl:=cellsFrom (L+1) fs413.names []) C offp tb F9 (N:=by k_extra "my pick") (.tail (.tail (.tail (.tail (.tail .head))))) ?hds ap T (by rfl) ?_
 case hds =>
   intro d hd
   simp only [List.mem_cons,List.not_mem_nil,or_false] at hd
   rcases hd with rfl | rfl | rfl | rfl | rfl
   . exact ⟨_,mt2 (.head _)⟩
   . exact ⟨_,mt3 (.head _)⟩
   . exact ⟨_,mt4 (.head _)⟩
   . exact ⟨_,.head _⟩
   . exact ⟨_,.tail _ (.head _)⟩
 intro f h1 tk1 ps1 T1 F1 N1 LA FA sub off1 tb1
 obtain ⟨of,N1⟩:=N1
 k_steps
 have hnt:∀ p∈TU,p.1≠nt:=fun p hp e=>Nat.lt_irrefl nt (e ▸ ltT p (hT0 p (hTU p hp)))
 have NTU:News b L h1 TU:=fun p hp=>N1 p (mt7 (sub p (hT0 p (hTU p hp))))
 have cA1:CellAt h1 (L+1+1+1+1+1+1) (.ref fa):=⟨⟨_,(N1 _ (mt5 (.head _))).1,dA9⟩⟩
 have cN1:CellAt h1 (L+1+1+1+1+1+1+1) (.ref nt):=⟨⟨_,(N1 _ (mt6 (.head _))).1,dN9⟩⟩
 have cU1:CellAt h1 (L+1+1+1+1+1+1+1+1+1) (.ref u):=⟨⟨_,(N1 _ (mt7 (sub _ mU))).1,dU⟩⟩
 have cV1:CellAt h1 (L+1+1+1+1+1+1+1+1+1+1) (.ref v):=⟨⟨_,(N1 _ (mt7 (sub _ mV))).1,dV⟩⟩
 refine kept1_chr F1 N1 X T (R.le (by decide)) hfr rfl (show ScopeKind.function ≠ .module by decide) (mt2 (.head _)) FA LA cA1 cN1 cU1 cV1 bt NTU (fun p hp e=>hnt p hp (mS e)) hfn hfa hU hV hku hlu ?_
 intro h2 tk2 t2 F2 K2
 have N2:News b L h2 ((410,tabObj ps1)::(I,oI)::(L+1+1+1,oT9)::(L+1+1+1+1+1+1,oA9)::(L+1+1+1+1+1+1+1,oN9)::T1):=by
   intro p hp
   have hp1:p.1≠nt:=by
     rcases mC hp with rfl | hp
     . exact Nat.ne_of_lt l9.2.2.2.2.1
     rcases mC hp with rfl | hp
     . exact Nat.ne_of_lt l9.1
     rcases mC hp with rfl | hp
     . exact Nat.ne_of_lt l9.2.1
     rcases mC hp with rfl | hp
     . exact Nat.ne_of_lt l9.2.2.1
     rcases mC hp with rfl | hp
     . exact Nat.ne_of_lt l9.2.2.2.1
     exact off1.ne (mt4 (.head _)) p hp
   have hp2:p∈(f,of)::(410,tabObj ps1)::(nt,W.listOf #[] 0)::(I,oI)::(L+1+1+1,oT9)::(L+1+1+1+1+1+1,oA9)::(L+1+1+1+1+1+1+1,oN9)::T1:=by
     rcases mC hp with rfl | hp
     . exact .tail _ (.head _)
     exact mt2 (.tail _ hp)
   exact ⟨K2 p hp2 (fun e=>hp1 (mS e)),(N1 p hp2).2⟩
 clear K2 cA1 cN1 cU1 cV1 NTU N1 LA FA N9 F9 F1 offp
 k_steps
 rename_i h3 F3 N3 tk3
 show TEnd _ _ _ _ _ _ _ .cont _
 refine TEnd.cont (F:=(show Fr b L h3 (FR1 _ x1 x2 x3 x4 x5 (some (.str msgOp t2))) from FR1_told ▸ F3)) (news':=LG L oT9 oA9 oN9 ps1 T1) ?_ ?_ ?_
 . intro p hp
   refine N3 p ?_
   simp only [LG,List.mem_cons] at hp ⊢
   rcases hp with h | h | h | h | h | h
   . exact .inr (.inl h)
   . exact .inr (.inr (.inl h))
   . exact .inr (.inr (.inr (.inl h)))
   . exact .inr (.inr (.inr (.inr (.inl h))))
   . exact .inl h
   . exact .inr (.inr (.inr (.inr (.inr h))))
 . intro p hp
   simp only [LG,List.mem_cons] at hp
   rcases hp with rfl | rfl | rfl | rfl | h
   . exact hne.1
   . exact hne.2.1
   . exact hne.2.2.1
   . exact hne.2.2.2.1
   . exact off1.ne (mt5 (.head _)) p h
 . exact .mk ⟨x1,x2,x3,x4,x5,_,oT9,oA9,oN9,_,_,_,ps1,T1,rfl,rfl,dT9,dA9,dN9,fun p hp=>sub p (hT0 p hp),fun p hp hd=>off1 p hp (List.mem_append_left [nt,I] hd),tb1⟩
 k_extra "f"
end
end
section
theorem G73.g73:True:=True.intro
open G73
theorem kw274:True:=by
 k_with "k_all" => ((have:=g73;clear this);exact Off.ne (by assumption) (by k_mem))
 k_with "my tail" => ((have:=g73;clear this);first | exact TailF.head | (refine' TailF.tail ?A7h;(case A7h=>k_extra "my tail")))
 k_with "!callWith ref" => ((have:=g73;clear this);(k_dflt (refine' callWith_K ?A7i ?B7i ?_;(case A7i=>k_asm);(case B7i=>k_is);k_whole)))
 k_with "!eval Lambda" => ((have:=g73;clear this);refine Hold.out ?_)
 k_with "!eval Name" => ((have:=g73;clear this);(k_here;k_dflt (refine' nameX_Ft ?A7k ?I7k ?D7k ?H7k ?E7k ?_ ?B7k ?C7k ?F7k ?G7k;(case C7k=>exact rfl);(case B7k=>exact rfl);(case F7k=>decide);(case G7k=>decide);(case D7k=>exact rfl);(case H7k=>assumption);(case A7k=>k_asm);(case I7k=>k_extra "my tail");(case E7k=>assumption))))
 k_with "!eval Name" => ((have:=g73;clear this);(k_here;k_dflt (refine' nameX_Ct ?A7l ?H7l ?D7l ?G7l ?E7l ?_ ?B7l ?C7l ?F7l;(case C7l=>exact rfl);(case B7l=>exact rfl);(case F7l=>decide);(case D7l=>exact rfl);(case G7l=>assumption);(case A7l=>k_asm);(case H7l=>k_extra "my tail");(case E7l=>assumption))))
 exact True.intro
section
variable {Q:Value->Shared->Prop}
theorem len_t {b:Heap} {L l:Addr} {vs:List Value} {c n:Nat} {news TT:List (Addr×Obj)} {g:List (Addr×Obj)->List (Addr×Obj)} (N:News b L s.heap news) (tl:TailF TT news g) (hm:(l,listOf (List.toArray vs) c)∈TT) (hn:vs.length=n) (hz:n≤1000) (h:Q (.int n (s.toks+1)) {s with toks:=s.toks+1+1}) :
   wpAny (model PG w) A (call (.builtin "len") [.ref l]) Q E s :=
 kun_lenL (k:=n) (News.isList N (tl.mem hm)) (by simp only [List.size_toArray];omega) (by omega) h
theorem lshape_err {env:Env} {b B:Heap} {L u v nt:Addr} {m:Str->Option Value} {news TT:List (Addr×Obj)} {du dv:Vd} {eu ev:Option (List Int)} {c:Nat} {msg:Str} {tn tm:Tok}
   (hr:rdim du.items.length dv.items.length eu ev = .error msg) (F:Fr b L s.heap m) (N:News b L s.heap news) (X:(KF w.params).In b) (T:Top TP LO mean mg mb b) (R:Rm (A.deeper env) 20) (hmn:(nt,listOf (List.toArray []) c)∈news)
   (bt:BT b B TT) (NT:News b L s.heap TT) (offT:Off TT [nt]) (hU:VM w (hm B) u du) (hV:VM w (hm B) v dv) (hu:DimIs du eu) (hv:DimIs dv ev) (hlu:du.items.length≤1000) (hlv:dv.items.length≤1000) (hpu:∀ ds,eu=some ds->prod ds=du.items.length) (hpv:∀ ds,ev=some ds->prod ds=dv.items.length)
   (hQ:∀ h' tk t tk1 tk2 tot,tot=rc du.items.length dv.items.length->Fr b L h' m->News b L h' ((t,tup3 (.str msg tk1) .none (.int tot tk2))::news)->AllNe t news->Q (.ref t) {s with heap:=h',toks:=tk}) :
   wpAny (model PG w) (A.deeper env) (call (.ref 354) [.ref u,.ref v,.int du.items.length tn,.int dv.items.length tm,.ref nt]) Q E s:=by
 k_extra "s"
 have hnn:=N _ hmn
 have bst:b.StaysIn (hideAll s.heap [nt]):=fun a o q=>hideAll_get _ (F.keep _ _ q) fun z=>by rw [mS z,hnn.2.2] at q;cases q
 have Bst:B.StaysIn (hideAll s.heap [nt]):=fun a o q=>(bt.but F NT (fun d hd=>by rw [mS hd];exact hnn.2.2) offT a o q).elim (fun e n=>hideAll_get _ e n)
 refine lshape_ct (xs:=[]) (ts:=[]) (c:=c) (Gd.keeps ⟨X,T⟩ bst) (fun a o q=>of_hideAll _ q) (R.le (by decide)) Bst hU hV hu hv hlu hlv hpu hpv hnn.1 (hideAll_none _ (.head _)) .nil (by decide) ?_ ?_ ?_
 . intro h' tk t msg' tk1 tk2 tot e kb gt et nt'
   rw [hr] at e
   cases e
   exact hQ h' tk t tk1 tk2 tot et (Fr.kb0 F kb) (News.more' (tl:=[(t,_)]) F (News.kb0 N kb) fun p hp=>by rw [mS hp];exact ⟨gt,nt'⟩) (allNe_of nt' N)
 . intro h' tk t tk1 tk2 xs' c' tot e
   rw [hr] at e;cases e
 . intro h' tk t tk1 tk2 xs' c' ds r vs cr tot e
   rw [hr] at e;cases e
 k_extra "f"
end
theorem LG_mem {L I:Addr} {oI oT oA oN:Obj} {ps:Array Value} {T:List (Addr×Obj)} {p:Addr×Obj} (hp:p∈LG L oT oA oN ps T):p∈(410,tabObj ps)::(I,oI)::(L+1+1+1,oT)::(L+1+1+1+1+1+1,oA)::(L+1+1+1+1+1+1+1,oN)::T:=by
 k_extra "s"
 rcases mC hp with rfl | hp
 . exact mt2 (.head _)
 rcases mC hp with rfl | hp
 . exact mt3 (.head _)
 rcases mC hp with rfl | hp
 . exact mt4 (.head _)
 rcases mC hp with rfl | hp
 . exact .head _
 exact mt4 (.tail _ hp)
 k_extra "f"
theorem FR1_five {m0:Str->Option Value} {x1 x2 x3 x4 x5 x6 v2 v3 v4 v5 v6:Option Value}:(fun y=>if y=Str.ofString "total" then v2 else if y=Str.ofString "shape" then v3 else if y=Str.ofString "refused" then v4 else if y=Str.ofString "due" then v5 else if y=Str.ofString "told" then v6 else FR1 m0 x1 x2 x3 x4 x5 x6 y)=FR1 m0 x1 v2 v3 v4 v5 v6:=by
 k_extra "s"
 funext y
 by_cases h1:y=Str.ofString "items"
 . subst h1;rfl
 by_cases h2:y=Str.ofString "total"
 . subst h2;rfl
 by_cases h3:y=Str.ofString "shape"
 . subst h3;rfl
 by_cases h4:y=Str.ofString "refused"
 . subst h4;rfl
 by_cases h5:y=Str.ofString "due"
 . subst h5;rfl
 by_cases h6:y=Str.ofString "told"
 . subst h6;rfl
 simp only [FR1,if_neg h1,if_neg h2,if_neg h3,if_neg h4,if_neg h5,if_neg h6]
 k_extra "f"
theorem kw276:True:=by
 k_with "!call builtin:len" => ((have:=g73;clear this);(k_here;(with_reducible show wpAny _ _ (call (Value.builtin "len") [Value.ref _]) _ _ _);k_dflt (refine' len_t ?A7n ?D7n ?B7n ?C7n ?E7n ?_;(case B7n=>assumption);(case C7n=>assumption);(case E7n=>assumption);(case A7n=>k_asm);(case D7n=>k_extra "my tail");k_whole)))
 exact True.intro
section
variable {Q:Flow->Shared->Prop}
theorem turn1_err {b B:Heap} {L I t fa ta u v l1 l2:Addr} {oI oL oR oU oV:Obj} {i:Nat} {m m0:Str->Option Value} {news T0 TU:List (Addr×Obj)} {du dv:Vd} {fn:Option Bool->Option Bool->Option Bool} {eu ev:Option (List Int)} {msg:Str} {la ra:List Value} {ca cb:Nat} {target:Expr} {vr:Option Value} {mz:Str->Option Value}
   (htg:∃ p1 p2 p3,target = .Tuple [.Name "asked" p1,.Name "table" p2] 0 p3)
   (X:(KF w.params).In b) (T:Top TP LO mean mg mb b) (C:CodeHd b 412 410) (R:Rm (A.deeper (ENV L)) 25) (hfr:A.frames=some []) (hm0:m0=fun y=>if y=Str.ofString "texts" then some (.bool false) else if y=Str.ofString "row" then vr else mz y)
   (mL:(L+1,oL)∈T0) (mR:(L+1+1,oR)∈T0) (mU:(L+1+1+1+1+1+1+1+1+1,oU)∈T0) (mV:(L+1+1+1+1+1+1+1+1+1+1,oV)∈T0)
   (dL:oL.data = .cell (some (.ref l1))) (dR:oR.data = .cell (some (.ref l2))) (dU:oU.data = .cell (some (.ref u))) (dV:oV.data = .cell (some (.ref v))) (hlo:@LT.lt Nat _ 410 L)
   (ht:(t,({cls := .type "tuple",data := .seq #[.ref fa,.ref ta]}:Obj))∈T0) (hTU:∀ p∈TU,p∈T0) (bt:BT b B TU) (hU:VM w (hm B) u du) (hV:VM w (hm B) v dv)
   (hfn:AskedNum w mean mg mb fa fn) (hfa:FnAt fa b) (hku:Numv du) (hkv:Numv dv) (hu:DimIs du eu) (hv:DimIs dv ev) (hlu:du.items.length≤1000) (hlv:dv.items.length≤1000) (hnu:attOf du.ats "dimnames" = none) (hnv:attOf dv.ats "dimnames" = none) (hpu:∀ ds,eu=some ds->prod ds=du.items.length) (hpv:∀ ds,ev=some ds->prod ds=dv.items.length)
   (mla:(l1,listOf (List.toArray la) ca)∈T0) (mra:(l2,listOf (List.toArray ra) cb)∈T0) (ela:la.length=du.items.length) (era:ra.length=dv.items.length) (hr:rdim du.items.length dv.items.length eu ev = .error msg) (hms:(msg != Str.ofString "")=true)
   (J:J1 L m0 T0 i m news) (hn:∀ p∈news,p.1≠I) (F:Fr b L s.heap m) (N:News b L s.heap ((I,oI)::news)) :
   wpAny (model PG w) (A.deeper (ENV L)) (assign target (ENV L) (.ref t)) (fun _ s₃=>wpAny (model PG w) (A.deeper (ENV L)) (execs lb1 (ENV L)) (TEnd b L I oI (J1 L m0 T0 (i+1)) s Q) E s₃) E s:=by
 k_extra "s"
 obtain ⟨x1,x2,x3,x4,x5,x6,oT,oA,oN,cT,cA,cN,ps,TT,rfl,rfl,dT,dA,dN,hT0,off,tb⟩:=J.out
 obtain ⟨p1,p2,p3,rfl⟩:=htg
 clear J
 subst hm0
 have hne:=allNe_all hn
 simp only [AllNe] at hne
 have hT9:IsTup s.heap t #[.ref fa,.ref ta]:=⟨_,((show News b L s.heap TT by k_extra "my pick") _ (hT0 _ ht)).1,rfl,_,rfl⟩
 replace mL:=hT0 _ mL
 replace mR:=hT0 _ mR
 replace mU:=hT0 _ mU
 replace mV:=hT0 _ mV
 unfold LG at N
 unfold FR1 at F
 k_steps
 refine Hold.mk ?_
 rename_i oA9 dA9 h8 oT9 dT9 tk9 nt h' l9 h9 oN9 F9 N9 dN9
 have ap:AllNe 410 ((nt,listOf #[] 0)::(I,oI)::(L+1+1+1,oT9)::(L+1+1+1+1+1+1,oA9)::(L+1+1+1+1+1+1+1,oN9)::TT):=⟨by k_ne,by k_ne,by k_ne,by k_ne,by k_ne,allNe_all (off.ne (.head _))⟩
 have ltT:∀ p∈TT,@LT.lt Nat _ p.1 nt:=allLt_all l9.2.2.2.2.2
 have neI:∀ p∈TT,p.1≠I:=by
   intro p hp
   exact hn p (mt3 (.tail _ hp))
 have offp:Off TT [410,L+1+1+1,L+1+1+1+1+1+1,L+1+1+1+1+1+1+1,nt,I]:=by
   intro p hp hd
   rcases List.mem_append.mp (show p.1∈[410,L+1+1+1,L+1+1+1+1+1+1,L+1+1+1+1+1+1+1]++[nt,I] from hd) with h | h
   . exact off p hp h
   . simp only [List.mem_cons,List.not_mem_nil,or_false] at h
     rcases h with h | h
     . exact Nat.lt_irrefl nt (h ▸ ltT p hp)
     . exact neI p hp h
 refine lam_mk (cs:=fs413) (cl:=cellsFrom (L+1) fs413.names []) C offp tb F9 (N:=by k_extra "my pick") (.tail (.tail (.tail (.tail (.tail .head))))) ?hds ap T (by rfl) ?_
 case hds =>
   intro d hd
   simp only [List.mem_cons,List.not_mem_nil,or_false] at hd
   rcases hd with rfl | rfl | rfl | rfl | rfl
   . exact ⟨_,mt2 (.head _)⟩
   . exact ⟨_,mt3 (.head _)⟩
   . exact ⟨_,mt4 (.head _)⟩
   . exact ⟨_,.head _⟩
   . exact ⟨_,.tail _ (.head _)⟩
 intro f h1 tk1 ps1 T1 F1 N1 LA FA sub off1 tb1
 obtain ⟨of,N1⟩:=N1
 k_steps
 have hnt:∀ p∈TU,p.1≠nt:=fun p hp e=>Nat.lt_irrefl nt (e ▸ ltT p (hT0 p (hTU p hp)))
 have NTU:News b L h1 TU:=fun p hp=>N1 p (mt7 (sub p (hT0 p (hTU p hp))))
 have cA1:CellAt h1 (L+1+1+1+1+1+1) (.ref fa):=⟨⟨_,(N1 _ (mt5 (.head _))).1,dA9⟩⟩
 have cN1:CellAt h1 (L+1+1+1+1+1+1+1) (.ref nt):=⟨⟨_,(N1 _ (mt6 (.head _))).1,dN9⟩⟩
 have cU1:CellAt h1 (L+1+1+1+1+1+1+1+1+1) (.ref u):=⟨⟨_,(N1 _ (mt7 (sub _ mU))).1,dU⟩⟩
 have cV1:CellAt h1 (L+1+1+1+1+1+1+1+1+1+1) (.ref v):=⟨⟨_,(N1 _ (mt7 (sub _ mV))).1,dV⟩⟩
 refine kept1_err hr F1 N1 X T (R.le (by decide)) hfr rfl (show ScopeKind.function ≠ .module by decide) (mt2 (.head _)) FA LA cA1 cN1 cU1 cV1 bt NTU (fun p hp e=>hnt p hp (mS e)) hfn hfa hU hV hku hkv hu hv hlu hlv hnu hnv ?_
 intro h2 tk2 t2 F2 K2
 have N2:News b L h2 ((410,tabObj ps1)::(I,oI)::(L+1+1+1,oT9)::(L+1+1+1+1+1+1,oA9)::(L+1+1+1+1+1+1+1,oN9)::T1):=by
   intro p hp
   have hp1:p.1≠nt:=by
     rcases mC hp with rfl | hp
     . exact Nat.ne_of_lt l9.2.2.2.2.1
     rcases mC hp with rfl | hp
     . exact Nat.ne_of_lt l9.1
     rcases mC hp with rfl | hp
     . exact Nat.ne_of_lt l9.2.1
     rcases mC hp with rfl | hp
     . exact Nat.ne_of_lt l9.2.2.1
     rcases mC hp with rfl | hp
     . exact Nat.ne_of_lt l9.2.2.2.1
     exact off1.ne (mt4 (.head _)) p hp
   have hp2:p∈(f,of)::(410,tabObj ps1)::(nt,W.listOf #[] 0)::(I,oI)::(L+1+1+1,oT9)::(L+1+1+1+1+1+1,oA9)::(L+1+1+1+1+1+1+1,oN9)::T1:=by
     rcases mC hp with rfl | hp
     . exact .tail _ (.head _)
     exact mt2 (.tail _ hp)
   exact ⟨K2 p hp2 (fun e=>hp1 (mS e)),(N1 p hp2).2⟩
 clear K2 cA1 cN1 cU1 cV1 NTU N1 LA FA N9 F9 F1 offp
 replace mla:=sub _ (hT0 _ mla)
 replace mra:=sub _ (hT0 _ mra)
 replace mL:=sub _ mL
 replace mR:=sub _ mR
 replace mU:=sub _ mU
 replace mV:=sub _ mV
 k_steps
 rename_i dt h4 l4 h5 F5 N5
 refine lshape_err hr F5 N5 X T (R.le (by decide)) (.head _) bt (fun p hp=>N5 p (mt6 (sub p (hT0 p (hTU p hp)))) ) (fun p hp e=>Nat.lt_irrefl dt ((mS e) ▸ allLt_all l4.2.2.2.2.2 p (sub p (hT0 p (hTU p hp))))) hU hV hu hv hlu hlv hpu hpv ?_
 intro h6 tk6 t6 tk7 tk8 tot6 htot F6 N6 n6
 clear F5 N5
 k_steps
 . rename_i a9
   exact absurd a9 (by simp)
 . rename_i h7 F7 N7 _ _
   show TEnd _ _ _ _ _ _ _ .cont _
   refine TEnd.cont (F:=(show Fr b L h7 (FR1 _ x1 _ _ _ _ _) from Eq.mp (congrArg (Fr b L h7) FR1_five) F7)) (news':=LG L oT9 oA9 oN9 ps1 T1) ?_ ?_ ?_
   . intro p hp
     rcases mC hp with rfl | hp
     . exact N7 _ (mt3 (.head _))
     exact N7 p (mt2 (LG_mem hp))
   . intro p hp
     simp only [LG,List.mem_cons] at hp
     rcases hp with rfl | rfl | rfl | rfl | h
     . exact hne.1
     . exact hne.2.1
     . exact hne.2.2.1
     . exact hne.2.2.2.1
     . exact off1.ne (mt5 (.head _)) p h
   . exact .mk ⟨x1,_,_,_,_,_,oT9,oA9,oN9,_,_,_,ps1,T1,rfl,rfl,dT9,dA9,dN9,fun p hp=>sub p (hT0 p hp),fun p hp hd=>off1 p hp (List.mem_append_left [nt,I] hd),tb1⟩
 k_extra "f"
end
end
section
theorem str_ne {x:Str} (h:x≠Str.ofString ""):(x != Str.ofString "")=true:=by
 rw [bne_iff_ne];exact h
theorem msgDim_ne (p t:Int):(msgDim p t != Str.ofString "")=true:=by
 k_extra "s"
 refine str_ne fun h=>?_
 have e:(msgDim p t).length=(Str.ofString "").length:=by rw [h]
 have e0:(Str.ofString "").length=0:=rfl
 have e1:(Str.ofString "dims [product ").length=14:=rfl
 unfold msgDim at e
 simp only [PySem.Str.length_append] at e
 omega
 k_extra "f"
theorem rdim_ne {n m:Nat} {eu ev:Option (List Int)} {msg:Str} (h:rdim n m eu ev = .error msg):(msg != Str.ofString "")=true:=by
 k_extra "s"
 have key:∀ {ds:List Int} {n m:Nat},rdim1 ds n m = .error msg->(msg != Str.ofString "")=true:=by
   intro ds n m h
   unfold rdim1 at h
   split at h
   . cases h
   . split at h
     . cases h
     . cases h;exact msgDim_ne _ _
 cases eu with
 | none=>cases ev with
   | none=>cases h
   | some b=>exact key h
 | some a=>cases ev with
   | none=>exact key h
   | some b =>
     simp only [rdim] at h
     split at h
     . cases h
     . cases h;decide
 k_extra "f"
section
variable {Q:Value->Shared->Prop}
theorem lshape_none {env:Env} {b B:Heap} {L u v nt:Addr} {m:Str->Option Value} {news TT:List (Addr×Obj)} {du dv:Vd} {eu ev:Option (List Int)} {c:Nat} {tn tm:Tok} {g:Obj->List (Addr×Obj)}
   (hr:rdim du.items.length dv.items.length eu ev = .ok none) (F:Fr b L s.heap m) (N:News b L s.heap news) (U:UpdF nt (listOf (List.toArray []) c) news g) (X:(KF w.params).In b) (T:Top TP LO mean mg mb b) (R:Rm (A.deeper env) 20)
   (bt:BT b B TT) (NT:News b L s.heap TT) (offT:Off TT [nt]) (hU:VM w (hm B) u du) (hV:VM w (hm B) v dv) (hu:DimIs du eu) (hv:DimIs dv ev) (hlu:du.items.length≤1000) (hlv:dv.items.length≤1000) (hpu:∀ ds,eu=some ds->prod ds=du.items.length) (hpv:∀ ds,ev=some ds->prod ds=dv.items.length)
   (hQ:∀ h' tk t tk1 tk2 tot xs' c',tot=rc du.items.length dv.items.length->StrsAre xs' (notes9 du.items.length dv.items.length eu ev)->Fr b L h' m->News b L h' ((t,tup3 (.str "" tk1) .none (.int tot tk2))::g (listOf (List.toArray xs') c'))->AllNe t news->Q (.ref t) {s with heap:=h',toks:=tk}) :
   wpAny (model PG w) (A.deeper env) (call (.ref 354) [.ref u,.ref v,.int du.items.length tn,.int dv.items.length tm,.ref nt]) Q E s:=by
 k_extra "s"
 have hnn:=N _ (UpdF.mem U)
 have bst:b.StaysIn (hideAll s.heap [nt]):=fun a o q=>hideAll_get _ (F.keep _ _ q) fun z=>by rw [mS z,hnn.2.2] at q;cases q
 have Bst:B.StaysIn (hideAll s.heap [nt]):=fun a o q=>(bt.but F NT (fun d hd=>by rw [mS hd];exact hnn.2.2) offT a o q).elim (fun e n=>hideAll_get _ e n)
 refine lshape_ct (xs:=[]) (ts:=[]) (c:=c) (Gd.keeps ⟨X,T⟩ bst) (fun a o q=>of_hideAll _ q) (R.le (by decide)) Bst hU hV hu hv hlu hlv hpu hpv hnn.1 (hideAll_none _ (.head _)) .nil (by decide) ?_ ?_ ?_
 . intro h' tk t msg' tk1 tk2 tot e
   rw [hr] at e;cases e
 . intro h' tk t tk1 tk2 xs' c' tot e kb gn sx gt et nt'
   exact hQ h' tk t tk1 tk2 tot xs' c' et sx (Fr.kb1 F N (UpdF.upd U (listOf (List.toArray xs') c')) kb) (News.more' (tl:=[(t,_)]) F (News.kb1 N (UpdF.upd U _) kb gn) fun p hp=>by rw [mS hp];exact ⟨gt,nt'⟩) (allNe_of nt' N)
 . intro h' tk t tk1 tk2 xs' c' ds r vs cr tot e
   rw [hr] at e;cases e
 k_extra "f"
theorem lshape_some {env:Env} {b B:Heap} {L u v nt:Addr} {m:Str->Option Value} {news TT:List (Addr×Obj)} {du dv:Vd} {eu ev:Option (List Int)} {c:Nat} {tn tm:Tok} {g:Obj->List (Addr×Obj)} {ds:List Int}
   (hr:rdim du.items.length dv.items.length eu ev = .ok (some ds)) (F:Fr b L s.heap m) (N:News b L s.heap news) (U:UpdF nt (listOf (List.toArray []) c) news g) (X:(KF w.params).In b) (T:Top TP LO mean mg mb b) (R:Rm (A.deeper env) 20)
   (bt:BT b B TT) (NT:News b L s.heap TT) (offT:Off TT [nt]) (hU:VM w (hm B) u du) (hV:VM w (hm B) v dv) (hu:DimIs du eu) (hv:DimIs dv ev) (hlu:du.items.length≤1000) (hlv:dv.items.length≤1000) (hpu:∀ ds,eu=some ds->prod ds=du.items.length) (hpv:∀ ds,ev=some ds->prod ds=dv.items.length)
   (hQ:∀ h' tk t tk1 tk2 tot xs' c' r vs cr,tot=rc du.items.length dv.items.length->StrsAre xs' (notes9 du.items.length dv.items.length eu ev)->IntsAre vs ds->Fr b L h' m->News b L h' ((t,tup3 (.str "" tk1) (.ref r) (.int tot tk2))::(r,listOf (List.toArray vs) cr)::g (listOf (List.toArray xs') c'))->AllNe t news->AllNe r news->@Ne Nat r t->Q (.ref t) {s with heap:=h',toks:=tk}) :
   wpAny (model PG w) (A.deeper env) (call (.ref 354) [.ref u,.ref v,.int du.items.length tn,.int dv.items.length tm,.ref nt]) Q E s:=by
 k_extra "s"
 have hnn:=N _ (UpdF.mem U)
 have bst:b.StaysIn (hideAll s.heap [nt]):=fun a o q=>hideAll_get _ (F.keep _ _ q) fun z=>by rw [mS z,hnn.2.2] at q;cases q
 have Bst:B.StaysIn (hideAll s.heap [nt]):=fun a o q=>(bt.but F NT (fun d hd=>by rw [mS hd];exact hnn.2.2) offT a o q).elim (fun e n=>hideAll_get _ e n)
 refine lshape_ct (xs:=[]) (ts:=[]) (c:=c) (Gd.keeps ⟨X,T⟩ bst) (fun a o q=>of_hideAll _ q) (R.le (by decide)) Bst hU hV hu hv hlu hlv hpu hpv hnn.1 (hideAll_none _ (.head _)) .nil (by decide) ?_ ?_ ?_
 . intro h' tk t msg' tk1 tk2 tot e
   rw [hr] at e;cases e
 . intro h' tk t tk1 tk2 xs' c' tot e
   rw [hr] at e;cases e
 . intro h' tk t tk1 tk2 xs' c' ds' r vs cr tot e kb gn sx gt et nt' gr nr iv nrt
   rw [hr] at e;cases e
   exact hQ h' tk t tk1 tk2 tot xs' c' r vs cr et sx iv (Fr.kb1 F N (UpdF.upd U (listOf (List.toArray xs') c')) kb) (News.more' (tl:=[(t,_),(r,_)]) F (News.kb1 N (UpdF.upd U _) kb gn) fun p hp=>by
     rcases mC hp with rfl | hp
     . exact ⟨gt,nt'⟩
     rw [mS hp];exact ⟨gr,nr⟩) (allNe_of nt' N) (allNe_of nr N) nrt
 k_extra "f"
end
end
section
section
variable {A:Around} {s:Shared}
theorem eqItem {x y:Value} {d:PyData} (hx:ItM (hm s.heap) x d) (hy:ItM (hm s.heap) y d) (hu:A.units+9<cLine):SeqAt.EqAt A s x y true:=by
 k_extra "s"
 cases hx with
 | none=>cases hy;exact SeqAt.EqAt.same _
 | int i t=>cases hy with | int _ u=>have:=SeqAt.EqAt.int_int (A:=A) (s:=s) i t i u;rwa [beq_self_eq_true] at this
 | str i t=>cases hy with | str _ u=>have:=SeqAt.EqAt.str_str (A:=A) (s:=s) i t i u;rwa [beq_self_eq_true] at this
 | @pair a p q t u n g =>
   cases hy with
   | @pair b _ _ t' u' n' g' =>
     have:=SeqAt.eqAt_reads _ _ A s _ _ _ _ (ItM.reads (.pair g)) (ItM.reads (.pair g')) rfl rfl (by have:=Nat.min_le_left (PyData.depth (.tuple [.int p,.int q])) (PyData.depth (.tuple [.int p,.int q]));have e:PyData.depth (.tuple [.int p,.int q])=1:=rfl;omega)
     rwa [SeqAt.eqv_refl _ rfl] at this
 k_extra "f"
theorem eqItems {vs ws:List Value} {ds:List PyData} (hv:ItsM (hm s.heap) vs ds) (hw:ItsM (hm s.heap) ws ds) (hu:A.units+9<cLine):∀ j (h1:j<vs.toArray.size) (h2:j<ws.toArray.size),SeqAt.EqAt A s vs.toArray[j] ws.toArray[j] true:=by
 k_extra "s"
 intro j h1 h2
 have h1':j<vs.length:=by simpa using h1
 have h2':j<ws.length:=by simpa using h2
 obtain ⟨d,hd,ix⟩:=hv.at j vs[j] (List.getElem?_eq_getElem h1')
 obtain ⟨d',hd',iy⟩:=hw.at j ws[j] (List.getElem?_eq_getElem h2')
 rw [hd] at hd';cases hd'
 simpa using eqItem ix iy hu
 k_extra "f"
theorem allTrue (n:Nat):(List.range n).all (fun _=>true)=true:=by simp
theorem rcLists {l b:Addr} {vs ws:List Value} {ds:List PyData} (hl:s.heap.IsList l vs.toArray) (hb:s.heap.IsList b ws.toArray) (hv:ItsM (hm s.heap) vs ds) (hw:ItsM (hm s.heap) ws ds) (hu:A.units+20<cLine):SeqAt.EqAt A s (.ref l) (.ref b) true:=by
 k_extra "s"
 by_cases e:l=b
 . rw [e];exact SeqAt.EqAt.same _
 . refine SeqAt.EqAt.of_refs e ?_
   have:=SeqAt.RcAt.lists (A:=A) hl hb (by simp [hv.length,hw.length]) (by omega) (eqItems hv hw (by show A.in1.units+_<_;rw [Around.in1_units];omega))
   rwa [allTrue] at this
 k_extra "f"
theorem eqRow {v y:Value} {k:Str} {its:List PyData} (h1:SRow (hm s.heap) v k its) (h2:SRow (hm s.heap) y k its) (hu:A.units+30<cLine):SeqAt.EqAt A s v y true:=by
 k_extra "s"
 obtain ⟨t,l,tk,vs,c,rfl,g1,g2,g3⟩:=h1
 obtain ⟨t',l',tk',vs',c',rfl,g1',g2',g3'⟩:=h2
 by_cases e:t=t'
 . rw [e];exact SeqAt.EqAt.same _
 . refine SeqAt.EqAt.of_refs e ?_
   have:=SeqAt.RcAt.tuples (A:=A) (e:=fun _=>true) (show s.heap.IsTuple t #[.str k tk,.ref l] from ⟨_,g1,rfl,_,rfl⟩) (show s.heap.IsTuple t' #[.str k tk',.ref l'] from ⟨_,g1',rfl,_,rfl⟩) (by omega) (fun j h1 h2=>by
     match j,h1,h2 with
     | 0,_,_=>have:=SeqAt.EqAt.str_str (A:=A.in1) (s:=s) k tk k tk';rwa [beq_self_eq_true] at this
     | 1,_,_=>exact rcLists (isListOf g2) (isListOf g2') g3 g3' (by show A.in1.units+_<_;rw [Around.in1_units];omega)
     | j+2,h,_=>exact absurd h (by simp))
   have e2:((List.range (min (#[Value.str k tk,Value.ref l]:Array Value).size (#[Value.str k tk',Value.ref l']:Array Value).size)).all fun _=>true)=true:=rfl
   rw [e2] at this
   exact this
 k_extra "f"
end
theorem SeenM.get {H:HM} {kvs:List (Str×Value)} {ats:List Att} (x:SeenM H kvs ats) (hn:(kvs.map (·.1)).Nodup) {n k:Str} {its:List PyData} (h:(n,k,its)∈ats):∃ y,valueAt kvs n=some y∧SRow H y k its:=by
 k_extra "s"
 obtain ⟨i,hi⟩:=List.mem_iff_getElem?.mp h
 have hl:kvs.length=ats.length:=by have:=congrArg List.length x.names;simpa using this
 have hlt:i<kvs.length:=by rw [hl];exact (List.getElem?_eq_some_iff.mp hi).1
 have hk:kvs[i]?=some kvs[i]:=List.getElem?_eq_getElem hlt
 obtain ⟨k',its',e,hs⟩:=SeenM.at x (i:=i) (n:=kvs[i].1) (v0:=kvs[i].2) hk
 rw [hi] at e;cases e
 exact ⟨_,valueAt_of_get hn hk,hs⟩
 k_extra "f"
section
variable {w:World} {A:Around} {E:Value->Shared->Prop} {s:Shared}
theorem seenHits {ka kb:List (Str×Value)} {ats sub:List Att} (sa:SeenM (hm s.heap) ka sub) (sb:SeenM (hm s.heap) kb ats) (hn:(kb.map (·.1)).Nodup) (hsub:∀ a∈sub,a∈ats) (hu:A.units+30<cLine):KeqHits A s kb ka true:=by
 k_extra "s"
 induction sa with
 | nil=>exact .nil
 | cons h _ ih =>
   obtain ⟨y,hy,hs⟩:=sb.get hn (hsub _ (.head _))
   have:=KeqHits.hit hy (eqRow h hs hu) (ih fun a ha=>hsub a (.tail _ ha))
   rwa [Bool.and_self] at this
 k_extra "f"
theorem dne_seen {a b:Addr} {oa ob:Obj} {ka kb:List (Str×Value)} {ats:List Att} {Q:Value->Shared->Prop} (ha:(a == sysModules)=false) (hb:(b == sysModules)=false) (ga:s.heap.get? a=some oa) (gb:s.heap.get? b=some ob)
   (da:oa.IsDictOf (PySem.strKind PG w) ka) (db:ob.IsDictOf (PySem.strKind PG w) kb) (sa:SeenM (hm s.heap) ka ats) (sb:SeenM (hm s.heap) kb ats) (hu:A.units+40<cLine) (h:Q (.bool false) s) :
   wpAny (model PG w) A (compareOp .NotEq (.ref a) (.ref b)) Q E s:=by
 k_extra "s"
 have la:ka.length=ats.length:=by have:=congrArg List.length sa.names;simpa using this
 have lb:kb.length=ats.length:=by have:=congrArg List.length sb.names;simpa using this
 refine keq_ne (r:=true) ha hb (Heap.dictOf_iff.mpr ⟨_,ga,da⟩) (Heap.dictOf_iff.mpr ⟨_,gb,db⟩) (by omega) (fun _=>seenHits sa sb (keysNodup_of_isDictOf db) (fun _ h=>h) (by show A.in1.units+_<_;rw [Around.in1_units];omega)) ?_
 rw [la,lb];simpa using h
 k_extra "f"
theorem ne_its {l b:Addr} {vs ws:List Value} {ds:List PyData} {Q:Value->Shared->Prop} (hl:s.heap.IsList l vs.toArray) (hb:s.heap.IsList b ws.toArray) (hv:ItsM (hm s.heap) vs ds) (hw:ItsM (hm s.heap) ws ds) (hu:A.units+20<cLine) (h:Q (.bool false) s) :
   wpAny (model PG w) A (compareOp .NotEq (.ref l) (.ref b)) Q E s:=by
 have:=SeqAt.RcNeAt.lists (A:=A) hl hb (by simp [hv.length,hw.length]) (by omega) (eqItems hv hw (by show A.in1.units+_<_;rw [Around.in1_units];omega))
 rw [allTrue] at this
 exact this _ _ _ _ h
theorem strsIts {H:HM}:∀ {vs:List Value} {cs:List Str},StrsAre vs cs->ItsM H vs (cs.map PyData.str)
 | _,_,.nil => .nil
 | _,_,.cons c t h => .cons (.str c t) (strsIts h)
theorem ne_tvs {l b:Addr} {vs ws:List Value} {ts:List (Option Bool)} {Q:Value->Shared->Prop} (hl:s.heap.IsList l vs.toArray) (hb:s.heap.IsList b ws.toArray) (hv:TvsV vs ts) (hw:TvsV ws ts) (hu:A.units+20<cLine) (h:Q (.bool false) s) :
   wpAny (model PG w) A (compareOp .NotEq (.ref l) (.ref b)) Q E s:=ne_its hl hb hv.its hw.its hu h
theorem ne_strs {l b:Addr} {vs ws:List Value} {ts:List Str} {Q:Value->Shared->Prop} (hl:s.heap.IsList l vs.toArray) (hb:s.heap.IsList b ws.toArray) (hv:StrsAre vs ts) (hw:StrsAre ws ts) (hu:A.units+20<cLine) (h:Q (.bool false) s) :
   wpAny (model PG w) A (compareOp .NotEq (.ref l) (.ref b)) Q E s:=ne_its hl hb (strsIts hv) (strsIts hw) hu h
end
theorem at_none {du dv:Vd} {eu ev:Option (List Int)} (hnu:eu≠none->attOf du.ats "names" = none) (hnv:ev≠none->attOf dv.ats "names" = none) :
   namesAts (nm9 du (du.items.length:Int) (rc du.items.length dv.items.length) (nm9 dv (dv.items.length:Int) (rc du.items.length dv.items.length) none dv.ats) du.ats)=shAts du dv eu ev (rc du.items.length dv.items.length).toNat none:=by
 k_extra "s"
 have key:∀ (d:Vd) (e:Option (List Int)) (x0:Option (Str×List PyData)),(e≠none->attOf d.ats "names" = none)->nm9 d (d.items.length:Int) (rc du.items.length dv.items.length) x0 d.ats=(namesOf d e (rc du.items.length dv.items.length).toNat).or x0:=fun d e x0 hn=>by
   have hr:0≤rc du.items.length dv.items.length:=by unfold rc;split<;>omega
   unfold nm9 namesOf
   by_cases h:(d.items.length:Int)=rc du.items.length dv.items.length
   . rw [if_pos h]
     cases e with
     | none=>rw [if_pos ⟨by omega,rfl⟩]
     | some ds=>rw [hn (by simp),if_neg (by simp)]
   . rw [if_neg h,if_neg (fun z=>h (by omega))];rfl
 rw [key dv ev none hnv,key du eu _ hnu]
 rfl
 k_extra "f"
end
section
section
variable {Q:Value->Shared->Prop}
theorem tseen_in {env:Env} {b:Heap} {L:Addr} {m:Str->Option Value} {news T:List (Addr×Obj)} {ds:List Addr} {g:List (Addr×Obj)->List (Addr×Obj)} {v:Addr} {dv:Vd}
   (off:Off T ds) (F:Fr b L s.heap m) (N:News b L s.heap news) (tl:TailF T news g) (hds:∀ d∈ds,∃ o,(d,o)∈news) (X:(KF w.params).In b) (hT:Top TP LO mean mg mb b) (R:Rm (A.deeper env) 4)
   (hV:VM w (hm s.heap) v dv) (hla:dv.ats.length≤10) (hli:∀ a∈dv.ats,a.2.2.length≤1000)
   (hQ:∀ h' tk D oD kvs T',Fr b L h' m->News b L h' ((D,oD)::g T')->AllNe D news->(∀ p∈T,p∈T')->Off T' ds->(D == sysModules)=false->oD.IsDictOf (PySem.strKind PG w) kvs->SeenM (hm h') kvs dv.ats->KB [] s.heap h'->Q (.ref D) {s with heap:=h',toks:=tk}) :
   wpAny (model PG w) (A.deeper env) (call (.ref 347) [.ref v]) Q E s:=by
 k_extra "s"
 refine lseen_ct (Gd.keeps ⟨X,hT⟩ F.keep) R (fun _ _ e=>e) hV hla hli ?_
 intro h' tk D oD kvs nw kb gD nD lo hd sm fr hne
 obtain ⟨e,rfl,hg⟩:=tl.split
 have F':=Fr.kb0 F kb
 refine hQ h' tk D oD kvs (nw++T) F' ?_ (allNe_of nD N) (fun p hp=>List.mem_append_right _ hp) ?_ lo hd (sm.mono fun a o z=>z.elim (fun z=>(fr _ z).1) fun z=>kb.stays _ _ z) kb
 . rw [hg]
   intro p hp
   rcases mC hp with rfl | hp
   . exact more1 kb gD nD F N _ (.head _)
   rcases List.mem_append.mp hp with hp | hp
   . exact News.kb0 N kb p (List.mem_append_left _ hp)
   rcases List.mem_append.mp hp with hp | hp
   . exact News.more' F (News.kb0 N kb) fr p (List.mem_append_left _ hp)
   . exact News.kb0 N kb p (List.mem_append_right _ hp)
 . intro p hp q
   rcases List.mem_append.mp hp with hp | hp
   . obtain ⟨o,ho⟩:=hds _ q
     have:=(N _ ho).1
     rw [(fr p hp).2] at this;cases this
   . exact off p hp q
 k_extra "f"
theorem namesAts_len {x:Option (Str×List PyData)}:(namesAts x).length≤1:=by cases x<;>simp [namesAts]
theorem attOf_mem {ats:List Att} {n k:Str} {its:List PyData} (h:attOf ats n=some (k,its)):∃ a∈ats,a.2.2=its:=by
 k_extra "s"
 unfold attOf at h
 cases e:List.find? (fun p=>decide (p.1=n)) ats with
 | none=>rw [e] at h;cases h
 | some a =>
   rw [e] at h
   exact ⟨a,List.mem_of_find?_eq_some e,by have h':a.2=(k,its):=Option.some.inj h;rw [h']⟩
 k_extra "f"
theorem shAts_few {du dv:Vd} {eu ev o:Option (List Int)} {n nu nv:Nat} (hu:DimIs du eu) (hv:DimIs dv ev) (hr:rdim nu nv eu ev = .ok o) (hli:∀ a∈du.ats,a.2.2.length≤1000) (hlj:∀ a∈dv.ats,a.2.2.length≤1000) :
   (shAts du dv eu ev n o).length≤10∧∀ a∈shAts du dv eu ev n o,a.2.2.length≤1000:=by
 k_extra "s"
 have nm:∀ (d:Vd) (e:Option (List Int)) (k:Str) (its:List PyData),(∀ a∈d.ats,a.2.2.length≤1000)->namesOf d e n=some (k,its)->its.length≤1000:=fun d e k its hl h=>by
   unfold namesOf at h
   split at h
   . obtain ⟨a,ha,e⟩:=attOf_mem h
     rw [← e];exact hl a ha
   . cases h
 cases o with
 | none =>
   refine ⟨Nat.le_trans namesAts_len (by omega),fun a ha=>?_⟩
   unfold shAts at ha
   cases e:shNames du dv eu ev n 2 with
   | none=>rw [e] at ha;cases ha
   | some q =>
     obtain ⟨k,its⟩:=q
     rw [e] at ha
     have ha':a=((Str.ofString "names",k,its):Att):=mS ha
     rw [ha']
     unfold shNames at e
     cases e1:namesOf du eu n with
     | some q1=>obtain ⟨k1,i1⟩:=q1;rw [e1] at e;cases e;exact nm _ _ _ _ hli e1
     | none =>
       rw [e1,Option.none_or,Option.or_none] at e
       exact nm _ _ _ _ hlj e
 | some ds =>
   refine ⟨by simp [shAts],fun a ha=>?_⟩
   have ha':a=((Str.ofString "dim",Str.ofString "integer",ds.map PyData.int):Att):=mS ha
   rw [ha']
   have:=rdim_le hu hv hr
   show (ds.map PyData.int).length≤1000
   rw [List.length_map];omega
 k_extra "f"
end
def OpL (w:World) (mean:ExcName->Option Value) (mg mb:Str->Option Value) (op:Addr) (f:Option Bool->Option Bool->Option Bool):Prop :=
 ∀ {A:Around} {E:Value->Shared->Prop} {s:Shared} {Q:Value->Shared->Prop} {x y:Value} {a b:Option Bool},Gd w mean mg mb s.heap->Rm A 5->TvV x a->TvV y b->(∀ h' tk v,KB [] s.heap h'->TvV v (f a b)->Q v {s with heap:=h',toks:=tk}) ->
   wpAny (model PG w) A (call (.ref op) [x,y]) Q E s
section
variable {Q:Value->Shared->Prop}
theorem OpL.use {op:Addr} {f:Option Bool->Option Bool->Option Bool} (H:OpL w mean mg mb op f) {x y:Value} {a b:Option Bool} (G:Gd w mean mg mb s.heap) (R:Rm A 5) (hx:TvV x a) (hy:TvV y b) (hQ:∀ h' tk v,KB [] s.heap h'->TvV v (f a b)->Q v {s with heap:=h',toks:=tk}) :
   wpAny (model PG w) A (call (.ref op) [x,y]) Q E s:=H G R hx hy hQ
end
end
section
theorem G77.g77:True:=True.intro
open G77
theorem kw284:True:=by
 k_with "k_all" => ((have:=g77;clear this);exact Off.ne (by assumption) (by k_mem))
 k_with "my tail" => ((have:=g77;clear this);first | exact TailF.head | (refine' TailF.tail ?A7q;(case A7q=>k_extra "my tail")))
 k_with "!callWith ref" => ((have:=g77;clear this);(k_dflt (refine' callWith_K ?A7r ?B7r ?_;(case A7r=>k_asm);(case B7r=>k_is);k_whole)))
 k_with "!eval Lambda" => ((have:=g77;clear this);refine Hold.out ?_)
 k_with "!eval Name" => ((have:=g77;clear this);(k_here;k_dflt (refine' nameX_Ft ?A7t ?I7t ?D7t ?H7t ?E7t ?_ ?B7t ?C7t ?F7t ?G7t;(case C7t=>exact rfl);(case B7t=>exact rfl);(case F7t=>decide);(case G7t=>decide);(case D7t=>exact rfl);(case H7t=>assumption);(case A7t=>k_asm);(case I7t=>k_extra "my tail");(case E7t=>assumption))))
 k_with "!eval Name" => ((have:=g77;clear this);(k_here;k_dflt (refine' nameX_Ct ?A7u ?H7u ?D7u ?G7u ?E7u ?_ ?B7u ?C7u ?F7u;(case C7u=>exact rfl);(case B7u=>exact rfl);(case F7u=>decide);(case D7u=>exact rfl);(case G7u=>assumption);(case A7u=>k_asm);(case H7u=>k_extra "my tail");(case E7u=>assumption))))
 k_with "!call builtin:len" => ((have:=g77;clear this);(k_here;(with_reducible show wpAny _ _ (call (Value.builtin "len") [Value.ref _]) _ _ _);k_dflt (refine' len_t ?A7v ?D7v ?B7v ?C7v ?E7v ?_;(case B7v=>assumption);(case C7v=>assumption);(case E7v=>assumption);(case A7v=>k_asm);(case D7v=>k_extra "my tail");k_whole)))
 exact True.intro
noncomputable def take5:List Stmt->List Stmt
 | a::b::c::d::e::_=>[a,b,c,d,e]
 | l=>l
def drop5:List Stmt->List Stmt
 | _::_::_::_::_::r=>r
 | _=>[]
@[reducible] noncomputable def lb1a:List Stmt:=Subtype.val (p:=fun b=>take5 lb1=b) (by k_extra "w")
@[reducible] noncomputable def lb1b:List Stmt:=Subtype.val (p:=fun b=>drop5 lb1=b) (by k_extra "w")
theorem lb1_eq:lb1=lb1a++lb1b:=rfl
inductive ShIs (T:List (Addr×Obj)):Value->Option (List Int)->Prop
 | none:ShIs T .none none
 | some {r:Addr} {ws:List Value} {c:Nat} {ds:List Int}:(r,listOf (List.toArray ws) c)∈T->IntsAre ws ds->ShIs T (.ref r) (some ds)
noncomputable abbrev LM (w:World) (L I:Addr) (oI oT oA oN:Obj) (ps:Array Value) (dt r2 dx2 ia2 nt:Addr) (xs6:List Value) (c6:Nat) (tka tkb tkc tkd tke tkf:Tok) (av2:Value) (vs2:List Value) (cc2:Nat) (xs2:List Value) (c2:Nat) (T:List (Addr×Obj)):List (Addr×Obj) :=
 (dt,listOf (List.toArray xs6) c6)::(r2,instObj 113 dx2)::(dx2,dictOf (vEnts w.params tka tkb tkc tkd tke (.str "logical" tkf) (.ref ia2) av2) 5)::(ia2,listOf (List.toArray vs2) cc2)::(nt,listOf (List.toArray xs2) c2)::(410,tabObj ps)::(I,oI)::(L+1+1+1,oT)::(L+1+1+1+1+1+1,oA)::(L+1+1+1+1+1+1+1,oN)::T
inductive Mid00 (w:World) (s:Shared) (b B:Heap) (L I ta:Addr) (oI:Obj) (m0:Str->Option Value) (T0:List (Addr×Obj)) (tot:Int) (o:Option (List Int)) (nts:List Str) (tvs:List (Option Bool)) (ats:List Att) (s':Shared):Prop
 | mk:∀ h' tk x1 tkt sh tk0 dt xs6 c6 r2 dx2 ia2 tka tkb tkc tkd tke tkf av2 vs2 cc2 nt xs2 c2 ps oT oA oN cA T2 nw2,
   (s' = {s with heap:=h',toks:=tk}) ->
   (Fr b L h' (FR1 m0 x1 (some (.int tot tkt)) (some sh) (some (.str "" tk0)) (some (.ref dt)) (some (.ref r2)))) ->
   (News b L h' (LM w L I oI oT oA oN ps dt r2 dx2 ia2 nt xs6 c6 tka tkb tkc tkd tke tkf av2 vs2 cc2 xs2 c2 T2)) ->
   (oT.data = .cell (some (.ref ta))) ->
   (oA.data = .cell cA) ->
   (oN.data = .cell (some (.ref nt))) ->
   (@Ne Nat (L+1+1+1) I∧@Ne Nat (L+1+1+1+1+1+1) I∧@Ne Nat (L+1+1+1+1+1+1+1) I∧@Ne Nat 410 I) ->
   (∀ p∈T0,p∈T2) ->
   (Off T2 [410,L+1+1+1,L+1+1+1+1+1+1,L+1+1+1+1+1+1+1,nt,I]) ->
   (TabOk T2 ps) ->
   (StrsAre xs6 nts) ->
   (StrsAre xs2 nts) ->
   (TvsV vs2 tvs) ->
   (∀ p∈nw2,p∈T2) ->
   (AtAt w (H4 B nw2) av2 ats) ->
   (ShIs T2 sh o) ->
   Mid00 w s b B L I ta oI m0 T0 tot o nts tvs ats s'
def Mid0 (w:World) (s:Shared) (b B:Heap) (L I ta:Addr) (oI:Obj) (m0:Str->Option Value) (T0:List (Addr×Obj)) (tot:Int) (o:Option (List Int)) (nts:List Str) (tvs:List (Option Bool)) (ats:List Att) (s':Shared):Prop:=Hold (Mid00 w s b B L I ta oI m0 T0 tot o nts tvs ats s')
section
variable {Q:Flow->Shared->Prop}
theorem _root_.PyProof.Rows.News.tail1 {b h:Heap} {L:Addr} {p:Addr×Obj} {l:List (Addr×Obj)} (N:News b L h (p::l)):News b L h l:=fun q hq=>N q (.tail _ hq)
theorem swap10 {b h:Heap} {L:Addr} {p a1 a2 a3 a4 a5 a6 a7 a8 a9 a10:Addr×Obj} {l:List (Addr×Obj)} (N:News b L h (p::a1::a2::a3::a4::a5::a6::a7::a8::a9::a10::l)):News b L h (a1::a2::a3::a4::a5::a6::a7::a8::a9::a10::p::l):=fun q hq=>N q (by
 revert hq
 k_extra "my sub")
theorem turn1a {b B:Heap} {L I t fa ta u v l1 l2:Addr} {oI oL oR oU oV:Obj} {i:Nat} {m m0:Str->Option Value} {news T0 TU:List (Addr×Obj)} {du dv:Vd} {fn:Option Bool->Option Bool->Option Bool} {eu ev o:Option (List Int)} {la ra:List Value} {ca cb:Nat} {target:Expr} {vr:Option Value} {mz:Str->Option Value}
   (htg:∃ p1 p2 p3,target = .Tuple [.Name "asked" p1,.Name "table" p2] 0 p3)
   (X:(KF w.params).In b) (T:Top TP LO mean mg mb b) (C:CodeHd b 412 410) (R:Rm (A.deeper (ENV L)) 25) (hfr:A.frames=some []) (hm0:m0=fun y=>if y=Str.ofString "texts" then some (.bool false) else if y=Str.ofString "row" then vr else mz y)
   (mL:(L+1,oL)∈T0) (mR:(L+1+1,oR)∈T0) (mU:(L+1+1+1+1+1+1+1+1+1,oU)∈T0) (mV:(L+1+1+1+1+1+1+1+1+1+1,oV)∈T0)
   (dL:oL.data = .cell (some (.ref l1))) (dR:oR.data = .cell (some (.ref l2))) (dU:oU.data = .cell (some (.ref u))) (dV:oV.data = .cell (some (.ref v))) (hlo:@LT.lt Nat _ 410 L)
   (ht:(t,({cls := .type "tuple",data := .seq #[.ref fa,.ref ta]}:Obj))∈T0) (hTU:∀ p∈TU,p∈T0) (bt:BT b B TU) (hU:VM w (hm B) u du) (hV:VM w (hm B) v dv)
   (hfn:AskedNum w mean mg mb fa fn) (hfa:FnAt fa b) (hku:Numv du) (hkv:Numv dv) (hu:DimIs du eu) (hv:DimIs dv ev) (hlu:du.items.length≤1000) (hlv:dv.items.length≤1000) (hnu:attOf du.ats "dimnames" = none) (hnv:attOf dv.ats "dimnames" = none) (hpu:∀ ds,eu=some ds->prod ds=du.items.length) (hpv:∀ ds,ev=some ds->prod ds=dv.items.length)
   (mla:(l1,listOf (List.toArray la) ca)∈T0) (mra:(l2,listOf (List.toArray ra) cb)∈T0) (ela:la.length=du.items.length) (era:ra.length=dv.items.length) (hr:rdim du.items.length dv.items.length eu ev = .ok o)
   (J:J1 L m0 T0 i m news) (hn:∀ p∈news,p.1≠I) (F:Fr b L s.heap m) (N:News b L s.heap ((I,oI)::news)) :
   wpAny (model PG w) (A.deeper (ENV L)) (assign target (ENV L) (.ref t)) (fun _ s₃=>wpAny (model PG w) (A.deeper (ENV L)) (execs lb1a (ENV L)) (fun f s'=>f = .next∧Mid0 w s b B L I ta oI m0 T0 (rc du.items.length dv.items.length) o (notes9 du.items.length dv.items.length eu ev) (pairT fn (du.items.map tru) (dv.items.map tru) (rc du.items.length dv.items.length).toNat) (shAts du dv eu ev (rc du.items.length dv.items.length).toNat o) s') E s₃) E s:=by
 k_extra "s"
 obtain ⟨x1,x2,x3,x4,x5,x6,oT,oA,oN,cT,cA,cN,ps,TT,rfl,rfl,dT,dA,dN,hT0,off,tb⟩:=J.out
 obtain ⟨p1,p2,p3,rfl⟩:=htg
 clear J
 subst hm0
 have hne:=allNe_all hn
 simp only [AllNe] at hne
 have hT9:IsTup s.heap t #[.ref fa,.ref ta]:=⟨_,((show News b L s.heap TT by k_extra "my pick") _ (hT0 _ ht)).1,rfl,_,rfl⟩
 replace mL:=hT0 _ mL
 replace mR:=hT0 _ mR
 replace mU:=hT0 _ mU
 replace mV:=hT0 _ mV
 unfold LG at N
 unfold FR1 at F
 k_steps
 refine Hold.mk ?_
 rename_i oA9 dA9 h8 oT9 dT9 tk9 nt h' l9 h9 oN9 F9 N9 dN9
 have ap:AllNe 410 ((nt,listOf #[] 0)::(I,oI)::(L+1+1+1,oT9)::(L+1+1+1+1+1+1,oA9)::(L+1+1+1+1+1+1+1,oN9)::TT):=⟨by k_ne,by k_ne,by k_ne,by k_ne,by k_ne,allNe_all (off.ne (.head _))⟩
 have ltT:∀ p∈TT,@LT.lt Nat _ p.1 nt:=allLt_all l9.2.2.2.2.2
 have neI:∀ p∈TT,p.1≠I:=by
   intro p hp
   exact hn p (mt3 (.tail _ hp))
 have offp:Off TT [410,L+1+1+1,L+1+1+1+1+1+1,L+1+1+1+1+1+1+1,nt,I]:=by
   intro p hp hd
   rcases List.mem_append.mp (show p.1∈[410,L+1+1+1,L+1+1+1+1+1+1,L+1+1+1+1+1+1+1]++[nt,I] from hd) with h | h
   . exact off p hp h
   . simp only [List.mem_cons,List.not_mem_nil,or_false] at h
     rcases h with h | h
     . exact Nat.lt_irrefl nt (h ▸ ltT p hp)
     . exact neI p hp h
 refine lam_mk (cs:=fs413) (cl:=cellsFrom (L+1) fs413.names []) C offp tb F9 (N:=by k_extra "my pick") (.tail (.tail (.tail (.tail (.tail .head))))) ?hds ap T (by rfl) ?_
 case hds =>
   intro d hd
   simp only [List.mem_cons,List.not_mem_nil,or_false] at hd
   rcases hd with rfl | rfl | rfl | rfl | rfl
   . exact ⟨_,mt2 (.head _)⟩
   . exact ⟨_,mt3 (.head _)⟩
   . exact ⟨_,mt4 (.head _)⟩
   . exact ⟨_,.head _⟩
   . exact ⟨_,.tail _ (.head _)⟩
 intro f h1 tk1 ps1 T1 F1 N1 LA FA sub off1 tb1
 obtain ⟨of,N1⟩:=N1
 k_steps
 have hnt:∀ p∈TU,p.1≠nt:=fun p hp e=>Nat.lt_irrefl nt (e ▸ ltT p (hT0 p (hTU p hp)))
 have NTU:News b L h1 TU:=fun p hp=>N1 p (mt7 (sub p (hT0 p (hTU p hp))))
 have cA1:CellAt h1 (L+1+1+1+1+1+1) (.ref fa):=⟨⟨_,(N1 _ (mt5 (.head _))).1,dA9⟩⟩
 have cN1:CellAt h1 (L+1+1+1+1+1+1+1) (.ref nt):=⟨⟨_,(N1 _ (mt6 (.head _))).1,dN9⟩⟩
 have cU1:CellAt h1 (L+1+1+1+1+1+1+1+1+1) (.ref u):=⟨⟨_,(N1 _ (mt7 (sub _ mU))).1,dU⟩⟩
 have cV1:CellAt h1 (L+1+1+1+1+1+1+1+1+1+1) (.ref v):=⟨⟨_,(N1 _ (mt7 (sub _ mV))).1,dV⟩⟩
 refine kept1_ok hr F1 N1 X T (R.le (by decide)) hfr rfl (show ScopeKind.function ≠ .module by decide) (mt2 (.head _)) FA LA cA1 cN1 cU1 cV1 bt NTU (fun p hp e=>hnt p hp (mS e)) hfn hfa hU hV hku hkv hu hv hlu hlv hnu hnv ?_
 intro h2 tk2 r2 xs2 c2 F2 kb2 gn2 sx2 told2
 obtain ⟨dx2,ia2,tka,tkb,tkc,tkd,tke,tkf,av2,vs2,cc2,nw2,fr2,lnw2,tv2,at2⟩:=told2.ex
 have fresh1:∀ p∈nw2,∀ q∈(f,of)::(410,tabObj ps1)::(nt,W.listOf #[] 0)::(I,oI)::(L+1+1+1,oT9)::(L+1+1+1+1+1+1,oA9)::(L+1+1+1+1+1+1+1,oN9)::T1,p.1≠q.1:=by
   intro p hp q hq e
   have a:=(fr2 p (mt2 (.tail _ hp))).2
   rw [e,(N1 q hq).1] at a
   cases a
 have nt9:∀ p∈(410,tabObj ps1)::(I,oI)::(L+1+1+1,oT9)::(L+1+1+1+1+1+1,oA9)::(L+1+1+1+1+1+1+1,oN9)::T1,p.1≠nt:=by
   intro p hp
   rcases mC hp with rfl | hp
   . exact Nat.ne_of_lt l9.2.2.2.2.1
   rcases mC hp with rfl | hp
   . exact Nat.ne_of_lt l9.1
   rcases mC hp with rfl | hp
   . exact Nat.ne_of_lt l9.2.1
   rcases mC hp with rfl | hp
   . exact Nat.ne_of_lt l9.2.2.1
   rcases mC hp with rfl | hp
   . exact Nat.ne_of_lt l9.2.2.2.1
   exact off1.ne (mt4 (.head _)) p hp
 have Nc:News b L h1 ((nt,W.listOf #[] 0)::(410,tabObj ps1)::(I,oI)::(L+1+1+1,oT9)::(L+1+1+1+1+1+1,oA9)::(L+1+1+1+1+1+1+1,oN9)::T1):=by
   intro p hp
   rcases mC hp with rfl | hp
   . exact N1 _ (mt2 (.head _))
   rcases mC hp with rfl | hp
   . exact N1 _ (.tail _ (.head _))
   exact N1 p (mt2 (.tail _ hp))
 have Un:UpdF nt (W.listOf #[] 0) ((nt,W.listOf #[] 0)::(410,tabObj ps1)::(I,oI)::(L+1+1+1,oT9)::(L+1+1+1+1+1+1,oA9)::(L+1+1+1+1+1+1+1,oN9)::T1) (fun o=>(nt,o)::(410,tabObj ps1)::(I,oI)::(L+1+1+1,oT9)::(L+1+1+1+1+1+1,oA9)::(L+1+1+1+1+1+1+1,oN9)::T1) := .head nt9
 have Nd:=News.more' F1 (News.kb1 Nc (UpdF.upd Un (listOf (List.toArray xs2) c2)) kb2 gn2) fr2
 have off2:Off (nw2++T1) [410,L+1+1+1,L+1+1+1+1+1+1,L+1+1+1+1+1+1+1,nt,I]:=by
   intro p hp hd
   rcases List.mem_append.mp hp with hp | hp
   . simp only [List.mem_cons,List.not_mem_nil,or_false] at hd
     rcases hd with h | h | h | h | h | h
     . exact fresh1 p hp _ (.tail _ (.head _)) h
     . exact fresh1 p hp _ (mt4 (.head _)) h
     . exact fresh1 p hp _ (mt5 (.head _)) h
     . exact fresh1 p hp _ (mt6 (.head _)) h
     . exact fresh1 p hp _ (mt2 (.head _)) h
     . exact fresh1 p hp _ (mt3 (.head _)) h
   . exact off1 p hp hd
 have sub2:∀ p∈T1,p∈nw2++T1:=fun p hp=>List.mem_append_right _ hp
 have nwT:∀ p∈nw2,p∈nw2++T1:=fun p hp=>List.mem_append_left _ hp
 have N2:News b L h2 ((r2,instObj 113 dx2)::(dx2,dictOf (vEnts w.params tka tkb tkc tkd tke (.str "logical" tkf) (.ref ia2) av2) 5)::(ia2,listOf (List.toArray vs2) cc2)::(nt,listOf (List.toArray xs2) c2)::(410,tabObj ps1)::(I,oI)::(L+1+1+1,oT9)::(L+1+1+1+1+1+1,oA9)::(L+1+1+1+1+1+1+1,oN9)::(nw2++T1)):=by
   intro p hp
   refine Nd p ?_
   simp only [List.cons_append,List.mem_cons,List.mem_append] at hp ⊢
   rcases hp with h | h | h | h | h | h | h | h | h | h | h<;>simp only [h,true_or,or_true]
 generalize nw2++T1=T2 at N2 off2 sub2 nwT
 clear Nd Nc Un fresh1 nt9 cA1 cN1 cU1 cV1 NTU N1 LA FA N9 F9 F1 offp kb2 gn2 fr2 told2
 replace mla:=sub2 _ (sub _ (hT0 _ mla))
 replace mra:=sub2 _ (sub _ (hT0 _ mra))
 replace mL:=sub2 _ (sub _ mL)
 replace mR:=sub2 _ (sub _ mR)
 replace mU:=sub2 _ (sub _ mU)
 replace mV:=sub2 _ (sub _ mV)
 have at2':=Hold.mk at2
 have nwT':=Hold.mk nwT
 have sx2':=Hold.mk sx2
 have tv2':=Hold.mk tv2
 clear at2 nwT sx2 tv2
 k_steps
 rename_i dt h4 l4 h5 F5 N5
 have ltT2:∀ p∈T2,@LT.lt Nat _ p.1 dt:=allLt_all l4.2.2.2.2.2.2.2.2.2
 have Ud:UpdF dt (listOf (List.toArray []) 0) ((dt,W.listOf #[] 0)::(r2,instObj 113 dx2)::(dx2,dictOf (vEnts w.params tka tkb tkc tkd tke (.str "logical" tkf) (.ref ia2) av2) 5)::(ia2,listOf (List.toArray vs2) cc2)::(nt,listOf (List.toArray xs2) c2)::(410,tabObj ps1)::(I,oI)::(L+1+1+1,oT9)::(L+1+1+1+1+1+1,oA9)::(L+1+1+1+1+1+1+1,oN9)::T2) (fun o=>(dt,o)::(r2,instObj 113 dx2)::(dx2,dictOf (vEnts w.params tka tkb tkc tkd tke (.str "logical" tkf) (.ref ia2) av2) 5)::(ia2,listOf (List.toArray vs2) cc2)::(nt,listOf (List.toArray xs2) c2)::(410,tabObj ps1)::(I,oI)::(L+1+1+1,oT9)::(L+1+1+1+1+1+1,oA9)::(L+1+1+1+1+1+1+1,oN9)::T2) := .head fun p hp=>by refine Nat.ne_of_lt (allLt_all ?_ p hp);exact l4
 have NU2:∀ p∈TU,p∈T2:=fun p hp=>sub2 _ (sub p (hT0 p (hTU p hp)))
 have NTU5:News b L h5 TU:=fun p hp=>N5 p (mt10 (NU2 p hp))
 have offdt:Off TU [dt]:=fun p hp e=>Nat.lt_irrefl dt ((mS e) ▸ ltT2 p (NU2 p hp))
 cases o with
 | none =>
   refine lshape_none hr F5 N5 Ud X T (R.le (by decide)) bt NTU5 offdt hU hV hu hv hlu hlv hpu hpv ?_
   intro h6 tk6 t6 tk7 tk8 tot6 xs6 c6 htot sx6 F6 N6 n6
   subst htot
   have sx6':=Hold.mk sx6
   clear F5 N5 Ud ltT2 NTU5 sx6
   (try dsimp only at N6)
   k_steps
   rename_i F8 N8
   exact Hold.mk ⟨_,_,x1,tk8,.none,tk7,dt,xs6,c6,r2,dx2,ia2,tka,tkb,tkc,tkd,tke,tkf,av2,vs2,cc2,nt,xs2,c2,ps1,oT9,oA9,oN9,_,T2,nw2,rfl,(show Fr b L _ (FR1 _ x1 _ _ _ _ _) from Eq.mp (congrArg (Fr b L _) FR1_five) F8),N8.tail1,
     dT9,dA9,dN9,⟨hne.1,hne.2.1,hne.2.2.1,hne.2.2.2.1⟩,fun p hp=>sub2 _ (sub p (hT0 p hp)),off2,tb1.mono sub2,sx6'.out,sx2'.out,tv2'.out,nwT'.out,at2'.out,.none⟩
 | some ds =>
   refine lshape_some hr F5 N5 Ud X T (R.le (by decide)) bt NTU5 offdt hU hV hu hv hlu hlv hpu hpv ?_
   intro h6 tk6 t6 tk7 tk8 tot6 xs6 c6 r6 ws6 cr6 htot sx6 iv6 F6 N6 n6 n7 n8
   subst htot
   have sx6':=Hold.mk sx6
   have iv6':=Hold.mk iv6
   have off6:Off ((r6,listOf (List.toArray ws6) cr6)::T2) [410,L+1+1+1,L+1+1+1+1+1+1,L+1+1+1+1+1+1+1,nt,I]:=Off.cons ⟨Ne.symm n7.2.2.2.2.2.1,Ne.symm n7.2.2.2.2.2.2.2.1,Ne.symm n7.2.2.2.2.2.2.2.2.1,Ne.symm n7.2.2.2.2.2.2.2.2.2.1,Ne.symm n7.2.2.2.2.1,Ne.symm n7.2.2.2.2.2.2.1,True.intro⟩ off2
   clear F5 N5 Ud ltT2 NTU5 sx6 iv6
   (try dsimp only at N6)
   k_steps
   rename_i F8 N8
   exact Hold.mk ⟨_,_,x1,tk8,.ref r6,tk7,dt,xs6,c6,r2,dx2,ia2,tka,tkb,tkc,tkd,tke,tkf,av2,vs2,cc2,nt,xs2,c2,ps1,oT9,oA9,oN9,_,(r6,listOf (List.toArray ws6) cr6)::T2,nw2,rfl,(show Fr b L _ (FR1 _ x1 _ _ _ _ _) from Eq.mp (congrArg (Fr b L _) FR1_five) F8),swap10 N8.tail1,
     dT9,dA9,dN9,⟨hne.1,hne.2.1,hne.2.2.1,hne.2.2.2.1⟩,fun p hp => .tail _ (sub2 _ (sub p (hT0 p hp))),off6,(tb1.mono sub2).mono fun p hp => .tail _ hp,sx6'.out,sx2'.out,tv2'.out,fun p hp => .tail _ (nwT'.out p hp),at2'.out,.some (.head _) iv6'.out⟩
 k_extra "f"
end
end
section
theorem G78.g78:True:=True.intro
open G78
theorem kw290:True:=by
 k_with "k_all" => ((have:=g78;clear this);exact Off.ne (by assumption) (by k_mem))
 k_with "my tail" => ((have:=g78;clear this);first | exact TailF.head | (refine' TailF.tail ?A7y;(case A7y=>k_extra "my tail")))
 k_with "!callWith ref" => ((k_dflt (refine' callWith_K ?A7z ?B7z ?_;(case A7z=>k_asm);(case B7z=>k_is);k_whole)))
 k_with "!callWith ref" => (((with_reducible refine' callWith_F ?A80 ?_ ?B80 ?C80);(case A80=>k_dflt (exact fnSt (by with_reducible assumption) (Fr.keep (by assumption))));(case B80=>k_dflt rfl);(case C80=>k_dflt rfl)))
 k_with "!eval Lambda" => (refine Hold.out ?_)
 exact True.intro
section
section
variable {M:Model} {A:Around} {E:Value->Shared->Prop} {s:Shared} {h₀:Heap} {L C c:Addr} {news T:List (Addr×Obj)} {g:List (Addr×Obj)->List (Addr×Obj)} {scope:Scope} {cl:List (Str×Addr)} {env:Env} {x:Str} {pos:Pos} {v:Value} {o:Obj} {Q:Value->Shared->Prop}
theorem nameK_Ft (N:News h₀ L s.heap news) (tl:TailF T news g) (hc:cl.lookup x=some c) (hm:(c,o)∈T) (hd:o.data = .cell (some v)) (h:Q v s)
   (hk:(compEnvC scope cl C env).scope.kind = .function) (hx:(compEnvC scope cl C env).kindOf x=some .free) (hb:(x == ("__debug__" : Str))=false:=by decide) (hn:(x == ("__classdict__" : Str))=false:=by decide) :
   wpAny M A (eval (.Name x pos) (compEnvC scope cl C env)) Q E s:=lcf_free N hc (tl.mem hm) hd h hk hx hb hn
theorem nameK_Ct (N:News h₀ L s.heap news) (tl:TailF T news g) (hc:cl.lookup x=some c) (hm:(c,o)∈T) (hd:o.data = .cell (some v)) (h:Q v s)
   (hk:(compEnvC scope cl C env).scope.kind = .function) (hx:(compEnvC scope cl C env).kindOf x=some .cell) (hb:(x == ("__debug__" : Str))=false:=by decide) :
   wpAny M A (eval (.Name x pos) (compEnvC scope cl C env)) Q E s:=lcf_cell N hc (tl.mem hm) hd h hk hx hb
end
theorem G79.g79:True:=True.intro
open G79
theorem kw297:True:=by
 k_with "!eval Name" => ((have:=g79;clear this);(k_here;(with_reducible show wpAny _ _ (eval (Expr.Name _ _) (ENV _)) _ _ _);k_dflt (refine' nameX_Ft ?A83 ?I83 ?D83 ?H83 ?E83 ?_ ?B83 ?C83 ?F83 ?G83;(case C83=>exact rfl);(case B83=>exact rfl);(case F83=>decide);(case G83=>decide);(case D83=>exact rfl);(case H83=>assumption);(case A83=>k_asm);(case I83=>k_extra "my tail");(case E83=>assumption))))
 k_with "!eval Name" => ((have:=g79;clear this);(k_here;(with_reducible show wpAny _ _ (eval (Expr.Name _ _) (ENV _)) _ _ _);k_dflt (refine' nameX_Ct ?A84 ?H84 ?D84 ?G84 ?E84 ?_ ?B84 ?C84 ?F84;(case C84=>exact rfl);(case B84=>exact rfl);(case F84=>decide);(case D84=>exact rfl);(case G84=>assumption);(case A84=>k_asm);(case H84=>k_extra "my tail");(case E84=>assumption))))
 k_with "!eval Name" => ((have:=g79;clear this);(k_here;(with_reducible show wpAny _ _ (eval (Expr.Name _ _) (compEnvC _ _ _ _)) _ _ _);k_dflt (refine' nameK_Ft ?A85 ?I85 ?D85 ?H85 ?E85 ?_ ?B85 ?C85 ?F85 ?G85;(case C85=>exact rfl);(case B85=>exact rfl);(case F85=>decide);(case G85=>decide);(case D85=>exact rfl);(case H85=>assumption);(case A85=>k_asm);(case I85=>k_extra "my tail");(case E85=>assumption))))
 k_with "!eval Name" => ((have:=g79;clear this);(k_here;(with_reducible show wpAny _ _ (eval (Expr.Name _ _) (compEnvC _ _ _ _)) _ _ _);k_dflt (refine' nameK_Ct ?A86 ?H86 ?D86 ?G86 ?E86 ?_ ?B86 ?C86 ?F86;(case C86=>exact rfl);(case B86=>exact rfl);(case F86=>decide);(case D86=>exact rfl);(case G86=>assumption);(case A86=>k_asm);(case H86=>k_extra "my tail");(case E86=>assumption))))
 k_with "!call builtin:len" => ((have:=g79;clear this);(k_here;(with_reducible show wpAny _ _ (call (Value.builtin "len") [Value.ref _]) _ _ _);k_dflt (refine' len_t ?A87 ?D87 ?B87 ?C87 ?E87 ?_;(case B87=>assumption);(case C87=>assumption);(case E87=>assumption);(case A87=>k_asm);(case D87=>k_extra "my tail");k_whole)))
 k_with "c*" => ((k_here;k_dflt (refine OpL.use (by with_reducible assumption) (by k_extra "my gd") (by k_extra "my rm") (by with_reducible assumption) (by with_reducible assumption) ?_);k_extra "my kb0"))
 exact True.intro
section
variable {w:World} {A:Around} {E:Value->Shared->Prop} {s:Shared}
theorem litem_t {b:Heap} {L:Addr} {value slice:Expr} {l:Addr} {vs:List Value} {c n:Nat} {ts:List (Option Bool)} {i:Nat} {t:Tok} {news T:List (Addr×Obj)} {g:List (Addr×Obj)->List (Addr×Obj)} {Q:Value->Shared->Prop} (N:News b L s.heap news) (tl:TailF T news g) (hm:(l,listOf (List.toArray vs) c)∈T) (ht:TvsV vs ts) (hn:vs.length=n) (hne:(vs.length:Int)≠0) (hsm:n≤1000)
   (h:∀ x,TvV x (ts.getD (i % ts.length) none)->Q x s)
   (hs:∀ k,subscripted slice false (.ref l) (.int k t)=operate [.ref l,.int k t] (getItem (.ref l) (.int k t)):=by intro _;with_unfolding_all rfl) (hg:∀ r,letTemporaryGo value (.ref l) r=pure ():=by intro _;with_unfolding_all rfl) :
   wpAny (model PG w) A (subscriptTail value slice (.ref l) (.int ((0+(i:Int)).fmod (n:Int)) t)) Q E s:=by
 have e:(n:Int)=((vs.toArray.size:Nat):Int):=by rw [List.size_toArray,hn]
 rw [e]
 exact litem (News.isList N (tl.mem hm)) ht hne (by omega) h hs hg
end
theorem kw302:True:=by
 k_with "!subscriptTail" => ((have:=g79;clear this);(k_here;(with_reducible show wpAny _ _ (subscriptTail _ _ (Value.ref _) (Value.int (Int.fmod _ _) _)) _ _ _);k_dflt (refine' litem_t ?A8a ?B8a ?C8a ?D8a ?E8a ?F8a ?G8a ?_;(case C8a=>assumption);(case A8a=>k_asm);(case B8a=>k_extra "my tail");(case D8a=>with_reducible assumption);(case E8a=>assumption);(case F8a=>assumption);(case G8a=>assumption));intro x8 t8;(revert x8 t8;intro _ _)))
 k_with "!compareOp NotEq ref ref" => ((have:=g79;clear this);(k_here;k_dflt (refine' ne_strs ?A8b ?B8b ?C8b ?D8b ?E8b ?_;(case A8b=>exact News.isList (by k_asm) (by k_mem));(case B8b=>exact News.isList (by k_asm) (by k_mem));(case C8b=>with_reducible assumption);(case D8b=>with_reducible assumption);(case E8b=>k_extra "my room"))))
 k_with "!compareOp NotEq ref ref" => ((have:=g79;clear this);(k_here;k_dflt (refine' ne_tvs ?A8c ?B8c ?C8c ?D8c ?E8c ?_;(case A8c=>exact News.isList (by k_asm) (by k_mem));(case B8c=>exact News.isList (by k_asm) (by k_mem));(case C8c=>with_reducible assumption);(case D8c=>with_reducible assumption);(case E8c=>k_extra "my room"))))
 k_with "my dom" => (first | exact List.forall_mem_nil _ | (refine List.forall_mem_cons.mpr ⟨⟨_,by k_mem⟩,?_⟩;k_extra "my dom"))
 exact True.intro
theorem FR1_items {m0:Str->Option Value} {x1 x2 x3 x4 x5 x6 v:Option Value}:(fun y=>if y=Str.ofString "items" then v else FR1 m0 x1 x2 x3 x4 x5 x6 y)=FR1 m0 v x2 x3 x4 x5 x6:=by
 k_extra "s"
 funext y
 by_cases h:y=Str.ofString "items"
 . subst h;rfl
 . simp only [FR1,if_neg h]
 k_extra "f"
section
variable {Q:Flow->Shared->Prop}
set_option maxHeartbeats 2000000 in
theorem turn1b {b B:Heap} {L I ta u v l1 l2:Addr} {oI oL oR oU oV:Obj} {i:Nat} {m0:Str->Option Value} {T0 TU:List (Addr×Obj)} {du dv:Vd} {fn:Option Bool->Option Bool->Option Bool} {eu ev o:Option (List Int)} {la ra:List Value} {ca cb:Nat} {s':Shared}
   (X:(KF w.params).In b) (T:Top TP LO mean mg mb b) (R:Rm (A.deeper (ENV L)) 25)
   (mL:(L+1,oL)∈T0) (mR:(L+1+1,oR)∈T0) (mU:(L+1+1+1+1+1+1+1+1+1,oU)∈T0) (mV:(L+1+1+1+1+1+1+1+1+1+1,oV)∈T0)
   (dL:oL.data = .cell (some (.ref l1))) (dR:oR.data = .cell (some (.ref l2))) (dU:oU.data = .cell (some (.ref u))) (dV:oV.data = .cell (some (.ref v)))
   (hTU:∀ p∈TU,p∈T0) (bt:BT b B TU) (hU:VM w (hm B) u du) (hV:VM w (hm B) v dv) (hta:FnAt ta b) (hop:OpL w mean mg mb ta fn)
   (hu:DimIs du eu) (hv:DimIs dv ev) (hlu:du.items.length≤1000) (hlv:dv.items.length≤1000) (hxu:eu≠none->attOf du.ats "names" = none) (hxv:ev≠none->attOf dv.ats "names" = none)
   (hla:du.ats.length≤10) (hli:∀ a∈du.ats,a.2.2.length≤1000) (hlb:dv.ats.length≤10) (hlj:∀ a∈dv.ats,a.2.2.length≤1000)
   (mla:(l1,listOf (List.toArray la) ca)∈T0) (mra:(l2,listOf (List.toArray ra) cb)∈T0) (ela:la.length=du.items.length) (era:ra.length=dv.items.length) (tla:TvsV la (du.items.map tru)) (tra:TvsV ra (dv.items.map tru)) (hr:rdim du.items.length dv.items.length eu ev = .ok o)
   (hM:Mid0 w s b B L I ta oI m0 T0 (rc du.items.length dv.items.length) o (notes9 du.items.length dv.items.length eu ev) (pairT fn (du.items.map tru) (dv.items.map tru) (rc du.items.length dv.items.length).toNat) (shAts du dv eu ev (rc du.items.length dv.items.length).toNat o) s') :
   wpAny (model PG w) (A.deeper (ENV L)) (execs lb1b (ENV L)) (TEnd b L I oI (J1 L m0 T0 (i+1)) s Q) E s':=by
 k_extra "s"
 obtain ⟨h',tk,x1,tkt,sh,tk0,dt,xs6,c6,r2,dx2,ia2,tka,tkb,tkc,tkd,tke,tkf,av2,vs2,cc2,nt,xs2,c2,ps,oT,oA,oN,cA,T2,nw2,rfl,F,N,dT,dA,dN,ne2,sub2,off2,tb2,sx6,sx2,tv2,nwT,at2,shi⟩:=hM.out
 clear hM
 replace mla:=sub2 _ mla
 replace mra:=sub2 _ mra
 replace mL:=sub2 _ mL
 replace mR:=sub2 _ mR
 replace mU:=sub2 _ mU
 replace mV:=sub2 _ mV
 have at3:=Hold.mk at2
 have few:=Hold.mk (shAts_few (n:=(rc du.items.length dv.items.length).toNat) hu hv hr hli hlj)
 have ne3:=Hold.mk ne2
 clear at2 ne2
 unfold LM at N
 unfold FR1 at F
 k_steps
 rename_i h8 tk8' t8 u8 v8 hrg F8 N8 kb8
 dsimp only at hrg
 have N9:=N8
 refine LCg.CompSrc.range (by k_extra "my hh") F8 N9 hrg (small_one (by omega) (by omega) (by unfold rc;omega) (by unfold rc;omega)) (rangeSize_nat _ _) (by rw [sizeLine_eq];unfold rc;omega) fun g=>?_
 refine comp_inv (n:=(rc du.items.length dv.items.length - 0).toNat) (fun i ys news=>news=LM w L I oI oT oA oN ps dt r2 dx2 ia2 nt xs6 c6 tka tkb tkc tkd tke tkf av2 vs2 cc2 xs2 c2 T2∧TvsV ys (pairT fn (du.items.map tru) (dv.items.map tru) i)) ?turn ?fin _ _ _ _ (Nat.zero_add _) ⟨rfl,.nil⟩
 case turn =>
   rintro i9 ys _ hi ⟨rfl,hys⟩ v9 J9 oJ oC C9 D m₂ h9 tk9 E' ⟨ti,rfl⟩ hoC hmm F10 N10 off9 ne9
   have hpos:0<du.items.length∧0<dv.items.length:=by first | exact rc_pos hi | (unfold rc at hi;split at hi<;>omega)
   have hlu1:(la.length:Int)≠0:=by omega
   have hlv1:(ra.length:Int)≠0:=by omega
   clear N8 N9 F8
   unfold LM at N10
   k_steps
   try (exact fnSt hta F10.keep)
   refine LCg.CompEnd.intro (by assumption) (by assumption) (LM w L I oI oT oA oN ps dt r2 dx2 ia2 nt xs6 c6 tka tkb tkc tkd tke tkf av2 vs2 cc2 xs2 c2 T2) (fun _ h=>h) off9 True.intro ⟨rfl,?_⟩
   rw [pairT_succ]
   exact TvsV.snoc hys (by assumption)
 case fin =>
   rintro ys _ ⟨rfl,hys⟩ D h tk F N off
   clear N8 N9 F8
   rw [Int.sub_zero] at hys
   unfold LM at N
   k_steps
   have VT:VM w (hm h) r2 ⟨Str.ofString "logical",(pairT fn (du.items.map tru) (dv.items.map tru) (rc du.items.length dv.items.length).toNat).map tvd,shAts du dv eu ev (rc du.items.length dv.items.length).toNat o⟩ :=
     .vec (show ¬(Str.ofString "logical" = Str.ofString "NULL") by decide) ⟨_,_,_,_,_,_,_,_,_,(N _ (mt2 (.head _))).1,(N _ (mt3 (.head _))).1,(N _ (mt4 (.head _))).1,tv2.its⟩ (at3.out.mono fun a o q=>q.elim (fun q=>(N _ (mt11 (nwT _ q))).1) fun q=>bt.stays F (fun p hp=>N p (mt11 (sub2 _ (hTU p hp)))) _ _ q)
   refine tseen_in off2 F N ((.tail (.tail (.tail (.tail (.tail (.tail (.tail (.tail (.tail (.tail (.tail .head)))))))))))) (by k_extra "my dom") X T (R.le (by decide)) VT few.out.1 few.out.2 ?_
   intro h11 tk11 D11 oD11 kvs11 T11 F11 N11 n11 sub11 off11 lo11 hd11 sm11 kb11
   replace mla:=sub11 _ mla
   replace mra:=sub11 _ mra
   replace mL:=sub11 _ mL
   replace mR:=sub11 _ mR
   replace mU:=sub11 _ mU
   replace mV:=sub11 _ mV
   clear VT F N kb11
   k_steps
   have NT11:News b L h11 TU:=fun p hp=>N11 p (mt12 (sub11 _ (sub2 _ (hTU p hp))))
   cases shi with
   | none =>
     refine latt_none (Gd.keeps ⟨X,T⟩ F11.keep) (R.le (by decide)) (bt.stays F11 NT11) hU hV hla hli hlb hlj ?_
     intro h12 tk12 D12 oD12 kvs12 kb12 g12 n12 lo12 hd12 sm12
     rw [at_none hxu hxv] at sm12
     have N12:=more1 kb12 g12 n12 F11 N11
     have F12:=Fr.kb0 F11 kb12
     replace sm11:=sm11.mono fun a o q=>kb12.stays _ _ q
     clear F11 N11 NT11 kb12 g12 n12
     dsimp only
     refine dne_seen lo11 lo12 (N12 _ (.tail _ (.head _))).1 (N12 _ (.head _)).1 hd11 hd12 sm11 sm12 (by k_extra "my room") ?_
     clear sm11 sm12 hd11 hd12
     k_steps
     refine TEnd.intro (F:=(show Fr b L h12 (FR1 m0 (some (.ref D)) _ _ _ _ _) from Eq.mp (congrArg (Fr b L h12) FR1_items) F12)) (news':=LG L oT oA oN ps T11) ?_ ?_ ?_
     . intro p hp
       rcases mC hp with rfl | hp
       . exact N12 _ (mt9 (.head _))
       exact N12 p (mt8 (LG_mem hp))
     . intro p hp
       simp only [LG,List.mem_cons] at hp
       rcases hp with rfl | rfl | rfl | rfl | h
       . exact ne3.out.1
       . exact ne3.out.2.1
       . exact ne3.out.2.2.1
       . exact ne3.out.2.2.2
       . exact off11.ne (mt5 (.head _)) p h
     . exact .mk ⟨_,_,_,_,_,_,oT,oA,oN,_,_,_,ps,T11,rfl,rfl,dT,dA,dN,fun p hp=>sub11 _ (sub2 p hp),fun p hp hd=>off11 p hp (List.mem_append_left [nt,I] hd),tb2.mono sub11⟩
   | @some rs ws cs ds mrs ivs =>
     refine latt_some (Gd.keeps ⟨X,T⟩ F11.keep) (R.le (by decide)) (bt.stays F11 NT11) hU hV hla hli hlb hlj (N11 _ (mt12 (sub11 _ mrs))).1 ivs ?_
     intro h12 tk12 D12 oD12 kvs12 kb12 g12 n12 lo12 hd12 sm12
     replace sm12:SeenM (hm h12) kvs12 (shAts du dv eu ev (rc du.items.length dv.items.length).toNat (some ds)):=sm12
     have N12:=more1 kb12 g12 n12 F11 N11
     have F12:=Fr.kb0 F11 kb12
     replace sm11:=sm11.mono fun a o q=>kb12.stays _ _ q
     clear F11 N11 NT11 kb12 g12 n12
     dsimp only
     refine dne_seen lo11 lo12 (N12 _ (.tail _ (.head _))).1 (N12 _ (.head _)).1 hd11 hd12 sm11 sm12 (by k_extra "my room") ?_
     clear sm11 sm12 hd11 hd12
     k_steps
     refine TEnd.intro (F:=(show Fr b L h12 (FR1 m0 (some (.ref D)) _ _ _ _ _) from Eq.mp (congrArg (Fr b L h12) FR1_items) F12)) (news':=LG L oT oA oN ps T11) ?_ ?_ ?_
     . intro p hp
       rcases mC hp with rfl | hp
       . exact N12 _ (mt9 (.head _))
       exact N12 p (mt8 (LG_mem hp))
     . intro p hp
       simp only [LG,List.mem_cons] at hp
       rcases hp with rfl | rfl | rfl | rfl | h
       . exact ne3.out.1
       . exact ne3.out.2.1
       . exact ne3.out.2.2.1
       . exact ne3.out.2.2.2
       . exact off11.ne (mt5 (.head _)) p h
     . exact .mk ⟨_,_,_,_,_,_,oT,oA,oN,_,_,_,ps,T11,rfl,rfl,dT,dA,dN,fun p hp=>sub11 _ (sub2 p hp),fun p hp hd=>off11 p hp (List.mem_append_left [nt,I] hd),tb2.mono sub11⟩
 k_extra "f"
end
end
section
section
variable {Q:Flow->Shared->Prop}
structure LCb (w:World) (b B:Heap) (L u v l1 l2:Addr) (T0 TU:List (Addr×Obj)) (du dv:Vd):Prop where
 mL:∃ o,(L+1,o)∈T0∧o.data = .cell (some (.ref l1))
 mR:∃ o,(L+1+1,o)∈T0∧o.data = .cell (some (.ref l2))
 mU:∃ o,(L+1+1+1+1+1+1+1+1+1,o)∈T0∧o.data = .cell (some (.ref u))
 mV:∃ o,(L+1+1+1+1+1+1+1+1+1+1,o)∈T0∧o.data = .cell (some (.ref v))
 hlo:@LT.lt Nat _ 410 L
 hTU:∀ p∈TU,p∈T0
 bt:BT b B TU
 hU:VM w (hm B) u du
 hV:VM w (hm B) v dv
 hlu:du.items.length≤1000
 hlv:dv.items.length≤1000
structure LCn (w:World) (b B:Heap) (L u v l1 l2:Addr) (T0 TU:List (Addr×Obj)) (du dv:Vd) (eu ev:Option (List Int)) (la ra:List Value):Prop extends LCb w b B L u v l1 l2 T0 TU du dv where
 hku:Numv du
 hkv:Numv dv
 hu:DimIs du eu
 hv:DimIs dv ev
 hnu:attOf du.ats "dimnames" = none
 hnv:attOf dv.ats "dimnames" = none
 hpu:∀ ds,eu=some ds->prod ds=du.items.length
 hpv:∀ ds,ev=some ds->prod ds=dv.items.length
 hxu:eu≠none->attOf du.ats "names" = none
 hxv:ev≠none->attOf dv.ats "names" = none
 hla:du.ats.length≤10
 hli:∀ a∈du.ats,a.2.2.length≤1000
 hlb:dv.ats.length≤10
 hlj:∀ a∈dv.ats,a.2.2.length≤1000
 mla:∃ c,(l1,listOf (List.toArray la) c)∈T0
 mra:∃ c,(l2,listOf (List.toArray ra) c)∈T0
 ela:la.length=du.items.length
 era:ra.length=dv.items.length
 tla:TvsV la (du.items.map tru)
 tra:TvsV ra (dv.items.map tru)
abbrev M0 (b:Bool) (vr:Option Value) (mz:Str->Option Value):Str->Option Value:=fun y=>if y=Str.ofString "texts" then some (.bool b) else if y=Str.ofString "row" then vr else mz y
theorem turn1_num {b B:Heap} {L I t fa ta u v l1 l2:Addr} {oI:Obj} {i:Nat} {m:Str->Option Value} {news T0 TU:List (Addr×Obj)} {du dv:Vd} {fn:Option Bool->Option Bool->Option Bool} {eu ev:Option (List Int)} {la ra:List Value} {target:Expr} {vr:Option Value} {mz:Str->Option Value}
   (Z:LCn w b B L u v l1 l2 T0 TU du dv eu ev la ra) (htg:∃ p1 p2 p3,target = .Tuple [.Name "asked" p1,.Name "table" p2] 0 p3)
   (X:(KF w.params).In b) (T:Top TP LO mean mg mb b) (C:CodeHd b 412 410) (R:Rm (A.deeper (ENV L)) 25) (hfr:A.frames=some [])
   (ht:(t,({cls := .type "tuple",data := .seq #[.ref fa,.ref ta]}:Obj))∈T0) (hfn:AskedNum w mean mg mb fa fn) (hfa:FnAt fa b) (hta:FnAt ta b) (hop:OpL w mean mg mb ta fn)
   (J:J1 L (M0 false vr mz) T0 i m news) (hn:∀ p∈news,p.1≠I) (F:Fr b L s.heap m) (N:News b L s.heap ((I,oI)::news)) :
   wpAny (model PG w) (A.deeper (ENV L)) (assign target (ENV L) (.ref t)) (fun _ s₃=>wpAny (model PG w) (A.deeper (ENV L)) (execs lb1 (ENV L)) (TEnd b L I oI (J1 L (M0 false vr mz) T0 (i+1)) s Q) E s₃) E s:=by
 k_extra "s"
 obtain ⟨oL,mL,dL⟩:=Z.mL
 obtain ⟨oR,mR,dR⟩:=Z.mR
 obtain ⟨oU,mU,dU⟩:=Z.mU
 obtain ⟨oV,mV,dV⟩:=Z.mV
 obtain ⟨ca,mla⟩:=Z.mla
 obtain ⟨cb,mra⟩:=Z.mra
 cases hr:rdim du.items.length dv.items.length eu ev with
 | error msg=>exact turn1_err htg X T C R hfr rfl mL mR mU mV dL dR dU dV Z.hlo ht Z.hTU Z.bt Z.hU Z.hV hfn hfa Z.hku Z.hkv Z.hu Z.hv Z.hlu Z.hlv Z.hnu Z.hnv Z.hpu Z.hpv mla mra Z.ela Z.era hr (rdim_ne hr) J hn F N
 | ok o =>
   refine wpAny_mono (turn1a htg X T C R hfr rfl mL mR mU mV dL dR dU dV Z.hlo ht Z.hTU Z.bt Z.hU Z.hV hfn hfa Z.hku Z.hkv Z.hu Z.hv Z.hlu Z.hlv Z.hnu Z.hnv Z.hpu Z.hpv mla mra Z.ela Z.era hr J hn F N) (fun _ s₃ h=>?_) fun _ _ e=>e
   rw [lb1_eq]
   refine execs_app (wpAny_mono h (fun f s' z=>?_) fun _ _ e=>e)
   obtain ⟨rfl,hM⟩:=z
   exact turn1b X T R mL mR mU mV dL dR dU dV Z.hTU Z.bt Z.hU Z.hV hta hop Z.hu Z.hv Z.hlu Z.hlv Z.hxu Z.hxv Z.hla Z.hli Z.hlb Z.hlj mla mra Z.ela Z.era Z.tla Z.tra hr hM
 k_extra "f"
theorem opl_and:OpL w mean mg mb 380 and3:=fun G R hx hy hQ=>land_ct G (R.le (by decide)) hx hy hQ
theorem opl_or:OpL w mean mg mb 394 or3:=fun G R hx hy hQ=>lor_ct G R hx hy hQ
theorem opl_xor:OpL w mean mg mb 401 xor3:=fun G R hx hy hQ=>lxor_ct G (R.le (by decide)) hx hy hQ
structure Trip (b:Heap) (T0:List (Addr×Obj)) (l0 t1 t2 t3:Addr):Prop where
 hl0:∃ c,(l0,listOf (List.toArray [.ref t1,.ref t2,.ref t3]) c)∈T0
 h1:(t1,({cls := .type "tuple",data := .seq #[.ref 253,.ref 380]}:Obj))∈T0
 h2:(t2,({cls := .type "tuple",data := .seq #[.ref 260,.ref 394]}:Obj))∈T0
 h3:(t3,({cls := .type "tuple",data := .seq #[.ref 267,.ref 401]}:Obj))∈T0
 f1:FnAt 253 b∧FnAt 380 b
 f2:FnAt 260 b∧FnAt 394 b
 f3:FnAt 267 b∧FnAt 401 b
theorem J1.T_ {L:Addr} {m0 m:Str->Option Value} {T0 news:List (Addr×Obj)} {i:Nat} (J:J1 L m0 T0 i m news):∀ p∈T0,p∈news:=by
 obtain ⟨x1,x2,x3,x4,x5,x6,oT,oA,oN,cT,cA,cN,ps,TT,rfl,rfl,dT,dA,dN,hT0,off,tb⟩:=J.out
 exact fun p hp=>mt4 (hT0 p hp)
theorem loop1 {b:Heap} {L l0 t1 t2 t3:Addr} {m m0:Str->Option Value} {news T0:List (Addr×Obj)} {target:Expr} (tr:Trip b T0 l0 t1 t2 t3) (hh:(A.deeper (ENV L)).handled=none)
   (turn:∀ {fa ta t fn I i m₁ news₁ oI} {s₁:Shared},(t,({cls := .type "tuple",data := .seq #[.ref fa,.ref ta]}:Obj))∈T0->AskedNum w mean mg mb fa fn->AskedChr w mean mg mb fa->FnAt fa b->FnAt ta b->OpL w mean mg mb ta fn->J1 L m0 T0 i m₁ news₁->(∀ p∈news₁,p.1≠I)->Fr b L s₁.heap m₁->News b L s₁.heap ((I,oI)::news₁) ->
     wpAny (model PG w) (A.deeper (ENV L)) (assign target (ENV L) (.ref t)) (fun _ s₃=>wpAny (model PG w) (A.deeper (ENV L)) (execs lb1 (ENV L)) (TEnd b L I oI (J1 L m0 T0 (i+1)) s₁ Q) E s₃) E s₁)
   (J:J1 L m0 T0 0 m news) (F:Fr b L s.heap m) (N:News b L s.heap news)
   (done:∀ h' tk m' news',Fr b L h' m'->News b L h' news'->J1 L m0 T0 3 m' news'->Q .next {s with heap:=h',toks:=tk}) :
   wpAny (model PG w) (A.deeper (ENV L)) (pyIter (.ref l0)) (fun it s₂=>TurnsB PG w (A.deeper (ENV L)) b (ENV L) target lb1 Q E it s₂) E s:=by
 k_extra "s"
 obtain ⟨c,hl0⟩:=tr.hl0
 refine iterListT (h₀:=b) (vs:=[.ref t1,.ref t2,.ref t3]) (J1 L m0 T0) hh (News.isList N (J.T_ _ hl0)) (N _ (J.T_ _ hl0)).2.1 (.inr ⟨_,fun i m news z=>z.T_ _ hl0⟩) F N (Hold.mk J.out) ?_ done
 intro I i v m₁ news₁ h tk oI hv9 hJ hn9 F9 N9
 match i,hv9 with
 | 0,e=>cases e;exact turn tr.h1 askedn_253 askedc_253 tr.f1.1 tr.f1.2 opl_and hJ hn9 F9 N9
 | 1,e=>cases e;exact turn tr.h2 askedn_260 askedc_260 tr.f2.1 tr.f2.2 opl_or hJ hn9 F9 N9
 | 2,e=>cases e;exact turn tr.h3 askedn_267 askedc_267 tr.f3.1 tr.f3.2 opl_xor hJ hn9 F9 N9
 | i+3,e=>simp at e
 k_extra "f"
end
end
section
theorem kw307:True:=by
 k_with "!eval Name" => ((k_here;(with_reducible show wpAny _ _ (eval (Expr.Name _ _) (ENV _)) _ _ _);k_dflt (refine' nameX_Ft ?A8f ?I8f ?D8f ?H8f ?E8f ?_ ?B8f ?C8f ?F8f ?G8f;(case C8f=>exact rfl);(case B8f=>exact rfl);(case F8f=>decide);(case G8f=>decide);(case D8f=>exact rfl);(case H8f=>assumption);(case A8f=>k_asm);(case I8f=>k_extra "my tail");(case E8f=>assumption))))
 k_with "!eval Name" => ((k_here;(with_reducible show wpAny _ _ (eval (Expr.Name _ _) (ENV _)) _ _ _);k_dflt (refine' nameX_Ct ?A8g ?H8g ?D8g ?G8g ?E8g ?_ ?B8g ?C8g ?F8g;(case C8g=>exact rfl);(case B8g=>exact rfl);(case F8g=>decide);(case D8g=>exact rfl);(case G8g=>assumption);(case A8g=>k_asm);(case H8g=>k_extra "my tail");(case E8g=>assumption))))
 k_with "!eval Name" => ((k_here;(with_reducible show wpAny _ _ (eval (Expr.Name _ _) (compEnvC _ _ _ _)) _ _ _);k_dflt (refine' nameK_Ft ?A8h ?I8h ?D8h ?H8h ?E8h ?_ ?B8h ?C8h ?F8h ?G8h;(case C8h=>exact rfl);(case B8h=>exact rfl);(case F8h=>decide);(case G8h=>decide);(case D8h=>exact rfl);(case H8h=>assumption);(case A8h=>k_asm);(case I8h=>k_extra "my tail");(case E8h=>assumption))))
 k_with "!eval Name" => ((k_here;(with_reducible show wpAny _ _ (eval (Expr.Name _ _) (compEnvC _ _ _ _)) _ _ _);k_dflt (refine' nameK_Ct ?A8i ?H8i ?D8i ?G8i ?E8i ?_ ?B8i ?C8i ?F8i;(case C8i=>exact rfl);(case B8i=>exact rfl);(case F8i=>decide);(case D8i=>exact rfl);(case G8i=>assumption);(case A8i=>k_asm);(case H8i=>k_extra "my tail");(case E8i=>assumption))))
 exact True.intro
section
def take1:List Stmt->List Stmt
 | a::_=>[a]
 | l=>l
def dropS:List Stmt->List Stmt
 | _::r=>r
 | _=>[]
@[reducible] noncomputable def lb2a:List Stmt:=Subtype.val (p:=fun b=>take1 lb2=b) (by k_extra "w")
@[reducible] noncomputable def lb2b:List Stmt:=Subtype.val (p:=fun b=>dropS lb2=b) (by k_extra "w")
theorem lb2_eq:lb2=lb2a++lb2b:=rfl
noncomputable abbrev LG2 (L:Addr) (oE oS:Obj) (ps:Array Value) (T:List (Addr×Obj)):List (Addr×Obj) :=
 (L+1+1+1+1,oE)::(L+1+1+1+1+1,oS)::(410,tabObj ps)::T
inductive J20 (L:Addr) (m0:Str->Option Value) (T0:List (Addr×Obj)) (_i:Nat) (m:Str->Option Value) (news:List (Addr×Obj)):Prop
 | mk:∀ x1 x2 x3 x4 x5 x6 oE oS cE cS ps T,
   (m=FR1 m0 x1 x2 x3 x4 x5 x6) ->
   (news=LG2 L oE oS ps T) ->
   (oE.data = .cell cE) ->
   (oS.data = .cell cS) ->
   (∀ p∈T0,p∈T) ->
   (Off T [410,L+1+1+1+1,L+1+1+1+1+1]) ->
   (TabOk T ps) ->
   J20 L m0 T0 _i m news
def J2 (L:Addr) (m0:Str->Option Value) (T0:List (Addr×Obj)) (_i:Nat) (m:Str->Option Value) (news:List (Addr×Obj)):Prop:=Hold (J20 L m0 T0 _i m news)
noncomputable abbrev LM2 (w:World) (L I:Addr) (oI oE oS:Obj) (ps:Array Value) (r2 dx2 ia2:Addr) (tka tkb tkc tkd tke tkf:Tok) (av2:Value) (vs2:List Value) (cc2:Nat) (T:List (Addr×Obj)):List (Addr×Obj) :=
 (r2,instObj 113 dx2)::(dx2,dictOf (vEnts w.params tka tkb tkc tkd tke (.str "logical" tkf) (.ref ia2) av2) 5)::(ia2,listOf (List.toArray vs2) cc2)::(410,tabObj ps)::(I,oI)::(L+1+1+1+1,oE)::(L+1+1+1+1+1,oS)::T
inductive Mid20 (w:World) (s:Shared) (b B:Heap) (L I a:Addr) (oI:Obj) (m0:Str->Option Value) (T0:List (Addr×Obj)) (tvs:List (Option Bool)) (ats:List Att) (s':Shared):Prop
 | mk:∀ h' tk x1 x2 x3 x4 x5 r2 dx2 ia2 tka tkb tkc tkd tke tkf av2 vs2 cc2 ps oE oS cE T2 nw2,
   (s' = {s with heap:=h',toks:=tk}) ->
   (Fr b L h' (FR1 m0 x1 x2 x3 x4 x5 (some (.ref r2)))) ->
   (News b L h' (LM2 w L I oI oE oS ps r2 dx2 ia2 tka tkb tkc tkd tke tkf av2 vs2 cc2 T2)) ->
   (oE.data = .cell cE) ->
   (oS.data = .cell (some (.ref a))) ->
   (@Ne Nat (L+1+1+1+1) I∧@Ne Nat (L+1+1+1+1+1) I∧@Ne Nat 410 I) ->
   (∀ p∈T0,p∈T2) ->
   (Off T2 [410,L+1+1+1+1,L+1+1+1+1+1,I]) ->
   (TabOk T2 ps) ->
   (TvsV vs2 tvs) ->
   (∀ p∈nw2,p∈T2) ->
   (AtAt w (H4 B nw2) av2 ats) ->
   Mid20 w s b B L I a oI m0 T0 tvs ats s'
def Mid2 (w:World) (s:Shared) (b B:Heap) (L I a:Addr) (oI:Obj) (m0:Str->Option Value) (T0:List (Addr×Obj)) (tvs:List (Option Bool)) (ats:List Att) (s':Shared):Prop:=Hold (Mid20 w s b B L I a oI m0 T0 tvs ats s')
theorem FR1_t {m0:Str->Option Value} {x1 x2 x3 x4 x5 x6 v:Option Value} {b h:Heap} {L:Addr} (F:Fr b L h (fun y=>if y=Str.ofString "told" then v else FR1 m0 x1 x2 x3 x4 x5 x6 y)):Fr b L h (FR1 m0 x1 x2 x3 x4 x5 v):=Eq.mp (congrArg (Fr b L h) FR1_told) F
section
variable {Q:Flow->Shared->Prop}
theorem kept2_ok {Q:Value->Shared->Prop} {env:Env} {b B:Heap} {L f cS v:Addr} {m:Str->Option Value} {news TT:List (Addr×Obj)} {dv:Vd} {p1 p2 p3:Pos} {e:Option (List Int)} {tvs:List (Option Bool)} {ats:List Att}
   (F:Fr b L s.heap m) (N:News b L s.heap news) (X:(KF w.params).In b) (T:Top TP LO mean mg mb b) (R:Rm (A.deeper env) 20) (hfr:A.frames=some []) (hf:env.frame=some L) (hk:env.scope.kind ≠ .module)
   (hq:FnAt f s.heap) (hlam:LamAt s.heap f (.Call (.Name "logic_not" p1) [.Name "side" p2] [] p3) LS2 [("side",cS)]) (hcS:CellAt s.heap cS (.ref v)) (bt:BT b B TT) (NT:News b L s.heap TT) (hV:VM w (hm B) v dv) (hl:dv.items.length≤1000) (hla:dv.ats.length≤10)
   (hkv:(Numv dv∧DimIs dv e∧attOf dv.ats "dimnames" = none∧tvs=dv.items.map (fun x=>not3 (tru x))∧ats=notAts dv e)∨(dv.kind = "character" ∧ dv.items=[]∧tvs=[]∧ats=[]))
   (hQ:∀ h' tk r,Fr b L h' m->KB [] s.heap h'->Told w s.heap h' B r tvs ats->Q (.ref r) {s with heap:=h',toks:=tk}) :
   wpAny (model PG w) (A.deeper env) (call (.ref 408) [.ref f]) Q E s:=by
 rcases hkv with ⟨hkn,hd,hnn,rfl,rfl⟩ | ⟨hkc,hi,rfl,rfl⟩
 . exact kept2_num F N X T R hfr hf hk hq hlam hcS bt NT hV hkn hd hl hla hnn hQ
 . exact kept2_chr0 F N X T R hfr hf hk hq hlam hcS bt NT hV hkc hi hQ
theorem turn2a {b B:Heap} {L I a:Addr} {oI:Obj} {i:Nat} {m m0:Str->Option Value} {news T0 TU:List (Addr×Obj)} {d:Vd} {e:Option (List Int)} {target:Expr} {tvs:List (Option Bool)} {ats:List Att}
   (htg:∃ p1,target = .Name "side" p1)
   (X:(KF w.params).In b) (T:Top TP LO mean mg mb b) (C:CodeHd b 412 410) (R:Rm (A.deeper (ENV L)) 25) (hfr:A.frames=some [])
   (hlo:@LT.lt Nat _ 410 L) (hTU:∀ p∈TU,p∈T0) (bt:BT b B TU) (hV:VM w (hm B) a d) (hl:d.items.length≤1000) (hla:d.ats.length≤10)
   (hk:(Numv d∧DimIs d e∧attOf d.ats "dimnames" = none∧tvs=d.items.map (fun x=>not3 (tru x))∧ats=notAts d e)∨(d.kind = "character" ∧ d.items=[]∧tvs=[]∧ats=[]))
   (J:J2 L m0 T0 i m news) (hn:∀ p∈news,p.1≠I) (F:Fr b L s.heap m) (N:News b L s.heap ((I,oI)::news)) :
   wpAny (model PG w) (A.deeper (ENV L)) (assign target (ENV L) (.ref a)) (fun _ s₃=>wpAny (model PG w) (A.deeper (ENV L)) (execs lb2a (ENV L)) (fun f s'=>f = .next∧Mid2 w s b B L I a oI m0 T0 tvs ats s') E s₃) E s:=by
 k_extra "s"
 have hk':=Hold.mk hk
 clear hk
 obtain ⟨x1,x2,x3,x4,x5,x6,oE,oS,cE,cS,ps,TT,rfl,rfl,dE,dS,hT0,off,tb⟩:=J.out
 obtain ⟨p1,rfl⟩:=htg
 clear J
 have hne:=allNe_all hn
 simp only [AllNe] at hne
 unfold LG2 at N
 unfold FR1 at F
 k_steps
 refine Hold.mk ?_
 rename_i h9 oS9 F9 N9 dS9
 have ap:AllNe 410 ((I,oI)::(L+1+1+1+1,oE)::(L+1+1+1+1+1,oS9)::TT):=⟨by k_ne,by k_ne,by k_ne,allNe_all (off.ne (.head _))⟩
 have offp:Off TT [410,L+1+1+1+1,L+1+1+1+1+1,I]:=by
   intro p hp hd
   rcases List.mem_append.mp (show p.1∈[410,L+1+1+1+1,L+1+1+1+1+1]++[I] from hd) with h | h
   . exact off p hp h
   . exact hn p (mt2 (.tail _ hp)) (mS h)
 refine lam_mk (cs:=fs413) (cl:=cellsFrom (L+1) fs413.names []) C offp tb F9 (N:=by k_extra "my pick") (.tail (.tail (.tail .head))) ?hds ap T (by rfl) ?_
 case hds =>
   intro d hd
   simp only [List.mem_cons,List.not_mem_nil,or_false] at hd
   rcases hd with rfl | rfl | rfl
   . exact ⟨_,.tail _ (.head _)⟩
   . exact ⟨_,mt2 (.head _)⟩
   . exact ⟨_,.head _⟩
 intro f h1 tk1 ps1 T1 F1 N1 LA FA sub off1 tb1
 obtain ⟨of,N1⟩:=N1
 k_steps
 have cS1:CellAt h1 (L+1+1+1+1+1) (.ref a):=⟨⟨_,(N1 _ (mt4 (.head _))).1,dS9⟩⟩
 have NTU:News b L h1 TU:=fun p hp=>N1 p (mt5 (sub p (hT0 p (hTU p hp))))
 refine kept2_ok F1 N1 X T (R.le (by decide)) hfr rfl (show ScopeKind.function ≠ .module by decide) FA LA cS1 bt NTU hV hl hla hk'.out ?_
 intro h2 tk2 r2 F2 kb2 told2
 obtain ⟨dx2,ia2,tka,tkb,tkc,tkd,tke,tkf,av2,vs2,cc2,nw2,fr2,lnw2,tv2,at2⟩:=told2.ex
 have fresh1:∀ p∈nw2,∀ q∈(f,of)::(410,tabObj ps1)::(I,oI)::(L+1+1+1+1,oE)::(L+1+1+1+1+1,oS9)::T1,p.1≠q.1:=by
   intro p hp q hq e
   have a:=(fr2 p (mt2 (.tail _ hp))).2
   rw [e,(N1 q hq).1] at a
   cases a
 have Nd:=News.more' F1 (News.kb0 N1 kb2) fr2
 have off2:Off (nw2++T1) [410,L+1+1+1+1,L+1+1+1+1+1,I]:=by
   intro p hp hd
   rcases List.mem_append.mp hp with hp | hp
   . simp only [List.mem_cons,List.not_mem_nil,or_false] at hd
     rcases hd with h | h | h | h
     . exact fresh1 p hp _ (.tail _ (.head _)) h
     . exact fresh1 p hp _ (mt3 (.head _)) h
     . exact fresh1 p hp _ (mt4 (.head _)) h
     . exact fresh1 p hp _ (mt2 (.head _)) h
   . exact off1 p hp hd
 have sub2:∀ p∈T1,p∈nw2++T1:=fun p hp=>List.mem_append_right _ hp
 have nwT:∀ p∈nw2,p∈nw2++T1:=fun p hp=>List.mem_append_left _ hp
 have N2:News b L h2 ((r2,instObj 113 dx2)::(dx2,dictOf (vEnts w.params tka tkb tkc tkd tke (.str "logical" tkf) (.ref ia2) av2) 5)::(ia2,listOf (List.toArray vs2) cc2)::(410,tabObj ps1)::(I,oI)::(L+1+1+1+1,oE)::(L+1+1+1+1+1,oS9)::(nw2++T1)):=by
   intro p hp
   refine Nd p ?_
   simp only [List.cons_append,List.mem_cons,List.mem_append] at hp ⊢
   rcases hp with h | h | h | h | h | h | h | h | h<;>simp only [h,true_or,or_true]
 generalize nw2++T1=T2 at N2 off2 sub2 nwT
 clear Nd fresh1 cS1 NTU N1 LA FA N9 F9 F1 offp kb2 fr2 told2
 have at2':=Hold.mk at2
 clear at2
 k_steps
 rename_i h8 F8 N8
 exact Hold.mk ⟨_,_,x1,x2,x3,x4,x5,r2,dx2,ia2,tka,tkb,tkc,tkd,tke,tkf,av2,vs2,cc2,ps1,oE,oS9,_,T2,nw2,rfl,FR1_t F8,N8,dE,dS9,⟨hne.1,hne.2.1,hne.2.2.1⟩,fun p hp=>sub2 _ (sub p (hT0 p hp)),off2,tb1.mono sub2,tv2,nwT,at2'.out⟩
 k_extra "f"
end
section
variable {s:Shared} {Q:Flow->Shared->Prop}
theorem TEnd2 {b h':Heap} {L I:Addr} {oI oE oS:Obj} {cE cS:Option Value} {i tk:Nat} {m0:Str->Option Value} {x1 x2 x3 x4 x5 x6:Option Value} {ps:Array Value} {T0 T:List (Addr×Obj)} (F:Fr b L h' (FR1 m0 x1 x2 x3 x4 x5 x6)) (N:News b L h' ((410,tabObj ps)::(I,oI)::(L+1+1+1+1,oE)::(L+1+1+1+1+1,oS)::T))
   (dE:oE.data = .cell cE) (dS:oS.data = .cell cS) (ne:@Ne Nat (L+1+1+1+1) I∧@Ne Nat (L+1+1+1+1+1) I∧@Ne Nat 410 I) (hT0:∀ p∈T0,p∈T) (off:Off T [410,L+1+1+1+1,L+1+1+1+1+1,I]) (tb:TabOk T ps) :
   TEnd b L I oI (J2 L m0 T0 (i+1)) s Q .next {s with heap:=h',toks:=tk}:=by
 k_extra "s"
 refine TEnd.intro F (news':=LG2 L oE oS ps T) ?_ ?_ (Hold.mk ⟨x1,x2,x3,x4,x5,x6,oE,oS,cE,cS,ps,T,rfl,rfl,dE,dS,hT0,fun p hp hd=>off p hp (List.mem_append_left [I] hd),tb⟩)
 . intro p hp
   refine N p ?_
   revert hp
   k_extra "my sub"
 . intro p hp
   simp only [LG2,List.mem_cons] at hp
   rcases hp with rfl | rfl | rfl | h
   . exact ne.1
   . exact ne.2.1
   . exact ne.2.2
   . exact off.ne (mt3 (.head _)) p h
 k_extra "f"
end
end
section
section
variable {w:World} {A:Around} {E:Value->Shared->Prop} {s:Shared} {b:Heap} {L:Addr} {news T:List (Addr×Obj)} {g:List (Addr×Obj)->List (Addr×Obj)} {Q:Value->Shared->Prop}
theorem instT {h:Heap} {x C dx:Addr} {od:Obj} (N:News b L h news) (tl:TailF T news g) (h1:(x,instObj C dx)∈T) (h2:(dx,od)∈T):InstAt h x (instObj C dx) C (some od):=instOf (N _ (tl.mem h1)).1 (N _ (tl.mem h2)).1
theorem ne_nilT1 {l l2:Addr} {vs:List Value} {c c2:Nat} (N:News b L s.heap news) (tl:TailF T news g) (hm:(l,listOf (List.toArray vs) c)∈T) (hb:(l2,listOf #[] c2)∈news) (hv:vs≠[]) (hu:A.units+20<cLine) (h:Q (.bool true) s) :
   wpAny (model PG w) A (compareOp .NotEq (.ref l) (.ref l2)) Q E s:=by
 k_extra "s"
 have hz:(vs.toArray.size != (#[]:Array Value).size)=true:=by
   cases vs with
   | nil=>exact absurd rfl hv
   | cons a r=>rfl
 exact SeqAt.RcNeAt.lists_lengths (A:=A) (News.isList N (tl.mem hm)) (News.isList N hb) hz (by omega) _ _ _ _ h
 k_extra "f"
theorem ne_nilT0 {l l2:Addr} {vs:List Value} {c c2:Nat} (N:News b L s.heap news) (tl:TailF T news g) (hm:(l,listOf (List.toArray vs) c)∈T) (hb:(l2,listOf #[] c2)∈news) (hv:vs=[]) (hu:A.units+20<cLine) (h:Q (.bool false) s) :
   wpAny (model PG w) A (compareOp .NotEq (.ref l) (.ref l2)) Q E s:=by
 subst hv
 exact ne_its (ds:=[]) (ws:=[]) (News.isList N (tl.mem hm)) (News.isList N hb) .nil .nil hu h
end
theorem G83.g83:True:=True.intro
open G83
theorem kw314:True:=by
 k_with "k_inst" => ((have:=g83;clear this);k_dflt (refine' instT ?C8k ?D8k ?A8k ?B8k;(case A8k=>assumption);(case B8k=>assumption);(case C8k=>k_asm);(case D8k=>k_extra "my tail")))
 k_with "!compareOp NotEq ref ref" => ((have:=g83;clear this);(k_here;k_dflt (refine' ne_tvs ?A8l ?B8l ?C8l ?D8l ?E8l ?_;(case A8l=>exact News.isList (by k_asm) (by k_mem));(case B8l=>exact News.isList (by k_asm) (by k_mem));(case C8l=>with_reducible assumption);(case D8l=>with_reducible assumption);(case E8l=>k_extra "my room"))))
 k_with "!compareOp NotEq ref ref" => ((have:=g83;clear this);(k_here;k_dflt (refine' ne_nilT1 ?A8m ?B8m ?C8m ?D8m ?E8m ?F8m ?_;(case C8m=>assumption);(case A8m=>k_asm);(case B8m=>k_extra "my tail");(case D8m=>k_mem);(case E8m=>with_reducible assumption);(case F8m=>k_extra "my room"))))
 k_with "!compareOp NotEq ref ref" => ((have:=g83;clear this);(k_here;k_dflt (refine' ne_nilT0 ?A8n ?B8n ?C8n ?D8n ?E8n ?F8n ?_;(case C8n=>assumption);(case A8n=>k_asm);(case B8n=>k_extra "my tail");(case D8n=>k_mem);(case E8n=>with_reducible assumption);(case F8n=>k_extra "my room"))))
 k_with "!compareOp NotEq ref ref" => ((have:=g83;clear this);(k_here;k_dflt (refine' dne_empty ?A8o ?B8o ?C8o ?D8o ?E8o ?F8o ?G8o ?H8o ?I8o ?_;(case A8o=>k_asm);(case B8o=>k_asm);(case C8o=>k_mem);(case D8o=>k_mem);(case E8o=>with_reducible assumption);(case F8o=>with_reducible assumption);(case G8o=>with_reducible assumption);(case H8o=>with_reducible assumption);(case I8o=>k_extra "my room"))))
 k_with "my dom" => (first | exact List.forall_mem_nil _ | (refine List.forall_mem_cons.mpr ⟨⟨_,by k_mem⟩,?_⟩;k_extra "my dom"))
 exact True.intro
section
variable {Q:Flow->Shared->Prop}
theorem turn2_chr1 {b B:Heap} {L I a dxa iaa:Addr} {oI:Obj} {i:Nat} {m m0:Str->Option Value} {news T0 TU:List (Addr×Obj)} {d:Vd} {target:Expr} {ka1 ka2 ka3 ka4 ka5 kat:Tok} {ava:Value} {na ca:Nat} {vsa:List Value}
   (htg:∃ p1,target = .Name "side" p1)
   (X:(KF w.params).In b) (T:Top TP LO mean mg mb b) (C:CodeHd b 412 410) (R:Rm (A.deeper (ENV L)) 25) (hfr:A.frames=some [])
   (hlo:@LT.lt Nat _ 410 L) (hTU:∀ p∈TU,p∈T0) (bt:BT b B TU) (hV:VM w (hm B) a d) (hl:d.items.length≤1000)
   (hk:d.kind = "character") (hi:d.items≠[])
   (mA1:(a,instObj 113 dxa)∈T0) (mA2:(dxa,dictOf (vEnts w.params ka1 ka2 ka3 ka4 ka5 (.str "character" kat) (.ref iaa) ava) na)∈T0) (mA3:(iaa,listOf (List.toArray vsa) ca)∈T0) (hvs:vsa≠[])
   (J:J2 L m0 T0 i m news) (hn:∀ p∈news,p.1≠I) (F:Fr b L s.heap m) (N:News b L s.heap ((I,oI)::news)) :
   wpAny (model PG w) (A.deeper (ENV L)) (assign target (ENV L) (.ref a)) (fun _ s₃=>wpAny (model PG w) (A.deeper (ENV L)) (execs lb2 (ENV L)) (TEnd b L I oI (J2 L m0 T0 (i+1)) s Q) E s₃) E s:=by
 k_extra "s"
 obtain ⟨x1,x2,x3,x4,x5,x6,oE,oS,cE,cS,ps,TT,rfl,rfl,dE,dS,hT0,off,tb⟩:=J.out
 obtain ⟨p1,rfl⟩:=htg
 clear J
 have hne:=allNe_all hn
 simp only [AllNe] at hne
 unfold LG2 at N
 unfold FR1 at F
 k_steps
 refine Hold.mk ?_
 rename_i h9 oS9 F9 N9 dS9
 have ap:AllNe 410 ((I,oI)::(L+1+1+1+1,oE)::(L+1+1+1+1+1,oS9)::TT):=⟨by k_ne,by k_ne,by k_ne,allNe_all (off.ne (.head _))⟩
 have offp:Off TT [410,L+1+1+1+1,L+1+1+1+1+1,I]:=by
   intro p hp hd
   rcases List.mem_append.mp (show p.1∈[410,L+1+1+1+1,L+1+1+1+1+1]++[I] from hd) with h | h
   . exact off p hp h
   . exact hn p (mt2 (.tail _ hp)) (mS h)
 refine lam_mk (cs:=fs413) (cl:=cellsFrom (L+1) fs413.names []) C offp tb F9 (N:=by k_extra "my pick") (.tail (.tail (.tail .head))) ?hds ap T (by rfl) ?_
 case hds =>
   intro d hd
   simp only [List.mem_cons,List.not_mem_nil,or_false] at hd
   rcases hd with rfl | rfl | rfl
   . exact ⟨_,.tail _ (.head _)⟩
   . exact ⟨_,mt2 (.head _)⟩
   . exact ⟨_,.head _⟩
 intro f h1 tk1 ps1 T1 F1 N1 LA FA sub off1 tb1
 obtain ⟨of,N1⟩:=N1
 k_steps
 have cS1:CellAt h1 (L+1+1+1+1+1) (.ref a):=⟨⟨_,(N1 _ (mt4 (.head _))).1,dS9⟩⟩
 have NTU:News b L h1 TU:=fun p hp=>N1 p (mt5 (sub p (hT0 p (hTU p hp))))
 refine kept2_chr1 F1 N1 X T (R.le (by decide)) hfr rfl (show ScopeKind.function ≠ .module by decide) FA LA cS1 bt NTU hV hk hi hl ?_
 intro h2 tk2 t2 F2 K2
 have N2:News b L h2 ((410,tabObj ps1)::(I,oI)::(L+1+1+1+1,oE)::(L+1+1+1+1+1,oS9)::T1):=fun p hp=>⟨K2 p (.tail _ hp),(N1 p (.tail _ hp)).2⟩
 replace mA1:=sub _ (hT0 _ mA1)
 replace mA2:=sub _ (hT0 _ mA2)
 replace mA3:=sub _ (hT0 _ mA3)
 clear K2 cS1 NTU N1 LA FA N9 F9 F1 offp
 k_steps
 rename_i F8 N8 _ _
 exact TEnd2 (FR1_t F8) N8.tail1 dE dS9 ⟨hne.1,hne.2.1,hne.2.2.1⟩ (fun p hp=>sub _ (hT0 p hp)) off1 tb1
 k_extra "f"
theorem turn2b_null {b B:Heap} {L I a dxa:Addr} {oI:Obj} {i:Nat} {m0:Str->Option Value} {T0 TU:List (Addr×Obj)} {s':Shared} {ka1 ka2 ka3:Tok} {na:Nat}
   (X:(KF w.params).In b) (T:Top TP LO mean mg mb b) (R:Rm (A.deeper (ENV L)) 25) (hTU:∀ p∈TU,p∈T0) (bt:BT b B TU)
   (mA1:(a,instObj 84 dxa)∈T0) (mA2:(dxa,dictOf (nullEnts w.params ka1 ka2 ka3) na)∈T0) (hM:Mid2 w s b B L I a oI m0 T0 [] [] s') :
   wpAny (model PG w) (A.deeper (ENV L)) (execs lb2b (ENV L)) (TEnd b L I oI (J2 L m0 T0 (i+1)) s Q) E s':=by
 k_extra "s"
 obtain ⟨h',tk,x1,x2,x3,x4,x5,r2,dx2,ia2,tka,tkb,tkc,tkd,tke,tkf,av2,vs2,cc2,ps,oE,oS,cE,T2,nw2,rfl,F,N,dE,dS,ne2,sub2,off2,tb2,tv2,nwT,at2⟩:=hM.out
 clear hM
 replace mA1:=sub2 _ mA1
 replace mA2:=sub2 _ mA2
 (try replace mA3:=sub2 _ mA3)
 have at3:=Hold.mk at2
 have ne3:=Hold.mk ne2
 clear at2 ne2
 cases tv2
 have nil9:TvsV [] [] := .nil
 have tv2:TvsV [] [] := .nil
 unfold LM2 at N
 unfold FR1 at F
 k_steps
 with_reducible rename News _ _ _ _=>N8
 with_reducible rename Fr _ _ _ _=>F8
 have N9:News b L _ (LM2 w L I oI oE oS ps r2 dx2 ia2 tka tkb tkc tkd tke tkf av2 [] cc2 T2):=fun p hp=>N8 p (by
   revert hp
   k_extra "my sub")
 have VT:=VM.vec (w:=w) (show ¬(Str.ofString "logical" = Str.ofString "NULL") by decide) (VAt.mk ⟨_,_,_,_,_,_,_,_,_,(N9 _ (.head _)).1,(N9 _ (.tail _ (.head _))).1,(N9 _ (mt2 (.head _))).1,.nil⟩) (at3.out.mono fun a o q=>q.elim (fun q=>(N9 _ (mt7 (nwT _ q))).1) fun q=>bt.stays F8 (fun p hp=>N9 p (mt7 (sub2 _ (hTU p hp)))) _ _ q)
 refine tseen_in off2 F8 N9 (.tail (.tail (.tail (.tail (.tail (.tail (.tail (.head)))))))) (by k_extra "my dom") X T (R.le (by decide)) VT (by decide) (fun _ h=>nomatch h) ?_
 intro h11 tk11 D11 oD11 kvs11 T11 F11 N11 n11 sub11 off11 lo11 hd11 sm11 kb11
 obtain rfl:kvs11=[]:=by cases sm11;rfl
 clear VT F8 N8 N9 kb11 sm11
 k_steps
 with_reducible rename News _ _ _ _=>N8
 with_reducible rename Fr _ _ _ _=>F8
 exact TEnd2 F8 (fun p hp=>N8 p (mt4 (.tail _ hp))) dE dS ne3.out (fun p hp=>sub11 _ (sub2 _ hp)) off11 (tb2.mono sub11)
 k_extra "f"
theorem turn2b_chr0 {b B:Heap} {L I a dxa iaa:Addr} {oI:Obj} {i:Nat} {m0:Str->Option Value} {T0 TU:List (Addr×Obj)} {s':Shared} {ka1 ka2 ka3 ka4 ka5 kat:Tok} {ava:Value} {na ca:Nat} {vsa:List Value}
   (X:(KF w.params).In b) (T:Top TP LO mean mg mb b) (R:Rm (A.deeper (ENV L)) 25) (hTU:∀ p∈TU,p∈T0) (bt:BT b B TU)
   (mA1:(a,instObj 113 dxa)∈T0) (mA2:(dxa,dictOf (vEnts w.params ka1 ka2 ka3 ka4 ka5 (.str "character" kat) (.ref iaa) ava) na)∈T0) (mA3:(iaa,listOf (List.toArray vsa) ca)∈T0) (hvs:vsa=[]) (hM:Mid2 w s b B L I a oI m0 T0 [] [] s') :
   wpAny (model PG w) (A.deeper (ENV L)) (execs lb2b (ENV L)) (TEnd b L I oI (J2 L m0 T0 (i+1)) s Q) E s':=by
 k_extra "s"
 replace mA3:=Hold.mk mA3
 have mA3:=mA3.out
 obtain ⟨h',tk,x1,x2,x3,x4,x5,r2,dx2,ia2,tka,tkb,tkc,tkd,tke,tkf,av2,vs2,cc2,ps,oE,oS,cE,T2,nw2,rfl,F,N,dE,dS,ne2,sub2,off2,tb2,tv2,nwT,at2⟩:=hM.out
 clear hM
 replace mA1:=sub2 _ mA1
 replace mA2:=sub2 _ mA2
 (try replace mA3:=sub2 _ mA3)
 have at3:=Hold.mk at2
 have ne3:=Hold.mk ne2
 clear at2 ne2
 cases tv2
 have nil9:TvsV [] [] := .nil
 have tv2:TvsV [] [] := .nil
 unfold LM2 at N
 unfold FR1 at F
 k_steps
 with_reducible rename News _ _ _ _=>N8
 with_reducible rename Fr _ _ _ _=>F8
 have N9:News b L _ (LM2 w L I oI oE oS ps r2 dx2 ia2 tka tkb tkc tkd tke tkf av2 [] cc2 T2):=fun p hp=>N8 p (by
   revert hp
   k_extra "my sub")
 have VT:=VM.vec (w:=w) (show ¬(Str.ofString "logical" = Str.ofString "NULL") by decide) (VAt.mk ⟨_,_,_,_,_,_,_,_,_,(N9 _ (.head _)).1,(N9 _ (.tail _ (.head _))).1,(N9 _ (mt2 (.head _))).1,.nil⟩) (at3.out.mono fun a o q=>q.elim (fun q=>(N9 _ (mt7 (nwT _ q))).1) fun q=>bt.stays F8 (fun p hp=>N9 p (mt7 (sub2 _ (hTU p hp)))) _ _ q)
 refine tseen_in off2 F8 N9 (.tail (.tail (.tail (.tail (.tail (.tail (.tail (.head)))))))) (by k_extra "my dom") X T (R.le (by decide)) VT (by decide) (fun _ h=>nomatch h) ?_
 intro h11 tk11 D11 oD11 kvs11 T11 F11 N11 n11 sub11 off11 lo11 hd11 sm11 kb11
 obtain rfl:kvs11=[]:=by cases sm11;rfl
 clear VT F8 N8 N9 kb11 sm11
 k_steps
 with_reducible rename News _ _ _ _=>N8
 with_reducible rename Fr _ _ _ _=>F8
 exact TEnd2 F8 (fun p hp=>N8 p (mt4 (.tail _ hp))) dE dS ne3.out (fun p hp=>sub11 _ (sub2 _ hp)) off11 (tb2.mono sub11)
 k_extra "f"
end
end
section
section
variable {Q:Value->Shared->Prop}
theorem cseen_in {env:Env} {b B:Heap} {L:Addr} {m:Str->Option Value} {news T:List (Addr×Obj)} {ds:List Addr} {g:List (Addr×Obj)->List (Addr×Obj)} {v:Addr} {dv:Vd}
   (off:Off T ds) (F:Fr b L s.heap m) (N:News b L s.heap news) (tl:TailF T news g) (hds:∀ d∈ds,∃ o,(d,o)∈news) (X:(KF w.params).In b) (hT:Top TP LO mean mg mb b) (R:Rm (A.deeper env) 4)
   (hB:B.StaysIn s.heap) (hV:VM w (hm B) v dv) (hla:dv.ats.length≤10) (hli:∀ a∈dv.ats,a.2.2.length≤1000)
   (hQ:∀ h' tk D oD kvs T',Fr b L h' m->News b L h' ((D,oD)::g T')->AllNe D news->(∀ p∈T,p∈T')->Off T' ds->(D == sysModules)=false->oD.IsDictOf (PySem.strKind PG w) kvs->SeenM (HT B T') kvs dv.ats->Q (.ref D) {s with heap:=h',toks:=tk}) :
   wpAny (model PG w) (A.deeper env) (call (.ref 347) [.ref v]) Q E s:=by
 k_extra "s"
 refine lseen_ct (Gd.keeps ⟨X,hT⟩ F.keep) R hB hV hla hli ?_
 intro h' tk D oD kvs nw kb gD nD lo hd sm fr hne
 obtain ⟨e,rfl,hg⟩:=tl.split
 have F':=Fr.kb0 F kb
 refine hQ h' tk D oD kvs (nw++T) F' ?_ (allNe_of nD N) (fun p hp=>List.mem_append_right _ hp) ?_ lo hd (sm.mono fun a o z=>z.elim (fun z => .inl (List.mem_append_left _ z)) .inr)
 . rw [hg]
   intro p hp
   rcases mC hp with rfl | hp
   . exact more1 kb gD nD F N _ (.head _)
   rcases List.mem_append.mp hp with hp | hp
   . exact News.kb0 N kb p (List.mem_append_left _ hp)
   rcases List.mem_append.mp hp with hp | hp
   . exact News.more' F (News.kb0 N kb) fr p (List.mem_append_left _ hp)
   . exact News.kb0 N kb p (List.mem_append_right _ hp)
 . intro p hp q
   rcases List.mem_append.mp hp with hp | hp
   . obtain ⟨o,ho⟩:=hds _ q
     have:=(N _ ho).1
     rw [(fr p hp).2] at this;cases this
   . exact off p hp q
 k_extra "f"
end
abbrev selP:Att->Bool:=fun a=>decide (a.1=Str.ofString "names" ∨ a.1=Str.ofString "dim")
structure Fit (d:Vd) (e:Option (List Int)):Prop where
 hd:DimIs d e
 hn:attOf d.ats "dimnames" = none
 hp:∀ ds,e=some ds->prod ds=d.items.length
 hx:e≠none->attOf d.ats "names" = none
 hla:d.ats.length≤10
 hli:∀ a∈d.ats,a.2.2.length≤1000
 sel:d.ats.filter selP=shAts d d e e d.items.length e
theorem fit_ok {k:Str} {its:List PyData} {ats:List Att} (h:AtsOk its.length ats) (hl:its.length≤9):∃ e,Fit ⟨k,its,ats⟩ e:=by
 k_extra "s"
 obtain ⟨a,b,c,rfl,h1,h2,h3⟩:=h.ex
 have few:∀ x:Att,x∈b++c->x.2.2.length≤1000:=fun x hx=>by
   rcases List.mem_append.mp hx with hx | hx
   . cases h2 with
     | none=>cases hx
     | unit u=>rw [mS hx];show ([_]:List PyData).length≤1000;simp
   . cases h3 with
     | none=>cases hx
     | of u=>rw [mS hx];show ([_]:List PyData).length≤1000;simp
 have hbc:(b++c).length≤2:=by cases h2<;>cases h3<;>simp
 have none_:∀ n:Str,(n=Str.ofString "names" ∨ n=Str.ofString "dim" ∨ n=Str.ofString "dimnames")->attOf (b++c) n=none:=fun n hn=>by
   rcases hn with rfl | rfl | rfl<;>cases h2<;>cases h3<;>rfl
 have sel_:(b++c).filter selP=[]:=by cases h2<;>cases h3<;>rfl
 cases h1 with
 | none =>
   refine ⟨none,⟨none_ _ (.inr (.inl rfl)),none_ _ (.inr (.inr rfl)),(fun ds z=>by cases z),(fun z=>absurd rfl z),by show (b++c).length≤10;omega,few,?_⟩⟩
   show (b++c).filter selP=namesAts (shNames _ _ none none its.length 2)
   rw [sel_]
   have e1:namesOf ⟨k,its,[]++(b++c)⟩ none its.length=none:=namesOf_none (none_ _ (.inl rfl))
   unfold shNames
   rw [e1];rfl
 | @dim ds hds =>
   have hnum:(prod ds:Int)=its.length:=hds.pr
   refine ⟨some ds,⟨⟨⟨_,rfl⟩,hds.len,hds.bits,?_,?_⟩,none_ _ (.inr (.inr rfl)),(fun ds' z=>by cases z;exact hds.pr),(fun _=>none_ _ (.inl rfl)),?_,?_,?_⟩⟩
   . show 0≤prod ds;omega
   . show prod ds≤1000;omega
   . show (_::(b++c)).length≤10;rw [List.length_cons];omega
   . intro x hx
     rcases mC hx with rfl | hx
     . have:=hds.len;show (ds.map PyData.int).length≤1000;rw [List.length_map];omega
     . exact few x hx
   . show List.filter selP ((Str.ofString "dim",Str.ofString "integer",ds.map PyData.int)::(b++c))=[(Str.ofString "dim",Str.ofString "integer",ds.map PyData.int)]
     rw [List.filter_cons_of_pos (by rfl),sel_]
 | @names cs hcs =>
   refine ⟨none,⟨none_ _ (.inr (.inl rfl)),none_ _ (.inr (.inr rfl)),(fun ds z=>by cases z),(fun z=>absurd rfl z),?_,?_,?_⟩⟩
   . show (_::(b++c)).length≤10;rw [List.length_cons];omega
   . intro x hx
     rcases mC hx with rfl | hx
     . show (cs.map PyData.str).length≤1000;rw [List.length_map];omega
     . exact few x hx
   . show List.filter selP ((Str.ofString "names",Str.ofString "character",cs.map PyData.str)::(b++c))=namesAts (shNames _ _ none none its.length 2)
     rw [List.filter_cons_of_pos (by rfl),sel_]
     have e1:namesOf ⟨k,its,(Str.ofString "names",Str.ofString "character",cs.map PyData.str)::(b++c)⟩ none its.length=some (Str.ofString "character",cs.map PyData.str):=namesOf_some rfl rfl
     show _=namesAts (shNames ⟨k,its,(Str.ofString "names",Str.ofString "character",cs.map PyData.str)::(b++c)⟩ ⟨k,its,(Str.ofString "names",Str.ofString "character",cs.map PyData.str)::(b++c)⟩ none none its.length 2)
     unfold shNames
     rw [e1];rfl
 k_extra "f"
end
section
theorem G85.g85:True:=True.intro
open G85
theorem kw321:True:=by
 k_with "k_inst" => ((have:=g85;clear this);k_dflt (refine' instT ?C8r ?D8r ?A8r ?B8r;(case A8r=>assumption);(case B8r=>assumption);(case C8r=>k_asm);(case D8r=>k_extra "my tail")))
 k_with "!compareOp NotEq ref ref" => ((k_here;k_dflt (refine' ne_tvs ?A8s ?B8s ?C8s ?D8s ?E8s ?_;(case A8s=>exact News.isList (by k_asm) (by k_mem));(case B8s=>exact News.isList (by k_asm) (by k_mem));(case C8s=>with_reducible assumption);(case D8s=>with_reducible assumption);(case E8s=>k_extra "my room"))))
 k_with "!compareOp NotEq ref ref" => ((k_here;k_dflt (refine' ne_nilT1 ?A8t ?B8t ?C8t ?D8t ?E8t ?F8t ?_;(case C8t=>assumption);(case A8t=>k_asm);(case B8t=>k_extra "my tail");(case D8t=>k_mem);(case E8t=>with_reducible assumption);(case F8t=>k_extra "my room"))))
 k_with "!compareOp NotEq ref ref" => ((k_here;k_dflt (refine' ne_nilT0 ?A8u ?B8u ?C8u ?D8u ?E8u ?F8u ?_;(case C8u=>assumption);(case A8u=>k_asm);(case B8u=>k_extra "my tail");(case D8u=>k_mem);(case E8u=>with_reducible assumption);(case F8u=>k_extra "my room"))))
 k_with "!compareOp NotEq ref ref" => ((k_here;k_dflt (refine' dne_empty ?A8v ?B8v ?C8v ?D8v ?E8v ?F8v ?G8v ?H8v ?I8v ?_;(case A8v=>k_asm);(case B8v=>k_asm);(case C8v=>k_mem);(case D8v=>k_mem);(case E8v=>with_reducible assumption);(case F8v=>with_reducible assumption);(case G8v=>with_reducible assumption);(case H8v=>with_reducible assumption);(case I8v=>k_extra "my room"))))
 k_with "my dom" => (first | exact List.forall_mem_nil _ | (refine List.forall_mem_cons.mpr ⟨⟨_,by k_mem⟩,?_⟩;k_extra "my dom"))
 exact True.intro
section
theorem G86.g86:True:=True.intro
open G86
theorem kw324:True:=by
 k_with "!compareOp NotEq ref ref" => ((have:=g86;clear this);(k_here;k_dflt (refine' dne_seen ?A8y ?B8y ?C8y ?D8y ?E8y ?F8y ?G8y ?H8y ?I8y ?_;(case C8y=>k_extra "my get");(case D8y=>k_extra "my get");(case A8y=>with_reducible assumption);(case B8y=>with_reducible assumption);(case E8y=>with_reducible assumption);(case F8y=>with_reducible assumption);(case G8y=>with_reducible assumption);(case H8y=>with_reducible assumption);(case I8y=>k_extra "my room"))))
 k_with "c387" => ((k_here;k_dflt (refine' lnot_ct ?B8z ?C8z ?A8z ?_;(case B8z=>k_extra "my gd");(case C8z=>k_extra "my rm");(case A8z=>with_reducible assumption));k_extra "my kb0"))
 exact True.intro
theorem inKinds (k:Kd):([PyData.str "NULL",PyData.str "character"].any fun y=>PyData.eqv y (.str k.str))=false:=by cases k<;>rfl
theorem newsEq {b h:Heap} {L:Addr} {news:List (Addr×Obj)} (N:News b L h news):∃ LL,LL=news∧News b L h LL:=⟨_,rfl,N⟩
theorem notAts_few {k:Kd} {its:List PyData} {ats:List Att} {e:Option (List Int)} (f:Fit ⟨k.str,its,ats⟩ e):(notAts ⟨k.str,its,ats⟩ e).length≤10∧∀ a∈notAts ⟨k.str,its,ats⟩ e,a.2.2.length≤1000:=by
 k_extra "s"
 unfold notAts
 split
 . exact ⟨f.hla,f.hli⟩
 . rw [← f.sel]
   exact ⟨Nat.le_trans (List.length_filter_le _ _) f.hla,fun a ha=>f.hli a (List.mem_filter.mp ha).1⟩
 k_extra "f"
theorem neData {b h:Heap} {L a a':Addr} {o o':Obj} {news:List (Addr×Obj)} (N:News b L h news) (h1:(a,o)∈news) (h2:(a',o')∈news) (hd:o.data≠o'.data):a≠a':=fun e=>by
 have z:=(N _ h1).1
 rw [show a=a' from e,(N _ h2).1] at z
 exact hd (congrArg Obj.data (Option.some.inj z).symm)
theorem kw328:True:=by
 k_with "my bool" => (exact inNames _)
 k_with "my bool" => (exact inKinds _)
 k_with "!subscriptTail" => ((have:=g86;clear this);(k_here;(with_reducible show wpAny _ _ (subscriptTail _ _ (Value.ref _) (Value.str _ _)) _ _ _);k_dflt (refine' kda_item (knd:=PySem.strKind _ _) ?A93 ?B93 ?C93 (strKind_is _ _ _ _) ?D93 ?_;(case A93=>assumption);(case B93=>k_mem);(case C93=>with_reducible assumption);(case D93=>with_reducible assumption))))
 exact True.intro
section
variable {Q:Flow->Shared->Prop}
theorem turn2b_lgl {b B:Heap} {L I a dxa iaa:Addr} {oI:Obj} {i:Nat} {m0:Str->Option Value} {T0 TU:List (Addr×Obj)} {s':Shared} {ka1 ka2 ka3 ka4 ka5 kat:Tok} {ava:Value} {na ca:Nat} {vsa:List Value} {k:Kd} {its:List PyData} {ats:List Att} {e:Option (List Int)}
   (hkl:k = .lgl) (hF:Fit ⟨k.str,its,ats⟩ e) (hkn:Numv ⟨k.str,its,ats⟩) (hV:VM w (hm B) a ⟨k.str,its,ats⟩) (hl:its.length≤1000)
   (hlo:@LT.lt Nat _ 410 L) (X:(KF w.params).In b) (T:Top TP LO mean mg mb b) (R:Rm (A.deeper (ENV L)) 25) (hTU:∀ p∈TU,p∈T0) (bt:BT b B TU)
   (mA1:(a,instObj 113 dxa)∈T0) (mA2:(dxa,dictOf (vEnts w.params ka1 ka2 ka3 ka4 ka5 (.str k.str kat) (.ref iaa) ava) na)∈T0) (mA3:(iaa,listOf (List.toArray vsa) ca)∈T0)
   (hM:Mid2 w s b B L I a oI m0 T0 (its.map fun x=>not3 (tru x)) (notAts ⟨k.str,its,ats⟩ e) s') :
   wpAny (model PG w) (A.deeper (ENV L)) (execs lb2b (ENV L)) (TEnd b L I oI (J2 L m0 T0 (i+1)) s Q) E s':=by
 k_extra "s"
 have e3:(k.str != Str.ofString "logical")=false:=by rw [hkl];rfl
 have hkl':=Hold.mk hkl
 clear hkl
 obtain ⟨h',tk,x1,x2,x3,x4,x5,r2,dx2,ia2,tka,tkb,tkc,tkd,tke,tkf,av2,vs2,cc2,ps,oE,oS,cE,T2,nw2,rfl,F,N,dE,dS,ne2,sub2,off2,tb2,tv2,nwT,at2⟩:=hM.out
 clear hM
 replace mA1:=sub2 _ mA1
 replace mA2:=sub2 _ mA2
 replace mA3:=sub2 _ mA3
 have at3:=Hold.mk at2
 have ne3:=Hold.mk ne2
 obtain ⟨na1,na2,na3⟩:=ne2
 have nr2:@Ne Nat r2 (L+1+1+1+1):=neData N (.head _) (mt5 (.head _)) (by rw [dE];exact fun z=>nomatch z)
 have ndx2:@Ne Nat dx2 (L+1+1+1+1):=neData N (.tail _ (.head _)) (mt5 (.head _)) (by rw [dE];exact fun z=>nomatch z)
 have nia2:@Ne Nat ia2 (L+1+1+1+1):=neData N (mt2 (.head _)) (mt5 (.head _)) (by rw [dE];exact fun z=>nomatch z)
 have fit:=Hold.mk hF
 clear at2 hF
 have e1:(k.str == Str.ofString "character")=false:=by cases k<;>rfl
 have e2:([Str.ofString "NULL",Str.ofString "character"].any fun x=>x == k.str)=false:=by cases k<;>rfl
 unfold LM2 at N
 unfold FR1 at F
 k_steps
 with_reducible rename News _ _ _ _=>N8
 with_reducible rename Fr _ _ _ _=>F8
 have N9:News b L _ (LM2 w L I oI oE oS ps r2 dx2 ia2 tka tkb tkc tkd tke tkf av2 vs2 cc2 T2):=fun p hp=>N8 p (.tail _ hp)
 refine cseen_in off2 F8 N9 (.tail (.tail (.tail (.tail (.tail (.tail (.tail (.head)))))))) (by k_extra "my dom") X T (R.le (by decide)) (bt.stays F8 (fun p hp=>N9 p (mt7 (sub2 _ (hTU p hp))))) hV fit.out.hla fit.out.hli ?_
 intro h11 tk11 D11 oD11 kvs11 T11 F11 N11 n11 sub11 off11 lo11 hd11 sm11
 replace mA1:=sub11 _ mA1
 replace mA2:=sub11 _ mA2
 replace mA3:=sub11 _ mA3
 have n11':AllNe D11 (LM2 w L I oI oE oS ps r2 dx2 ia2 tka tkb tkc tkd tke tkf av2 vs2 cc2 T2):=n11
 clear N8 F8 N9 n11
 simp only [LM2,AllNe] at n11'
 k_steps
 have few:=Hold.mk (notAts_few (k:=k) fit.out)
 have smS:SeenM (HT B T11) kvs11 (notAts ⟨k.str,its,ats⟩ e):=by rw [hkl'.out,notAts_lgl];exact sm11
 clear sm11
 rename_i h12 oE2 F8 N8 dE2 tk9
 have NT8:News b L h12 TU:=fun p hp=>by
   have q:=sub11 _ (sub2 _ (hTU p hp))
   exact N8 p (by simp only [List.mem_cons];simp only [q,or_true])
 refine ltruths_ct (Gd.keeps ⟨X,T⟩ F8.keep) (R.le (by decide)) (bt.stays F8 NT8) hV hkn hl ?_
 intro h13 tk13 r13 vs13 c13 kb13 g13 n13 tv13
 dsimp only at tv13
 have N13:=more1 kb13 g13 n13 F8 N8
 have F13:=Fr.kb0 F8 kb13
 have hv13:=tv13.length
 rw [List.length_map] at hv13
 clear F8 N8 NT8 kb13 g13 n13
 obtain ⟨LL,hLL,N13⟩:=newsEq N13
 have hmem:(r13,listOf (List.toArray vs13) c13)∈LL:=by rw [hLL];exact .head _
 refine LCg.CompSrc.ledger (by k_extra "my hh") F13 N13 hmem (by rw [sizeLine_eq,List.size_toArray];omega) fun g=>?_
 refine comp_inv (n:=vs13.toArray.size) (fun i ys news=>news=LL∧TvsV ys ((its.take i).map fun d=>not3 (tru d))) ?turn ?fin _ _ _ _ (Nat.zero_add _) ⟨rfl,.nil⟩
 case turn =>
   rintro i9 ys _ hi ⟨rfl,hys⟩ x9 J9 oJ oC C9 D9 m₂ h9 tk9 E' hP hoC hmm F10 N10 off9 ne9
   have hi1:i9<its.length:=by rw [List.size_toArray] at hi;omega
   obtain ⟨x',hx',tx⟩:=tv13.get i9 (by rw [List.length_map];exact hi1)
   have ex:x'=x9:=Option.some.inj (hx'.symm.trans (by simpa using hP))
   subst ex
   clear F13 N13
   have hLL':=Hold.mk hLL
   clear hLL
   k_steps
   refine LCg.CompEnd.intro (by assumption) (by assumption) _ (fun _ h=>h) off9 (.inr ⟨_,hmem,rfl,_,rfl⟩) ⟨rfl,?_⟩
   rw [take_snoc2 (List.getElem?_eq_getElem hi1)]
   refine TvsV.snoc hys ?_
   have e9:(its.map tru).getD i9 none=tru its[i9]:=by rw [List.getD_eq_getElem?_getD,List.getElem?_map,List.getElem?_eq_getElem hi1];rfl
   rw [← e9];assumption
 case fin =>
   rintro ys _ ⟨rfl,hys⟩ D9 h9 tk9 F10 N10 off9
   subst hLL
   rw [show vs13.toArray.size=its.length from by rw [List.size_toArray];exact hv13,List.take_of_length_le (Nat.le_refl _)] at hys
   clear F13 N13 off9 hmem
   k_steps
   with_reducible rename News _ _ _ _=>N8
   with_reducible rename Fr _ _ _ _=>F8
   have N9:News b L _ ((D11,oD11)::LM2 w L I oI oE2 oS ps r2 dx2 ia2 tka tkb tkc tkd tke tkf av2 vs2 cc2 T11):=fun p hp=>N8 p (by
     revert hp
     k_extra "my sub")
   have VT:=VM.vec (w:=w) (show ¬(Str.ofString "logical" = Str.ofString "NULL") by decide) (VAt.mk ⟨_,_,_,_,_,_,_,_,_,(N9 _ (.tail _ (.head _))).1,(N9 _ (mt2 (.head _))).1,(N9 _ (mt3 (.head _))).1,tv2.its⟩) (at3.out.mono fun a o q=>q.elim (fun q=>(N9 _ (mt8 (sub11 _ (nwT _ q)))).1) fun q=>bt.stays F8 (fun p hp=>N9 p (mt8 (sub11 _ (sub2 _ (hTU p hp))))) _ _ q)
   refine tseen_in off11 F8 N9 (.tail (.tail (.tail (.tail (.tail (.tail (.tail (.tail (.head))))))))) (by k_extra "my dom") X T (R.le (by decide)) VT few.out.1 few.out.2 ?_
   intro h15 tk15 D15 oD15 kvs15 T15 F15 N15 n15 sub15 off15 lo15 hd15 sm15 kb15
   have smA:SeenM (hm h15) kvs11 (notAts ⟨k.str,its,ats⟩ e):=smS.mono fun a o q=>q.elim (fun q=>(N15 _ (mt9 (sub15 _ q))).1) fun q=>bt.stays F15 (fun p hp=>N15 p (mt9 (sub15 _ (sub11 _ (sub2 _ (hTU p hp)))))) _ _ q
   clear VT F8 N8 N9 kb15
   dsimp only at sm15
   k_steps
   exact TEnd2 F15 (fun p hp=>N15 p (mt5 (hp))) dE2 dS ne3.out (fun p hp=>sub15 _ (sub11 _ (sub2 _ hp))) off15 ((tb2.mono sub11).mono sub15)
 k_extra "f"
end
end
section
theorem G87.g87:True:=True.intro
open G87
theorem kw334:True:=by
 k_with "!compareOp NotEq ref ref" => ((have:=g87;clear this);(k_here;k_dflt (refine' dne_seen ?A95 ?B95 ?C95 ?D95 ?E95 ?F95 ?G95 ?H95 ?I95 ?_;(case C95=>k_extra "my get");(case D95=>k_extra "my get");(case A95=>with_reducible assumption);(case B95=>with_reducible assumption);(case E95=>with_reducible assumption);(case F95=>with_reducible assumption);(case G95=>with_reducible assumption);(case H95=>with_reducible assumption);(case I95=>k_extra "my room"))))
 k_with "c387" => ((k_here;k_dflt (refine' lnot_ct ?B96 ?C96 ?A96 ?_;(case B96=>k_extra "my gd");(case C96=>k_extra "my rm");(case A96=>with_reducible assumption));k_extra "my kb0"))
 k_with "my bool" => (exact inNames _)
 k_with "my bool" => (exact inKinds _)
 k_with "!subscriptTail" => ((have:=g87;clear this);(k_here;(with_reducible show wpAny _ _ (subscriptTail _ _ (Value.ref _) (Value.str _ _)) _ _ _);k_dflt (refine' kda_item (knd:=PySem.strKind _ _) ?A99 ?B99 ?C99 (strKind_is _ _ _ _) ?D99 ?_;(case A99=>assumption);(case B99=>k_mem);(case C99=>with_reducible assumption);(case D99=>with_reducible assumption))))
 exact True.intro
theorem inNm {x:Str}:(([Str.ofString "names",Str.ofString "dim"].any fun y=>y == x)=true) ↔ (x=Str.ofString "names" ∨ x=Str.ofString "dim"):=by
 simp only [List.any_cons,List.any_nil,Bool.or_false,Bool.or_eq_true,beq_iff_eq]
 exact ⟨fun z=>z.imp Eq.symm Eq.symm,fun z=>z.imp Eq.symm Eq.symm⟩
section
variable {Q:Flow->Shared->Prop}
theorem turn2b_nlg {b B:Heap} {L I a dxa iaa:Addr} {oI:Obj} {i:Nat} {m0:Str->Option Value} {T0 TU:List (Addr×Obj)} {s':Shared} {ka1 ka2 ka3 ka4 ka5 kat:Tok} {ava:Value} {na ca:Nat} {vsa:List Value} {k:Kd} {its:List PyData} {ats:List Att} {e:Option (List Int)}
   (hkl:k ≠ .lgl) (hF:Fit ⟨k.str,its,ats⟩ e) (hkn:Numv ⟨k.str,its,ats⟩) (hV:VM w (hm B) a ⟨k.str,its,ats⟩) (hl:its.length≤1000)
   (hlo:@LT.lt Nat _ 410 L) (X:(KF w.params).In b) (T:Top TP LO mean mg mb b) (R:Rm (A.deeper (ENV L)) 25) (hTU:∀ p∈TU,p∈T0) (bt:BT b B TU)
   (mA1:(a,instObj 113 dxa)∈T0) (mA2:(dxa,dictOf (vEnts w.params ka1 ka2 ka3 ka4 ka5 (.str k.str kat) (.ref iaa) ava) na)∈T0) (mA3:(iaa,listOf (List.toArray vsa) ca)∈T0)
   (hM:Mid2 w s b B L I a oI m0 T0 (its.map fun x=>not3 (tru x)) (notAts ⟨k.str,its,ats⟩ e) s') :
   wpAny (model PG w) (A.deeper (ENV L)) (execs lb2b (ENV L)) (TEnd b L I oI (J2 L m0 T0 (i+1)) s Q) E s':=by
 k_extra "s"
 have e3:(k.str != Str.ofString "logical")=true:=by cases k<;>first | exact absurd rfl hkl | rfl
 have hkl':=Hold.mk hkl
 clear hkl
 obtain ⟨h',tk,x1,x2,x3,x4,x5,r2,dx2,ia2,tka,tkb,tkc,tkd,tke,tkf,av2,vs2,cc2,ps,oE,oS,cE,T2,nw2,rfl,F,N,dE,dS,ne2,sub2,off2,tb2,tv2,nwT,at2⟩:=hM.out
 clear hM
 replace mA1:=sub2 _ mA1
 replace mA2:=sub2 _ mA2
 replace mA3:=sub2 _ mA3
 have at3:=Hold.mk at2
 have ne3:=Hold.mk ne2
 obtain ⟨na1,na2,na3⟩:=ne2
 have nr2:@Ne Nat r2 (L+1+1+1+1):=neData N (.head _) (mt5 (.head _)) (by rw [dE];exact fun z=>nomatch z)
 have ndx2:@Ne Nat dx2 (L+1+1+1+1):=neData N (.tail _ (.head _)) (mt5 (.head _)) (by rw [dE];exact fun z=>nomatch z)
 have nia2:@Ne Nat ia2 (L+1+1+1+1):=neData N (mt2 (.head _)) (mt5 (.head _)) (by rw [dE];exact fun z=>nomatch z)
 have fit:=Hold.mk hF
 clear at2 hF
 have e1:(k.str == Str.ofString "character")=false:=by cases k<;>rfl
 have e2:([Str.ofString "NULL",Str.ofString "character"].any fun x=>x == k.str)=false:=by cases k<;>rfl
 unfold LM2 at N
 unfold FR1 at F
 k_steps
 with_reducible rename News _ _ _ _=>N8
 with_reducible rename Fr _ _ _ _=>F8
 have N9:News b L _ (LM2 w L I oI oE oS ps r2 dx2 ia2 tka tkb tkc tkd tke tkf av2 vs2 cc2 T2):=fun p hp=>N8 p (.tail _ hp)
 refine cseen_in off2 F8 N9 (.tail (.tail (.tail (.tail (.tail (.tail (.tail (.head)))))))) (by k_extra "my dom") X T (R.le (by decide)) (bt.stays F8 (fun p hp=>N9 p (mt7 (sub2 _ (hTU p hp))))) hV fit.out.hla fit.out.hli ?_
 intro h11 tk11 D11 oD11 kvs11 T11 F11 N11 n11 sub11 off11 lo11 hd11 sm11
 replace mA1:=sub11 _ mA1
 replace mA2:=sub11 _ mA2
 replace mA3:=sub11 _ mA3
 have n11':AllNe D11 (LM2 w L I oI oE oS ps r2 dx2 ia2 tka tkb tkc tkd tke tkf av2 vs2 cc2 T2):=n11
 clear N8 F8 N9 n11
 simp only [LM2,AllNe] at n11'
 k_steps
 have few:=Hold.mk (notAts_few (k:=k) fit.out)
 dsimp only at sm11
 rename_i h12 oE1 F12 N12 dE1 tk12
 have hnd:=keysNodup_of_isDictOf hd11
 have hnda:(ats.map (·.1)).Nodup:=sm11.names ▸ hnd
 have hkl:kvs11.length=ats.length:=by have:=congrArg List.length sm11.names;simpa using this
 have hal:=fit.out.hla
 dsimp only at hal
 refine DictComp_T (Top.nolimit T) (L:=L) (h₀:=b) (m:=fun y=>if y=Str.ofString "items" then x1 else if y=Str.ofString "total" then x2 else if y=Str.ofString "shape" then x3 else if y=Str.ofString "refused" then x4 else if y=Str.ofString "due" then x5 else if y=Str.ofString "told" then some (.ref r2) else m0 y)
   (fun i out news=>news=(D11,oD11)::LM2 w L I oI oE1 oS ps r2 dx2 ia2 tka tkb tkc tkd tke tkf av2 vs2 cc2 T11∧SeenM (HT B T11) out ((ats.take i).filter selP)) (by with_unfolding_all rfl) (by decide) (by rfl) (by decide) (by rfl) ?_
 k_steps
 refine ⟨D11,oD11,kvs11,(D11,oD11)::LM2 w L I oI oE1 oS ps r2 dx2 ia2 tka tkb tkc tkd tke tkf av2 vs2 cc2 T11,rfl,by k_extra "my hh",by assumption,by assumption,?_,hd11,lo11,by omega,⟨rfl,.nil⟩,?len,?turn,?fin⟩
 . rintro i out news (⟨rfl,_⟩ | ⟨rfl,_⟩)
   . exact .head _
   . exact .head _
 case len =>
   rintro i out _ ⟨rfl,hs⟩
   have:=congrArg List.length hs.names
   rw [List.length_map,List.length_map] at this
   rw [this]
   exact Nat.le_trans (List.length_filter_le _ _) (by rw [List.length_take];exact Nat.min_le_left _ _)
 case turn =>
   rintro s₂ ⟨g,rfl⟩ i9 k9 v9 t9 out _ I9 oI9 oC oD9 C9 D9 m₂ h9 tk9 E' hk9 ⟨rfl,hs⟩ hoC hmm F10 N10 off9 ne9
   obtain ⟨kk,its9,hat,hsr⟩:=SeenM.at sm11 hk9
   have hva:=valueAt_of_get hnd hk9
   have hout:k9∉out.map (·.1):=by
     rw [hs.names]
     exact fun z=>nodup_at hnda hat (((List.filter_sublist.map _).subset) z)
   have hfs:(ats.take (i9+1)).filter selP=(ats.take i9).filter selP++(if k9=Str.ofString "names" ∨ k9=Str.ofString "dim" then [(k9,kk,its9)] else []):=by
     rw [take_snoc3 hat,List.filter_append]
     congr 1
     by_cases hc:k9=Str.ofString "names" ∨ k9=Str.ofString "dim"
     . rw [if_pos hc,List.filter_cons_of_pos (by exact decide_eq_true hc)];rfl
     . rw [if_neg hc,List.filter_cons_of_neg (by exact fun z=>hc (of_decide_eq_true z))];rfl
   unfold LM2 at N10
   k_steps
   . rename_i D8 h8 F8 N8 l8 a8
     have hc:k9=Str.ofString "names" ∨ k9=Str.ofString "dim" := inNm.mp a8
     refine ⟨_,_,_,rfl,F8,fun p hp=>N8 p (.tail _ hp),off9,k9,strKind_is _ _ _ _,rfl,?_⟩
     rw [stored_out hout,hfs,if_pos hc]
     exact hs.snoc hsr
   . rename_i D8 h8 F8 N8 l8 a8
     have hc:¬(k9=Str.ofString "names" ∨ k9=Str.ofString "dim"):=fun z=>by rw [inNm.mpr z] at a8;cases a8
     refine ⟨_,_,_,rfl,F8,fun p hp=>N8 p (.tail _ hp),off9,rfl,?_⟩
     rw [hfs,if_neg hc,List.append_nil]
     exact hs
 case fin =>
   rintro D12 h9 tk9 oD12 kvs12 _ lo12 F10 N10 hd12 o1 ⟨rfl,hs⟩
   rw [hkl,List.take_of_length_le (Nat.le_refl _),fit.out.sel] at hs
   have smS:SeenM (HT B T11) kvs12 (notAts ⟨k.str,its,ats⟩ e):=by
     unfold notAts
     rw [if_neg (fun z=>by have z':k.str=Str.ofString "logical" := z;rw [z'] at e3;exact absurd e3 (by decide))]
     exact hs
   clear sm11 hs F12 N12
   simp only [LM2,LCg.Off1] at o1
   unfold LM2 at N10
   k_steps
   rename_i h12 oE2 F8 N8 dE2
   have NT8:News b L h12 TU:=fun p hp=>by
     have q:=sub11 _ (sub2 _ (hTU p hp))
     exact N8 p (by simp only [List.mem_cons];simp only [q,or_true])
   refine ltruths_ct (Gd.keeps ⟨X,T⟩ F8.keep) (R.le (by decide)) (bt.stays F8 NT8) hV hkn hl ?_
   intro h13 tk13 r13 vs13 c13 kb13 g13 n13 tv13
   dsimp only at tv13
   have N13:=more1 kb13 g13 n13 F8 N8
   have F13:=Fr.kb0 F8 kb13
   have hv13:=tv13.length
   rw [List.length_map] at hv13
   clear F8 N8 NT8 kb13 g13 n13
   obtain ⟨LL,hLL,N13⟩:=newsEq N13
   have hmem:(r13,listOf (List.toArray vs13) c13)∈LL:=by rw [hLL];exact .head _
   refine LCg.CompSrc.ledger (by k_extra "my hh") F13 N13 hmem (by rw [sizeLine_eq,List.size_toArray];omega) fun g=>?_
   refine comp_inv (n:=vs13.toArray.size) (fun i ys news=>news=LL∧TvsV ys ((its.take i).map fun d=>not3 (tru d))) ?turn ?fin _ _ _ _ (Nat.zero_add _) ⟨rfl,.nil⟩
   case turn =>
     rintro i9 ys _ hi ⟨rfl,hys⟩ x9 J9 oJ oC C9 D9 m₂ h9 tk9 E' hP hoC hmm F10 N10 off9 ne9
     have hi1:i9<its.length:=by rw [List.size_toArray] at hi;omega
     obtain ⟨x',hx',tx⟩:=tv13.get i9 (by rw [List.length_map];exact hi1)
     have ex:x'=x9:=Option.some.inj (hx'.symm.trans (by simpa using hP))
     subst ex
     clear F13 N13
     have hLL':=Hold.mk hLL
     clear hLL
     k_steps
     refine LCg.CompEnd.intro (by assumption) (by assumption) _ (fun _ h=>h) off9 (.inr ⟨_,hmem,rfl,_,rfl⟩) ⟨rfl,?_⟩
     rw [take_snoc2 (List.getElem?_eq_getElem hi1)]
     refine TvsV.snoc hys ?_
     have e9:(its.map tru).getD i9 none=tru its[i9]:=by rw [List.getD_eq_getElem?_getD,List.getElem?_map,List.getElem?_eq_getElem hi1];rfl
     rw [← e9];assumption
   case fin =>
     rintro ys _ ⟨rfl,hys⟩ D9 h9 tk9 F10 N10 off9
     subst hLL
     rw [show vs13.toArray.size=its.length from by rw [List.size_toArray];exact hv13,List.take_of_length_le (Nat.le_refl _)] at hys
     clear F13 N13 off9 hmem
     k_steps
     with_reducible rename News _ _ _ _=>N8
     with_reducible rename Fr _ _ _ _=>F8
     have N9:News b L _ ((D12,oD12)::LM2 w L I oI oE2 oS ps r2 dx2 ia2 tka tkb tkc tkd tke tkf av2 vs2 cc2 T11):=fun p hp=>N8 p (by
       revert hp
       k_extra "my sub")
     have VT:=VM.vec (w:=w) (show ¬(Str.ofString "logical" = Str.ofString "NULL") by decide) (VAt.mk ⟨_,_,_,_,_,_,_,_,_,(N9 _ (.tail _ (.head _))).1,(N9 _ (mt2 (.head _))).1,(N9 _ (mt3 (.head _))).1,tv2.its⟩) (at3.out.mono fun a o q=>q.elim (fun q=>(N9 _ (mt8 (sub11 _ (nwT _ q)))).1) fun q=>bt.stays F8 (fun p hp=>N9 p (mt8 (sub11 _ (sub2 _ (hTU p hp))))) _ _ q)
     refine tseen_in off11 F8 N9 (.tail (.tail (.tail (.tail (.tail (.tail (.tail (.tail (.head))))))))) (by k_extra "my dom") X T (R.le (by decide)) VT few.out.1 few.out.2 ?_
     intro h15 tk15 D15 oD15 kvs15 T15 F15 N15 n15 sub15 off15 lo15 hd15 sm15 kb15
     have smA:SeenM (hm h15) kvs12 (notAts ⟨k.str,its,ats⟩ e):=smS.mono fun a o q=>q.elim (fun q=>(N15 _ (mt9 (sub15 _ q))).1) fun q=>bt.stays F15 (fun p hp=>N15 p (mt9 (sub15 _ (sub11 _ (sub2 _ (hTU p hp)))))) _ _ q
     clear VT F8 N8 N9 kb15
     dsimp only at sm15
     k_steps
     exact TEnd2 F15 (fun p hp=>N15 p (mt5 (hp))) dE2 dS ne3.out (fun p hp=>sub15 _ (sub11 _ (sub2 _ hp))) off15 ((tb2.mono sub11).mono sub15)
 k_extra "f"
end
end
section
section
variable {Q:Flow->Shared->Prop}
theorem turn2_join {b:Heap} {L I a:Addr} {oI:Obj} {i:Nat} {m0:Str->Option Value} {T0:List (Addr×Obj)} {target:Expr} {P:Shared->Prop}
   (h1:wpAny (model PG w) (A.deeper (ENV L)) (assign target (ENV L) (.ref a)) (fun _ s₃=>wpAny (model PG w) (A.deeper (ENV L)) (execs lb2a (ENV L)) (fun f s'=>f = .next∧P s') E s₃) E s)
   (h2:∀ s',P s'->wpAny (model PG w) (A.deeper (ENV L)) (execs lb2b (ENV L)) (TEnd b L I oI (J2 L m0 T0 (i+1)) s Q) E s') :
   wpAny (model PG w) (A.deeper (ENV L)) (assign target (ENV L) (.ref a)) (fun _ s₃=>wpAny (model PG w) (A.deeper (ENV L)) (execs lb2 (ENV L)) (TEnd b L I oI (J2 L m0 T0 (i+1)) s Q) E s₃) E s:=by
 k_extra "s"
 refine wpAny_mono h1 (fun _ s₃ h=>?_) fun _ _ e=>e
 rw [lb2_eq]
 refine execs_app (wpAny_mono h (fun f s' z=>?_) fun _ _ e=>e)
 obtain ⟨rfl,hM⟩:=z
 exact h2 _ hM
 k_extra "f"
theorem turn2_any {b B:Heap} {L I a:Addr} {oI:Obj} {i:Nat} {m m0:Str->Option Value} {news T0 TU:List (Addr×Obj)} {d:Vd} {target:Expr}
   (htg:∃ p1,target = .Name "side" p1)
   (X:(KF w.params).In b) (T:Top TP LO mean mg mb b) (C:CodeHd b 412 410) (R:Rm (A.deeper (ENV L)) 25) (hfr:A.frames=some [])
   (hlo:@LT.lt Nat _ 410 L) (hTU:∀ p∈TU,p∈T0) (bt:BT b B TU) (hV:VM w (hm B) a d) (hT:VM w (lm TU) a d) (hg:GenOk d)
   (J:J2 L m0 T0 i m news) (hn:∀ p∈news,p.1≠I) (F:Fr b L s.heap m) (N:News b L s.heap ((I,oI)::news)) :
   wpAny (model PG w) (A.deeper (ENV L)) (assign target (ENV L) (.ref a)) (fun _ s₃=>wpAny (model PG w) (A.deeper (ENV L)) (execs lb2 (ENV L)) (TEnd b L I oI (J2 L m0 T0 (i+1)) s Q) E s₃) E s:=by
 k_extra "s"
 cases hg with
 | null =>
   have hz:∃ dx ka1 ka2 ka3 n,(a,instObj 84 dx)∈TU∧(dx,dictOf (nullEnts w.params ka1 ka2 ka3) n)∈TU:=by
     generalize hd:(⟨Str.ofString "NULL",[],[]⟩:Vd)=dz at hT
     cases hT with
     | vec h0 h1 h2=>injection hd with h3;exact absurd h3.symm h0
     | null h1 h2=>exact ⟨_,_,_,_,_,h1,h2⟩
   obtain ⟨dx,ka1,ka2,ka3,n,m1,m2⟩:=hz
   refine turn2_join (turn2a (e:=none) (tvs:=[]) (ats:=[]) htg X T C R hfr hlo hTU bt hV (by decide) (by decide) (.inl ⟨.null,rfl,rfl,rfl,by decide⟩) J hn F N) fun s' hM=>?_
   exact turn2b_null X T R hTU bt (hTU _ m1) (hTU _ m2) hM
 | @num k its ats hok hl hats =>
   obtain ⟨e,fit⟩:=fit_ok (k:=k.str) hats hl
   have hz:∃ dx ia ka1 ka2 ka3 ka4 ka5 kat av n vs c,(a,instObj 113 dx)∈TU∧(dx,dictOf (vEnts w.params ka1 ka2 ka3 ka4 ka5 (.str k.str kat) (.ref ia) av) n)∈TU∧(ia,listOf (List.toArray vs) c)∈TU:=by
     generalize hd:(⟨k.str,its,ats⟩:Vd)=dz at hT
     cases hT with
     | vec h0 h1 h2 =>
       injection hd with h3 h4 h5
       subst h3 h4 h5
       obtain ⟨tk,ti,ta,ts,tl,kt,n,vs,c,g1,g2,g3,g4⟩:=h1.ex
       exact ⟨_,_,_,_,_,_,_,_,_,_,_,_,g1,g2,g3⟩
     | null h1 h2=>injection hd with h3;cases k<;>exact absurd h3 (by decide)
   obtain ⟨dx,ia,ka1,ka2,ka3,ka4,ka5,kat,av,n,vs,c,m1,m2,m3⟩:=hz
   have hk:Numv ⟨k.str,its,ats⟩ := .num k hok
   refine turn2_join (turn2a (e:=e) htg X T C R hfr hlo hTU bt hV (by show its.length≤1000;omega) fit.hla (.inl ⟨hk,fit.hd,fit.hn,rfl,rfl⟩) J hn F N) fun s' hM=>?_
   by_cases hkl:k = .lgl
   . exact turn2b_lgl hkl fit hk hV (by omega) hlo X T R hTU bt (hTU _ m1) (hTU _ m2) (hTU _ m3) hM
   . exact turn2b_nlg hkl fit hk hV (by omega) hlo X T R hTU bt (hTU _ m1) (hTU _ m2) (hTU _ m3) hM
 | @chr its hl =>
   have hz:∃ dx ia ka1 ka2 ka3 ka4 ka5 kat av n vs c,(a,instObj 113 dx)∈TU∧(dx,dictOf (vEnts w.params ka1 ka2 ka3 ka4 ka5 (.str (Str.ofString "character") kat) (.ref ia) av) n)∈TU∧(ia,listOf (List.toArray vs) c)∈TU∧vs.length=its.length:=by
     generalize hd:(⟨Str.ofString "character",its,[]⟩:Vd)=dz at hT
     cases hT with
     | vec h0 h1 h2 =>
       injection hd with h3 h4 h5
       subst h3 h4 h5
       obtain ⟨tk,ti,ta,ts,tl,kt,n,vs,c,g1,g2,g3,g4⟩:=h1.ex
       exact ⟨_,_,_,_,_,_,_,_,_,_,_,_,g1,g2,g3,g4.length⟩
     | null h1 h2=>injection hd with h3;exact absurd h3 (by decide)
   obtain ⟨dx,ia,ka1,ka2,ka3,ka4,ka5,kat,av,n,vs,c,m1,m2,m3,hvl⟩:=hz
   by_cases hi:its=[]
   . have hvs:vs=[]:=List.eq_nil_of_length_eq_zero (by rw [hvl,hi];rfl)
     refine turn2_join (turn2a (e:=none) (tvs:=[]) (ats:=[]) htg X T C R hfr hlo hTU bt hV (by show its.length≤1000;omega) (Nat.zero_le _) (.inr ⟨rfl,hi,rfl,rfl⟩) J hn F N) fun s' hM=>?_
     exact turn2b_chr0 X T R hTU bt (hTU _ m1) (hTU _ m2) (hTU _ m3) hvs hM
   . exact turn2_chr1 htg X T C R hfr hlo hTU bt hV (by show its.length≤1000;omega) rfl hi (hTU _ m1) (hTU _ m2) (hTU _ m3) (fun z=>hi (List.eq_nil_of_length_eq_zero (by rw [← hvl,z];rfl))) J hn F N
 k_extra "f"
theorem J2.T_ {L:Addr} {m0 m:Str->Option Value} {T0 news:List (Addr×Obj)} {i:Nat} (J:J2 L m0 T0 i m news):∀ p∈T0,p∈news:=by
 obtain ⟨x1,x2,x3,x4,x5,x6,oE,oS,cE,cS,ps,TT,rfl,rfl,dE,dS,hT0,off,tb⟩:=J.out
 exact fun p hp=>mt3 (hT0 p hp)
theorem loop2 {b B:Heap} {L lx u v:Addr} {c:Nat} {m m0:Str->Option Value} {news T0 TU:List (Addr×Obj)} {du dv:Vd} {target:Expr} (hl0:(lx,listOf (List.toArray [.ref u,.ref v]) c)∈T0) (htg:∃ p1,target = .Name "side" p1)
   (X:(KF w.params).In b) (T:Top TP LO mean mg mb b) (C:CodeHd b 412 410) (R:Rm (A.deeper (ENV L)) 25) (hfr:A.frames=some [])
   (hlo:@LT.lt Nat _ 410 L) (hTU:∀ p∈TU,p∈T0) (bt:BT b B TU) (hU:VM w (hm B) u du) (hU':VM w (lm TU) u du) (hgu:GenOk du) (hV:VM w (hm B) v dv) (hV':VM w (lm TU) v dv) (hgv:GenOk dv)
   (J:J2 L m0 T0 0 m news) (F:Fr b L s.heap m) (N:News b L s.heap news)
   (done:∀ h' tk m' news',Fr b L h' m'->News b L h' news'->J2 L m0 T0 2 m' news'->Q .next {s with heap:=h',toks:=tk}) :
   wpAny (model PG w) (A.deeper (ENV L)) (pyIter (.ref lx)) (fun it s₂=>TurnsB PG w (A.deeper (ENV L)) b (ENV L) target lb2 Q E it s₂) E s:=by
 k_extra "s"
 refine iterListT (h₀:=b) (vs:=[.ref u,.ref v]) (J2 L m0 T0) R.h (News.isList N (J.T_ _ hl0)) (N _ (J.T_ _ hl0)).2.1 (.inr ⟨_,fun i m news z=>z.T_ _ hl0⟩) F N (Hold.mk J.out) ?_ done
 intro I i x m₁ news₁ h tk oI hv9 hJ hn9 F9 N9
 match i,hv9 with
 | 0,e=>cases e;exact turn2_any htg X T C R hfr hlo hTU bt hU hU' hgu hJ hn9 F9 N9
 | 1,e=>cases e;exact turn2_any htg X T C R hfr hlo hTU bt hV hV' hgv hJ hn9 F9 N9
 | i+2,e=>simp at e
 k_extra "f"
end
end
section
def take2:List Stmt->List Stmt
 | a::b::_=>[a,b]
 | l=>l
def drop2:List Stmt->List Stmt
 | _::_::r=>r
 | _=>[]
@[reducible] noncomputable def lb3a:List Stmt:=Subtype.val (p:=fun b=>take2 lb3=b) (by k_extra "w")
@[reducible] noncomputable def lb3b:List Stmt:=Subtype.val (p:=fun b=>drop2 lb3=b) (by k_extra "w")
theorem lb3_eq:lb3=lb3a++lb3b:=rfl
noncomputable def FR3 (m0:Str->Option Value) (x1 x2 x3 x4 x5 x6 xf xa xm:Option Value):Str->Option Value:=fun y=>if y=Str.ofString "many" then xm else if y=Str.ofString "a" then xa else if y=Str.ofString "found" then xf else FR1 m0 x1 x2 x3 x4 x5 x6 y
noncomputable abbrev LG3 (L:Addr) (oN oK:Obj) (ps:Array Value) (T:List (Addr×Obj)):List (Addr×Obj) :=
 (L+1+1+1+1+1+1+1,oN)::(L+1+1+1+1+1+1+1+1,oK)::(410,tabObj ps)::T
inductive J30 (L:Addr) (m0:Str->Option Value) (T0:List (Addr×Obj)) (_i:Nat) (m:Str->Option Value) (news:List (Addr×Obj)):Prop
 | mk:∀ x1 x2 x3 x4 x5 x6 xf xa xm oN oK cN cK ps T,
   (m=FR3 m0 x1 x2 x3 x4 x5 x6 xf xa xm) ->
   (news=LG3 L oN oK ps T) ->
   (oN.data = .cell cN) ->
   (oK.data = .cell cK) ->
   (∀ p∈T0,p∈T) ->
   (Off T [410,L+1+1+1+1+1+1+1,L+1+1+1+1+1+1+1+1]) ->
   (TabOk T ps) ->
   J30 L m0 T0 _i m news
def J3 (L:Addr) (m0:Str->Option Value) (T0:List (Addr×Obj)) (_i:Nat) (m:Str->Option Value) (news:List (Addr×Obj)):Prop:=Hold (J30 L m0 T0 _i m news)
noncomputable abbrev LM3 (L I:Addr) (oI oN oK:Obj) (ps:Array Value) (lt:Addr) (r3 r4:Value) (ct:Nat) (nt:Addr) (xs:List Value) (c:Nat) (T:List (Addr×Obj)):List (Addr×Obj) :=
 (lt,listOf #[r3,r4] ct)::(nt,listOf (List.toArray xs) c)::(410,tabObj ps)::(I,oI)::(L+1+1+1+1+1+1+1,oN)::(L+1+1+1+1+1+1+1+1,oK)::T
inductive Mid30 (s:Shared) (b:Heap) (L I:Addr) (oI:Obj) (m0:Str->Option Value) (T0:List (Addr×Obj)) (skip:Bool) (P:Value->Value->List Value->Prop) (s':Shared):Prop
 | mk:∀ h' tk x1 x2 x3 x4 x5 xf xa xm lt r3 r4 ct nt xs c ps oN oK T2,
   (s' = {s with heap:=h',toks:=tk}) ->
   (Fr b L h' (FR3 m0 x1 x2 x3 x4 x5 (some (.ref lt)) xf xa xm)) ->
   (News b L h' (LM3 L I oI oN oK ps lt r3 r4 ct nt xs c T2)) ->
   (oN.data = .cell (some (.ref nt))) ->
   (oK.data = .cell (some (.bool skip))) ->
   (@Ne Nat (L+1+1+1+1+1+1+1) I∧@Ne Nat (L+1+1+1+1+1+1+1+1) I∧@Ne Nat 410 I) ->
   (∀ p∈T0,p∈T2) ->
   (Off T2 [410,L+1+1+1+1+1+1+1,L+1+1+1+1+1+1+1+1,nt,I]) ->
   (TabOk T2 ps) ->
   (P r3 r4 xs) ->
   Mid30 s b L I oI m0 T0 skip P s'
def Mid3 (s:Shared) (b:Heap) (L I:Addr) (oI:Obj) (m0:Str->Option Value) (T0:List (Addr×Obj)) (skip:Bool) (P:Value->Value->List Value->Prop) (s':Shared):Prop:=Hold (Mid30 s b L I oI m0 T0 skip P s')
theorem FR3_t {m0:Str->Option Value} {x1 x2 x3 x4 x5 x6 xf xa xm v:Option Value} {b h:Heap} {L:Addr} (F:Fr b L h (fun y=>if y=Str.ofString "told" then v else FR3 m0 x1 x2 x3 x4 x5 x6 xf xa xm y)):Fr b L h (FR3 m0 x1 x2 x3 x4 x5 v xf xa xm):=by
 k_extra "s"
 refine Eq.mp (congrArg (Fr b L h) ?_) F
 funext y
 by_cases h:y=Str.ofString "told"
 . subst h;rfl
 . simp only [FR3,FR1,if_neg h]
 k_extra "f"
section
variable {s:Shared} {Q:Flow->Shared->Prop}
theorem mem3 {b h':Heap} {L I:Addr} {oI oN oK:Obj} {ps:Array Value} {T:List (Addr×Obj)} (N:News b L h' ((410,tabObj ps)::(I,oI)::(L+1+1+1+1+1+1+1,oN)::(L+1+1+1+1+1+1+1+1,oK)::T)):News b L h' ((I,oI)::LG3 L oN oK ps T):=by
 k_extra "s"
 intro p hp
 refine N p ?_
 revert hp
 k_extra "my sub"
 k_extra "f"
theorem ne3 {L I:Addr} {oN oK:Obj} {ps:Array Value} {T:List (Addr×Obj)} {ds:List Addr} (ne:@Ne Nat (L+1+1+1+1+1+1+1) I∧@Ne Nat (L+1+1+1+1+1+1+1+1) I∧@Ne Nat 410 I) (off:Off T ds) (hI:I∈ds):∀ p∈LG3 L oN oK ps T,p.1≠I:=by
 k_extra "s"
 intro p hp
 simp only [LG3,List.mem_cons] at hp
 rcases hp with rfl | rfl | rfl | h
 . exact ne.1
 . exact ne.2.1
 . exact ne.2.2
 . exact off.ne hI p h
 k_extra "f"
theorem J3.mk {L nt I:Addr} {oN oK:Obj} {cN cK:Option Value} {i:Nat} {m0:Str->Option Value} {x1 x2 x3 x4 x5 x6 xf xa xm:Option Value} {ps:Array Value} {T0 T:List (Addr×Obj)} (dN:oN.data = .cell cN) (dK:oK.data = .cell cK) (hT0:∀ p∈T0,p∈T) (off:Off T [410,L+1+1+1+1+1+1+1,L+1+1+1+1+1+1+1+1,nt,I]) (tb:TabOk T ps) :
   J3 L m0 T0 i (FR3 m0 x1 x2 x3 x4 x5 x6 xf xa xm) (LG3 L oN oK ps T) :=
 Hold.mk ⟨x1,x2,x3,x4,x5,x6,xf,xa,xm,oN,oK,cN,cK,ps,T,rfl,rfl,dN,dK,hT0,fun p hp hd=>off p hp (List.mem_append_left [nt,I] hd),tb⟩
theorem TEnd3 {b h':Heap} {L I nt:Addr} {oI oN oK:Obj} {cN cK:Option Value} {i tk:Nat} {m0:Str->Option Value} {x1 x2 x3 x4 x5 x6 xf xa xm:Option Value} {ps:Array Value} {T0 T:List (Addr×Obj)} (F:Fr b L h' (FR3 m0 x1 x2 x3 x4 x5 x6 xf xa xm)) (N:News b L h' ((410,tabObj ps)::(I,oI)::(L+1+1+1+1+1+1+1,oN)::(L+1+1+1+1+1+1+1+1,oK)::T))
   (dN:oN.data = .cell cN) (dK:oK.data = .cell cK) (ne:@Ne Nat (L+1+1+1+1+1+1+1) I∧@Ne Nat (L+1+1+1+1+1+1+1+1) I∧@Ne Nat 410 I) (hT0:∀ p∈T0,p∈T) (off:Off T [410,L+1+1+1+1+1+1+1,L+1+1+1+1+1+1+1+1,nt,I]) (tb:TabOk T ps) :
   TEnd b L I oI (J3 L m0 T0 (i+1)) s Q .next {s with heap:=h',toks:=tk} :=
 TEnd.intro F (mem3 N) (ne3 ne off (mt4 (.head _))) (J3.mk dN dK hT0 off tb)
theorem TEnd3c {b h':Heap} {L I nt:Addr} {oI oN oK:Obj} {cN cK:Option Value} {i tk:Nat} {m0:Str->Option Value} {x1 x2 x3 x4 x5 x6 xf xa xm:Option Value} {ps:Array Value} {T0 T:List (Addr×Obj)} (F:Fr b L h' (FR3 m0 x1 x2 x3 x4 x5 x6 xf xa xm)) (N:News b L h' ((410,tabObj ps)::(I,oI)::(L+1+1+1+1+1+1+1,oN)::(L+1+1+1+1+1+1+1+1,oK)::T))
   (dN:oN.data = .cell cN) (dK:oK.data = .cell cK) (ne:@Ne Nat (L+1+1+1+1+1+1+1) I∧@Ne Nat (L+1+1+1+1+1+1+1+1) I∧@Ne Nat 410 I) (hT0:∀ p∈T0,p∈T) (off:Off T [410,L+1+1+1+1+1+1+1,L+1+1+1+1+1+1+1+1,nt,I]) (tb:TabOk T ps) :
   TEnd b L I oI (J3 L m0 T0 (i+1)) s Q .cont {s with heap:=h',toks:=tk} :=
 TEnd.cont F (mem3 N) (ne3 ne off (mt4 (.head _))) (J3.mk dN dK hT0 off tb)
end
section
variable {Q:Flow->Shared->Prop}
theorem turn3a {b B:Heap} {L I u v:Addr} {oI oU oV:Obj} {i:Nat} {m m0:Str->Option Value} {news T0 TU:List (Addr×Obj)} {du dv:Vd} {target:Expr} {skip:Bool}
   (htg:∃ p1,target = .Name "skip" p1)
   (X:(KF w.params).In b) (T:Top TP LO mean mg mb b) (C:CodeHd b 412 410) (R:Rm (A.deeper (ENV L)) 25) (hfr:A.frames=some [])
   (mU:(L+1+1+1+1+1+1+1+1+1,oU)∈T0) (mV:(L+1+1+1+1+1+1+1+1+1+1,oV)∈T0) (dU:oU.data = .cell (some (.ref u))) (dV:oV.data = .cell (some (.ref v)))
   (hlo:@LT.lt Nat _ 410 L) (hTU:∀ p∈TU,p∈T0) (bt:BT b B TU) (hU:VM w (hm B) u du) (hV:VM w (hm B) v dv) (hlu:du.items.length≤1000) (hlv:dv.items.length≤1000) (hku:Numv du) (hkv:Numv dv)
   (J:J3 L m0 T0 i m news) (hn:∀ p∈news,p.1≠I) (F:Fr b L s.heap m) (N:News b L s.heap ((I,oI)::news)) :
   wpAny (model PG w) (A.deeper (ENV L)) (assign target (ENV L) (.bool skip)) (fun _ s₃=>wpAny (model PG w) (A.deeper (ENV L)) (execs lb3a (ENV L)) (fun f s'=>f = .next∧Mid3 s b L I oI m0 T0 skip (fun r3 r4 xs=>StrsAre xs (opsN [(u,du),(v,dv)])∧TvV r3 (accT and3 skip (some true) (opsT [(u,du),(v,dv)]))∧TvV r4 (accT or3 skip (some false) (opsT [(u,du),(v,dv)]))) s') E s₃) E s:=by
 k_extra "s"
 obtain ⟨x1,x2,x3,x4,x5,x6,xf,xa,xm,oN,oK,cN,cK,ps,TT,rfl,rfl,dN,dK,hT0,off,tb⟩:=J.out
 obtain ⟨p1,rfl⟩:=htg
 clear J
 have hne:=allNe_all hn
 simp only [AllNe] at hne
 unfold LG3 at N
 unfold FR3 FR1 at F
 k_steps
 refine Hold.mk ?_
 rename_i h7 oK9 dK9 nt h8 l9 h9 oN9 F9 N9 dN9
 have ap:AllNe 410 ((nt,listOf #[] 0)::(I,oI)::(L+1+1+1+1+1+1+1,oN9)::(L+1+1+1+1+1+1+1+1,oK9)::TT):=⟨by k_ne,by k_ne,by k_ne,by k_ne,allNe_all (off.ne (.head _))⟩
 have ltT:∀ p∈TT,@LT.lt Nat _ p.1 nt:=allLt_all l9.2.2.2.2
 have offp:Off TT [410,L+1+1+1+1+1+1+1,L+1+1+1+1+1+1+1+1,nt,I]:=by
   intro p hp hd
   rcases List.mem_append.mp (show p.1∈[410,L+1+1+1+1+1+1+1,L+1+1+1+1+1+1+1+1]++[nt,I] from hd) with h | h
   . exact off p hp h
   . simp only [List.mem_cons,List.not_mem_nil,or_false] at h
     rcases h with h | h
     . exact Nat.lt_irrefl nt (h ▸ ltT p hp)
     . exact hn p (mt2 (.tail _ hp)) h
 refine lam_mk (cs:=fs413) (cl:=cellsFrom (L+1) fs413.names []) C offp tb F9 (N:=by k_extra "my pick") (.tail (.tail (.tail (.tail (.head))))) ?hds ap T (by rfl) ?_
 case hds =>
   intro d hd
   simp only [List.mem_cons,List.not_mem_nil,or_false] at hd
   rcases hd with rfl | rfl | rfl | rfl
   . exact ⟨_,mt2 (.head _)⟩
   . exact ⟨_,mt3 (.head _)⟩
   . exact ⟨_,.head _⟩
   . exact ⟨_,.tail _ (.head _)⟩
 intro f h1 tk1 ps1 T1 F1 N1 LA FA sub off1 tb1
 obtain ⟨of,N1⟩:=N1
 k_steps
 have hnt:∀ p∈TU,p.1≠nt:=fun p hp e=>Nat.lt_irrefl nt (e ▸ ltT p (hT0 p (hTU p hp)))
 have NTU:News b L h1 TU:=fun p hp=>N1 p (mt6 (sub p (hT0 p (hTU p hp))))
 have cN1:CellAt h1 (L+1+1+1+1+1+1+1) (.ref nt):=⟨⟨_,(N1 _ (mt4 (.head _))).1,dN9⟩⟩
 have cK1:CellAt h1 (L+1+1+1+1+1+1+1+1) (.bool skip):=⟨⟨_,(N1 _ (mt5 (.head _))).1,dK9⟩⟩
 have cU1:CellAt h1 (L+1+1+1+1+1+1+1+1+1) (.ref u):=⟨⟨_,(N1 _ (mt6 (sub _ (hT0 _ mU)))).1,dU⟩⟩
 have cV1:CellAt h1 (L+1+1+1+1+1+1+1+1+1+1) (.ref v):=⟨⟨_,(N1 _ (mt6 (sub _ (hT0 _ mV)))).1,dV⟩⟩
 refine kept3_num F1 N1 X T (R.le (by decide)) hfr rfl (show ScopeKind.function ≠ .module by decide) (mt2 (.head _)) FA LA cN1 cK1 cU1 cV1 bt NTU (fun p hp e=>hnt p hp (mS e)) hU hV hlu hlv hku hkv ?_
 intro h2 tk2 r3 xs2 c2 F2 kb2 gn2 sx2 tv2
 have nt9:∀ p∈(410,tabObj ps1)::(I,oI)::(L+1+1+1+1+1+1+1,oN9)::(L+1+1+1+1+1+1+1+1,oK9)::T1,p.1≠nt:=by
   intro p hp
   rcases mC hp with rfl | hp
   . exact Nat.ne_of_lt l9.2.2.2.1
   rcases mC hp with rfl | hp
   . exact Nat.ne_of_lt l9.1
   rcases mC hp with rfl | hp
   . exact Nat.ne_of_lt l9.2.1
   rcases mC hp with rfl | hp
   . exact Nat.ne_of_lt l9.2.2.1
   exact off1.ne (mt3 (.head _)) p hp
 have Nc:News b L h1 ((nt,W.listOf #[] 0)::(410,tabObj ps1)::(I,oI)::(L+1+1+1+1+1+1+1,oN9)::(L+1+1+1+1+1+1+1+1,oK9)::T1):=by
   intro p hp
   rcases mC hp with rfl | hp
   . exact N1 _ (mt2 (.head _))
   rcases mC hp with rfl | hp
   . exact N1 _ (.tail _ (.head _))
   exact N1 p (mt2 (.tail _ hp))
 have Un:UpdF nt (W.listOf #[] 0) ((nt,W.listOf #[] 0)::(410,tabObj ps1)::(I,oI)::(L+1+1+1+1+1+1+1,oN9)::(L+1+1+1+1+1+1+1+1,oK9)::T1) (fun o=>(nt,o)::(410,tabObj ps1)::(I,oI)::(L+1+1+1+1+1+1+1,oN9)::(L+1+1+1+1+1+1+1+1,oK9)::T1) := .head nt9
 have N2:News b L h2 ((nt,listOf (List.toArray xs2) c2)::(410,tabObj ps1)::(I,oI)::(L+1+1+1+1+1+1+1,oN9)::(L+1+1+1+1+1+1+1+1,oK9)::T1):=News.kb1 Nc (UpdF.upd Un (listOf (List.toArray xs2) c2)) kb2 gn2
 clear Nc Un nt9 cN1 cK1 cU1 cV1 NTU N1 LA FA N9 F9 F1 offp kb2 gn2
 have tv2':=Hold.mk tv2
 have sx2':=Hold.mk sx2
 clear tv2 sx2
 have ap2:AllNe 410 ((nt,listOf (List.toArray xs2) c2)::(I,oI)::(L+1+1+1+1+1+1+1,oN9)::(L+1+1+1+1+1+1+1+1,oK9)::T1):=⟨ap.1,ap.2.1,ap.2.2.1,ap.2.2.2.1,allNe_all (off1.ne (.head _))⟩
 k_steps
 refine Hold.mk ?_
 refine lam_mk (cs:=fs413) (cl:=cellsFrom (L+1) fs413.names []) C off1 tb1 F2 (N:=by k_extra "my pick") (.tail (.tail (.tail (.tail (.head))))) ?hds2 ap2 T (by rfl) ?_
 case hds2 =>
   intro d hd
   simp only [List.mem_cons,List.not_mem_nil,or_false] at hd
   rcases hd with rfl | rfl | rfl | rfl
   . exact ⟨_,mt2 (.head _)⟩
   . exact ⟨_,mt3 (.head _)⟩
   . exact ⟨_,.head _⟩
   . exact ⟨_,.tail _ (.head _)⟩
 intro f3 h3 tk3 ps3 T3 F3 N3 LA3 FA3 sub3 off3 tb3
 obtain ⟨of3,N3⟩:=N3
 k_steps
 have NTU3:News b L h3 TU:=fun p hp=>N3 p (mt6 (sub3 _ (sub p (hT0 p (hTU p hp)))))
 have cK3:CellAt h3 (L+1+1+1+1+1+1+1+1) (.bool skip):=⟨⟨_,(N3 _ (mt5 (.head _))).1,dK9⟩⟩
 have cU3:CellAt h3 (L+1+1+1+1+1+1+1+1+1) (.ref u):=⟨⟨_,(N3 _ (mt6 (sub3 _ (sub _ (hT0 _ mU))))).1,dU⟩⟩
 have cV3:CellAt h3 (L+1+1+1+1+1+1+1+1+1+1) (.ref v):=⟨⟨_,(N3 _ (mt6 (sub3 _ (sub _ (hT0 _ mV))))).1,dV⟩⟩
 refine kept4_num F3 N3 X T (R.le (by decide)) hfr rfl (show ScopeKind.function ≠ .module by decide) FA3 LA3 cK3 cU3 cV3 bt NTU3 hU hV hlu hlv hku hkv ?_
 intro h4 tk4 r4 F4 kb4 tv4
 have N4:=(News.kb0 N3 kb4).tail1
 have tv4':=Hold.mk tv4
 clear tv4 kb4 cK3 cU3 cV3 NTU3 N3 LA3 FA3 F3 N2 F2
 k_steps
 rename_i lt h5 l5 h6 F6 N6
 refine Hold.mk ⟨_,_,x1,x2,x3,x4,x5,xf,xa,xm,lt,r3,r4,0,nt,xs2,c2,ps3,oN9,oK9,T3,rfl,FR3_t F6,?_,dN9,dK9,⟨hne.1,hne.2.1,hne.2.2.1⟩,fun p hp=>sub3 _ (sub _ (hT0 p hp)),off3,tb3,sx2'.out,tv2'.out,tv4'.out⟩
 intro p hp
 refine N6 p ?_
 revert hp
 k_extra "my sub"
 k_extra "f"
end
end
section
theorem G90.g90:True:=True.intro
open G90
theorem kw336:True:=by
 k_with "!binaryOp Mult ref int" => ((have:=g90;clear this);refine stop ?_)
 exact True.intro
section
variable {Q:Flow->Shared->Prop}
theorem turn3_chr {b B:Heap} {L I u v:Addr} {oI oU oV:Obj} {i:Nat} {m m0:Str->Option Value} {news T0 TU:List (Addr×Obj)} {du dv:Vd} {target:Expr} {skip:Bool} {vr:Option Value} {mz:Str->Option Value}
   (htg:∃ p1,target = .Name "skip" p1)
   (X:(KF w.params).In b) (T:Top TP LO mean mg mb b) (C:CodeHd b 412 410) (R:Rm (A.deeper (ENV L)) 25) (hfr:A.frames=some [])
   (mU:(L+1+1+1+1+1+1+1+1+1,oU)∈T0) (mV:(L+1+1+1+1+1+1+1+1+1+1,oV)∈T0) (dU:oU.data = .cell (some (.ref u))) (dV:oV.data = .cell (some (.ref v)))
   (hlo:@LT.lt Nat _ 410 L) (hTU:∀ p∈TU,p∈T0) (bt:BT b B TU) (hU:VM w (hm B) u du) (hV:VM w (hm B) v dv) (hlu:du.items.length≤1000) (hlv:dv.items.length≤1000) (hku:Numv du∨du.kind = "character") (hkv:Numv dv∨dv.kind = "character") (hch:du.kind = "character" ∨ dv.kind = "character") (hm0:m0=fun y=>if y=Str.ofString "texts" then some (.bool true) else if y=Str.ofString "row" then vr else mz y)
   (J:J3 L m0 T0 i m news) (hn:∀ p∈news,p.1≠I) (F:Fr b L s.heap m) (N:News b L s.heap ((I,oI)::news)) :
   wpAny (model PG w) (A.deeper (ENV L)) (assign target (ENV L) (.bool skip)) (fun _ s₃=>wpAny (model PG w) (A.deeper (ENV L)) (execs lb3 (ENV L)) (TEnd b L I oI (J3 L m0 T0 (i+1)) s Q) E s₃) E s:=by
 k_extra "s"
 subst hm0
 obtain ⟨x1,x2,x3,x4,x5,x6,xf,xa,xm,oN,oK,cN,cK,ps,TT,rfl,rfl,dN,dK,hT0,off,tb⟩:=J.out
 obtain ⟨p1,rfl⟩:=htg
 clear J
 have hne:=allNe_all hn
 simp only [AllNe] at hne
 unfold LG3 at N
 unfold FR3 FR1 at F
 k_steps
 refine Hold.mk ?_
 rename_i h7 oK9 dK9 nt h8 l9 h9 oN9 F9 N9 dN9
 have ap:AllNe 410 ((nt,listOf #[] 0)::(I,oI)::(L+1+1+1+1+1+1+1,oN9)::(L+1+1+1+1+1+1+1+1,oK9)::TT):=⟨by k_ne,by k_ne,by k_ne,by k_ne,allNe_all (off.ne (.head _))⟩
 have ltT:∀ p∈TT,@LT.lt Nat _ p.1 nt:=allLt_all l9.2.2.2.2
 have offp:Off TT [410,L+1+1+1+1+1+1+1,L+1+1+1+1+1+1+1+1,nt,I]:=by
   intro p hp hd
   rcases List.mem_append.mp (show p.1∈[410,L+1+1+1+1+1+1+1,L+1+1+1+1+1+1+1+1]++[nt,I] from hd) with h | h
   . exact off p hp h
   . simp only [List.mem_cons,List.not_mem_nil,or_false] at h
     rcases h with h | h
     . exact Nat.lt_irrefl nt (h ▸ ltT p hp)
     . exact hn p (mt2 (.tail _ hp)) h
 refine lam_mk (cs:=fs413) (cl:=cellsFrom (L+1) fs413.names []) C offp tb F9 (N:=by k_extra "my pick") (.tail (.tail (.tail (.tail (.head))))) ?hds ap T (by rfl) ?_
 case hds =>
   intro d hd
   simp only [List.mem_cons,List.not_mem_nil,or_false] at hd
   rcases hd with rfl | rfl | rfl | rfl
   . exact ⟨_,mt2 (.head _)⟩
   . exact ⟨_,mt3 (.head _)⟩
   . exact ⟨_,.head _⟩
   . exact ⟨_,.tail _ (.head _)⟩
 intro f h1 tk1 ps1 T1 F1 N1 LA FA sub off1 tb1
 obtain ⟨of,N1⟩:=N1
 k_steps
 have hnt:∀ p∈TU,p.1≠nt:=fun p hp e=>Nat.lt_irrefl nt (e ▸ ltT p (hT0 p (hTU p hp)))
 have NTU:News b L h1 TU:=fun p hp=>N1 p (mt6 (sub p (hT0 p (hTU p hp))))
 have cN1:CellAt h1 (L+1+1+1+1+1+1+1) (.ref nt):=⟨⟨_,(N1 _ (mt4 (.head _))).1,dN9⟩⟩
 have cK1:CellAt h1 (L+1+1+1+1+1+1+1+1) (.bool skip):=⟨⟨_,(N1 _ (mt5 (.head _))).1,dK9⟩⟩
 have cU1:CellAt h1 (L+1+1+1+1+1+1+1+1+1) (.ref u):=⟨⟨_,(N1 _ (mt6 (sub _ (hT0 _ mU)))).1,dU⟩⟩
 have cV1:CellAt h1 (L+1+1+1+1+1+1+1+1+1+1) (.ref v):=⟨⟨_,(N1 _ (mt6 (sub _ (hT0 _ mV)))).1,dV⟩⟩
 refine kept3_chr F1 N1 X T (R.le (by decide)) hfr rfl (show ScopeKind.function ≠ .module by decide) (mt2 (.head _)) FA LA cN1 cK1 cU1 cV1 bt NTU (fun p hp e=>hnt p hp (mS e)) hU hV hlu hlv hku hkv hch ?_
 intro h2 tk2 t2 F2 K2
 have nt9:∀ p∈(410,tabObj ps1)::(I,oI)::(L+1+1+1+1+1+1+1,oN9)::(L+1+1+1+1+1+1+1+1,oK9)::T1,p.1≠nt:=by
   intro p hp
   rcases mC hp with rfl | hp
   . exact Nat.ne_of_lt l9.2.2.2.1
   rcases mC hp with rfl | hp
   . exact Nat.ne_of_lt l9.1
   rcases mC hp with rfl | hp
   . exact Nat.ne_of_lt l9.2.1
   rcases mC hp with rfl | hp
   . exact Nat.ne_of_lt l9.2.2.1
   exact off1.ne (mt3 (.head _)) p hp
 have N2:News b L h2 ((410,tabObj ps1)::(I,oI)::(L+1+1+1+1+1+1+1,oN9)::(L+1+1+1+1+1+1+1+1,oK9)::T1):=fun p hp=>by
   have hp2:p∈(f,of)::(410,tabObj ps1)::(nt,W.listOf #[] 0)::(I,oI)::(L+1+1+1+1+1+1+1,oN9)::(L+1+1+1+1+1+1+1+1,oK9)::T1:=by
     rcases mC hp with rfl | hp
     . exact .tail _ (.head _)
     exact mt2 (.tail _ hp)
   exact ⟨K2 p hp2 (fun e=>nt9 p hp (mS e)),(N1 p hp2).2⟩
 have off1c:Off T1 [410,L+1+1+1+1+1+1+1,L+1+1+1+1+1+1+1+1,I]:=fun p hp hd=>off1 p hp (by
   revert hd
   k_extra "my sub")
 clear K2 cN1 cK1 cU1 cV1 NTU N1 LA FA N9 F9 F1 offp nt9
 have ap2:AllNe 410 ((I,oI)::(L+1+1+1+1+1+1+1,oN9)::(L+1+1+1+1+1+1+1+1,oK9)::T1):=⟨ap.2.1,ap.2.2.1,ap.2.2.2.1,allNe_all (off1.ne (.head _))⟩
 k_steps
 refine Hold.mk ?_
 refine lam_mk (cs:=fs413) (cl:=cellsFrom (L+1) fs413.names []) C off1c tb1 F2 (N:=by k_extra "my pick") (.tail (.tail (.tail (.head)))) ?hds2 ap2 T (by rfl) ?_
 case hds2 =>
   intro d hd
   simp only [List.mem_cons,List.not_mem_nil,or_false] at hd
   rcases hd with rfl | rfl | rfl
   . exact ⟨_,.tail _ (.head _)⟩
   . exact ⟨_,mt2 (.head _)⟩
   . exact ⟨_,.head _⟩
 intro f3 h3 tk3 ps3 T3 F3 N3 LA3 FA3 sub3 off3 tb3
 obtain ⟨of3,N3⟩:=N3
 k_steps
 have NTU3:News b L h3 TU:=fun p hp=>N3 p (mt5 (sub3 _ (sub p (hT0 p (hTU p hp)))))
 have cK3:CellAt h3 (L+1+1+1+1+1+1+1+1) (.bool skip):=⟨⟨_,(N3 _ (mt4 (.head _))).1,dK9⟩⟩
 have cU3:CellAt h3 (L+1+1+1+1+1+1+1+1+1) (.ref u):=⟨⟨_,(N3 _ (mt5 (sub3 _ (sub _ (hT0 _ mU))))).1,dU⟩⟩
 have cV3:CellAt h3 (L+1+1+1+1+1+1+1+1+1+1) (.ref v):=⟨⟨_,(N3 _ (mt5 (sub3 _ (sub _ (hT0 _ mV))))).1,dV⟩⟩
 refine kept4_chr F3 N3 X T (R.le (by decide)) hfr rfl (show ScopeKind.function ≠ .module by decide) FA3 LA3 cK3 cU3 cV3 bt NTU3 hU hV hlu hlv hku hkv hch ?_
 intro h4 tk4 t4 F4 K4
 have N4:News b L h4 ((410,tabObj ps3)::(I,oI)::(L+1+1+1+1+1+1+1,oN9)::(L+1+1+1+1+1+1+1+1,oK9)::T3):=fun p hp=>⟨K4 p (.tail _ hp),(N3 p (.tail _ hp)).2⟩
 clear K4 cK3 cU3 cV3 NTU3 N3 LA3 FA3 F3 N2 F2
 k_steps
 with_reducible rename News _ _ _ _=>N6
 with_reducible rename Fr _ _ _ _=>F6
 refine mul_own (n:=2) F6 N6 (.head _) (by decide) ?_
 intro D8 vs8 h8 F8 N8 l8 e8
 subst e8
 clear F6 N6 l8
 dsimp only
 refine ne_its (vs:=[.str msgTyp t2,.str msgTyp t4]) (ds:=[.str msgTyp,.str msgTyp]) (News.isList N8 (mt2 (.head _))) (News.isList N8 (.head _)) (.cons (.str _ _) (.cons (.str _ _) .nil)) (.cons (.str _ _) (.cons (.str _ _) .nil)) (by k_extra "my room") ?_
 k_steps
 exact TEnd3c (nt:=I) (FR3_t F8) N8.tail1.tail1.tail1 dN9 dK9 ⟨hne.1,hne.2.1,hne.2.2.1⟩ (fun p hp=>sub3 _ (sub _ (hT0 p hp))) (fun p hp hd=>off3 p hp (by
   revert hd
   k_extra "my sub")) tb3
 k_extra "f"
end
end
section
theorem G91.g91:True:=True.intro
open G91
theorem kw338:True:=by
 k_with "!subscriptTail Name Constant ref int" => ((have:=g91;clear this);(k_here;(with_unfolding_all refine' item_litK ?A9d ?B9d ?C9d ?D9d ?_ ?E9d;(case A9d=>is_list);(case B9d=>decide);(case C9d=>decide);(case D9d=>rfl);(case E9d=>with_unfolding_all rfl);k_whole)))
 exact True.intro
section
variable {w:World} {A:Around} {E:Value->Shared->Prop} {s:Shared} {b:Heap} {L:Addr} {m:Str->Option Value} {news T:List (Addr×Obj)} {g:List (Addr×Obj)->List (Addr×Obj)} {Q:Value->Shared->Prop}
theorem addT {l l2:Addr} {vs ws:List Value} {c c2:Nat} (F:Fr b L s.heap m) (N:News b L s.heap news) (tl:TailF T news g) (h1:(l,listOf (List.toArray vs) c)∈T) (h2:(l2,listOf (List.toArray ws) c2)∈T) (hz:vs.length+ws.length≤3000)
   (h:∀ D h',Fr b L h' m->News b L h' ((D,listOf (List.toArray (vs++ws)) 0)::news)->AllNe D news->Q (.ref D) {s with heap:=h'}):wpAny (model PG w) A (binaryOp .Add (.ref l) (.ref l2)) Q E s :=
 add_lists F N (News.isList N (tl.mem h1)) (News.isList N (tl.mem h2)) (fun h' F' N'=>h _ h' F' N' (allNe_of (Heap.get?_none_of_le (Nat.le_refl _)) N)) (by rw [sizeLine_eq];omega)
end
theorem kw342:True:=by
 k_with "!binaryOp Add ref ref" => ((have:=g91;clear this);(k_here;(with_reducible show wpAny _ _ (binaryOp _ (Value.ref _) (Value.ref _)) _ _ _);k_dflt (refine' addT ?A9f ?B9f ?E9f ?C9f ?D9f ?F9f ?_;(case C9f=>assumption);(case D9f=>assumption);(case A9f=>k_asm);(case B9f=>k_asm);(case E9f=>k_extra "my tail");(case F9f=>omega));intro D8 h8 F8 N8 l8;(try k_sweep);(revert D8 h8 F8 N8 l8;intro _ _ _ _ _)))
 k_with "c380" => ((k_here;k_dflt (refine' land_ct ?C9g ?D9g ?A9g ?B9g ?_;(case C9g=>k_extra "my gd");(case D9g=>k_extra "my rm");(case A9g=>with_reducible assumption);(case B9g=>with_reducible assumption));k_extra "my kb0"))
 k_with "c394" => ((k_here;k_dflt (refine' lor_ct ?C9h ?D9h ?A9h ?B9h ?_;(case C9h=>k_extra "my gd");(case D9h=>k_extra "my rm");(case A9h=>with_reducible assumption);(case B9h=>with_reducible assumption));k_extra "my kb0"))
 exact True.intro
noncomputable def take3:List Stmt->List Stmt
 | a::b::c::_=>[a,b,c]
 | l=>l
def drop3:List Stmt->List Stmt
 | _::_::_::r=>r
 | _=>[]
@[reducible] noncomputable def lb3c:List Stmt:=Subtype.val (p:=fun b=>take3 lb3b=b) (by k_extra "w")
@[reducible] noncomputable def lb3d:List Stmt:=Subtype.val (p:=fun b=>drop3 lb3b=b) (by k_extra "w")
theorem lb3b_eq:lb3b=lb3c++lb3d:=rfl
noncomputable abbrev P3 (u v:Addr) (du dv:Vd) (skip:Bool):Value->Value->List Value->Prop:=fun r3 r4 xs=>StrsAre xs (opsN [(u,du),(v,dv)])∧TvV r3 (accT and3 skip (some true) (opsT [(u,du),(v,dv)]))∧TvV r4 (accT or3 skip (some false) (opsT [(u,du),(v,dv)]))
inductive Mid40 (s:Shared) (b:Heap) (L I:Addr) (oI:Obj) (m0:Str->Option Value) (T0:List (Addr×Obj)) (ts:List (Option Bool)) (skip:Bool) (P:Value->Value->List Value->Prop) (s':Shared):Prop
 | mk:∀ h' tk x1 x2 x3 x4 x5 xa xm lf f0 f1 cf lt r3 r4 ct nt xs c ps oN oK cK T2,
   (s' = {s with heap:=h',toks:=tk}) ->
   (Fr b L h' (FR3 m0 x1 x2 x3 x4 x5 (some (.ref lt)) (some (.ref lf)) xa xm)) ->
   (News b L h' ((lf,listOf #[f0,f1] cf)::LM3 L I oI oN oK ps lt r3 r4 ct nt xs c T2)) ->
   (oN.data = .cell (some (.ref nt))) ->
   (oK.data = .cell cK) ->
   (@Ne Nat (L+1+1+1+1+1+1+1) I∧@Ne Nat (L+1+1+1+1+1+1+1+1) I∧@Ne Nat 410 I) ->
   (∀ p∈T0,p∈T2) ->
   (Off T2 [410,L+1+1+1+1+1+1+1,L+1+1+1+1+1+1+1+1,nt,I]) ->
   (TabOk T2 ps) ->
   (P r3 r4 xs) ->
   (TvV f0 (accT and3 skip (some true) ts)) ->
   (TvV f1 (accT or3 skip (some false) ts)) ->
   Mid40 s b L I oI m0 T0 ts skip P s'
def Mid4 (s:Shared) (b:Heap) (L I:Addr) (oI:Obj) (m0:Str->Option Value) (T0:List (Addr×Obj)) (ts:List (Option Bool)) (skip:Bool) (P:Value->Value->List Value->Prop) (s':Shared):Prop:=Hold (Mid40 s b L I oI m0 T0 ts skip P s')
theorem FR3_f {m0:Str->Option Value} {x1 x2 x3 x4 x5 x6 xf xa xm v:Option Value} {b h:Heap} {L:Addr} (F:Fr b L h (fun y=>if y=Str.ofString "found" then v else FR3 m0 x1 x2 x3 x4 x5 x6 xf xa xm y)):Fr b L h (FR3 m0 x1 x2 x3 x4 x5 x6 v xa xm):=by
 k_extra "s"
 refine Eq.mp (congrArg (Fr b L h) ?_) F
 funext y
 by_cases h:y=Str.ofString "found"
 . subst h;rfl
 . simp only [FR3,FR1,if_neg h]
 k_extra "f"
theorem FR3_a {m0:Str->Option Value} {x1 x2 x3 x4 x5 x6 xf xa xm v:Option Value} {b h:Heap} {L:Addr} (F:Fr b L h (fun y=>if y=Str.ofString "a" then v else FR3 m0 x1 x2 x3 x4 x5 x6 xf xa xm y)):Fr b L h (FR3 m0 x1 x2 x3 x4 x5 x6 xf v xm):=by
 k_extra "s"
 refine Eq.mp (congrArg (Fr b L h) ?_) F
 funext y
 by_cases h:y=Str.ofString "a"
 . subst h;rfl
 . simp only [FR3,FR1,if_neg h]
 k_extra "f"
theorem FR3_fa {m0:Str->Option Value} {x1 x2 x3 x4 x5 x6 xf xa xm v va:Option Value} {b h:Heap} {L:Addr} (F:Fr b L h (fun y=>if y=Str.ofString "found" then v else if y=Str.ofString "a" then va else FR3 m0 x1 x2 x3 x4 x5 x6 xf xa xm y)):Fr b L h (FR3 m0 x1 x2 x3 x4 x5 x6 v va xm):=by
 k_extra "s"
 refine Eq.mp (congrArg (Fr b L h) ?_) F
 funext y
 by_cases h:y=Str.ofString "found"
 . subst h;rfl
 by_cases h2:y=Str.ofString "a"
 . subst h2;rfl
 . simp only [FR3,FR1,if_neg h,if_neg h2]
 k_extra "f"
theorem swap3 {b h:Heap} {L:Addr} {p q r x:Addr×Obj} {l:List (Addr×Obj)} (N:News b L h (p::q::r::x::l)):News b L h (q::p::x::l):=fun y hy=>N y (by
 revert hy
 k_extra "my sub")
theorem swap2 {b h:Heap} {L:Addr} {p q:Addr×Obj} {l:List (Addr×Obj)} (N:News b L h (p::q::l)):News b L h (q::p::l):=fun x hx=>N x (by
 revert hx
 k_extra "my sub")
theorem TvsV.app {vs ws:List Value} {ts us:List (Option Bool)} (x:TvsV vs ts) (y:TvsV ws us):TvsV (vs++ws) (ts++us):=by
 induction x with
 | nil=>exact y
 | cons h _ ih=>exact .cons h ih
theorem TvsV.at' {vs:List Value} {ts:List (Option Bool)} (x:TvsV vs ts):∀ {i:Nat} {v:Value},vs[i]?=some v->∃ d,ts[i]?=some d∧TvV v d:=by
 k_extra "s"
 induction x with
 | nil=>intro i v h;simp at h
 | cons h _ ih =>
   intro i v e
   cases i with
   | zero=>simp at e;subst e;exact ⟨_,rfl,h⟩
   | succ i=>simpa using ih (by simpa using e)
 k_extra "f"
theorem TvV.int {v:Value} {b:Bool} (x:TvV v (some b)):∃ z t,v = .int z t:=by
 cases x with
 | f t=>exact ⟨0,t,rfl⟩
 | t t=>exact ⟨1,t,rfl⟩
section
variable {Q:Flow->Shared->Prop}
theorem turn3b {b:Heap} {L I l1 l2:Addr} {oI oL oR:Obj} {m0:Str->Option Value} {T0:List (Addr×Obj)} {skip:Bool} {la ra:List Value} {ca cb:Nat} {ta tb:List (Option Bool)} {P:Value->Value->List Value->Prop} {s':Shared} {vr:Option Value} {mz:Str->Option Value}
   (hm0:m0=fun y=>if y=Str.ofString "texts" then some (.bool false) else if y=Str.ofString "row" then vr else mz y)
   (X:(KF w.params).In b) (T:Top TP LO mean mg mb b) (R:Rm (A.deeper (ENV L)) 25)
   (mL:(L+1,oL)∈T0) (mR:(L+1+1,oR)∈T0) (dL:oL.data = .cell (some (.ref l1))) (dR:oR.data = .cell (some (.ref l2)))
   (mla:(l1,listOf (List.toArray la) ca)∈T0) (mra:(l2,listOf (List.toArray ra) cb)∈T0) (tla:TvsV la ta) (tra:TvsV ra tb) (hla:la.length≤1000) (hra:ra.length≤1000)
   (hE:PassesOwn (model PG w) (A.deeper (ENV L)) (ENV L) E) (hM:Mid3 s b L I oI m0 T0 skip P s') :
   wpAny (model PG w) (A.deeper (ENV L)) (execs lb3c (ENV L)) (fun f s'=>f = .next∧Mid4 s b L I oI m0 T0 (ta++tb) skip P s') E s':=by
 k_extra "s"
 obtain ⟨h',tk,x1,x2,x3,x4,x5,xf,xa,xm,lt,r3,r4,ct,nt,xs,c,ps,oN,oK,T2,rfl,F,N,dN,dK,ne2,sub2,off2,tb2,hP⟩:=hM.out
 clear hM
 subst hm0
 replace mL:=sub2 _ mL
 replace mR:=sub2 _ mR
 replace mla:=sub2 _ mla
 replace mra:=sub2 _ mra
 have hP3:=Hold.mk hP
 have ne3:=Hold.mk ne2
 clear hP ne2
 unfold LM3 at N
 unfold FR3 FR1 at F
 k_steps
 rename_i lf h61 l61 h62 D8 h8 F8 N8 l8
 have l8':=l8
 simp only [AllNe] at l8'
 have tvs:TvsV (la++ra) (ta++tb):=tla.app tra
 have hvl:=tvs.length
 refine iterList (h₀:=b) (vs:=la++ra) (fun j m news=>Hold (∃ lf c9 f0 f1 xa9,TvV f0 (accT and3 skip (some true) ((ta++tb).take j))∧TvV f1 (accT or3 skip (some false) ((ta++tb).take j))∧news=(lf,listOf #[f0,f1] c9)::(D8,listOf (List.toArray (la++ra)) 0)::LM3 L I oI oN oK ps lt r3 r4 ct nt xs c T2 ∧
     m=FR3 (fun y=>if y=Str.ofString "texts" then some (.bool false) else if y=Str.ofString "row" then vr else mz y) x1 x2 x3 x4 x5 (some (.ref lt)) (some (.ref lf)) xa9 xm)) R.h (News.isList N8 (.head _)) (N8 _ (.head _)).2.1 (.inr ⟨_,fun j m news z=>by obtain ⟨_,_,_,_,_,_,_,rfl,_⟩:=z.out;exact .tail _ (.head _)⟩) (FR3_f F8) (swap2 N8) (Hold.mk ⟨lf,0,_,_,xa,.t _,.f _,rfl,rfl⟩) ?turn ?done
 case turn =>
   intro I9 j x m₁ news₁ h tk oI9 hx hJ hn9 F9 N9
   obtain ⟨lf9,c9,f0,f1,xa9,t0,t1,rfl,rfl⟩:=hJ.out
   clear hJ F8 N8 l8
   obtain ⟨d,hd,tx⟩:=tvs.at' hx
   have hn9':=allNe_all hn9
   simp only [LM3,AllNe] at hn9'
   have hts:=take_snoc3 hd
   have n1:∀ p∈(lf9,listOf #[f0,f1] c9)::(D8,listOf (List.toArray (la++ra)) 0)::LM3 L I oI oN oK ps lt r3 r4 ct nt xs c T2,p.1≠I9:=hn9
   unfold LM3 at N9
   unfold FR3 FR1 at F9
   cases d with
   | some bb =>
     obtain ⟨z,tz,rfl⟩:=tx.int
     have sa:∀ f acc,stepT f skip acc (some bb)=f acc (some bb):=fun f acc=>stepT_some
     k_steps
     with_reducible rename News _ _ _ _=>N7
     with_reducible rename Fr _ _ _ _=>F7
     with_reducible rename _∧_=>l7
     refine TEnd.intro (FR3_fa F7) (swap3 N7) ?_ (Hold.mk ⟨_,0,_,_,_,?_,?_,rfl,rfl⟩)
     . intro p hp
       rcases mC hp with rfl | hp
       . exact Nat.ne_of_gt l7.1
       exact n1 p (.tail _ hp)
     . rw [hts,accT_snoc,sa];assumption
     . rw [hts,accT_snoc,sa];assumption
   | none =>
     cases tx
     cases skip with
     | true =>
       k_steps
       refine TEnd.intro (FR3_a F9) N9 hn9 (Hold.mk ⟨lf9,c9,f0,f1,_,?_,?_,rfl,rfl⟩)
       . rw [hts,accT_snoc,stepT_skip];exact t0
       . rw [hts,accT_snoc,stepT_skip];exact t1
     | false =>
       have tn:TvV Value.none none := .none
       k_steps
       with_reducible rename News _ _ _ _=>N7
       with_reducible rename Fr _ _ _ _=>F7
       with_reducible rename _∧_=>l7
       refine TEnd.intro (FR3_fa F7) (swap3 N7) ?_ (Hold.mk ⟨_,0,_,_,_,?_,?_,rfl,rfl⟩)
       . intro p hp
         rcases mC hp with rfl | hp
         . exact Nat.ne_of_gt l7.1
         exact n1 p (.tail _ hp)
       . rw [hts,accT_snoc,stepT_all];assumption
       . rw [hts,accT_snoc,stepT_all];assumption
 case done =>
   intro h' tk m' news' F9 N9 hJ
   obtain ⟨lf9,c9,f0,f1,xa9,t0,t1,rfl,rfl⟩:=hJ.out
   rw [hvl,List.take_length] at t0 t1
   k_steps
   exact Hold.mk ⟨_,_,x1,x2,x3,x4,x5,xa9,xm,lf9,f0,f1,c9,lt,r3,r4,ct,nt,xs,c,ps,oN,oK,_,T2,rfl,F9,fun p hp=>N9 p (by
     rcases mC hp with rfl | hp
     . exact .head _
     exact .tail _ (.tail _ hp)),dN,dK,ne3.out,sub2,off2,tb2,hP3.out,t0,t1⟩
 k_extra "f"
end
end
section
theorem G92.g92:True:=True.intro
open G92
theorem kw345:True:=by
 k_with "!binaryOp Mult ref int" => ((have:=g92;clear this);refine stop ?_)
 k_with "!eval ListComp" => ((have:=g92;clear this);refine Hold.out ?_)
 exact True.intro
section
open PyProof.Rows.LCg PyProof.Rows.LCt
variable {prog:Program} {w:World} {A:Around} {h₀:Heap} {L:Addr} {m:Str->Option Value} {env:Env}
theorem comp_invT {ct elt:Expr} {x:Str} {scope:Scope} {cl:List (Str×Addr)} {s:Shared} {S:List (Addr×Obj)->Prop} {P:Nat->Value->Prop} {Fin:List Value->List (Addr×Obj)->Prop} {n:Nat}
   (I:Nat->List Value->List (Addr×Obj)->Prop)
   (turn:∀ i ys news,i<n->I i ys news->∀ v J oJ oC C D m₂ h tk (E':Value->Shared->Prop),P i v->NsObj oC m₂->m₂ x=some v->Fr h₀ L h m->News h₀ L h ((J,oJ)::(C,oC)::(D,lst ys)::news)->Off3 J C D news->((@Ne Nat J C)∧(@Ne Nat J D)∧(@Ne Nat C D)) ->
     wpAny (model prog w) A (isTrue ct (compEnvC scope cl C env) (eval ct (compEnvC scope cl C env))) (fun ok s'=>if ok=true then
       wpAny (model prog w) A (eval elt (compEnvC scope cl C env)) (CompEnd h₀ L m {s with heap:=h,toks:=tk} J oJ C oC D (lst ys) S (fun y news'=>I (i+1) (ys++[y]) news')) E' s'
       else CompEnd h₀ L m {s with heap:=h,toks:=tk} J oJ C oC D (lst ys) S (fun _ news'=>I (i+1) ys news') Value.none s') E' {s with heap:=h,toks:=tk})
   (fin:∀ ys news,I n ys news->Fin ys news):∀ k i ys news,i+k=n->I i ys news->CompRestT prog w A h₀ L m env ct elt x scope cl s S P Fin k i ys news
 | 0,i,ys,news,e,h=>by
   have:i=n:=by omega
   subst this
   exact fin _ _ h
 | k+1,i,ys,news,e,h=>by
   refine CompRestT.succ fun v J oJ C oC D m₂ hh tk E' hp hoC hm F N off ne=>?_
   refine wpAny_mono (turn i ys news (by omega) h v J oJ oC C D m₂ hh tk E' hp hoC hm F N off ne) (fun ok s' q=>?_) fun _ _ q=>q
   cases ok with
   | true =>
     simp only [if_true] at q ⊢
     refine wpAny_mono q (fun y s₂ q=>?_) fun _ _ q=>q
     obtain ⟨h',tk',news',rfl,F',N',off',hS,r⟩:=q
     exact ⟨h',tk',news',rfl,F',N',off',hS,comp_invT I turn fin k (i+1) _ _ (by omega) r⟩
   | false =>
     simp only [Bool.false_eq_true,if_false] at q ⊢
     obtain ⟨h',tk',news',rfl,F',N',off',hS,r⟩:=q
     exact ⟨h',tk',news',rfl,F',N',off',hS,comp_invT I turn fin k (i+1) _ _ (by omega) r⟩
end
inductive SideN (w:World) (T:List (Addr×Obj)):Addr->Vd->Prop
 | null {a dx:Addr} {k1 k2 k3:Tok} {n:Nat}:(a,instObj 84 dx)∈T->(dx,dictOf (nullEnts w.params k1 k2 k3) n)∈T->SideN w T a ⟨"NULL",[],[]⟩
 | vec {a dx ia:Addr} {k1 k2 k3 k4 k5 kt:Tok} {av:Value} {n c:Nat} {vs:List Value} {k:Kd} {its:List PyData} {ats:List Att}:(a,instObj 113 dx)∈T->(dx,dictOf (vEnts w.params k1 k2 k3 k4 k5 (.str k.str kt) (.ref ia) av) n)∈T->(ia,listOf (List.toArray vs) c)∈T->vs.length=its.length->SideN w T a ⟨k.str,its,ats⟩
theorem SideN.mono {w:World} {T T':List (Addr×Obj)} {a:Addr} {d:Vd} (x:SideN w T a d) (k:∀ p∈T,p∈T'):SideN w T' a d:=by
 cases x with
 | null h1 h2=>exact .null (k _ h1) (k _ h2)
 | vec h1 h2 h3 h4=>exact .vec (k _ h1) (k _ h2) (k _ h3) h4
def dn (d:Vd):Nat:=if d.kind=Str.ofString "double" ∧ d.items≠[] then 1 else 0
def cnt (du dv:Vd):Nat->Nat
 | 0=>0
 | 1=>dn du
 | _=>dn du+dn dv
theorem kd_dbl {k:Kd} (h:k.str=Str.ofString "double"):k = .dbl:=by cases k<;>first | rfl | exact absurd h (by decide)
theorem dn_note (d:Vd):dblNote d=List.replicate (dn d) noteDbl:=by
 unfold dblNote dn;split<;>rfl
theorem strsRep {x:Str} {t:Tok}:∀ n:Nat,StrsAre (List.replicate n (.str x t)) (List.replicate n x)
 | 0 => .nil
 | n+1 => .cons x t (strsRep n)
theorem FR3_m {m0:Str->Option Value} {x1 x2 x3 x4 x5 x6 xf xa xm v:Option Value} {b h:Heap} {L:Addr} (F:Fr b L h (fun y=>if y=Str.ofString "many" then v else FR3 m0 x1 x2 x3 x4 x5 x6 xf xa xm y)):Fr b L h (FR3 m0 x1 x2 x3 x4 x5 x6 xf xa v):=by
 k_extra "s"
 refine Eq.mp (congrArg (Fr b L h) ?_) F
 funext y
 by_cases h:y=Str.ofString "many"
 . subst h;rfl
 . simp only [FR3,FR1,if_neg h]
 k_extra "f"
theorem dn_le (d:Vd):dn d≤1:=by unfold dn;split<;>omega
section
variable {Q:Flow->Shared->Prop}
set_option maxHeartbeats 500000 in
theorem turn3c {b:Heap} {L I u v:Addr} {oI oU oV:Obj} {i:Nat} {m0:Str->Option Value} {T0:List (Addr×Obj)} {du dv:Vd} {skip:Bool} {s':Shared}
   (X:(KF w.params).In b) (T:Top TP LO mean mg mb b) (R:Rm (A.deeper (ENV L)) 25)
   (mU:(L+1+1+1+1+1+1+1+1+1,oU)∈T0) (mV:(L+1+1+1+1+1+1+1+1+1+1,oV)∈T0) (dU:oU.data = .cell (some (.ref u))) (dV:oV.data = .cell (some (.ref v)))
   (hsu:SideN w T0 u du) (hsv:SideN w T0 v dv)
   (hM:Mid4 s b L I oI m0 T0 (du.items.map tru++dv.items.map tru) skip (P3 u v du dv skip) s') :
   wpAny (model PG w) (A.deeper (ENV L)) (execs lb3d (ENV L)) (TEnd b L I oI (J3 L m0 T0 (i+1)) s Q) E s':=by
 k_extra "s"
 obtain ⟨h',tk,x1,x2,x3,x4,x5,xa,xm,lf,f0,f1,cf,lt,r3,r4,ct,nt,xs,c,ps,oN,oK,cK,T2,rfl,F,N,dN,dK,ne2,sub2,off2,tb2,hP,t0,t1⟩:=hM.out
 clear hM
 replace mU:=sub2 _ mU
 replace mV:=sub2 _ mV
 replace hsu:=hsu.mono sub2
 replace hsv:=hsv.mono sub2
 obtain ⟨sx,t3,t4⟩:=hP
 have eo:opsT [(u,du),(v,dv)]=du.items.map tru++dv.items.map tru:=by simp [opsT]
 rw [eo] at t3 t4
 have tvA:TvsV [r3,r4] [accT and3 skip (some true) (du.items.map tru++dv.items.map tru),accT or3 skip (some false) (du.items.map tru++dv.items.map tru)] := .cons t3 (.cons t4 .nil)
 have tvB:TvsV [f0,f1] [accT and3 skip (some true) (du.items.map tru++dv.items.map tru),accT or3 skip (some false) (du.items.map tru++dv.items.map tru)] := .cons t0 (.cons t1 .nil)
 have hsu':=Hold.mk hsu
 have hsv':=Hold.mk hsv
 have ne3:=Hold.mk ne2
 have sx':=Hold.mk sx
 clear ne2 hsu hsv t0 t1 t3 t4 sx
 unfold LM3 at N
 unfold FR3 FR1 at F
 k_steps
 refine Hold.mk ?_
 with_reducible rename News _ _ _ _=>N7
 with_reducible rename Fr _ _ _ _=>F7
 refine LCt.ListComp_T F7 (by with_unfolding_all rfl) (by decide) (by rfl) (by decide) (by rfl) ?_
 k_steps
 rename_i lx h8 F8 N8 l8
 refine LCt.CompSrcT.ledger (by k_extra "my hh") F8 N8 (.head _) (by rw [sizeLine_eq];exact (by decide:2≤16777216)) fun g=>?_
 refine comp_invT (n:=2) (fun i ys news=>news=(lx,listOf #[Value.ref u,Value.ref v] 0)::(lf,listOf #[f0,f1] cf)::LM3 L I oI oN oK ps lt r3 r4 ct nt xs c T2∧ys.length=cnt du dv i) ?turn ?fin _ _ _ _ (by rfl) ⟨rfl,rfl⟩
 case turn =>
   rintro i9 ys _ hi ⟨rfl,hyl⟩ x9 J9 oJ oC C9 D9 m₂ h9 tk9 E' hP hoC hmm F10 N10 off9 ne9
   have hop:∃ a d,x9 = .ref a∧SideN w T2 a d∧cnt du dv (i9+1)=cnt du dv i9+dn d:=by
     match i9,hP with
     | 0,h=>exact ⟨u,du,by simpa using h.symm,hsu'.out,by simp [cnt]⟩
     | 1,h=>exact ⟨v,dv,by simpa using h.symm,hsv'.out,rfl⟩
     | i+2,h=>simp at h
   obtain ⟨a,d,rfl,hs,hc⟩:=hop
   clear F8 N8 hP
   unfold LM3 at N10
   cases hs with
   | null mA1 mA2 =>
     have hz:dn ⟨Str.ofString "NULL",[],[]⟩=0:=rfl
     k_steps
     with_reducible rename News _ _ _ _=>N7
     with_reducible rename Fr _ _ _ _=>F7
     refine ⟨_,_,(lx,listOf #[Value.ref u,Value.ref v] 0)::(lf,listOf #[f0,f1] cf)::LM3 L I oI oN oK ps lt r3 r4 ct nt xs c T2,rfl,F7,fun p hp=>?_,off9,.inr ⟨_,.head _,rfl,_,rfl⟩,rfl,?_⟩
     . first | exact N7 p hp | exact N7 p (.tail _ hp)
     . first | (rw [hc,hz];exact hyl) | (rw [hc,hz,List.length_append,hyl];rfl)
   | @vec dx ia k1 k2 k3 k4 k5 kt av n c9 vs k its ats mA1 mA2 mA3 hvl =>
     by_cases hk:k = .dbl
     . subst hk
       by_cases hi9:its=[]
       . have hvs:vs=[]:=List.eq_nil_of_length_eq_zero (by rw [hvl,hi9];rfl)
         have hz:dn ⟨Kd.str .dbl,its,ats⟩=0:=by unfold dn;rw [if_neg (fun z=>z.2 hi9)]
         dsimp only [Kd.str] at mA2
         k_steps
         with_reducible rename News _ _ _ _=>N7
         with_reducible rename Fr _ _ _ _=>F7
         refine ⟨_,_,(lx,listOf #[Value.ref u,Value.ref v] 0)::(lf,listOf #[f0,f1] cf)::LM3 L I oI oN oK ps lt r3 r4 ct nt xs c T2,rfl,F7,fun p hp=>?_,off9,.inr ⟨_,.head _,rfl,_,rfl⟩,rfl,?_⟩
         . first | exact N7 p hp | exact N7 p (.tail _ hp)
         . first | (rw [hc,hz];exact hyl) | (rw [hc,hz,List.length_append,hyl];rfl)
       . have hvs:vs≠[]:=fun z=>hi9 (List.eq_nil_of_length_eq_zero (by rw [← hvl,z];rfl))
         have hz:dn ⟨Kd.str .dbl,its,ats⟩=1:=by unfold dn;rw [if_pos ⟨rfl,hi9⟩]
         dsimp only [Kd.str] at mA2
         k_steps
         with_reducible rename News _ _ _ _=>N7
         with_reducible rename Fr _ _ _ _=>F7
         refine ⟨_,_,(lx,listOf #[Value.ref u,Value.ref v] 0)::(lf,listOf #[f0,f1] cf)::LM3 L I oI oN oK ps lt r3 r4 ct nt xs c T2,rfl,F7,fun p hp=>?_,off9,.inr ⟨_,.head _,rfl,_,rfl⟩,rfl,?_⟩
         . first | exact N7 p hp | exact N7 p (.tail _ hp)
         . first | (rw [hc,hz];exact hyl) | (rw [hc,hz,List.length_append,hyl];rfl)
     . have hz:dn ⟨k.str,its,ats⟩=0:=by unfold dn;rw [if_neg (fun z=>hk (kd_dbl z.1))]
       have e1:(k.str == Str.ofString "double")=false:=by cases k<;>first | exact absurd rfl hk | rfl
       k_steps
       with_reducible rename News _ _ _ _=>N7
       with_reducible rename Fr _ _ _ _=>F7
       refine ⟨_,_,(lx,listOf #[Value.ref u,Value.ref v] 0)::(lf,listOf #[f0,f1] cf)::LM3 L I oI oN oK ps lt r3 r4 ct nt xs c T2,rfl,F7,fun p hp=>?_,off9,.inr ⟨_,.head _,rfl,_,rfl⟩,rfl,?_⟩
       . first | exact N7 p hp | exact N7 p (.tail _ hp)
       . first | (rw [hc,hz];exact hyl) | (rw [hc,hz,List.length_append,hyl];rfl)
 case fin =>
   rintro ys _ ⟨rfl,hyl⟩ D9 h9 tk9 F10 N10 off9
   have hyl2:ys.length≤2:=by have h1:=dn_le du;have h2:=dn_le dv;rw [hyl];show dn du+dn dv≤2;omega
   clear F8 N8
   unfold LM3 at N10
   k_steps
   with_reducible rename News _ _ _ _=>N7
   with_reducible rename Fr _ _ _ _=>F7
   refine mul_own (n:=ys.toArray.size) F7 N7 (.head _) (by rw [List.size_toArray];omega) ?_
   intro D8 vs8 h8 F8 N8 l8 e8
   subst e8
   clear F7 N7 l8
   dsimp only
   have eN:opsN [(u,du),(v,dv)]=List.replicate ys.toArray.size noteDbl:=by
     rw [List.size_toArray,hyl]
     show dblNote du++(dblNote dv++[])=List.replicate (dn du+dn dv) noteDbl
     rw [dn_note,dn_note,List.append_nil,List.replicate_append_replicate]
   have sx:=sx'.out
   rw [eN] at sx
   refine ne_strs (News.isList N8 (mt6 (.head _))) (News.isList N8 (.head _)) sx (strsRep _) (by k_extra "my room") ?_
   clear sx
   k_steps
   exact TEnd3 (FR3_m F8) (fun p hp=>N8 p (mt7 (hp))) dN dK ne3.out sub2 off2 tb2
 k_extra "f"
end
end
section
section
variable {Q:Flow->Shared->Prop}
theorem sideN_of {TU:List (Addr×Obj)} {a:Addr} {d:Vd} (hT:VM w (lm TU) a d) (hk:Numv d):SideN w TU a d:=by
 k_extra "s"
 cases hk with
 | null =>
   generalize hd:(⟨Str.ofString "NULL",[],[]⟩:Vd)=dz at hT
   cases hT with
   | vec h0 h1 h2=>injection hd with h3;exact absurd h3.symm h0
   | null h1 h2=>exact .null h1 h2
 | @num k its ats hok =>
   generalize hd:(⟨k.str,its,ats⟩:Vd)=dz at hT
   cases hT with
   | vec h0 h1 h2 =>
     injection hd with h3 h4 h5
     subst h3 h4 h5
     obtain ⟨tk,ti,ta,ts,tl,kt,n,vs,c,g1,g2,g3,g4⟩:=h1.ex
     exact .vec g1 g2 g3 g4.length
   | null h1 h2=>injection hd with h3;cases k<;>exact absurd h3 (by decide)
 k_extra "f"
theorem turn3_num {b B:Heap} {L I u v l1 l2:Addr} {oI:Obj} {i:Nat} {m:Str->Option Value} {news T0 TU:List (Addr×Obj)} {du dv:Vd} {eu ev:Option (List Int)} {la ra:List Value} {target:Expr} {skip:Bool} {vr:Option Value} {mz:Str->Option Value}
   (Z:LCn w b B L u v l1 l2 T0 TU du dv eu ev la ra) (hU':VM w (lm TU) u du) (hV':VM w (lm TU) v dv) (htg:∃ p1,target = .Name "skip" p1)
   (X:(KF w.params).In b) (T:Top TP LO mean mg mb b) (C:CodeHd b 412 410) (R:Rm (A.deeper (ENV L)) 25) (hfr:A.frames=some []) (hE:PassesOwn (model PG w) (A.deeper (ENV L)) (ENV L) E)
   (J:J3 L (M0 false vr mz) T0 i m news) (hn:∀ p∈news,p.1≠I) (F:Fr b L s.heap m) (N:News b L s.heap ((I,oI)::news)) :
   wpAny (model PG w) (A.deeper (ENV L)) (assign target (ENV L) (.bool skip)) (fun _ s₃=>wpAny (model PG w) (A.deeper (ENV L)) (execs lb3 (ENV L)) (TEnd b L I oI (J3 L (M0 false vr mz) T0 (i+1)) s Q) E s₃) E s:=by
 k_extra "s"
 obtain ⟨oL,mL,dL⟩:=Z.mL
 obtain ⟨oR,mR,dR⟩:=Z.mR
 obtain ⟨oU,mU,dU⟩:=Z.mU
 obtain ⟨oV,mV,dV⟩:=Z.mV
 obtain ⟨ca,mla⟩:=Z.mla
 obtain ⟨cb,mra⟩:=Z.mra
 have hlu:=Z.hlu
 have hlv:=Z.hlv
 have ela:=Z.ela
 have era:=Z.era
 refine wpAny_mono (turn3a htg X T C R hfr mU mV dU dV Z.hlo Z.hTU Z.bt Z.hU Z.hV hlu hlv Z.hku Z.hkv J hn F N) (fun _ s₃ h=>?_) fun _ _ e=>e
 rw [lb3_eq]
 refine execs_app (wpAny_mono h (fun f s' z=>?_) fun _ _ e=>e)
 obtain ⟨rfl,hM⟩:=z
 dsimp only
 rw [lb3b_eq]
 refine execs_app (wpAny_mono (turn3b (P:=P3 u v du dv skip) rfl X T R mL mR dL dR mla mra Z.tla Z.tra (by omega) (by omega) hE hM) (fun f s' z=>?_) fun _ _ e=>e)
 obtain ⟨rfl,hM4⟩:=z
 exact turn3c X T R mU mV dU dV ((sideN_of hU' Z.hku).mono Z.hTU) ((sideN_of hV' Z.hkv).mono Z.hTU) hM4
 k_extra "f"
theorem J3.T_ {L:Addr} {m0 m:Str->Option Value} {T0 news:List (Addr×Obj)} {i:Nat} (J:J3 L m0 T0 i m news):∀ p∈T0,p∈news:=by
 obtain ⟨x1,x2,x3,x4,x5,x6,xf,xa,xm,oN,oK,cN,cK,ps,TT,rfl,rfl,dN,dK,hT0,off,tb⟩:=J.out
 exact fun p hp=>mt3 (hT0 p hp)
theorem loop3 {b:Heap} {L lk:Addr} {c:Nat} {m m0:Str->Option Value} {news T0:List (Addr×Obj)} {target:Expr} (hl0:(lk,listOf (List.toArray [.bool false,.bool true]) c)∈T0) (hh:(A.deeper (ENV L)).handled=none)
   (turn:∀ {skip I i m₁ news₁ oI} {s₁:Shared},J3 L m0 T0 i m₁ news₁->(∀ p∈news₁,p.1≠I)->Fr b L s₁.heap m₁->News b L s₁.heap ((I,oI)::news₁) ->
     wpAny (model PG w) (A.deeper (ENV L)) (assign target (ENV L) (.bool skip)) (fun _ s₃=>wpAny (model PG w) (A.deeper (ENV L)) (execs lb3 (ENV L)) (TEnd b L I oI (J3 L m0 T0 (i+1)) s₁ Q) E s₃) E s₁)
   (J:J3 L m0 T0 0 m news) (F:Fr b L s.heap m) (N:News b L s.heap news)
   (done:∀ h' tk m' news',Fr b L h' m'->News b L h' news'->J3 L m0 T0 2 m' news'->Q .next {s with heap:=h',toks:=tk}) :
   wpAny (model PG w) (A.deeper (ENV L)) (pyIter (.ref lk)) (fun it s₂=>TurnsB PG w (A.deeper (ENV L)) b (ENV L) target lb3 Q E it s₂) E s:=by
 k_extra "s"
 refine iterListT (h₀:=b) (vs:=[.bool false,.bool true]) (J3 L m0 T0) hh (News.isList N (J.T_ _ hl0)) (N _ (J.T_ _ hl0)).2.1 (.inr ⟨_,fun i m news z=>z.T_ _ hl0⟩) F N (Hold.mk J.out) ?_ done
 intro I i x m₁ news₁ h tk oI hv9 hJ hn9 F9 N9
 match i,hv9 with
 | 0,e=>cases e;exact turn hJ hn9 F9 N9
 | 1,e=>cases e;exact turn hJ hn9 F9 N9
 | i+2,e=>simp at e
 k_extra "f"
end
end
section
section
variable {b₀:Heap} {R:Result->Shared->Prop}
 {name qual:Str} {params:Arguments} {body:List Stmt} {scope:Scope} {dV kV doc pm cdv ct oc:Value} {an od:Option Addr} {osl:Array (Option Value)} {f:Addr} {args:Args} {binds:List (Str×Value)}
theorem enterCK (foot:List (Addr×Obj)) (G:Gd w mean mg mb b₀) (hb:b₀.StaysIn s.heap) (hf:∀ p∈foot,s.heap.get? p.1=some p.2∧b₀.get? p.1=none)
   (ho:(KF w.params).lookup f=some ⟨oc,od,.func (fnOf name qual params body scope dV kV doc pm an cdv ct),osl⟩) (hcd:codeIn (KF w.params) cdv qual=true) (hroom:A.depth<recursionLimit)
   (hbind:BindsTo s (fnOf name qual params body scope dV kV doc pm an cdv ct) args binds) (hkind:(binds.all fun y=>scope.names.lookup y.1 == some .local || scope.names.lookup y.1 == some .cell)=true)
   (hnd:((cellsFrom 0 scope.names []).map (·.1)).Nodup)
   (h:∀ b L h₁ tk cells,Fr b L h₁ (bindL (envOfC qual scope L f cdv).kindOf binds fun _=>none)->News b L h₁ (cells++foot)->CellsAre (bindC (envOfC qual scope L f cdv).kindOf binds fun _=>none) (cellsFrom (L+1) scope.names []) cells ->
     (KF w.params).In b->Top TP LO mean mg mb b->b₀.StaysIn b->KB (foot.map (·.1)) s.heap b->(∀ h' m',Fr b L h' m'->KB (foot.map (·.1)) s.heap h')->(∀ p∈foot,p.1<L) ->
     wpAny (model PG w) (A.deeper (envOfC qual scope L f cdv)) (execs body (envOfC qual scope L f cdv))
       (fun fl s'=>R (.ok (.ret (match fl with | .ret v=>v | _ => .none))) s')
       (fun e s'=>wpAny (model PG w) (A.deeper (envOfC qual scope L f cdv)) (leaving (envOfC qual scope L f cdv) e) (fun _ s''=>R (.error e) s'') (fun e' s''=>R (.error e') s'') s')
       {s with heap:=h₁,toks:=tk})
   (hco:scope.isCoroutine=false:=by rfl) (hgen:scope.isGenerator=false:=by rfl) (hk:scope.kind = .function:=by rfl):codeAny (model PG w) A (.call (.ref f) args) R s:=by
 k_extra "s"
 have hst:b₀.StaysIn (hideAll s.heap (foot.map (·.1))):=hide_stays hb fun d hd=>by
   obtain ⟨p,hp,rfl⟩:=List.mem_map.mp hd
   exact (hf p hp).2
 have Gs:=G.keeps hb
 have Gb:=G.keeps hst
 refine codeAny_call_function (fd:=fnX name qual params body scope [] dV kV doc pm an cdv ct) hroom (Gs.K _ _ ho) rfl hco hgen rfl (codeRec_of Gs.K hcd) (hbind _ _ _ _ ?_)
 refine wpAny_newFunctionEnv_cells hk (kindsX hkind _) fun env' he s' x=>?_
 subst he
 refine ⟨Gs.T.nolimit.keeps x.toInCall.keep,codeAny_func ?_⟩
 obtain ⟨h₁,tk,rfl,_⟩:=x.done
 have hk₁:=x.toInCall.keep
 obtain ⟨cells,NC,Y⟩:=Cl.news (h₀:=s.heap) (Nat.le_refl _) fun n c hm=>⟨x.cell n c (lookup_of_mem_nodup (cellsFrom_names scope.names 0 (s.heap.objs.size+1) [] [] rfl ▸ hnd) hm),x.above n c hm⟩
 have hkb:KB (foot.map (·.1)) s.heap (hideAll s.heap (foot.map (·.1))):=fun b o n e=>hideAll_get _ e n
 refine h (hideAll s.heap (foot.map (·.1))) s.heap.objs.size h₁ tk cells ⟨x.toInCall.ns,fun b o e=>hk₁ b o (of_hideAll _ e),Nat.le_of_eq (hideAll_size _ _)⟩ (fun p hp=>?_) Y Gb.K Gb.T hst hkb
   (fun h' m' F b o n e=>F.keep _ _ (hkb b o n e)) (fun p hp=>Heap.lt_size (hf p hp).1)
 rcases List.mem_append.mp hp with hp | hp
 . refine ⟨(NC p hp).1,(NC p hp).2.1,?_⟩
   cases q:(hideAll s.heap (foot.map (·.1))).get? p.1 with
   | none=>rfl
   | some o=>have:=of_hideAll _ q;rw [(NC p hp).2.2] at this;cases this
 . exact ⟨hk₁ _ _ (hf p hp).1,Nat.ne_of_lt (Heap.lt_size (hf p hp).1),hideAll_none _ (List.mem_map_of_mem hp)⟩
 k_extra "f"
end
section
variable {Q:Value->Shared->Prop}
theorem lvector_in {env:Env} {b:Heap} {L:Addr} {m:Str->Option Value} {rest:List (Addr×Obj)} {row:Addr} {o:Obj}
   (F:Fr b L s.heap m) (N:News b L s.heap ((row,o)::rest)) (hne:∀ p∈rest,p.1≠row) (hr:RowO o) (X:(KF w.params).In b) (T:Top TP LO mean mg mb b) (R:Rm (A.deeper env) 8)
   (hQ:∀ h' tk o' u du TU,RowO o'->Fr b L h' m->News b L h' ((row,o')::rest)->News b L h' TU->(∀ p∈TU,∀ q∈(row,o)::rest,p.1≠q.1)->VM w (lm TU) u du->GenOk du->Q (.ref u) {s with heap:=h',toks:=tk}) :
   wpAny (model PG w) (A.deeper env) (call (.ref 366) [.ref row]) Q E s:=by
 k_extra "s"
 have hn:=N _ (.head _)
 have hb1:b.StaysIn (hideAll s.heap [row]):=fun a o q=>hideAll_get _ (F.keep _ _ q) fun z=>by
   rw [mS z,hn.2.2] at q;cases q
 refine lvector_ct (Gd.keeps ⟨X,T⟩ hb1) (fun a o q=>of_hideAll _ q) R hr hn.1 (hideAll_none _ (.head _)) ?_
 intro h' tk o' u du TU hr' kb gr fr hv hg
 have U:UpdF row o ((row,o)::rest) (fun o'=>(row,o')::rest) := .head hne
 have N':=News.kb1 N (UpdF.upd U o') kb gr
 refine hQ h' tk o' u du TU hr' (Fr.kb1 F N (UpdF.upd U o') kb) N' (fun p hp=>News.more' F N' fr p (List.mem_append_left _ hp)) (fun p hp q hq e=>?_) hv hg
 have:=(fr p hp).2
 rw [e,(N q hq).1] at this;cases this
 k_extra "f"
end
theorem kc_ten {cm:Str->Option Value} {n1 n2 n3 n4 n5 n6 n7 n8 n9 n10:Str} {c1 c2 c3 c4 c5 c6 c7 c8 c9 c10:Addr} {cells:List (Addr×Obj)} (x:CellsAre cm [(n1,c1),(n2,c2),(n3,c3),(n4,c4),(n5,c5),(n6,c6),(n7,c7),(n8,c8),(n9,c9),(n10,c10)] cells):∃ o1 o2 o3 o4 o5 o6 o7 o8 o9 o10,cells=[(c1,o1),(c2,o2),(c3,o3),(c4,o4),(c5,o5),(c6,o6),(c7,o7),(c8,o8),(c9,o9),(c10,o10)]∧o1.data = .cell (cm n1)∧o2.data = .cell (cm n2)∧o3.data = .cell (cm n3)∧o4.data = .cell (cm n4)∧o5.data = .cell (cm n5)∧o6.data = .cell (cm n6)∧o7.data = .cell (cm n7)∧o8.data = .cell (cm n8)∧o9.data = .cell (cm n9)∧o10.data = .cell (cm n10):=by
 k_extra "s"
 cases x with | cons h1 x=>cases x with | cons h2 x=>cases x with | cons h3 x=>cases x with | cons h4 x=>cases x with | cons h5 x=>cases x with | cons h6 x=>cases x with | cons h7 x=>cases x with | cons h8 x=>cases x with | cons h9 x=>cases x with | cons h10 x=>cases x;exact ⟨_,_,_,_,_,_,_,_,_,_,rfl,h1,h2,h3,h4,h5,h6,h7,h8,h9,h10⟩
 k_extra "f"
noncomputable def take3l:List Stmt->List Stmt
 | a::b::c::_=>[a,b,c]
 | l=>l
noncomputable def drop3l:List Stmt->List Stmt
 | _::_::_::r=>r
 | _=>[]
@[reducible] noncomputable def fbA:List Stmt:=Subtype.val (p:=fun b=>take3l fb413=b) (by k_extra "w")
@[reducible] noncomputable def fbR:List Stmt:=Subtype.val (p:=fun b=>drop3l fb413=b) (by k_extra "w")
@[reducible] noncomputable def fbB:List Stmt:=Subtype.val (p:=fun b=>take3l fbR=b) (by k_extra "w")
@[reducible] noncomputable def fbS:List Stmt:=Subtype.val (p:=fun b=>drop3l fbR=b) (by k_extra "w")
theorem fb_eq:fb413=fbA++(fbB++fbS):=rfl
noncomputable abbrev LC (L:Addr) (oV oU oK oN oA oS oE oT oR oL:Obj) (ps:Array Value) (T:List (Addr×Obj)):List (Addr×Obj) :=
 (L+1+1+1+1+1+1+1+1+1+1,oV)::(L+1+1+1+1+1+1+1+1+1,oU)::(L+1+1+1+1+1+1+1+1,oK)::(L+1+1+1+1+1+1+1,oN)::(L+1+1+1+1+1+1,oA)::(L+1+1+1+1+1,oS)::(L+1+1+1+1,oE)::(L+1+1+1,oT)::(L+1+1,oR)::(L+1,oL)::(410,tabObj ps)::T
noncomputable abbrev LD (L:Addr):List Addr:=[410,L+1,L+1+1,L+1+1+1,L+1+1+1+1,L+1+1+1+1+1,L+1+1+1+1+1+1,L+1+1+1+1+1+1+1,L+1+1+1+1+1+1+1+1,L+1+1+1+1+1+1+1+1+1,L+1+1+1+1+1+1+1+1+1+1]
inductive MidA0 (w:World) (s:Shared) (b:Heap) (L:Addr) (mz:Str->Option Value) (s':Shared):Prop
 | mk:∀ h' tk row u v du dv TU oV oU oK oN oA oS oE oT oR oL cK cN cA cS cE cT cR cL,
   (s' = {s with heap:=h',toks:=tk}) ->
   (Fr b L h' (fun y=>if y=Str.ofString "row" then some (.ref row) else mz y)) ->
   (News b L h' (LC L oV oU oK oN oA oS oE oT oR oL #[] TU)) ->
   (oV.data = .cell (some (.ref v))) ->
   (oU.data = .cell (some (.ref u))) ->
   (oK.data = .cell cK) ->
   (oN.data = .cell cN) ->
   (oA.data = .cell cA) ->
   (oS.data = .cell cS) ->
   (oE.data = .cell cE) ->
   (oT.data = .cell cT) ->
   (oR.data = .cell cR) ->
   (oL.data = .cell cL) ->
   (Off TU (LD L)) ->
   (VM w (lm TU) u du) ->
   (VM w (lm TU) v dv) ->
   (GenOk du) ->
   (GenOk dv) ->
   MidA0 w s b L mz s'
def MidA (w:World) (s:Shared) (b:Heap) (L:Addr) (mz:Str->Option Value) (s':Shared):Prop:=Hold (MidA0 w s b L mz s')
theorem offOf {TU news:List (Addr×Obj)} (h:∀ p∈TU,∀ q∈news,p.1≠q.1):Off TU (news.map (·.1)):=fun p hp hd=>by
 obtain ⟨q,hq,e⟩:=List.mem_map.mp hd
 exact h p hp q hq e.symm
theorem newsApp {b h:Heap} {L:Addr} {l l':List (Addr×Obj)} (N:News b L h l) (M:News b L h l'):News b L h (l++l'):=fun p hp=>(List.mem_append.mp hp).elim (N p) (M p)
section
theorem lawA {b:Heap} {L sc:Addr} {vs:List Value} {ns:List Int} {oV oU oK oN oA oS oE oT oR oL:Obj} {cV cU cK cN cA cS cE cT cR cL:Option Value}
   (X:(KF w.params).In b) (T:Top TP LO mean mg mb b) (R:Rm (A.deeper (ENV L)) 25) (hlo:@LT.lt Nat _ 410 L) (hs:b.IsList sc vs.toArray) (hi:IntsAre vs ns) (hl:vs.length≤63)
   (dV:oV.data = .cell cV) (dU:oU.data = .cell cU) (dK:oK.data = .cell cK) (dN:oN.data = .cell cN) (dA:oA.data = .cell cA) (dS:oS.data = .cell cS) (dE:oE.data = .cell cE) (dT:oT.data = .cell cT) (dR:oR.data = .cell cR) (dL:oL.data = .cell cL)
   (F:Fr b L s.heap (bindL (ENV L).kindOf [(Str.ofString "script",Value.ref sc)] (fun _=>none))) (N:News b L s.heap (LC L oV oU oK oN oA oS oE oT oR oL #[] [])) :
   wpAny (model PG w) (A.deeper (ENV L)) (execs fbA (ENV L)) (fun f s'=>f = .next∧MidA w s b L (bindL (ENV L).kindOf [(Str.ofString "script",Value.ref sc)] (fun _=>none)) s') E s:=by
 k_extra "s"
 unfold LC at N
 k_steps
 refine lrow_ct (Gd.keeps ⟨X,T⟩ F.keep) (R.le (by decide)) F.keep hs hi hl ?_
 intro h2 tk2 row oR2 kb g n hrow
 have N2:=more1 kb g n F N
 have F2:=Fr.kb0 F kb
 have ne2:=allNe_of n N
 clear F N kb g n
 simp only [AllNe,and_true] at ne2
 k_steps
 rename_i F3 N3
 refine lvector_in F3 N3 (allNe_back (by simp only [AllNe,and_true];exact ne2)) hrow X T (R.le (by decide)) ?_
 intro h4 tk4 oR4 u du TU1 hr4 F4 N4 NU1 o1 hU1 hg1
 have off1:Off TU1 [row,L+1+1+1+1+1+1+1+1+1+1,L+1+1+1+1+1+1+1+1+1,L+1+1+1+1+1+1+1+1,L+1+1+1+1+1+1+1,L+1+1+1+1+1+1,L+1+1+1+1+1,L+1+1+1+1,L+1+1+1,L+1+1,L+1,410]:=offOf o1
 have N4':=newsApp N4 NU1
 simp only [List.cons_append,List.nil_append] at N4'
 clear N4 NU1 F3 N3 o1 hrow
 have hU1':=Hold.mk hU1
 have hg1':=Hold.mk hg1
 clear hU1 hg1
 k_steps
 rename_i h5 oU5 F5 N5 dU5
 refine lvector_in F5 N5 (allNe_back (by simp only [AllNe];exact ⟨ne2.1,ne2.2.1,ne2.2.2.1,ne2.2.2.2.1,ne2.2.2.2.2.1,ne2.2.2.2.2.2.1,ne2.2.2.2.2.2.2.1,ne2.2.2.2.2.2.2.2.1,ne2.2.2.2.2.2.2.2.2.1,ne2.2.2.2.2.2.2.2.2.2.1,ne2.2.2.2.2.2.2.2.2.2.2,allNe_all (off1.ne (.head _))⟩)) hr4 X T (R.le (by decide)) ?_
 intro h6 tk6 oR6 v dv TU2 hr6 F6 N6 NU2 o2 hV2 hg2
 have off2:Off TU2 [row,L+1+1+1+1+1+1+1+1+1+1,L+1+1+1+1+1+1+1+1+1,L+1+1+1+1+1+1+1+1,L+1+1+1+1+1+1+1,L+1+1+1+1+1+1,L+1+1+1+1+1,L+1+1+1+1,L+1+1+1,L+1+1,L+1,410]:=fun p hp hd=>offOf o2 p hp (show p.1∈[row,L+1+1+1+1+1+1+1+1+1+1,L+1+1+1+1+1+1+1+1+1,L+1+1+1+1+1+1+1+1,L+1+1+1+1+1+1+1,L+1+1+1+1+1+1,L+1+1+1+1+1,L+1+1+1+1,L+1+1+1,L+1+1,L+1,410]++TU1.map (·.1) from List.mem_append_left _ hd)
 have N6':=newsApp N6 NU2
 simp only [List.cons_append] at N6'
 have offT:Off (TU1++TU2) [row,L+1+1+1+1+1+1+1+1+1+1,L+1+1+1+1+1+1+1+1+1,L+1+1+1+1+1+1+1+1,L+1+1+1+1+1+1+1,L+1+1+1+1+1+1,L+1+1+1+1+1,L+1+1+1+1,L+1+1+1,L+1+1,L+1,410]:=fun p hp hd=>(List.mem_append.mp hp).elim (fun z=>off1 p z hd) fun z=>off2 p z hd
 have hUa:=Hold.mk (hU1'.out.mono (H':=lm (TU1++TU2)) fun a o q=>List.mem_append_left _ q)
 have hVa:=Hold.mk (hV2.mono (H':=lm (TU1++TU2)) fun a o q=>List.mem_append_right _ q)
 have hg2':=Hold.mk hg2
 clear N6 NU2 F5 N5 o2 hg2 hV2 off1 off2 hU1'
 generalize TU1++TU2=TU at N6' offT hUa hVa
 k_steps
 rename_i h8 oV8 F8 N8 dV8
 exact Hold.mk ⟨_,_,row,u,v,du,dv,TU,oV8,oU5,oK,oN,oA,oS,oE,oT,oR,oL,_,_,_,_,_,_,_,_,rfl,F8,N8.tail1,dV8,dU5,dK,dN,dA,dS,dE,dT,dR,dL,fun p hp hd=>offT p hp (by
   revert hd
   k_extra "my sub"),hUa.out,hVa.out,hg1'.out,hg2'.out⟩
 k_extra "f"
end
end
section
theorem G95.g95:True:=True.intro
open G95
theorem kw347:True:=by
 k_with "k_inst" => ((have:=g95;clear this);k_dflt (refine' instT ?C9m ?D9m ?A9m ?B9m;(case A9m=>assumption);(case B9m=>assumption);(case C9m=>k_asm);(case D9m=>k_extra "my tail")))
 exact True.intro
section
theorem mkBT {b h:Heap} {L:Addr} {m:Str->Option Value} {TU:List (Addr×Obj)} (F:Fr b L h m) (N:News b L h TU):∃ B,BT b B TU∧(∀ p∈TU,B.get? p.1=some p.2)∧B.StaysIn h:=by
 k_extra "s"
 have hD:∀ a,a∈(List.range h.objs.size).filter (fun a=>decide (b.get? a=none∧a∉TU.map (·.1)))->b.get? a=none∧a∉TU.map (·.1):=fun a ha=>of_decide_eq_true (List.mem_filter.mp ha).2
 refine ⟨hideAll h ((List.range h.objs.size).filter (fun a=>decide (b.get? a=none∧a∉TU.map (·.1)))),⟨fun a o e=>?_,fun a o e=>?_⟩,fun p hp=>?_,fun a o e=>of_hideAll _ e⟩
 . have e1:=of_hideAll _ e
   by_cases hb:b.get? a=none
   . by_cases hm:a∈TU.map (·.1)
     . obtain ⟨p,hp,rfl⟩:=List.mem_map.mp hm
       have:=(N p hp).1
       rw [e1] at this
       exact .inr (by rw [Option.some.inj this];exact hp)
     . have ha:a∈(List.range h.objs.size).filter (fun a=>decide (b.get? a=none∧a∉TU.map (·.1))):=List.mem_filter.mpr ⟨List.mem_range.mpr (Heap.lt_size e1),decide_eq_true ⟨hb,hm⟩⟩
       rw [hideAll_none _ ha] at e;cases e
   . obtain ⟨o',ho'⟩:=Option.ne_none_iff_exists'.mp hb
     have:=F.keep _ _ ho'
     rw [e1] at this
     exact .inl (by rw [ho',Option.some.inj this])
 . exact hideAll_get _ (F.keep _ _ e) fun z=>by rw [(hD a z).1] at e;cases e
 . exact hideAll_get _ (N p hp).1 fun z=>(hD _ z).2 (List.mem_map_of_mem hp)
 k_extra "f"
inductive KindAt (w:World) (T:List (Addr×Obj)) (u:Addr):Str->Prop
 | null {dx:Addr} {k1 k2 k3:Tok} {n:Nat}:(u,instObj 84 dx)∈T->(dx,dictOf (nullEnts w.params k1 k2 k3) n)∈T->KindAt w T u "NULL"
 | vec {dx ia:Addr} {k1 k2 k3 k4 k5 kt:Tok} {av:Value} {n:Nat} {k:Str}:(u,instObj 113 dx)∈T->(dx,dictOf (vEnts w.params k1 k2 k3 k4 k5 (.str k kt) (.ref ia) av) n)∈T->KindAt w T u k
theorem kindAt {w:World} {T:List (Addr×Obj)} {u:Addr} {d:Vd} (h:VM w (lm T) u d):KindAt w T u d.kind:=by
 k_extra "s"
 cases h with
 | vec h0 h1 h2 =>
   obtain ⟨tk,ti,ta,ts,tl,kt,n,vs,c,g1,g2,g3,g4⟩:=h1.ex
   exact .vec g1 g2
 | null h1 h2=>exact .null h1 h2
 k_extra "f"
def take1l:List Stmt->List Stmt
 | a::_=>[a]
 | l=>l
def drop1l:List Stmt->List Stmt
 | _::r=>r
 | _=>[]
@[reducible] noncomputable def fbB1:List Stmt:=Subtype.val (p:=fun b=>take1l fbB=b) (by k_extra "w")
@[reducible] noncomputable def fbB2:List Stmt:=Subtype.val (p:=fun b=>drop1l fbB=b) (by k_extra "w")
theorem fbB_eq:fbB=fbB1++fbB2:=rfl
def isTx (du dv:Vd):Bool:=[du.kind,dv.kind].any fun x=>x == Str.ofString "character"
inductive MidA20 (w:World) (s:Shared) (b:Heap) (L:Addr) (mz:Str->Option Value) (s':Shared):Prop
 | mk:∀ h' tk row u v du dv TU oV oU oK oN oA oS oE oT oR oL cK cN cA cS cE cT cR cL,
   (s' = {s with heap:=h',toks:=tk}) ->
   (Fr b L h' (M0 (isTx du dv) (some (.ref row)) mz)) ->
   (News b L h' (LC L oV oU oK oN oA oS oE oT oR oL #[] TU)) ->
   (oV.data = .cell (some (.ref v))) ->
   (oU.data = .cell (some (.ref u))) ->
   (oK.data = .cell cK) ->
   (oN.data = .cell cN) ->
   (oA.data = .cell cA) ->
   (oS.data = .cell cS) ->
   (oE.data = .cell cE) ->
   (oT.data = .cell cT) ->
   (oR.data = .cell cR) ->
   (oL.data = .cell cL) ->
   (Off TU (LD L)) ->
   (VM w (lm TU) u du) ->
   (VM w (lm TU) v dv) ->
   (GenOk du) ->
   (GenOk dv) ->
   MidA20 w s b L mz s'
def MidA2 (w:World) (s:Shared) (b:Heap) (L:Addr) (mz:Str->Option Value) (s':Shared):Prop:=Hold (MidA20 w s b L mz s')
inductive MidB0 (w:World) (s:Shared) (b:Heap) (L:Addr) (mz:Str->Option Value) (s':Shared):Prop
 | mk:∀ h' tk vr u v du dv l1 l2 la ra ca cb TU B oV oU oK oN oA oS oE oT oR oL cK cN cA cS cE cT,
   (s' = {s with heap:=h',toks:=tk}) ->
   (Fr b L h' (M0 (isTx du dv) vr mz)) ->
   (News b L h' (LC L oV oU oK oN oA oS oE oT oR oL #[] ((l1,listOf (List.toArray la) ca)::(l2,listOf (List.toArray ra) cb)::TU))) ->
   (oV.data = .cell (some (.ref v))) ->
   (oU.data = .cell (some (.ref u))) ->
   (oK.data = .cell cK) ->
   (oN.data = .cell cN) ->
   (oA.data = .cell cA) ->
   (oS.data = .cell cS) ->
   (oE.data = .cell cE) ->
   (oT.data = .cell cT) ->
   (oR.data = .cell (some (.ref l2))) ->
   (oL.data = .cell (some (.ref l1))) ->
   (Off ((l1,listOf (List.toArray la) ca)::(l2,listOf (List.toArray ra) cb)::TU) (LD L)) ->
   (BT b B TU) ->
   (VM w (hm B) u du) ->
   (VM w (hm B) v dv) ->
   (VM w (lm TU) u du) ->
   (VM w (lm TU) v dv) ->
   (GenOk du) ->
   (GenOk dv) ->
   (isTx du dv=false->TvsV la (du.items.map tru)∧TvsV ra (dv.items.map tru)) ->
   MidB0 w s b L mz s'
def MidB (w:World) (s:Shared) (b:Heap) (L:Addr) (mz:Str->Option Value) (s':Shared):Prop:=Hold (MidB0 w s b L mz s')
theorem isTx_M0 {du dv:Vd} {ku kv:Str} {b h:Heap} {L:Addr} {x:Option Value} {mz:Str->Option Value} (hu:du.kind=ku) (hv:dv.kind=kv) (F:Fr b L h (fun y=>if y=Str.ofString "texts" then some (.bool ([ku,kv].any fun x=>x == Str.ofString "character")) else if y=Str.ofString "row" then x else mz y)):Fr b L h (M0 (isTx du dv) x mz):=by
 subst hu hv;exact F
theorem isTx_false {du dv:Vd} (h:isTx du dv=false):du.kind≠Str.ofString "character" ∧ dv.kind≠Str.ofString "character" := by
 unfold isTx at h
 simp only [List.any_cons,List.any_nil,Bool.or_false,Bool.or_eq_false_iff,beq_eq_false_iff_ne] at h
 exact h
theorem isTx_true {du dv:Vd} (h:isTx du dv=true):du.kind=Str.ofString "character" ∨ dv.kind=Str.ofString "character" := by
 unfold isTx at h
 simp only [List.any_cons,List.any_nil,Bool.or_false,Bool.or_eq_true,beq_iff_eq] at h
 exact h
theorem isTx_num {d:Vd} (hg:GenOk d) (h:d.kind≠Str.ofString "character"):Numv d:=by
 k_extra "s"
 cases hg with
 | null=>exact .null
 | num k h1 h2 h3=>exact .num k h1
 | chr h1=>exact absurd rfl h
 k_extra "f"
theorem gen_len {d:Vd} (hg:GenOk d):d.items.length≤9:=by
 k_extra "s"
 cases hg with
 | null=>exact Nat.zero_le _
 | num k h1 h2 h3=>exact h2
 | chr h1=>exact h1
 k_extra "f"
section
theorem lawB1 {b:Heap} {L:Addr} {mz:Str->Option Value} {s':Shared}
   (X:(KF w.params).In b) (T:Top TP LO mean mg mb b) (R:Rm (A.deeper (ENV L)) 25) (hlo:@LT.lt Nat _ 410 L) (hM:MidA w s b L mz s') :
   wpAny (model PG w) (A.deeper (ENV L)) (execs fbB1 (ENV L)) (fun f s'=>f = .next∧MidA2 w s b L mz s') E s':=by
 k_extra "s"
 obtain ⟨h',tk,row,u,v,du,dv,TU,oV,oU,oK,oN,oA,oS,oE,oT,oR,oL,cK,cN,cA,cS,cE,cT,cR,cL,rfl,F,N,dV,dU,dK,dN,dA,dS,dE,dT,dR,dL,offT,hU,hV,hgu,hgv⟩:=hM.out
 clear hM
 have ku:=kindAt hU
 have kv:=kindAt hV
 have hU':=Hold.mk hU
 have hV':=Hold.mk hV
 have hgu':=Hold.mk hgu
 have hgv':=Hold.mk hgv
 clear hU hV hgu hgv
 generalize hku:du.kind=kku at ku
 generalize hkv:dv.kind=kkv at kv
 cases ku with
 | null mu1 mu2 =>
   cases kv with
   | null mv1 mv2 =>
     k_steps
     with_reducible rename News _ _ _ _=>N8
     with_reducible rename Fr _ _ _ _=>F8
     have F9:=isTx_M0 hku hkv F8
     exact Hold.mk ⟨_,_,row,u,v,du,dv,TU,oV,oU,oK,oN,oA,oS,oE,oT,oR,oL,_,_,_,_,_,_,_,_,rfl,F9,N8.tail1,dV,dU,dK,dN,dA,dS,dE,dT,dR,dL,offT,hU'.out,hV'.out,hgu'.out,hgv'.out⟩
   | vec mv1 mv2 =>
     k_steps
     with_reducible rename News _ _ _ _=>N8
     with_reducible rename Fr _ _ _ _=>F8
     have F9:=isTx_M0 hku hkv F8
     exact Hold.mk ⟨_,_,row,u,v,du,dv,TU,oV,oU,oK,oN,oA,oS,oE,oT,oR,oL,_,_,_,_,_,_,_,_,rfl,F9,N8.tail1,dV,dU,dK,dN,dA,dS,dE,dT,dR,dL,offT,hU'.out,hV'.out,hgu'.out,hgv'.out⟩
 | vec mu1 mu2 =>
   cases kv with
   | null mv1 mv2 =>
     k_steps
     with_reducible rename News _ _ _ _=>N8
     with_reducible rename Fr _ _ _ _=>F8
     have F9:=isTx_M0 hku hkv F8
     exact Hold.mk ⟨_,_,row,u,v,du,dv,TU,oV,oU,oK,oN,oA,oS,oE,oT,oR,oL,_,_,_,_,_,_,_,_,rfl,F9,N8.tail1,dV,dU,dK,dN,dA,dS,dE,dT,dR,dL,offT,hU'.out,hV'.out,hgu'.out,hgv'.out⟩
   | vec mv1 mv2 =>
     k_steps
     with_reducible rename News _ _ _ _=>N8
     with_reducible rename Fr _ _ _ _=>F8
     have F9:=isTx_M0 hku hkv F8
     exact Hold.mk ⟨_,_,row,u,v,du,dv,TU,oV,oU,oK,oN,oA,oS,oE,oT,oR,oL,_,_,_,_,_,_,_,_,rfl,F9,N8.tail1,dV,dU,dK,dN,dA,dS,dE,dT,dR,dL,offT,hU'.out,hV'.out,hgu'.out,hgv'.out⟩
 k_extra "f"
theorem lawB2 {b:Heap} {L:Addr} {mz:Str->Option Value} {s':Shared}
   (X:(KF w.params).In b) (T:Top TP LO mean mg mb b) (R:Rm (A.deeper (ENV L)) 25) (hlo:@LT.lt Nat _ 410 L) (hM:MidA2 w s b L mz s') :
   wpAny (model PG w) (A.deeper (ENV L)) (execs fbB2 (ENV L)) (fun f s'=>f = .next∧MidB w s b L mz s') E s':=by
 k_extra "s"
 obtain ⟨h',tk,row,u,v,du,dv,TU,oV,oU,oK,oN,oA,oS,oE,oT,oR,oL,cK,cN,cA,cS,cE,cT,cR,cL,rfl,F,N,dV,dU,dK,dN,dA,dS,dE,dT,dR,dL,offT,hU,hV,hgu,hgv⟩:=hM.out
 clear hM
 obtain ⟨B,bt,hB,hBs⟩:=mkBT F (fun p hp=>N p (mt11 (hp)))
 have hU9:VM w (hm B) u du:=hU.mono fun a o q=>hB _ q
 have hV9:VM w (hm B) v dv:=hV.mono fun a o q=>hB _ q
 have hU':=Hold.mk hU
 have hV':=Hold.mk hV
 have hgu':=Hold.mk hgu
 have hgv':=Hold.mk hgv
 clear hU hV hgu hgv
 unfold LC at N
 cases htx:isTx du dv with
 | true =>
   rw [htx] at F
   k_steps
   rename_i l1 h61 l61 h62 oL2 dL2 tk61 l2 h63 l63 h64 oR2 F8 N8 dR2
   have off9:Off ((l1,listOf (List.toArray []) 0)::(l2,listOf (List.toArray []) 0)::TU) (LD L):=Off.cons ⟨by omega,by omega,by omega,by omega,by omega,by omega,by omega,by omega,by omega,by omega,by omega,True.intro⟩ (Off.cons ⟨by omega,by omega,by omega,by omega,by omega,by omega,by omega,by omega,by omega,by omega,by omega,True.intro⟩ offT)
   exact Hold.mk ⟨_,_,some (.ref row),u,v,du,dv,l1,l2,[],[],0,0,TU,B,oV,oU,oK,oN,oA,oS,oE,oT,oR2,oL2,_,_,_,_,_,_,rfl,htx ▸ F8,(fun p hp=>N8 p (by
     revert hp
     k_extra "my sub")),dV,dU,dK,dN,dA,dS,dE,dT,dR2,dL2,off9,bt,hU9,hV9,hU'.out,hV'.out,hgu'.out,hgv'.out,fun z=>by rw [htx] at z;cases z⟩
 | false =>
   rw [htx] at F
   k_steps
   have hlu:=gen_len hgu'.out
   have hlv:=gen_len hgv'.out
   have hnu:=Hold.mk (isTx_num hgu'.out (isTx_false htx).1)
   have hnv:=Hold.mk (isTx_num hgv'.out (isTx_false htx).2)
   refine ltruths_ct (Gd.keeps ⟨X,T⟩ F.keep) (R.le (by decide)) hBs hU9 hnu.out (by omega) ?_
   intro h2 tk2 l1 la ca kb g n tv1
   have N2:=more1 kb g n F N
   have F2:=Fr.kb0 F kb
   have ne2:=allNe_of n N
   have hBs2:B.StaysIn h2:=fun a o q=>kb.stays _ _ (hBs a o q)
   have tv1':=Hold.mk tv1
   clear F N kb g n hBs tv1
   simp only [AllNe] at ne2
   have nl1:@Ne Nat l1 (L+1):=Ne.symm ne2.2.2.2.2.2.2.2.2.2.1
   have nl2:@Ne Nat l1 (L+1+1):=Ne.symm ne2.2.2.2.2.2.2.2.2.1
   k_steps
   rename_i h62 oL2 F3 N3 dL2
   have NT3:News b L h62 TU:=fun p hp=>N3 p (mt12 (hp))
   refine ltruths_ct (Gd.keeps ⟨X,T⟩ F3.keep) (R.le (by decide)) (bt.stays F3 NT3) hV9 hnv.out (by omega) ?_
   intro h4 tk4 l2 ra cb kb g n tv2
   have N4:=more1 kb g n F3 N3
   have F4:=Fr.kb0 F3 kb
   have ne4:=allNe_of n N3
   have tv2':=Hold.mk tv2
   clear F3 N3 kb g n tv2 NT3
   simp only [AllNe] at ne4
   have nl3:@Ne Nat l2 (L+1+1):=Ne.symm ne4.2.2.2.2.2.2.2.2.2.1
   k_steps
   rename_i h64 oR2 F8 N8 dR2
   have off9:Off ((l1,listOf (List.toArray la) ca)::(l2,listOf (List.toArray ra) cb)::TU) (LD L):=Off.cons ⟨Ne.symm ne2.2.2.2.2.2.2.2.2.2.2.1,Ne.symm ne2.2.2.2.2.2.2.2.2.2.1,Ne.symm ne2.2.2.2.2.2.2.2.2.1,Ne.symm ne2.2.2.2.2.2.2.2.1,Ne.symm ne2.2.2.2.2.2.2.1,Ne.symm ne2.2.2.2.2.2.1,Ne.symm ne2.2.2.2.2.1,Ne.symm ne2.2.2.2.1,Ne.symm ne2.2.2.1,Ne.symm ne2.2.1,Ne.symm ne2.1,True.intro⟩ (Off.cons ⟨Ne.symm ne4.2.2.2.2.2.2.2.2.2.2.2.1,Ne.symm ne4.2.2.2.2.2.2.2.2.2.2.1,Ne.symm ne4.2.2.2.2.2.2.2.2.2.1,Ne.symm ne4.2.2.2.2.2.2.2.2.1,Ne.symm ne4.2.2.2.2.2.2.2.1,Ne.symm ne4.2.2.2.2.2.2.1,Ne.symm ne4.2.2.2.2.2.1,Ne.symm ne4.2.2.2.2.1,Ne.symm ne4.2.2.2.1,Ne.symm ne4.2.2.1,Ne.symm ne4.2.1,True.intro⟩ offT)
   exact Hold.mk ⟨_,_,some (.ref row),u,v,du,dv,l1,l2,la,ra,ca,cb,TU,B,oV,oU,oK,oN,oA,oS,oE,oT,oR2,oL2,_,_,_,_,_,_,rfl,htx ▸ F8,(fun p hp=>N8 p (by
     revert hp
     k_extra "my sub")),dV,dU,dK,dN,dA,dS,dE,dT,dR2,dL2,off9,bt,hU9,hV9,hU'.out,hV'.out,hgu'.out,hgv'.out,fun _=>⟨tv1'.out,tv2'.out⟩⟩
 k_extra "f"
end
end
section
theorem G97.g97:True:=True.intro
open G97
theorem kw349:True:=by
 k_with "!exec For Tuple List cons nil" => ((have:=g97;clear this);(k_here;k_dflt (refine For_t (by assumption) ?_ (hE:=by assumption))))
 exact True.intro
theorem tabFilter {b h:Heap} {L:Addr} {T:List (Addr×Obj)} {ps:Array Value} {ds:List Addr} (N:News b L h T) (tb:TabOk T ps) (hc:∀ d∈ds,∃ o c,(d,o)∈T∧o.data = .cell c):TabOk (T.filter fun p=>decide (p.1∉ds)) ps:=⟨tb.ok,fun pos cv e=>by
 obtain ⟨c',oc,vs,t,e1,e2,e3,e4⟩:=tb.at_ pos cv e
 refine ⟨c',oc,vs,t,e1,List.mem_filter.mpr ⟨e2,decide_eq_true fun z=>?_⟩,e3,e4⟩
 obtain ⟨o,c,ho,hd⟩:=hc _ z
 have z1:h.get? c'=some o:=(N _ ho).1
 have z2:h.get? c'=some oc:=(N _ e2).1
 rw [z1] at z2
 cases z2
 rw [e3] at hd
 cases hd⟩
theorem offFilter {T:List (Addr×Obj)} {ds:List Addr}:Off (T.filter fun p=>decide (p.1∉ds)) ds:=fun p hp=>of_decide_eq_true (List.mem_filter.mp hp).2
theorem subFilter {T:List (Addr×Obj)} {ds:List Addr}:∀ p∈T.filter (fun p=>decide (p.1∉ds)),p∈T:=fun p hp=>(List.mem_filter.mp hp).1
theorem inFilter {T T0:List (Addr×Obj)} {ds:List Addr} (h:∀ p∈T0,p∈T) (off:Off T0 ds):∀ p∈T0,p∈T.filter (fun p=>decide (p.1∉ds)):=fun p hp=>List.mem_filter.mpr ⟨h p hp,decide_eq_true (off p hp)⟩
inductive LawSt0 (s:Shared) (b:Heap) (L:Addr) (m0:Str->Option Value) (T0:List (Addr×Obj)) (s':Shared):Prop
 | mk:∀ h' tk x1 x2 x3 x4 x5 x6 oT oE oS oA oN oK cT cE cS cA cN cK ps T,
   (s' = {s with heap:=h',toks:=tk}) ->
   (Fr b L h' (FR1 m0 x1 x2 x3 x4 x5 x6)) ->
   (News b L h' ((L+1+1+1,oT)::(L+1+1+1+1,oE)::(L+1+1+1+1+1,oS)::(L+1+1+1+1+1+1,oA)::(L+1+1+1+1+1+1+1,oN)::(L+1+1+1+1+1+1+1+1,oK)::(410,tabObj ps)::T)) ->
   (oT.data = .cell cT) ->
   (oE.data = .cell cE) ->
   (oS.data = .cell cS) ->
   (oA.data = .cell cA) ->
   (oN.data = .cell cN) ->
   (oK.data = .cell cK) ->
   (∀ p∈T0,p∈T) ->
   (Off T [410,L+1+1+1,L+1+1+1+1,L+1+1+1+1+1,L+1+1+1+1+1+1,L+1+1+1+1+1+1+1,L+1+1+1+1+1+1+1+1]) ->
   (TabOk T ps) ->
   LawSt0 s b L m0 T0 s'
def LawSt (s:Shared) (b:Heap) (L:Addr) (m0:Str->Option Value) (T0:List (Addr×Obj)) (s':Shared):Prop:=Hold (LawSt0 s b L m0 T0 s')
theorem Off.sub {T:List (Addr×Obj)} {ds ds':List Addr} (h:Off T ds) (k:∀ d∈ds',d∈ds):Off T ds':=fun p hp q=>h p hp (k _ q)
section
@[reducible] noncomputable def fo1:List Stmt:=Subtype.val (p:=fun b=>take1l fbS=b) (by k_extra "w")
@[reducible] noncomputable def fbS2:List Stmt:=Subtype.val (p:=fun b=>drop1l fbS=b) (by k_extra "w")
@[reducible] noncomputable def fo2:List Stmt:=Subtype.val (p:=fun b=>take1l fbS2=b) (by k_extra "w")
@[reducible] noncomputable def fbS3:List Stmt:=Subtype.val (p:=fun b=>drop1l fbS2=b) (by k_extra "w")
@[reducible] noncomputable def fo3:List Stmt:=Subtype.val (p:=fun b=>take1l fbS3=b) (by k_extra "w")
@[reducible] noncomputable def fbS4:List Stmt:=Subtype.val (p:=fun b=>drop1l fbS3=b) (by k_extra "w")
theorem fbS_eq:fbS=fo1++(fo2++(fo3++fbS4)):=rfl
theorem lawC {b B:Heap} {L u v l1 l2:Addr} {T0 TU:List (Addr×Obj)} {du dv:Vd} {m0:Str->Option Value} {s':Shared}
   (X:(KF w.params).In b) (T:Top TP LO mean mg mb b) (R:Rm (A.deeper (ENV L)) 25) (hlo:@LT.lt Nat _ 410 L) (hE:PassesOwn (model PG w) (A.deeper (ENV L)) (ENV L) E) (off0:Off T0 [410,L+1+1+1,L+1+1+1+1,L+1+1+1+1+1,L+1+1+1+1+1+1,L+1+1+1+1+1+1+1,L+1+1+1+1+1+1+1+1])
   (turn:∀ {Q:Flow->Shared->Prop} {T0':List (Addr×Obj)} {fa ta t fn I i m₁ news₁ oI} {s₁:Shared} {target:Expr},(∀ p∈T0,p∈T0')->(∃ p1 p2 p3,target = .Tuple [.Name "asked" p1,.Name "table" p2] 0 p3)->(t,({cls := .type "tuple",data := .seq #[.ref fa,.ref ta]}:Obj))∈T0'->AskedNum w mean mg mb fa fn->AskedChr w mean mg mb fa->FnAt fa b->FnAt ta b->OpL w mean mg mb ta fn->J1 L m0 T0' i m₁ news₁->(∀ p∈news₁,p.1≠I)->Fr b L s₁.heap m₁->News b L s₁.heap ((I,oI)::news₁) ->
     wpAny (model PG w) (A.deeper (ENV L)) (assign target (ENV L) (.ref t)) (fun _ s₃=>wpAny (model PG w) (A.deeper (ENV L)) (execs lb1 (ENV L)) (TEnd b L I oI (J1 L m0 T0' (i+1)) s₁ Q) E s₃) E s₁)
   (hM:LawSt s b L m0 T0 s') :
   wpAny (model PG w) (A.deeper (ENV L)) (execs fo1 (ENV L)) (fun f s'=>f = .next∧LawSt s b L m0 T0 s') E s':=by
 k_extra "s"
 obtain ⟨h',tk,x1,x2,x3,x4,x5,x6,oT,oE,oS,oA,oN,oK,cT,cE,cS,cA,cN,cK,ps,T9,rfl,F,N,dT,dE,dS,dA,dN,dK,sub9,off9,tb9⟩:=hM.out
 clear hM
 unfold FR1 at F
 k_steps
 rename_i t1 h61 l61 t2 h62 l62 t3 h63 l63 l0 h64 F8 N8 l64
 refine loop1 (T0:=(l0,listOf #[.ref t1,.ref t2,.ref t3] 0)::(t3,({cls := .type "tuple",data := .seq #[.ref 267,.ref 401]}:Obj))::(t2,({cls := .type "tuple",data := .seq #[.ref 260,.ref 394]}:Obj))::(t1,({cls := .type "tuple",data := .seq #[.ref 253,.ref 380]}:Obj))::(L+1+1+1+1,oE)::(L+1+1+1+1+1,oS)::(L+1+1+1+1+1+1+1+1,oK)::T0) (m0:=m0) ⟨⟨0,.head _⟩,mt3 (.head _),mt2 (.head _),.tail _ (.head _),⟨⟨_,_,_,_,X _ _ (by k_dflt k_is)⟩,⟨_,_,_,_,X _ _ (by k_dflt k_is)⟩⟩,⟨⟨_,_,_,_,X _ _ (by k_dflt k_is)⟩,⟨_,_,_,_,X _ _ (by k_dflt k_is)⟩⟩,⟨⟨_,_,_,_,X _ _ (by k_dflt k_is)⟩,⟨_,_,_,_,X _ _ (by k_dflt k_is)⟩⟩⟩ R.h
   (fun a1 a2 a3 a4 a5 a6 a7 a8 a9 a10=>turn (fun p hp=>mt7 (hp)) ⟨_,_,_,rfl⟩ a1 a2 a3 a4 a5 a6 a7 a8 a9 a10)
   (Hold.mk ⟨x1,x2,x3,x4,x5,x6,oT,oA,oN,cT,cA,cN,ps,(l0,listOf #[.ref t1,.ref t2,.ref t3] 0)::(t3,({cls := .type "tuple",data := .seq #[.ref 267,.ref 401]}:Obj))::(t2,({cls := .type "tuple",data := .seq #[.ref 260,.ref 394]}:Obj))::(t1,({cls := .type "tuple",data := .seq #[.ref 253,.ref 380]}:Obj))::(L+1+1+1+1,oE)::(L+1+1+1+1+1,oS)::(L+1+1+1+1+1+1+1+1,oK)::T9,rfl,rfl,dT,dA,dN,?sub,?off,?tab⟩) F8 ?nn ?done
 case sub =>
   intro p hp
   revert hp
   iterate 7 refine sub_cons (by k_mem) ?_
   exact fun hp=>mt7 (sub9 _ hp)
 case off =>
   exact Off.cons ⟨by omega,by omega,by omega,by omega,True.intro⟩ (Off.cons ⟨by omega,by omega,by omega,by omega,True.intro⟩ (Off.cons ⟨by omega,by omega,by omega,by omega,True.intro⟩ (Off.cons ⟨by omega,by omega,by omega,by omega,True.intro⟩ (Off.cons ⟨by omega,by omega,by omega,by omega,True.intro⟩ (Off.cons ⟨by omega,by omega,by omega,by omega,True.intro⟩ (Off.cons ⟨by omega,by omega,by omega,by omega,True.intro⟩ (off9.sub fun d hd=>by
     revert hd
     k_extra "my sub")))))))
 case tab=>exact tb9.mono fun p hp=>mt7 (hp)
 case nn =>
   intro p hp
   refine N8 p ?_
   revert hp
   k_extra "my sub"
 case done =>
   intro h' tk' m' news' F9 N9 J9
   obtain ⟨y1,y2,y3,y4,y5,y6,pT,pA,pN,bT,bA,bN,qs,TT,rfl,rfl,e1,e2,e3,subT,offT,tbT⟩:=J9.out
   clear J9 F8 N8
   have NT:News b L h' TT:=fun p hp=>N9 p (mt4 (hp))
   have hL:LawSt s b L m0 T0 {s with heap:=h',toks:=tk'}:=Hold.mk ⟨h',tk',y1,y2,y3,y4,y5,y6,pT,oE,oS,pA,pN,oK,_,cE,cS,_,_,cK,qs,TT.filter (fun p=>decide (p.1∉[L+1+1+1+1,L+1+1+1+1+1,L+1+1+1+1+1+1+1+1])),rfl,F9,?n3,e1,dE,dS,e2,e3,dK,inFilter (fun p hp=>subT _ (mt7 (hp))) (off0.sub ?s3),?o3,tabFilter NT tbT ?t3⟩
   case n3 =>
     intro p hp
     rcases mC hp with rfl | hp
     . exact N9 _ (.head _)
     rcases mC hp with rfl | hp
     . exact NT _ (subT _ (mt4 (.head _)))
     rcases mC hp with rfl | hp
     . exact NT _ (subT _ (mt5 (.head _)))
     rcases mC hp with rfl | hp
     . exact N9 _ (.tail _ (.head _))
     rcases mC hp with rfl | hp
     . exact N9 _ (mt2 (.head _))
     rcases mC hp with rfl | hp
     . exact NT _ (subT _ (mt6 (.head _)))
     rcases mC hp with rfl | hp
     . exact N9 _ (mt3 (.head _))
     exact NT _ (subFilter _ hp)
   case s3 =>
     intro d hd
     revert hd
     k_extra "my sub"
   case o3 =>
     intro p hp hd
     have q1:=offT p (subFilter p hp)
     have q2:=offFilter p hp
     simp only [List.mem_cons,List.not_mem_nil,or_false,not_or] at hd q1 q2
     rcases hd with h | h | h | h | h | h | h
     . exact q1.1 h
     . exact q1.2.1 h
     . exact q2.1 h
     . exact q2.2.1 h
     . exact q1.2.2.1 h
     . exact q1.2.2.2 h
     . exact q2.2.2 h
   case t3 =>
     intro d hd
     simp only [List.mem_cons,List.not_mem_nil,or_false] at hd
     rcases hd with rfl | rfl | rfl
     . exact ⟨oE,_,subT _ (mt4 (.head _)),dE⟩
     . exact ⟨oS,_,subT _ (mt5 (.head _)),dS⟩
     . exact ⟨oK,_,subT _ (mt6 (.head _)),dK⟩
   have hL':=Hold.mk hL
   clear hL F9 N9 NT
   k_steps
   exact hL'.out
 k_extra "f"
end
end
section
theorem G98.g98:True:=True.intro
open G98
theorem kw351:True:=by
 k_with "!exec For Name List cons nil" => ((have:=g98;clear this);(k_here;k_dflt (refine For_t (by assumption) ?_ (hE:=by assumption))))
 exact True.intro
section
theorem lawD {b B:Heap} {L u v:Addr} {oU oV:Obj} {T0 TU:List (Addr×Obj)} {du dv:Vd} {m0:Str->Option Value} {s':Shared}
   (X:(KF w.params).In b) (T:Top TP LO mean mg mb b) (C:CodeHd b 412 410) (R:Rm (A.deeper (ENV L)) 25) (hfr:A.frames=some []) (hlo:@LT.lt Nat _ 410 L) (hE:PassesOwn (model PG w) (A.deeper (ENV L)) (ENV L) E) (off0:Off T0 [410,L+1+1+1,L+1+1+1+1,L+1+1+1+1+1,L+1+1+1+1+1+1,L+1+1+1+1+1+1+1,L+1+1+1+1+1+1+1+1])
   (mU:(L+1+1+1+1+1+1+1+1+1,oU)∈T0) (mV:(L+1+1+1+1+1+1+1+1+1+1,oV)∈T0) (dU:oU.data = .cell (some (.ref u))) (dV:oV.data = .cell (some (.ref v)))
   (hTU:∀ p∈TU,p∈T0) (bt:BT b B TU) (hU:VM w (hm B) u du) (hU':VM w (lm TU) u du) (hgu:GenOk du) (hV:VM w (hm B) v dv) (hV':VM w (lm TU) v dv) (hgv:GenOk dv)
   (hM:LawSt s b L m0 T0 s') :
   wpAny (model PG w) (A.deeper (ENV L)) (execs fo2 (ENV L)) (fun f s'=>f = .next∧LawSt s b L m0 T0 s') E s':=by
 k_extra "s"
 obtain ⟨h',tk,x1,x2,x3,x4,x5,x6,oT,oE,oS,oA,oN,oK,cT,cE,cS,cA,cN,cK,ps,T9,rfl,F,N,dT,dE,dS,dA,dN,dK,sub9,off9,tb9⟩:=hM.out
 clear hM
 have mU9:=sub9 _ mU
 have mV9:=sub9 _ mV
 have hold:=Hold.mk (And.intro hU (And.intro hU' (And.intro hgu (And.intro hV (And.intro hV' (And.intro hgv bt))))))
 clear hU hU' hgu hV hV' hgv bt mU mV
 unfold FR1 at F
 k_steps
 rename_i lx h64 F8 N8 l64
 obtain ⟨hU,hU',hgu,hV,hV',hgv,bt⟩:=hold.out
 refine loop2 (c:=0) (T0:=(lx,listOf #[.ref u,.ref v] 0)::(L+1+1+1,oT)::(L+1+1+1+1+1+1,oA)::(L+1+1+1+1+1+1+1,oN)::(L+1+1+1+1+1+1+1+1,oK)::T0) (m0:=m0) (.head _) ⟨_,rfl⟩ X T C R hfr hlo (fun p hp=>mt5 (hTU p hp)) bt hU hU' hgu hV hV' hgv
   (Hold.mk ⟨x1,x2,x3,x4,x5,x6,oE,oS,cE,cS,ps,(lx,listOf #[.ref u,.ref v] 0)::(L+1+1+1,oT)::(L+1+1+1+1+1+1,oA)::(L+1+1+1+1+1+1+1,oN)::(L+1+1+1+1+1+1+1+1,oK)::T9,rfl,rfl,dE,dS,?sub,?off,?tab⟩) F8 ?nn ?done
 case sub =>
   intro p hp
   revert hp
   iterate 5 refine sub_cons (by k_mem) ?_
   exact fun hp=>mt5 (sub9 _ hp)
 case off =>
   exact Off.cons ⟨by omega,by omega,by omega,True.intro⟩ (Off.cons ⟨by omega,by omega,by omega,True.intro⟩ (Off.cons ⟨by omega,by omega,by omega,True.intro⟩ (Off.cons ⟨by omega,by omega,by omega,True.intro⟩ (Off.cons ⟨by omega,by omega,by omega,True.intro⟩ (off9.sub fun d hd=>by
     revert hd
     k_extra "my sub")))))
 case tab=>exact tb9.mono fun p hp=>mt5 (hp)
 case nn =>
   intro p hp
   refine N8 p ?_
   revert hp
   k_extra "my sub"
 case done =>
   intro h' tk' m' news' F9 N9 J9
   obtain ⟨y1,y2,y3,y4,y5,y6,pE,pS,bE,bS,qs,TT,rfl,rfl,e1,e2,subT,offT,tbT⟩:=J9.out
   clear J9 F8 N8
   have NT:News b L h' TT:=fun p hp=>N9 p (mt3 (hp))
   have hL:LawSt s b L m0 T0 {s with heap:=h',toks:=tk'}:=Hold.mk ⟨h',tk',y1,y2,y3,y4,y5,y6,oT,pE,pS,oA,oN,oK,cT,_,_,cA,cN,cK,qs,TT.filter (fun p=>decide (p.1∉[L+1+1+1,L+1+1+1+1+1+1,L+1+1+1+1+1+1+1,L+1+1+1+1+1+1+1+1])),rfl,F9,?n3,dT,e1,e2,dA,dN,dK,inFilter (fun p hp=>subT _ (mt5 (hp))) (off0.sub ?s3),?o3,tabFilter NT tbT ?t3⟩
   case n3 =>
     intro p hp
     rcases mC hp with rfl | hp
     . exact NT _ (subT _ (.tail _ (.head _)))
     rcases mC hp with rfl | hp
     . exact N9 _ (.head _)
     rcases mC hp with rfl | hp
     . exact N9 _ (.tail _ (.head _))
     rcases mC hp with rfl | hp
     . exact NT _ (subT _ (mt2 (.head _)))
     rcases mC hp with rfl | hp
     . exact NT _ (subT _ (mt3 (.head _)))
     rcases mC hp with rfl | hp
     . exact NT _ (subT _ (mt4 (.head _)))
     rcases mC hp with rfl | hp
     . exact N9 _ (mt2 (.head _))
     exact NT _ (subFilter _ hp)
   case s3 =>
     intro d hd
     revert hd
     k_extra "my sub"
   case o3 =>
     intro p hp hd
     have q1:=offT p (subFilter p hp)
     have q2:=offFilter p hp
     simp only [List.mem_cons,List.not_mem_nil,or_false,not_or] at hd q1 q2
     rcases hd with h | h | h | h | h | h | h
     . exact q1.1 h
     . exact q2.1 h
     . exact q1.2.1 h
     . exact q1.2.2 h
     . exact q2.2.1 h
     . exact q2.2.2.1 h
     . exact q2.2.2.2 h
   case t3 =>
     intro d hd
     simp only [List.mem_cons,List.not_mem_nil,or_false] at hd
     rcases hd with rfl | rfl | rfl | rfl
     . exact ⟨oT,_,subT _ (.tail _ (.head _)),dT⟩
     . exact ⟨oA,_,subT _ (mt2 (.head _)),dA⟩
     . exact ⟨oN,_,subT _ (mt3 (.head _)),dN⟩
     . exact ⟨oK,_,subT _ (mt4 (.head _)),dK⟩
   have hL':=Hold.mk hL
   clear hL F9 N9 NT
   k_steps
   exact hL'.out
 k_extra "f"
theorem FR3_self {m0:Str->Option Value} {x1 x2 x3 x4 x5 x6:Option Value}:FR3 m0 x1 x2 x3 x4 x5 x6 (m0 (Str.ofString "found")) (m0 (Str.ofString "a")) (m0 (Str.ofString "many"))=FR1 m0 x1 x2 x3 x4 x5 x6:=by
 k_extra "s"
 funext y
 by_cases h:y=Str.ofString "many"
 . subst h;rfl
 by_cases h2:y=Str.ofString "a"
 . subst h2;rfl
 by_cases h3:y=Str.ofString "found"
 . subst h3;rfl
 simp only [FR3,if_neg h,if_neg h2,if_neg h3]
 k_extra "f"
theorem lawE {b:Heap} {L:Addr} {T0:List (Addr×Obj)} {m0:Str->Option Value} {s':Shared}
   (X:(KF w.params).In b) (T:Top TP LO mean mg mb b) (R:Rm (A.deeper (ENV L)) 25) (hlo:@LT.lt Nat _ 410 L) (hE:PassesOwn (model PG w) (A.deeper (ENV L)) (ENV L) E)
   (turn:∀ {Q:Flow->Shared->Prop} {T0':List (Addr×Obj)} {skip I i m₁ news₁ oI} {s₁:Shared} {target:Expr},(∀ p∈T0,p∈T0')->(∃ p1,target = .Name "skip" p1)->J3 L m0 T0' i m₁ news₁->(∀ p∈news₁,p.1≠I)->Fr b L s₁.heap m₁->News b L s₁.heap ((I,oI)::news₁) ->
     wpAny (model PG w) (A.deeper (ENV L)) (assign target (ENV L) (.bool skip)) (fun _ s₃=>wpAny (model PG w) (A.deeper (ENV L)) (execs lb3 (ENV L)) (TEnd b L I oI (J3 L m0 T0' (i+1)) s₁ Q) E s₃) E s₁)
   (hM:LawSt s b L m0 T0 s') :
   wpAny (model PG w) (A.deeper (ENV L)) (execs fo3 (ENV L)) (fun f s'=>f = .next∧Hold (∃ h' tk m' ps,s' = {s with heap:=h',toks:=tk}∧Fr b L h' m'∧h'.get? 410=some (tabObj ps))) E s':=by
 k_extra "s"
 obtain ⟨h',tk,x1,x2,x3,x4,x5,x6,oT,oE,oS,oA,oN,oK,cT,cE,cS,cA,cN,cK,ps,T9,rfl,F,N,dT,dE,dS,dA,dN,dK,sub9,off9,tb9⟩:=hM.out
 clear hM
 unfold FR1 at F
 k_steps
 rename_i lk h64 F8 N8 l64
 have F8':Fr b L h64 (FR3 m0 x1 x2 x3 x4 x5 x6 (m0 (Str.ofString "found")) (m0 (Str.ofString "a")) (m0 (Str.ofString "many"))):=by rw [FR3_self];exact F8
 refine loop3 (c:=0) (T0:=(lk,listOf #[.bool false,.bool true] 0)::(L+1+1+1,oT)::(L+1+1+1+1,oE)::(L+1+1+1+1+1,oS)::(L+1+1+1+1+1+1,oA)::T0) (m0:=m0) (.head _) R.h (fun a7 a8 a9 a10=>turn (fun p hp=>mt5 (hp)) ⟨_,rfl⟩ a7 a8 a9 a10)
   (Hold.mk ⟨x1,x2,x3,x4,x5,x6,_,_,_,oN,oK,cN,cK,ps,(lk,listOf #[.bool false,.bool true] 0)::(L+1+1+1,oT)::(L+1+1+1+1,oE)::(L+1+1+1+1+1,oS)::(L+1+1+1+1+1+1,oA)::T9,rfl,rfl,dN,dK,?sub,?off,?tab⟩) F8' ?nn ?done
 case sub =>
   intro p hp
   revert hp
   iterate 5 refine sub_cons (by k_mem) ?_
   exact fun hp=>mt5 (sub9 _ hp)
 case off =>
   exact Off.cons ⟨by omega,by omega,by omega,True.intro⟩ (Off.cons ⟨by omega,by omega,by omega,True.intro⟩ (Off.cons ⟨by omega,by omega,by omega,True.intro⟩ (Off.cons ⟨by omega,by omega,by omega,True.intro⟩ (Off.cons ⟨by omega,by omega,by omega,True.intro⟩ (off9.sub fun d hd=>by
     revert hd
     k_extra "my sub")))))
 case tab=>exact tb9.mono fun p hp=>mt5 (hp)
 case nn =>
   intro p hp
   refine N8 p ?_
   revert hp
   k_extra "my sub"
 case done =>
   intro h' tk' m' news' F9 N9 J9
   obtain ⟨y1,y2,y3,y4,y5,y6,yf,ya,ym,pN,pK,bN,bK,qs,TT,rfl,rfl,e1,e2,subT,offT,tbT⟩:=J9.out
   have hL:∃ h9 tk9 m' ps,({s with heap:=h',toks:=tk'}:Shared) = {s with heap:=h9,toks:=tk9}∧Fr b L h9 m'∧h9.get? 410=some (tabObj ps):=⟨h',tk',_,qs,rfl,F9,(N9 _ (mt2 (.head _))).1⟩
   have hL':=Hold.mk hL
   clear hL F9 N9 J9 F8 N8 F8'
   k_steps
   exact hL'
 k_extra "f"
end
end
section
theorem LCn.mono {w:World} {b B:Heap} {L u v l1 l2:Addr} {T0 T0' TU:List (Addr×Obj)} {du dv:Vd} {eu ev:Option (List Int)} {la ra:List Value} (Z:LCn w b B L u v l1 l2 T0 TU du dv eu ev la ra) (k:∀ p∈T0,p∈T0'):LCn w b B L u v l1 l2 T0' TU du dv eu ev la ra :=
 {Z with
   mL:=let ⟨o,h,d⟩:=Z.mL;⟨o,k _ h,d⟩
   mR:=let ⟨o,h,d⟩:=Z.mR;⟨o,k _ h,d⟩
   mU:=let ⟨o,h,d⟩:=Z.mU;⟨o,k _ h,d⟩
   mV:=let ⟨o,h,d⟩:=Z.mV;⟨o,k _ h,d⟩
   hTU:=fun p hp=>k _ (Z.hTU p hp)
   mla:=let ⟨c,h⟩:=Z.mla;⟨c,k _ h⟩
   mra:=let ⟨c,h⟩:=Z.mra;⟨c,k _ h⟩}
theorem fit_gen {d:Vd} (hg:GenOk d) (hk:d.kind≠Str.ofString "character"):∃ e,Fit d e:=by
 k_extra "s"
 cases hg with
 | null=>exact ⟨none,rfl,rfl,(fun ds z=>by cases z),(fun z=>absurd rfl z),by decide,(fun _ h=>nomatch h),rfl⟩
 | num k h1 h2 h3=>exact fit_ok h3 h2
 | chr h1=>exact absurd rfl hk
 k_extra "f"
theorem FR1_self {m0:Str->Option Value}:FR1 m0 (m0 (Str.ofString "items")) (m0 (Str.ofString "total")) (m0 (Str.ofString "shape")) (m0 (Str.ofString "refused")) (m0 (Str.ofString "due")) (m0 (Str.ofString "told"))=m0:=by
 k_extra "s"
 funext y
 by_cases h1:y=Str.ofString "items"
 . subst h1;rfl
 by_cases h2:y=Str.ofString "total"
 . subst h2;rfl
 by_cases h3:y=Str.ofString "shape"
 . subst h3;rfl
 by_cases h4:y=Str.ofString "refused"
 . subst h4;rfl
 by_cases h5:y=Str.ofString "due"
 . subst h5;rfl
 by_cases h6:y=Str.ofString "told"
 . subst h6;rfl
 simp only [FR1,if_neg h1,if_neg h2,if_neg h3,if_neg h4,if_neg h5,if_neg h6]
 k_extra "f"
section
theorem lawB {b:Heap} {L:Addr} {mz:Str->Option Value} {s':Shared}
   (X:(KF w.params).In b) (T:Top TP LO mean mg mb b) (R:Rm (A.deeper (ENV L)) 25) (hlo:@LT.lt Nat _ 410 L) (hM:MidA w s b L mz s') :
   wpAny (model PG w) (A.deeper (ENV L)) (execs fbB (ENV L)) (fun f s'=>f = .next∧MidB w s b L mz s') E s':=by
 k_extra "s"
 rw [fbB_eq]
 with_reducible refine execs_app (wpAny_mono (lawB1 X T R hlo hM) (fun f s' z=>?_) fun _ _ e=>e)
 obtain ⟨rfl,h⟩:=z
 exact lawB2 X T R hlo h
 k_extra "f"
theorem lawF {b:Heap} {L:Addr} {mz:Str->Option Value} {s':Shared}
   (X:(KF w.params).In b) (T:Top TP LO mean mg mb b) (C:CodeHd b 412 410) (R:Rm (A.deeper (ENV L)) 25) (hfr:A.frames=some []) (hlo:@LT.lt Nat _ 410 L) (hE:PassesOwn (model PG w) (A.deeper (ENV L)) (ENV L) E) (hM:MidB w s b L mz s') :
   wpAny (model PG w) (A.deeper (ENV L)) (execs (fo1++(fo2++fo3)) (ENV L)) (fun f s'=>f = .next∧Hold (∃ h' tk m' ps,s' = {s with heap:=h',toks:=tk}∧Fr b L h' m'∧h'.get? 410=some (tabObj ps))) E s':=by
 k_extra "s"
 obtain ⟨h',tk,vr,u,v,du,dv,l1,l2,la,ra,ca,cb,TU,B,oV,oU,oK,oN,oA,oS,oE,oT,oR,oL,cK,cN,cA,cS,cE,cT,rfl,F,N,dV,dU,dK,dN,dA,dS,dE,dT,dR,dL,off9,bt,hU,hV,hU',hV',hgu,hgv,htv⟩:=hM.out
 clear hM
 obtain ⟨T0,hT0⟩:∃ T0,T0=(L+1,oL)::(L+1+1,oR)::(L+1+1+1+1+1+1+1+1+1,oU)::(L+1+1+1+1+1+1+1+1+1+1,oV)::(l1,listOf (List.toArray la) ca)::(l2,listOf (List.toArray ra) cb)::TU:=⟨_,rfl⟩
 have mL:(L+1,oL)∈T0:=by rw [hT0];exact .head _
 have mR:(L+1+1,oR)∈T0:=by rw [hT0];exact .tail _ (.head _)
 have mU:(L+1+1+1+1+1+1+1+1+1,oU)∈T0:=by rw [hT0];exact mt2 (.head _)
 have mV:(L+1+1+1+1+1+1+1+1+1+1,oV)∈T0:=by rw [hT0];exact mt3 (.head _)
 have mla:(l1,listOf (List.toArray la) ca)∈T0:=by rw [hT0];exact mt4 (.head _)
 have mra:(l2,listOf (List.toArray ra) cb)∈T0:=by rw [hT0];exact mt5 (.head _)
 have hTU:∀ p∈TU,p∈T0:=fun p hp=>by rw [hT0];exact mt6 (hp)
 have off0:Off T0 [410,L+1+1+1,L+1+1+1+1,L+1+1+1+1+1,L+1+1+1+1+1+1,L+1+1+1+1+1+1+1,L+1+1+1+1+1+1+1+1]:=by
   rw [hT0]
   exact Off.cons ⟨by omega,by omega,by omega,by omega,by omega,by omega,by omega,True.intro⟩ (Off.cons ⟨by omega,by omega,by omega,by omega,by omega,by omega,by omega,True.intro⟩ (Off.cons ⟨by omega,by omega,by omega,by omega,by omega,by omega,by omega,True.intro⟩ (Off.cons ⟨by omega,by omega,by omega,by omega,by omega,by omega,by omega,True.intro⟩ (off9.sub fun d hd=>by
     revert hd
     k_extra "my sub"))))
 have hL0:LawSt s b L (M0 (isTx du dv) vr mz) T0 {s with heap:=h',toks:=tk}:=Hold.mk ⟨h',tk,_,_,_,_,_,_,oT,oE,oS,oA,oN,oK,cT,cE,cS,cA,cN,cK,#[],T0,rfl,by rw [FR1_self];exact F,?n0,dT,dE,dS,dA,dN,dK,fun p hp=>hp,off0,TabOk.nil⟩
 case n0 =>
   intro p hp
   refine N p ?_
   simp only [hT0,LC,List.mem_cons] at hp ⊢
   rcases hp with h | h | h | h | h | h | h | h | h | h | h | h | h | h<;>simp only [h,true_or,or_true]
 clear hT0 N F
 have hlu:=gen_len hgu
 have hlv:=gen_len hgv
 cases htx:isTx du dv with
 | true =>
   rw [htx] at hL0
   have hch:=isTx_true htx
   have nch:∀ {d:Vd},GenOk d->Numv d∨d.kind=Str.ofString "character" := fun {d} hg=>by
     by_cases h:d.kind=Str.ofString "character"
     . exact .inr h
     . exact .inl (isTx_num hg h)
   have hku:du.kind=Str.ofString "character" ∨ (Numv du∧dv.kind=Str.ofString "character"):=by
     rcases nch hgu with h | h
     . exact .inr ⟨h,hch.resolve_left (Numv.notChr h)⟩
     . exact .inl h
   with_reducible refine execs_app (wpAny_mono (lawC (B:=B) (u:=u) (v:=v) (l1:=l1) (l2:=l2) (TU:=TU) (du:=du) (dv:=dv) X T R hlo hE off0 (fun sub htg ht hfn hfc hfa hta hop J hn F N=>turn1_chr htg X T C R hfr rfl (sub _ mL) (sub _ mR) (sub _ mU) (sub _ mV) dL dR dU dV hlo ht (fun p hp=>sub _ (hTU p hp)) bt hU hV hfc hfa hku (by omega) J hn F N) hL0) (fun f s' z=>?_) fun _ _ e=>e)
   obtain ⟨rfl,hL1⟩:=z
   with_reducible refine execs_app (wpAny_mono (lawD X T C R hfr hlo hE off0 mU mV dU dV hTU bt hU hU' hgu hV hV' hgv hL1) (fun f s' z=>?_) fun _ _ e=>e)
   obtain ⟨rfl,hL2⟩:=z
   exact lawE X T R hlo hE (fun sub htg J hn F N=>turn3_chr htg X T C R hfr (sub _ mU) (sub _ mV) dU dV hlo (fun p hp=>sub _ (hTU p hp)) bt hU hV (by omega) (by omega) (nch hgu) (nch hgv) hch rfl J hn F N) hL2
 | false =>
   rw [htx] at hL0
   have hnc:=isTx_false htx
   obtain ⟨eu,fu⟩:=fit_gen hgu hnc.1
   obtain ⟨ev,fv⟩:=fit_gen hgv hnc.2
   have htv':=htv htx
   have Z:LCn w b B L u v l1 l2 T0 TU du dv eu ev la ra := {mL:=⟨_,mL,dL⟩,mR:=⟨_,mR,dR⟩,mU:=⟨_,mU,dU⟩,mV:=⟨_,mV,dV⟩,hlo:=hlo,hTU:=hTU,bt:=bt,hU:=hU,hV:=hV,hlu:=by omega,hlv:=by omega,hku:=isTx_num hgu hnc.1,hkv:=isTx_num hgv hnc.2,hu:=fu.hd,hv:=fv.hd,hnu:=fu.hn,hnv:=fv.hn,hpu:=fu.hp,hpv:=fv.hp,hxu:=fu.hx,hxv:=fv.hx,hla:=fu.hla,hli:=fu.hli,hlb:=fv.hla,hlj:=fv.hli,mla:=⟨_,mla⟩,mra:=⟨_,mra⟩,ela:=by have:=htv'.1.length;rw [List.length_map] at this;exact this,era:=by have:=htv'.2.length;rw [List.length_map] at this;exact this,tla:=htv'.1,tra:=htv'.2}
   with_reducible refine execs_app (wpAny_mono (lawC (B:=B) (u:=u) (v:=v) (l1:=l1) (l2:=l2) (TU:=TU) (du:=du) (dv:=dv) X T R hlo hE off0 (fun sub htg ht hfn hfc hfa hta hop J hn F N=>turn1_num (Z.mono sub) htg X T C R hfr ht hfn hfa hta hop J hn F N) hL0) (fun f s' z=>?_) fun _ _ e=>e)
   obtain ⟨rfl,hL1⟩:=z
   with_reducible refine execs_app (wpAny_mono (lawD X T C R hfr hlo hE off0 mU mV dU dV hTU bt hU hU' hgu hV hV' hgv hL1) (fun f s' z=>?_) fun _ _ e=>e)
   obtain ⟨rfl,hL2⟩:=z
   exact lawE X T R hlo hE (fun sub htg J hn F N=>turn3_num (Z.mono sub) hU' hV' htg X T C R hfr hE J hn F N) hL2
 k_extra "f"
theorem fb_all:fb413=fbA++(fbB++((fo1++(fo2++fo3))++fbS4)):=rfl
theorem law_ct {b₀:Heap} {R:Result->Shared->Prop} {sc:Addr} {vs:List Value} {ns:List Int} (G:Gd w mean mg mb b₀) (hb:b₀.StaysIn s.heap) (h410:s.heap.get? 410=some (tabObj #[])) (h0:b₀.get? 410=none) (C:CodeHd b₀ 412 410) (Rm0:Rm A 30) (hfr:A.frames=some [])
   (hs:b₀.IsList sc vs.toArray) (hi:IntsAre vs ns) (hl:vs.length≤63)
   (hQ:∀ h' tk ps,KB [410] s.heap h'->h'.get? 410=some (tabObj ps)->R (.ok (.ret (.bool true))) {s with heap:=h',toks:=tk}) :
   codeAny (model PG w) A (.call (.ref 413) ⟨[.ref sc],[]⟩) R s:=by
 k_extra "s"
 refine enterCK [(410,tabObj #[])] G hb (fun p hp=>by cases hp with | head=>exact ⟨h410,h0⟩ | tail _ h=>cases h) (by k_dflt k_is) (by k_dflt k_is) (by have:=Rm0.d;omega) (binds:=[("script",.ref sc)]) (BindsTo.of_eq rfl) (by rfl) (by decide +kernel) ?_
 intro b L h₁ tk0 cells F N Y X T hst hkb hK hlt
 obtain ⟨oV,oU,oK,oN,oA,oS,oE,oT,oR,oL,rfl,dV,dU,dK,dN,dA,dS,dE,dT,dR,dL⟩:=kc_ten Y
 clear Y
 (try simp only [List.cons_append,List.nil_append] at N)
 have hlo:@LT.lt Nat _ 410 L:=hlt _ (.head _)
 have R5:Rm (A.deeper (ENV L)) 25:=Rm.deeper (Rm0.le (by decide))
 have hE:PassesOwn (model PG w) (A.deeper (ENV L)) (ENV L) (fun e s'=>wpAny (model PG w) (A.deeper (ENV L)) (leaving (ENV L) e) (fun _ s''=>R (.error e) s'') (fun e' s''=>R (.error e') s'') s'):=by passes_own
 rw [fb_all]
 have hs9:=listStays hst hs
 replace C:=C.keeps hst
 with_reducible refine execs_app (wpAny_mono (lawA X T R5 hlo hs9 hi hl dV dU dK dN dA dS dE dT dR dL F N) (fun f s' z=>?_) fun _ _ e=>e)
 obtain ⟨rfl,hA⟩:=z
 with_reducible refine execs_app (wpAny_mono (lawB X T R5 hlo hA) (fun f s' z=>?_) fun _ _ e=>e)
 obtain ⟨rfl,hB⟩:=z
 with_reducible refine execs_app (wpAny_mono (lawF X T C R5 hfr hlo hE hB) (fun f s' z=>?_) fun _ _ e=>e)
 obtain ⟨rfl,hF⟩:=z
 obtain ⟨h',tk,m',ps,rfl,F',g'⟩:=hF.out
 have hq:=Hold.mk (hQ h' tk ps (hK h' m' F') g')
 clear hE hQ
 k_steps
 exact hq.out
 k_extra "f"
end
end
end
end
end
end
end
end
end
end
end
end
end
end
end
end
end
end
end
end
end
end
end
end
end
end
section
open PySem PySem.W PyProof.Rows PySem.Calls
theorem bare0:(["vars","dir","locals"]:List Str).filter (readsOut PySem.Challenge.rw_nz0479_01.row.prog PySem.Challenge.rw_nz0479_01.row.prog.main.body)=[]:=by
 first
   | (rewrite [Fast.te13343964577679436407];kernel_rfl)
   | kernel_rfl
theorem open0:looksOpen PySem.Challenge.rw_nz0479_01.row.prog=true:=by
 k_extra "s"
 unfold looksOpen
 rewrite [bare0]
 first
   | (rewrite [Fast.te8326940854005059898,Fast.te8377067652309620493,Fast.te17119622794617984870,Fast.te17868728402115742887];kernel_rfl)
   | kernel_rfl
 k_extra "f"
theorem row0:PySem.Challenge.rw_nz0479_01.row.wellSaid=true:=by
 unfold OpenRow.wellSaid OpenRow.partSaid
 rewrite [open0]
 kernel_rfl
theorem said0:PySem.Challenge.rw_nz0479_01.wellSaid=true:=by
 k_extra "s"
 unfold OpenLaw.wellSaid
 rewrite [row0]
 first
   | (rewrite [Fast.te8326940854005059898,Fast.te17119622794617984870,Fast.te8179353310426384613,Fast.te9558739934217749035,Fast.te16286561074155671207,Fast.named_eq];kernel_rfl)
   | kernel_rfl
 k_extra "f"
theorem whole0:PySem.Challenge.rw_nz0479_01.row.prog.tablesWhole=true:=by kernel_rfl
theorem head:PySem.Challenge.rw_nz0479_01.Holds:=by
 k_extra "s"
 w_on
 refine holds_law said0 fun said=>?_
 refine holds_open (q:=VW) (loose:=[Str.ofString "all_of",Str.ofString "any_of"]) (Xt:=fun s=>xlAt VW [] s && recOk (RowW.records PySem.Challenge.rw_nz0479_01.row.toRowW) s) (XP:=XL VW [])
   (Yf:=Hook.obs HK) (Ya:=Hook.val HK) (YP:=Hook.says HK) (N:=4964) ?hl (Hook.of HK) (Hook.keeps HK) (fun s e=>xl_of s (Bool.and_eq_true_iff.mp e).1) XL.keeps (by rfl) (by rfl) (by rfl)
   (fun s e=>recFacts_of (Bool.and_eq_true_iff.mp e).2) (by rfl) (by first | assumption | decide +kernel) (by decide +kernel) ⟨rfl,rfl,rfl,rfl,rfl,whole0⟩ ?hw ?hc
 case hw=>w_witness2
 case hc =>
   intro w s₀ s₁ mg mb G Y fa o pm cd doc dV kV ho hd hcd hD hmg hg args vals as hpre hlay hrd hwl hlo
   have X:(KF w.params).In s₁.heap:=kIn_of Y
   refine Ground.open G ?_
   intro T B D TE TW
   have hT9:TabsAt [(412,410)] s₁.heap:=List.forall_mem_cons.mpr ⟨tab_of (x:=Str.ofString "law") (c:=412) (P:=410) T X rfl (by kernel_rfl!),fun _ h=>nomatch h⟩
   have e9:mg (Str.ofString "law")=some (.ref 413):=mg_of X (Top.g T) (by kernel_rfl!)
   cases e9.symm.trans hmg
   clear hmg hd
   wrow_args hpre hlay hrd hwl hlo
   refine enter_call (kn_post hT9 (fun _ _=>rfl) ?_)
   rename IntsAre _ _=>hI
   have hlen:=hI.length
   refine law_ct (b₀:=ghostOf s₁.heap [(412,410)]) ⟨ghost_K hT9 X (by kernel_rfl!),ghost_top hT9 T⟩ (fun b o e=>of_hideAll _ e) (hT9 _ (.head _)).2 (hideAll_none _ (.head _)) (ghost_code hT9).1 ⟨rfl,by decide,by decide⟩ rfl (ghost_list hT9 (by assumption)) hI (by omega) ?_
   intro h' tk ps kb g'
   refine ⟨⟨.inl ⟨.bool true,.bool true,[],rfl,fun _=>rfl,.bool true,by wrow_post,unshared_nil⟩,fun b o e=>kb b o (fun hm=>?_) (of_hideAll _ e),rfl,hg⟩,⟨ps,g'⟩,True.intro⟩
   rw [mS hm] at e
   cases e.symm.trans (hideAll_none (h:=s₁.heap) [410] (.head _))
 case hl=>exact qleft
 k_extra "f"
end
end Mine
theorem PySem.Challenge.cw_nz0479_01_holds : PySem.Challenge.rw_nz0479_01.Holds :=
 Mine.head
